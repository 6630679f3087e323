import PyProof.Rows.All
import Wide.All
import OpenK.AllK
import Wide.FinOn
import HandS.ForMost
import HandS.ForExc
import HandS.IsInst
import HandS.Codes
import HandS.Evl
import KE.DataEq
import KE.GoesEnum
import HandS.ExcInit
import HandS.WordsExc
import HandS.ExcOwn
import HandS.TryElse
import HandS.ExcField
import HandS.ExcIs
import KE.KExcIs
import HandS.SetKeys
import HandS.SortRule
import HandS.SortInts
import HandS.TupLe
import PyProof.ReprRoads
import HandS.Ends
import PyProof.ReprLen
import HandS.DeepEq
import HandS.Conv
import HandS.Wide
import HandS.DictComp
import HandS.TupAny
import HandS.TupLen
import PyProof.FString5
import PyProof.StrLawsTight
import HandS.ExcValue
import HandS.Flt
import OpenK.KTop
import HandS.JoinGen
import HandS.NoneIn
import KE.DataMinMax
import KE.DatumOrd
import PyProof.DictMoreH
import HandS.Nested
import HandS.EndTab
import KE.KNestM
import HandS.StrMore
import PySem.Challenge.RW_panethread_k34_any_cells_walked
set_option Elab.async false
set_option linter.all false
set_option maxRecDepth 100000
set_option maxHeartbeats 4000000
namespace Zb
open PySem PySem.Spec PyProof.Rows L2
def seqAt (H : Hp) (p : Addr) : Option (List V) := match H p with
  | some (.lst xs) => some xs
  | some (.tup xs) => some xs
  | some (.frz _ (.lst xs)) => some xs
  | some (.frz _ (.tup xs)) => some xs
  | _ => none
theorem seqAt_sq {K : PySem.W.Frag} {H : Hp} {p : Addr} {xs : List V} (h : seqAt H p = some xs) : SqL K H p xs ∨ SqT K H p xs := by
  unfold seqAt at h
  split at h
  · rename_i e; cases h; exact .inl (.inl (.inl e))
  · rename_i e; cases h; exact .inr (.inl (.inl e))
  · rename_i e; cases h; exact .inl (.inl (.inr ⟨_, e⟩))
  · rename_i e; cases h; exact .inr (.inl (.inr ⟨_, e⟩))
  · cases h
def lstAt (H : Hp) (p : Addr) : Option (List V) := match H p with
  | some (.lst xs) => some xs
  | some (.frz _ (.lst xs)) => some xs
  | _ => none
theorem lstAt_sq {K : PySem.W.Frag} {H : Hp} {p : Addr} {xs : List V} (h : lstAt H p = some xs) : SqL K H p xs := by
  unfold lstAt at h
  split at h
  · rename_i e; cases h; exact .inl (.inl e)
  · rename_i e; cases h; exact .inl (.inr ⟨_, e⟩)
  · cases h
def tupAt (H : Hp) (p : Addr) : Option (List V) := match H p with
  | some (.tup xs) => some xs
  | some (.frz _ (.tup xs)) => some xs
  | _ => none
theorem tupAt_sq {K : PySem.W.Frag} {H : Hp} {p : Addr} {xs : List V} (h : tupAt H p = some xs) : SqT K H p xs := by
  unfold tupAt at h
  split at h
  · rename_i e; cases h; exact .inl (.inl e)
  · rename_i e; cases h; exact .inl (.inr ⟨_, e⟩)
  · cases h
mutual
inductive Rp (H : Hp) : V → PyData → Prop
  | non : Rp H .non .none
  | bl (b : Bool) : Rp H (.bl b) (.bool b)
  | int (i : Int) : Rp H (.int i) (.int i)
  | str (x : Str) : Rp H (.str x) (.str x)
  | lst {a : Addr} {xs : List V} {ds : List PyData} : lstAt H a = some xs → RpA H xs ds → Rp H (.ref a) (.list ds)
  | tup {a : Addr} {xs : List V} {ds : List PyData} : tupAt H a = some xs → RpA H xs ds → Rp H (.ref a) (.tuple ds)
inductive RpA (H : Hp) : List V → List PyData → Prop
  | nil : RpA H [] []
  | cons {v : V} {vs : List V} {d : PyData} {ds : List PyData} : Rp H v d → RpA H vs ds → RpA H (v :: vs) (d :: ds)
end
mutual
theorem Rp.dp {K : PySem.W.Frag} {H : Hp} : ∀ {v : V} {d : PyData}, Rp H v d → Dp K H v d
  | _, _, .non => .non
  | _, _, .bl b => .bl b
  | _, _, .int i => .int i
  | _, _, .str x => .str x
  | _, _, .lst h k => .lst (lstAt_sq h) (RpA.dp k)
  | _, _, .tup h k => .tup (tupAt_sq h) (RpA.dp k)
theorem RpA.dp {K : PySem.W.Frag} {H : Hp} : ∀ {vs : List V} {ds : List PyData}, RpA H vs ds → DpAll K H vs ds
  | _, _, .nil => .nil
  | _, _, .cons h k => .cons (Rp.dp h) (RpA.dp k)
end
def rAdd : R2 := fun x y H Q => match x, y with
  | .int i, .int j => Q (.int (i + j)) H
  | .str a, .str b => a.length + b.length ≤ 16777216 ∧ Q (.str (a ++ b)) H
  | .ref p, .ref q => ∃ xs ys, H p = some (.lst xs) ∧ H q = some (.lst ys) ∧ xs.length + ys.length ≤ 16777216 ∧ ∀ r, H r = none → Q (.ref r) (upd H r (.lst (xs ++ ys)))
  | _, _ => False
def rSub : R2 := fun x y H Q => match x, y with
  | .int i, .int j => Q (.int (i - j)) H
  | _, _ => False
def rMul : R2 := fun x y H Q => match x, y with
  | .int i, .int j => CMul i j ∧ Q (.int (i * j)) H
  | .ref p, .int k => ∃ xs, H p = some (.lst xs) ∧ -1000000 ≤ k ∧ k ≤ 1000000 ∧ xs.length * k.toNat ≤ 16777216 ∧ ∀ r, H r = none → Q (.ref r) (upd H r (.lst (List.replicate k.toNat xs).flatten))
  | .str a, .int k => -1000000 ≤ k ∧ k ≤ 1000000 ∧ a.length * k.toNat ≤ 16777216 ∧ Q (.str (Txt.mul a k)) H
  | _, _ => False
def rMod : R2 := fun x y H Q => match x, y with
  | .int i, .int j => 0 < j ∧ Q (.int (i % j)) H
  | _, _ => False
def rDiv : R2 := fun x y H Q => match x, y with
  | .int i, .int j => 0 < j ∧ j < 1073741824 ∧ Q (.int (i / j)) H
  | _, _ => False
def rPow : R2 := fun x y H Q => match x, y with
  | .int i, .int j => 0 ≤ j ∧ j ≤ 1000000 ∧ i.natAbs < 2 ^ 64 ∧ Q (.int (i ^ j.toNat)) H
  | _, _ => False
def rCmpI (f : Int → Int → Bool) : R2 := fun x y H Q => match x, y with
  | .int i, .int j => Q (.bl (f i j)) H
  | _, _ => False
mutual
theorem Rp.plain {H : Hp} : ∀ {v : V} {d : PyData}, Rp H v d → d.plain = true
  | _, _, .non => rfl
  | _, _, .bl b => rfl
  | _, _, .int i => rfl
  | _, _, .str x => rfl
  | _, _, .lst h k => by simp only [PyData.plain]; exact RpA.plain k
  | _, _, .tup h k => by simp only [PyData.plain]; exact RpA.plain k
theorem RpA.plain {H : Hp} : ∀ {vs : List V} {ds : List PyData}, RpA H vs ds → PyData.plainAll ds = true
  | _, _, .nil => rfl
  | _, _, .cons h k => by simp only [PyData.plainAll, Rp.plain h, RpA.plain k, Bool.and_self]
end
/-- == of data at any depth -/
def rEqU : R2 := fun x y H Q => ∃ d e, Rp H x d ∧ Rp H y e ∧ min d.depth e.depth ≤ 64 ∧ Q (.bl (PyData.eqv d e)) H
def rNeU : R2 := fun x y H Q => ∃ d e, Rp H x d ∧ Rp H y e ∧ min d.depth e.depth ≤ 64 ∧ Q (.bl (!PyData.eqv d e)) H
section
variable {X : Cx}
theorem sl16 : sizeLine = 16777216 := sizeLine_eq
theorem o_add : OpR X (binaryOp .Add) rAdd := by
  intro pins s σ H x y v u Q I rx ry h
  unfold rAdd at h
  split at h
  · exact op_add pins s σ H _ _ v u Q I rx ry ⟨_, _, rfl, rfl, h⟩
  · exact op_add_str pins s σ H _ _ v u Q I rx ry ⟨_, _, rfl, rfl, by rw [sl16]; exact h.1, h.2⟩
  · obtain ⟨xs, ys, h1, h2, h3, h4⟩ := h
    exact op_cat pins s σ H _ _ v u Q I rx ry ⟨_, _, _, _, rfl, rfl, h1, h2, by rw [sl16]; exact h3, h4⟩
  · exact h.elim
theorem o_sub : OpR X (binaryOp .Sub) rSub := by
  intro pins s σ H x y v u Q I rx ry h
  unfold rSub at h
  split at h
  · exact op_sub pins s σ H _ _ v u Q I rx ry ⟨_, _, rfl, rfl, h⟩
  · exact h.elim
/-- a text by its codes -/
def tx (l : List Nat) : Str := ⟨l.toArray⟩
theorem tx_toList (l : List Nat) : (tx l).cps.toList = l := by simp [tx]
theorem tx_length (l : List Nat) : (tx l).length = l.length := by simp [tx, Str.length]
theorem tx_inj {a b : List Nat} : tx a = tx b ↔ a = b := ⟨fun h => by have := congrArg (fun s => s.cps.toList) h; simpa [tx] using this, fun h => by rw [h]⟩
theorem tx_append (a b : List Nat) : tx a ++ tx b = tx (a ++ b) := by
  show Str.mk _ = _
  simp [tx]
theorem txt_mul_ok {a : Str} {k : Int} (h1 : -1000000 ≤ k) (h2 : k ≤ 1000000) (h3 : a.length * k.toNat ≤ 16777216) : MulOk a k := by
  refine ⟨?_, fun h4 _ => ?_, fun _ _ => ?_⟩
  · have h5 : ¬ k < -(2 ^ 63 : Int) := by omega
    have h6 : ¬ k ≥ (2 ^ 63 : Int) := by omega
    rw [decide_eq_false h5, decide_eq_false h6]
    rfl
  · have e : (a.length : Int) * k ≤ 16777216 := by
      have e1 : ((a.length * k.toNat : Nat) : Int) ≤ ((16777216 : Nat) : Int) := Int.ofNat_le.mpr h3
      have e2 : ((k.toNat : Nat) : Int) = k := by omega
      rw [Int.natCast_mul, e2] at e1
      exact e1
    have : (a.length : Int) ≤ (2 ^ 63 - 1) / k := by
      rw [Int.le_ediv_iff_mul_le (by omega)]
      omega
    omega
  · unfold Builtin.Str.tooLong
    have : ¬ (a.length * k.toNat > sizeLine) := by rw [sl16]; omega
    exact decide_eq_false this
theorem o_mul : OpR X (binaryOp .Mult) rMul := by
  intro pins s σ H x y v u Q I rx ry h
  unfold rMul at h
  split at h
  · exact op_mul pins s σ H _ _ v u Q I rx ry ⟨_, _, rfl, rfl, h.1, h.2⟩
  · obtain ⟨xs, h1, h2, h3, h4, h5⟩ := h
    exact op_rep pins s σ H _ _ v u Q I rx ry ⟨_, _, _, rfl, rfl, h1, by omega, by omega, by rw [sl16]; exact h4, h5⟩
  · obtain ⟨h1, h2, h3, h4⟩ := h
    obtain ⟨t, rfl⟩ := rx
    obtain ⟨t', rfl⟩ := ry
    exact SB.mul (txt_mul_ok h1 h2 h3) fun t' k => ⟨.str _, H, I.tok k, ⟨_, rfl⟩, h4⟩
  · exact h.elim
theorem o_mod : OpR X (binaryOp .Mod) rMod := by
  intro pins s σ H x y v u Q I rx ry h
  unfold rMod at h
  split at h
  · exact op_mod pins s σ H _ _ v u Q I rx ry ⟨_, _, rfl, rfl, h.1, h.2⟩
  · exact h.elim
theorem o_div : OpR X (binaryOp .FloorDiv) rDiv := by
  intro pins s σ H x y v u Q I rx ry h
  unfold rDiv at h
  split at h
  · exact op_fdiv pins s σ H _ _ v u Q I rx ry ⟨_, _, rfl, rfl, ⟨h.1, h.2.1⟩, h.2.2⟩
  · exact h.elim
theorem o_pow : OpR X (binaryOp .Pow) rPow := by
  intro pins s σ H x y v u Q I rx ry h
  unfold rPow at h
  split at h
  · exact op_pow pins s σ H _ _ v u Q I rx ry ⟨_, _, rfl, rfl, ⟨h.1, h.2.1, h.2.2.1⟩, h.2.2.2⟩
  · exact h.elim
theorem cmpI_of {f : Int → Int → Bool} {op : Value → Value → Sem Value} (ho : OpR X op (rI0 fun i j => .bl (f i j))) : OpR X op (rCmpI f) := by
  intro pins s σ H x y v u Q I rx ry h
  unfold rCmpI at h
  split at h
  · exact ho pins s σ H _ _ v u Q I rx ry ⟨_, _, rfl, rfl, h⟩
  · exact h.elim
theorem o_lt : OpR X (compareOp .Lt) (rCmpI fun i j => decide (i < j)) := cmpI_of op_lt
theorem o_le : OpR X (compareOp .LtE) (rCmpI fun i j => decide (i ≤ j)) := cmpI_of op_le
theorem o_gt : OpR X (compareOp .Gt) (rCmpI fun i j => decide (j < i)) := cmpI_of op_gt
theorem o_ge : OpR X (compareOp .GtE) (rCmpI fun i j => decide (j ≤ i)) := cmpI_of op_ge
theorem o_eq (hu : X.A.units + 64 < cLine) : OpR X (compareOp .Eq) rEqU := by
  intro pins s σ H x y v u Q I rx ry h
  obtain ⟨d, e, h1, h2, h3, q⟩ := h
  obtain ⟨as, r1⟩ := Dp.reads I d x v h1.dp rx
  obtain ⟨bs, r2⟩ := Dp.reads I e y u h2.dp ry
  exact SeqAt.eq_plain r1 r2 h1.plain h2.plain (by omega) ⟨.bl _, H, I, rfl, q⟩
theorem o_ne (hu : X.A.units + 64 < cLine) : OpR X (compareOp .NotEq) rNeU := by
  intro pins s σ H x y v u Q I rx ry h
  obtain ⟨d, e, h1, h2, h3, q⟩ := h
  obtain ⟨as, r1⟩ := Dp.reads I d x v h1.dp rx
  obtain ⟨bs, r2⟩ := Dp.reads I e y u h2.dp ry
  exact SeqAt.ne_plain r1 r2 h1.plain h2.plain (by omega) ⟨.bl _, H, I, rfl, q⟩
def rIxU (K : PySem.W.Frag) : R2 := fun x y H Q => match x, y with
  | .str z, .int i => z.length ≤ 16777216 ∧ ∃ c, atI z.cps.toList i = some c ∧ Q (.str (tx [c])) H
  | .ref p, .int i => ∃ xs, (SqL K H p xs ∨ SqT K H p xs) ∧ ∃ v, atI xs i = some v ∧ Q v H
  | _, _ => False
theorem i_ix {K : PySem.W.Frag} (hK : X.K = K := by rfl) : IxR X (rIxU K) := by
  subst hK
  intro value slice pins s σ H x y v u Q I rx ry h hs
  unfold rIxU at h
  split at h
  · obtain ⟨h1, c, h2, h3⟩ := h
    exact ix_str value slice pins s σ H _ _ v u Q I rx ry ⟨_, _, _, rfl, rfl, by rw [sl16]; exact h1, h2, h3⟩ hs
  · obtain ⟨xs, h1, v, h2, h3⟩ := h
    rcases h1 with h1 | h1
    · exact ix_list value slice pins s σ H _ _ _ u Q I rx ry ⟨_, _, _, _, rfl, rfl, h1, h2, h3⟩ hs
    · exact ix_tup value slice pins s σ H _ _ _ u Q I rx ry ⟨_, _, _, _, rfl, rfl, h1, h2, h3⟩ hs
  · exact h.elim
/-- a[lo:hi] of a text or a list -/
def rSlU (K : PySem.W.Frag) : V → Option Int → Option Int → Hp → VK → Prop := fun x lo hi H Q => match x with
  | .str z => z.length ≤ 16777216 ∧ Q (.str (cutS z lo hi)) H
  | .ref p => ∃ xs, SqL K H p xs ∧ ∀ q, H q = none → Q (.ref q) (upd H q (.lst (cutV xs lo hi)))
  | _ => False
theorem s_sl {K : PySem.W.Frag} (hK : X.K = K := by rfl) : SlR X (rSlU K) := by
  subst hK
  intro pins s σ H x v vl vu lo hi sl Q I rx hs pl pu h
  unfold rSlU at h
  split at h
  · exact sl_str pins s σ H _ v vl vu lo hi sl Q I rx hs pl pu ⟨_, rfl, by rw [sl16]; exact h.1, h.2⟩
  · obtain ⟨xs, h1, h2⟩ := h
    exact sl_list pins s σ H _ v vl vu lo hi sl Q I rx hs pl pu ⟨_, _, rfl, h1, h2⟩
  · exact h.elim
def rLen (K : PySem.W.Frag) : List V → Hp → VK → Prop := fun vs H Q => match vs with
  | [.str z] => z.length ≤ 16777216 ∧ Q (.int z.length) H
  | [.ref p] => (∃ xs, (SqL K H p xs ∨ SqT K H p xs) ∧ Q (.int xs.length) H)
  | _ => False
theorem c_len {K : PySem.W.Frag} (hK : X.K = K := by rfl) : CallR X (.builtin "len") (rLen K) := by
  subst hK
  intro pins s σ H xs us Q I r h
  unfold rLen at h
  split at h
  · exact call_len pins s σ H _ us Q I r ⟨_, _, rfl, ⟨by rw [sl16]; exact h.1, rfl⟩, h.2⟩
  · obtain ⟨ys, h1, h2⟩ := h
    rcases h1 with h1 | h1
    · exact call_len pins s σ H _ us Q I r ⟨_, _, rfl, .inl ⟨_, h1, rfl⟩, h2⟩
    · exact call_len pins s σ H _ us Q I r ⟨_, _, rfl, .inr ⟨_, h1, rfl⟩, h2⟩
  · exact h.elim
def rInU (neg : Bool) : R2 := fun x y H Q => match y with
  | .str b => ∃ a, x = .str a ∧ Q (.bl (if neg then !(!(Builtin.Str.occurrences b a 0 b.length 1).isEmpty) else !(Builtin.Str.occurrences b a 0 b.length 1).isEmpty)) H
  | .ref p => ∃ xs ds d, seqAt H p = some xs ∧ RpA H xs ds ∧ Rp H x d ∧ min (PyData.depthAll ds) d.depth ≤ 60 ∧ Q (.bl (if neg then !(ds.any fun y => PyData.eqv y d) else ds.any fun y => PyData.eqv y d)) H
  | _ => False
theorem seqAt_cases {H : Hp} {p : Addr} {xs : List V} (h : seqAt H p = some xs) : lstAt H p = some xs ∨ tupAt H p = some xs := by
  unfold seqAt at h
  unfold lstAt tupAt
  split at h <;> rename_i e <;> first | (cases h; rw [e]; first | exact .inl rfl | exact .inr rfl) | cases h
theorem o_in (hu : X.A.units + 64 < cLine) : OpR X (compareOp .In) (rInU false) := by
  intro pins s σ H x y v u Q I rx ry h
  unfold rInU at h
  split at h
  · obtain ⟨a, rfl, h⟩ := h
    exact op_in_str pins s σ H _ _ v u Q I rx ry ⟨_, _, rfl, rfl, h⟩
  · obtain ⟨xs, ds, d, h1, h2, h3, h4, q⟩ := h
    obtain ⟨bs, r2⟩ := Dp.reads I d x v h3.dp rx
    rcases seqAt_cases h1 with h1 | h1
    · obtain ⟨as, r1⟩ := Dp.reads I (.list ds) _ u (Rp.lst h1 h2).dp ry
      exact SeqAt.in_list_data r1 r2 h2.plain h3.plain (by omega) ⟨.bl _, H, I, rfl, q⟩
    · obtain ⟨as, r1⟩ := Dp.reads I (.tuple ds) _ u (Rp.tup h1 h2).dp ry
      exact SeqAt.in_tuple_data r1 r2 h2.plain h3.plain (by omega) ⟨.bl _, H, I, rfl, q⟩
  · exact h.elim
def tyO : Option HO → Option String
  | some (.lst _) => some "list"
  | some (.tup _) => some "tuple"
  | some (.dK _) => some "dict"
  | some (.dT _) => some "dict"
  | some (.frz _ (.lst _)) => some "list"
  | some (.frz _ (.tup _)) => some "tuple"
  | some (.frz _ (.dK _)) => some "dict"
  | _ => none
def tyN (H : Hp) : V → Option String
  | .non => some "NoneType"
  | .bl _ => some "bool"
  | .int _ => some "int"
  | .str _ => some "str"
  | .ref p => tyO (H p)
  | _ => none
theorem tyN_ok {K : PySem.W.Frag} {H : Hp} {v : V} {n : String} (h : tyN H v = some n) : TyX K H v (.type n) := by
  cases v with
  | non => cases h; exact .base .non
  | bl b => cases h; exact .base (.bl _)
  | int i => cases h; exact .base (.int _)
  | str x => cases h; exact .base (.str _)
  | ref p =>
    have h : tyO (H p) = some n := h
    unfold tyO at h
    split at h <;> rename_i e
    · cases h; exact .base (.lst e)
    · cases h; exact .base (.tup e)
    · cases h; exact .base (.dK e)
    · cases h; exact .base (.dT e)
    · cases h; exact .base (.frz e)
    · cases h; exact .fTuple e
    · cases h; exact .fDict e
    · cases h
  | _ => cases h
def rIs : List V → Hp → VK → Prop := fun vs H Q => match vs with
  | [x, .ty n] => ∃ t, tyN H x = some t ∧ ∃ b, kitB t n = some b ∧ Q (.bl b) H
  | _ => False
theorem c_is : CallR X (.builtin "isinstance") rIs := by
  intro pins s σ H xs us Q I r h
  unfold rIs at h
  split at h
  · obtain ⟨t, h1, b, h2, h3⟩ := h
    exact call_isi pins s σ H _ us Q I r ⟨_, _, _, _, _, rfl, .ty _, tyN_ok h1, kit_ty h2, h3⟩
  · exact h.elim
def rMax2 : List V → Hp → VK → Prop := fun vs H Q => match vs with
  | [.int i, .int j] => Q (.int (if j > i then j else i)) H
  | _ => False
def rMin2 : List V → Hp → VK → Prop := fun vs H Q => match vs with
  | [.int i, .int j] => Q (.int (if j < i then j else i)) H
  | _ => False
def rAllU : List V → Hp → VK → Prop := fun vs H Q => match vs with
  | [.ref p] => ∃ bs : List Bool, lstAt H p = some (bs.map V.bl) ∧ Q (.bl (bs.all id)) H
  | _ => False
theorem c_all (hc : X.calm = true) : CallR X (.builtin "all") rAllU := by
  intro pins s σ H xs us Q I r h
  unfold rAllU at h
  split at h
  · obtain ⟨bs, h1, h2⟩ := h
    exact cr_all hc pins s σ H _ us Q I r ⟨_, _, rfl, lstAt_sq h1, h2⟩
  · exact h.elim
theorem vals_of : ∀ {xs : List V} {us : List Value}, xs.length = us.length → (∀ (j : Nat) x u, xs[j]? = some x → us[j]? = some u → RelV x u) → Vals xs us
  | [], [], _, _ => .nil
  | [], _ :: _, h, _ => by simp at h
  | _ :: _, [], h, _ => by simp at h
  | a :: r, b :: s, h, k => .cons (k 0 a b rfl rfl) (vals_of (by simpa using h) fun j x u h1 h2 => k (j + 1) x u (by simpa using h1) (by simpa using h2))
theorem vals_signs {x : Str} {acc : Array Value} (h : ItemsOf (SignAt x) acc x.cps.size) : Vals (x.cps.toList.map fun c => V.str (tx [c])) acc.toList := by
  refine vals_of (by rw [List.length_map]; simp [h.1]) fun j v u h1 h2 => ?_
  obtain ⟨c, t, hc, rfl⟩ := h.2 j u (by simpa using h2)
  rw [List.getElem?_map, Array.getElem?_toList, hc] at h1
  cases h1
  exact ⟨t, rfl⟩
def rListU (K : PySem.W.Frag) : List V → Hp → VK → Prop := fun vs H Q => match vs with
  | [.str z] => z.length ≤ 16777216 ∧ ∀ p, H p = none → Q (.ref p) (upd H p (.lst (z.cps.toList.map fun c => V.str (tx [c]))))
  | [.ref p] => ∃ ys, (SqL K H p ys ∨ SqT K H p ys) ∧ ∀ l, H l = none → Q (.ref l) (upd H l (.lst ys))
  | _ => False
theorem c_list (hc : X.calm = true) {K : PySem.W.Frag} (hK : X.K = K := by rfl) : CallR X (.type "list") (rListU K) := by
  subst hK
  intro pins s σ H xs us Q I r h
  unfold rListU at h
  split at h
  · rename_i z
    obtain ⟨hz, q⟩ := h
    obtain ⟨u, rfl, t, rfl⟩ := vals1 r
    refine call_list_str (I.ok.hd hc) z t (fun h' tk acc c' kp e hacc => ?_) (by rw [sl16]; exact hz)
    have hl : (z.cps.toList.map fun c => V.str (tx [c])).length ≤ sizeLine := by rw [List.length_map, Array.length_toList, sl16]; exact hz
    exact ⟨.ref s.heap.objs.size, _, I.laid (t' := tk) kp (Nat.le_refl _) (show ObjOk X.prog X.w _ h' _ (.lst _) from ⟨hl, acc.toList, c', vals_signs hacc, by simpa using e⟩), rfl, q _ (I.hok.fresh (Nat.le_refl _))⟩
  · obtain ⟨ys, h1, h2⟩ := h
    exact call_list_of pins s σ H _ us Q I r ⟨_, _, rfl, h1, h2⟩
  · exact h.elim
def rTupU (K : PySem.W.Frag) : List V → Hp → VK → Prop := fun vs H Q => match vs with
  | [.str z] => z.length ≤ 16777216 ∧ ∀ p, H p = none → Q (.ref p) (upd H p (.tup (z.cps.toList.map fun c => V.str (tx [c]))))
  | [.ref p] => ∃ ys, (SqL K H p ys ∧ ∀ l, H l = none → Q (.ref l) (upd H l (.tup ys))) ∨ (SqT K H p ys ∧ Q (.ref p) H)
  | _ => False
theorem c_tuple (hc : X.calm = true) {K : PySem.W.Frag} (hK : X.K = K := by rfl) : CallR X (.type "tuple") (rTupU K) := by
  subst hK
  intro pins s σ H xs us Q I r h
  unfold rTupU at h
  split at h
  · rename_i z
    obtain ⟨hz, q⟩ := h
    obtain ⟨u, rfl, t, rfl⟩ := vals1 r
    refine call_tuple_str (I.ok.hd hc) z t (fun h' tk acc kp hacc => ?_) (by rw [sl16]; exact hz)
    have hl : (z.cps.toList.map fun c => V.str (tx [c])).length ≤ sizeLine := by rw [List.length_map, Array.length_toList, sl16]; exact hz
    have I1 : Inv X pins σ H { s with heap := h' } := I.kept (t' := s.toks) kp
    have ob : ObjOk X.prog X.w (upd H h'.objs.size (.tup (z.cps.toList.map fun c => V.str (tx [c])))) (h'.push { cls := .type "tuple", data := .seq acc }) h'.objs.size (.tup (z.cps.toList.map fun c => V.str (tx [c]))) := by
      have e : acc.toList.toArray = acc := by simp
      exact ⟨hl, acc.toList, vals_signs hacc, by rw [e]; exact IsTup.new _ _⟩
    exact ⟨.ref h'.objs.size, _, I1.laid (t' := tk) (fun b o e => Heap.get?_push_of_some _ e) (Nat.le_refl _) ob, rfl, q _ (I1.hok.fresh (Nat.le_refl _))⟩
  · obtain ⟨ys, h1⟩ := h
    exact call_tuple_of pins s σ H _ us Q I r ⟨_, _, rfl, h1⟩
  · exact h.elim
end
end Zb
namespace Zb
open PySem PySem.Spec PyProof.Rows L2
open Evl (tCut pss_cut)
def Fr (M : Addr → Prop) (H H' : Hp) : Prop := ∀ b o, ¬ M b → H b = some o → H' b = some o
abbrev Ex (H H' : Hp) : Prop := Fr (fun _ => False) H H'
theorem Fr.refl {M : Addr → Prop} (H : Hp) : Fr M H H := fun _ _ _ e => e
theorem Fr.trans {M : Addr → Prop} {H H1 H2 : Hp} (a : Fr M H H1) (b : Fr M H1 H2) : Fr M H H2 := fun x o n e => b x o n (a x o n e)
theorem Fr.new {M : Addr → Prop} {H : Hp} {p : Addr} {o : HO} (h : H p = none) : Fr M H (upd H p o) := fun b u _ e => by
  rw [upd_ne (ne_of_none e h)]
  exact e
theorem Fr.at {M : Addr → Prop} {H : Hp} {p : Addr} {o : HO} (h : M p) : Fr M H (upd H p o) := fun b u n e => by
  rw [upd_ne fun z => n (by rw [z]; exact h)]
  exact e
theorem Fr.up {M M' : Addr → Prop} {H H' : Hp} (e : Fr M' H H') (h : ∀ b, M' b → M b) : Fr M H H' := fun b o n q => e b o (fun m => n (h b m)) q
theorem Fr.ex {M : Addr → Prop} {H H' : Hp} (e : Ex H H') : Fr M H H' := e.up fun _ z => z.elim
/-- an object that was not there at H may change -/
theorem Fr.mut {M : Addr → Prop} {H H' : Hp} {p : Addr} {o : HO} (e : Fr M H H') (h : H p = none) : Fr M H (upd H' p o) := fun b u n q => by
  rw [upd_ne (ne_of_none q h)]
  exact e b u n q
theorem Fr.get {M : Addr → Prop} {H H' : Hp} {a : Addr} {o : HO} (e : Fr M H H') (n : ¬ M a) (h : H a = some o) : H' a = some o := e a o n h
theorem Ex.get {H H' : Hp} {a : Addr} {o : HO} (e : Ex H H') (h : H a = some o) : H' a = some o := e a o (fun z => z) h
theorem Ex.free {H H' : Hp} (e : Ex H H') {p : Addr} (h : H' p = none) : H p = none := by
  cases q : H p with
  | none => rfl
  | some o =>
    rw [e p o (fun z => z) q] at h
    cases h
theorem Fr.free {M : Addr → Prop} {H H' : Hp} (e : Fr M H H') {p : Addr} (n : ¬ M p) (h : H' p = none) : H p = none := by
  cases q : H p with
  | none => rfl
  | some o =>
    rw [e p o n q] at h
    cases h
theorem upd_old {H : Hp} {p a : Addr} {o u : HO} (hp : H p = none) (ha : H a = some u) : upd H p o a = some u := by
  rw [upd_ne (ne_of_none ha hp)]
  exact ha
theorem upd_free {H : Hp} {p q : Addr} {o : HO} (h : upd H p o q = none) : H q = none := by
  by_cases e : q = p
  · rw [e, upd_same] at h
    cases h
  · rwa [upd_ne e] at h
theorem lst_of {H : Hp} {p : Addr} {xs : List V} (h : H p = some (.lst xs)) : lstAt H p = some xs := by unfold lstAt; rw [h]
theorem tup_of {H : Hp} {p : Addr} {xs : List V} (h : H p = some (.tup xs)) : tupAt H p = some xs := by unfold tupAt; rw [h]
theorem seq_l {H : Hp} {p : Addr} {xs : List V} (h : H p = some (.lst xs)) : seqAt H p = some xs := by unfold seqAt; rw [h]
theorem seq_t {H : Hp} {p : Addr} {xs : List V} (h : H p = some (.tup xs)) : seqAt H p = some xs := by unfold seqAt; rw [h]
section
variable {D : Ends} {σ : L2.St} {H : Hp} {Q : VK} {K : PySem.W.Frag} {R : L2.St → Hp → Prop} {B : Bool → Hp → Prop}
theorem st_seq {t u : TS} (h : t { D with nx := u D } σ H) : tSeq t u D σ H := h
theorem st_next (h : D.nx σ H) : tNext D σ H := h
theorem st_brk (h : D.bk σ H) : tBreak D σ H := h
theorem st_cont (h : D.ct σ H) : tCont D σ H := h
theorem st_drop {te : TE} (h : te σ H (fun _ H1 => D.nx σ H1)) : tDrop te D σ H := h
theorem st_ret {te : TE} (h : te σ H D.rt) : tRet te D σ H := h
theorem st_retN (h : D.rt .non H) : tRetN D σ H := h
theorem st_ifS {c : TT} {t u : TS} (h : c σ H (fun b H1 => if b = true then t D σ H1 else u D σ H1)) : tIfS c t u D σ H := h
theorem st_asg {te : TE} {g : TG} (h : te σ H (fun x H1 => g x σ H1 D.nx)) : tAsg te g D σ H := h
theorem st_name {i : Nat} {v : V} (h : R (σ.set i (some v)) H) : gName i v σ H R := h
theorem st_sub {to ti : TE} {t : TSet} {v : V} (h : to σ H (fun o H1 => ti σ H1 fun i H2 => t o i v H2 fun H3 => R σ H3)) : gSub to ti t v σ H R := h
theorem st_augI {i : Nat} {te : TE} {f : Int → Int → Int} {z : Int} (hx : σ[i]? = some (some (.int z))) (h : te σ H (fun y H1 => ipI f (.int z) y H1 fun z H2 => D.nx (σ.set i (some z)) H2)) : tAug i te (ipI f) D σ H := ⟨_, hx, h⟩
theorem st_ipI {f : Int → Int → Int} {x y : Int} (h : Q (.int (f x y)) H) : ipI f (.int x) (.int y) H Q := ⟨_, _, rfl, rfl, h⟩
theorem st_par {i j : Nat} {ta : TA} (h : ta σ H (fun vs H1 => ∃ v w, vs = [v, w] ∧ D.nx ((σ.set i (some v)).set j (some w)) H1)) : tPar i j ta D σ H := h
theorem st_par2 {v w : V} {P : V → V → Prop} (h : P v w) : ∃ v' w', [v, w] = [v', w'] ∧ P v' w' := ⟨v, w, rfl, h⟩
theorem st_var {i : Nat} {v : V} (hv : σ[i]? = some (some v)) (h : Q v H) : tVar i σ H Q := ⟨v, hv, h⟩
theorem st_c {v : V} (h : Q v H) : tC v σ H Q := h
theorem st_op {r : R2} {ta tb : TE} (h : ta σ H (fun x H1 => tb σ H1 fun y H2 => r x y H2 Q)) : tOp r ta tb σ H Q := h
theorem st_un {r : V → Hp → VK → Prop} {ta : TE} (h : ta σ H (fun x H1 => r x H1 Q)) : tUn r ta σ H Q := h
theorem st_rU {g : Int → V} {i : Int} (h : Q (g i) H) : rU g (.int i) H Q := ⟨i, rfl, h⟩
theorem st_B {t : TE} (h : t σ H (fun x H1 => ∃ c, x = .bl c ∧ B c H1)) : tB t σ H B := h
theorem st_test {t : TE} (h : t σ H (fun x H1 => ∃ c, x = .bl c ∧ B c H1)) : tTest t σ H B := h
theorem st_isb {b : Bool} {P : Bool → Prop} (h : P b) : ∃ c, V.bl b = .bl c ∧ P c := ⟨b, rfl, h⟩
theorem st_and {t u : TT} (h : t σ H (fun c H1 => if c = true then u σ H1 B else B false H1)) : tAnd t u σ H B := h
theorem st_or {t u : TT} (h : t σ H (fun c H1 => if c = true then B true H1 else u σ H1 B)) : tOr t u σ H B := h
theorem st_not {t : TT} (h : t σ H (fun c H1 => B (!c) H1)) : tNot t σ H B := h
theorem st_andV {ta tb : TE} (h : ta σ H (fun x H1 => ∃ c, x = .bl c ∧ if c = true then tb σ H1 Q else Q (.bl false) H1)) : tAndV ta tb σ H Q := h
theorem st_orV {ta tb : TE} (h : ta σ H (fun x H1 => ∃ c, x = .bl c ∧ if c = true then Q (.bl true) H1 else tb σ H1 Q)) : tOrV ta tb σ H Q := h
theorem st_notV {ta : TE} (h : ta σ H (fun x H1 => ∃ c, x = .bl c ∧ Q (.bl (!c)) H1)) : tNotV ta σ H Q := h
theorem st_if {t : TT} {ta tb : TE} (h : t σ H (fun c H1 => if c = true then ta σ H1 Q else tb σ H1 Q)) : tIf t ta tb σ H Q := h
theorem st_nil {P : List V → Hp → Prop} (h : P [] H) : tNil σ H P := h
theorem st_cons {ta : TE} {tr : TA} {P : List V → Hp → Prop} (h : ta σ H (fun x H1 => tr σ H1 fun xs H2 => P (x :: xs) H2)) : tCons ta tr σ H P := h
def NewO (o : List V → HO) (xs : List V) (Q : VK) (H : Hp) : Prop := xs.length ≤ sizeLine ∧ ∀ p, H p = none → Q (.ref p) (upd H p (o xs))
theorem st_tup {t : TA} (h : t σ H (fun xs H1 => NewO .tup xs Q H1)) : tTup t σ H Q := h
theorem st_lst {t : TA} (h : t σ H (fun xs H1 => NewO .lst xs Q H1)) : tLst t σ H Q := h
/-- a new object: from then on the heap is a letter -/
theorem st_new {xs : List V} {o : List V → HO} (hz : xs.length ≤ 16777216) (h : ∀ p H', H p = none → Ex H H' → H' p = some (o xs) → Q (.ref p) H') : NewO o xs Q H :=
  ⟨by rw [sl16]; exact hz, fun p hp => h p _ hp (Fr.new hp) upd_same⟩
theorem st_cb {r : List V → Hp → VK → Prop} {t : TA} (h : t σ H (fun vs H1 => r vs H1 Q)) : tCB r t σ H Q := h
theorem st_call {sp : Sp} {dvs : List V} {E : XK} {t : TA} (h : t σ H (fun vs H1 => sp (vs ++ dvs) H1 Q E)) : tCall sp dvs E t σ H Q := h
theorem st_sl {r : V → Option Int → Option Int → Hp → VK → Prop} {te : TE} {tl th : TO} (h : te σ H (fun x H1 => tl σ H1 fun l H2 => th σ H2 fun u H3 => r x l u H3 Q)) : tSl r te tl th σ H Q := h
theorem st_part {te : TE} {P : Option Int → Hp → Prop} (h : te σ H (fun x H1 => ∃ i, x = .int i ∧ P (some i) H1)) : tPart te σ H P := h
theorem st_isi {i : Int} {P : Int → Prop} (h : P i) : ∃ j, V.int i = .int j ∧ P j := ⟨i, rfl, h⟩
theorem st_nopart {P : Option Int → Hp → Prop} (h : P none H) : tNoPart σ H P := h
theorem st_addI {i j : Int} (h : Q (.int (i + j)) H) : rAdd (.int i) (.int j) H Q := h
theorem st_addS {a b : Str} (hz : a.length + b.length ≤ 16777216) (h : Q (.str (a ++ b)) H) : rAdd (.str a) (.str b) H Q := ⟨hz, h⟩
theorem st_addL {p q : Addr} {xs ys : List V} (h1 : H p = some (.lst xs)) (h2 : H q = some (.lst ys)) (hz : xs.length + ys.length ≤ 16777216) (h : ∀ r H', H r = none → Ex H H' → H' r = some (.lst (xs ++ ys)) → Q (.ref r) H') : rAdd (.ref p) (.ref q) H Q :=
  ⟨xs, ys, h1, h2, hz, fun r hr => h r _ hr (Fr.new hr) upd_same⟩
theorem st_subI {i j : Int} (h : Q (.int (i - j)) H) : rSub (.int i) (.int j) H Q := h
theorem st_mulI {i j : Int} (hc : (-(2 ^ 64) < i ∧ i < 2 ^ 64) ∨ (-(2 ^ 64) < j ∧ j < 2 ^ 64)) (h : Q (.int (i * j)) H) : rMul (.int i) (.int j) H Q := ⟨hc, h⟩
theorem st_mulL {p : Addr} {k : Int} {xs : List V} (h1 : H p = some (.lst xs)) (h2 : -1000000 ≤ k) (h3 : k ≤ 1000000) (hz : xs.length * k.toNat ≤ 16777216) (h : ∀ r H', H r = none → Ex H H' → H' r = some (.lst (List.replicate k.toNat xs).flatten) → Q (.ref r) H') : rMul (.ref p) (.int k) H Q :=
  ⟨xs, h1, h2, h3, hz, fun r hr => h r _ hr (Fr.new hr) upd_same⟩
theorem st_mulS {a : Str} {k : Int} (h2 : -1000000 ≤ k) (h3 : k ≤ 1000000) (hz : a.length * k.toNat ≤ 16777216) (h : Q (.str (Txt.mul a k)) H) : rMul (.str a) (.int k) H Q := ⟨h2, h3, hz, h⟩
theorem st_modI {i j : Int} (hc : 0 < j) (h : Q (.int (i % j)) H) : rMod (.int i) (.int j) H Q := ⟨hc, h⟩
theorem st_divI {i j : Int} (hc : 0 < j ∧ j < 1073741824) (h : Q (.int (i / j)) H) : rDiv (.int i) (.int j) H Q := ⟨hc.1, hc.2, h⟩
theorem st_powI {i j : Int} (hc : 0 ≤ j ∧ j ≤ 1000000 ∧ i.natAbs < 2 ^ 64) (h : Q (.int (i ^ j.toNat)) H) : rPow (.int i) (.int j) H Q := ⟨hc.1, hc.2.1, hc.2.2, h⟩
theorem st_cmpI {f : Int → Int → Bool} {i j : Int} (h : Q (.bl (f i j)) H) : rCmpI f (.int i) (.int j) H Q := h
theorem st_eqI {i j : Int} (h : Q (.bl (decide (i = j))) H) : rEqU (.int i) (.int j) H Q := ⟨_, _, .int i, .int j, by simp [PyData.depth], by
  have e : PyData.eqv (.int i) (.int j) = decide (i = j) := by simp only [PyData.eqv]; rfl
  rw [e]; exact h⟩
theorem st_neI {i j : Int} (h : Q (.bl (!decide (i = j))) H) : rNeU (.int i) (.int j) H Q := ⟨_, _, .int i, .int j, by simp [PyData.depth], by
  have e : PyData.eqv (.int i) (.int j) = decide (i = j) := by simp only [PyData.eqv]; rfl
  rw [e]; exact h⟩
theorem st_eqS {i j : Str} (h : Q (.bl (decide (i = j))) H) : rEqU (.str i) (.str j) H Q := ⟨_, _, .str i, .str j, by simp [PyData.depth], by
  have e : PyData.eqv (.str i) (.str j) = decide (i = j) := by simp only [PyData.eqv]; rfl
  rw [e]; exact h⟩
theorem st_neS {i j : Str} (h : Q (.bl (!decide (i = j))) H) : rNeU (.str i) (.str j) H Q := ⟨_, _, .str i, .str j, by simp [PyData.depth], by
  have e : PyData.eqv (.str i) (.str j) = decide (i = j) := by simp only [PyData.eqv]; rfl
  rw [e]; exact h⟩
theorem st_eqB {i j : Bool} (h : Q (.bl (i == j)) H) : rEqU (.bl i) (.bl j) H Q := ⟨_, _, .bl i, .bl j, by simp [PyData.depth], by
  have e : PyData.eqv (.bool i) (.bool j) = (i == j) := by simp only [PyData.eqv]
  rw [e]; exact h⟩
theorem st_neB {i j : Bool} (h : Q (.bl (!(i == j))) H) : rNeU (.bl i) (.bl j) H Q := ⟨_, _, .bl i, .bl j, by simp [PyData.depth], by
  have e : PyData.eqv (.bool i) (.bool j) = (i == j) := by simp only [PyData.eqv]
  rw [e]; exact h⟩
theorem st_eqD {x y : V} {d e : PyData} (h1 : Rp H x d) (h2 : Rp H y e) (hd : min d.depth e.depth ≤ 64) (h : Q (.bl (PyData.eqv d e)) H) : rEqU x y H Q := ⟨d, e, h1, h2, hd, h⟩
theorem st_neD {x y : V} {d e : PyData} (h1 : Rp H x d) (h2 : Rp H y e) (hd : min d.depth e.depth ≤ 64) (h : Q (.bl (!PyData.eqv d e)) H) : rNeU x y H Q := ⟨d, e, h1, h2, hd, h⟩
theorem st_ixL {p : Addr} {i : Int} {v : V} {xs : List V} (h1 : H p = some (.lst xs)) (h2 : atI xs i = some v) (h : Q v H) : rIxU K (.ref p) (.int i) H Q := ⟨xs, seqAt_sq (seq_l h1), v, h2, h⟩
theorem st_ixT {p : Addr} {i : Int} {v : V} {xs : List V} (h1 : H p = some (.tup xs)) (h2 : atI xs i = some v) (h : Q v H) : rIxU K (.ref p) (.int i) H Q := ⟨xs, seqAt_sq (seq_t h1), v, h2, h⟩
theorem st_ixK {p : Addr} {i : Int} {v : V} {xs : List V} (h1 : SqL K H p xs) (h2 : atI xs i = some v) (h : Q v H) : rIxU K (.ref p) (.int i) H Q := ⟨xs, .inl h1, v, h2, h⟩
theorem at_in {α : Type} {xs : List α} {i : Int} (h0 : 0 ≤ i) (h1 : i < xs.length) : ∃ v, atI xs i = some v ∧ xs[i.toNat]? = some v := by
  have hj : i.toNat < xs.length := by omega
  refine ⟨xs[i.toNat], ?_, List.getElem?_eq_getElem hj⟩
  unfold atI ixN
  rw [if_pos h0, if_pos h1]
  exact List.getElem?_eq_getElem hj
/-- an item of a row of numbers, of texts, at some place -/
theorem st_ixI {p : Addr} {i : Int} {xs : List V} (ns : List Int) (h1 : H p = some (.lst xs)) (e : xs = ns.map V.int) (h0 : 0 ≤ i) (hi : i < ns.length) (h : ∀ z, ns[i.toNat]? = some z → z ∈ ns → Q (.int z) H) : rIxU K (.ref p) (.int i) H Q := by
  subst e
  obtain ⟨v, h2, h3⟩ := at_in (xs := ns.map V.int) h0 (by rw [List.length_map]; exact hi)
  rw [List.getElem?_map] at h3
  cases q : ns[i.toNat]? with
  | none => rw [q] at h3; cases h3
  | some z =>
    rw [q] at h3
    cases h3
    exact st_ixL h1 h2 (h z q (List.mem_of_getElem? q))
/-- a sign of a text -/
theorem st_sign {z : Str} {i : Int} {c : Nat} (hz : z.length ≤ 16777216) (h2 : atI z.cps.toList i = some c) (h : Q (.str (tx [c])) H) : rIxU K (.str z) (.int i) H Q := ⟨hz, c, h2, h⟩
theorem st_slS {z : Str} {lo hi : Option Int} (hz : z.length ≤ 16777216) (h : Q (.str (cutS z lo hi)) H) : rSlU K (.str z) lo hi H Q := ⟨hz, h⟩
theorem st_slL {p : Addr} {xs : List V} {lo hi : Option Int} (h1 : lstAt H p = some xs) (h : ∀ q H', H q = none → Ex H H' → H' q = some (.lst (cutV xs lo hi)) → Q (.ref q) H') : rSlU K (.ref p) lo hi H Q := ⟨xs, lstAt_sq h1, fun q hq => h q _ hq (Fr.new hq) upd_same⟩
theorem st_slK {p : Addr} {xs : List V} {lo hi : Option Int} (h1 : SqL K H p xs) (h : ∀ q H', H q = none → Ex H H' → H' q = some (.lst (cutV xs lo hi)) → Q (.ref q) H') : rSlU K (.ref p) lo hi H Q := ⟨xs, h1, fun q hq => h q _ hq (Fr.new hq) upd_same⟩
theorem st_lenS {z : Str} (hz : z.length ≤ 16777216) (h : Q (.int z.length) H) : rLen K [.str z] H Q := ⟨hz, h⟩
theorem st_lenL {p : Addr} {xs : List V} (h1 : H p = some (.lst xs)) (h : Q (.int xs.length) H) : rLen K [.ref p] H Q := ⟨xs, seqAt_sq (seq_l h1), h⟩
theorem st_lenT {p : Addr} {xs : List V} (h1 : H p = some (.tup xs)) (h : Q (.int xs.length) H) : rLen K [.ref p] H Q := ⟨xs, seqAt_sq (seq_t h1), h⟩
theorem st_lenK {p : Addr} {xs : List V} (h1 : SqL K H p xs) (h : Q (.int xs.length) H) : rLen K [.ref p] H Q := ⟨xs, .inl h1, h⟩
theorem st_max2 {i j : Int} (h : Q (.int (if j > i then j else i)) H) : Zb.rMax2 [.int i, .int j] H Q := h
theorem st_min2 {i j : Int} (h : Q (.int (if j < i then j else i)) H) : Zb.rMin2 [.int i, .int j] H Q := h
theorem st_is {x : V} {n t : String} {b : Bool} (h1 : tyN H x = some t) (h2 : kitB t n = some b) (h : Q (.bl b) H) : rIs [x, .ty n] H Q := ⟨t, h1, b, h2, h⟩
/-- xs[i] = e -/
theorem st_setL {p : Addr} {k : Int} {v : V} {xs : List V} {j : Nat} {R : Hp → Prop} (h1 : H p = some (.lst xs)) (h2 : ixN xs.length k = some j) (h : R (upd H p (.lst (xs.set j v)))) : rSetL (.ref p) (.int k) v H R := ⟨p, xs, k, j, rfl, rfl, h1, h2, h⟩
theorem st_T {A B : Prop} {b : Bool} (hb : b = true) (h : A) : if b = true then A else B := by rw [if_pos hb]; exact h
theorem st_F {A B : Prop} {b : Bool} (hb : b = false) (h : B) : if b = true then A else B := by rw [hb, if_neg Bool.false_ne_true]; exact h
theorem st_br2 {A B : Prop} {p : Prop} [Decidable p] (h1 : p → A) (h2 : ¬ p → B) : if decide p = true then A else B := by
  by_cases q : p
  · rw [decide_eq_true q]; exact h1 q
  · rw [decide_eq_false q, if_neg Bool.false_ne_true]; exact h2 q
end
def Purse (H : Hp) (a : Addr) : Prop := ∃ x y z : Int, H a = some (.lst [.int x, .int y, .int z])
abbrev FrP (p : Addr) (H H' : Hp) : Prop := Fr (fun b => b = p) H H'
theorem FrP.at {H : Hp} {p : Addr} {o : HO} : FrP p H (upd H p o) := Fr.at (M := fun b => b = p) rfl
theorem Purse.ne {H : Hp} {p q : Addr} (h : Purse H p) (hq : H q = none) : q ≠ p := fun e => by
  obtain ⟨x, y, z, h⟩ := h
  rw [e, h] at hq
  cases hq
theorem Purse.ex {H H' : Hp} {p : Addr} (h : Purse H p) (e : Ex H H') : Purse H' p := by
  obtain ⟨x, y, z, h⟩ := h
  exact ⟨x, y, z, e.get h⟩
end Zb
namespace Zb
open PySem PySem.Spec PyProof.Rows L2
open Evl (tCut pss_cut)
structure Runs (J : It) (n : Nat) (S : Hp → Prop) (item : Nat → V → Hp → Hp → Prop) : Prop where
  go : ∀ i H, i < n → S H → J.go i H
  stop : ∀ H, S H → J.stop n H
  yld : ∀ i H x H', i < n → S H → J.yld i H x H' → item i x H H'
theorem runs_range (lo : Int) (n : Nat) : Runs (Itr lo n) n (fun _ => True) (fun i x H H' => H' = H ∧ x = .int (lo + i)) :=
  ⟨fun _ _ h _ => h, fun _ _ => Nat.le_refl _, fun _ _ _ _ _ _ y => y⟩
theorem runs_list (K : PySem.W.Frag) (a : Addr) (xs : List V) : Runs (Itl K a) xs.length (fun H => lstAt H a = some xs) (fun i x H H' => H' = H ∧ xs[i]? = some x) :=
  ⟨fun i H h s => ⟨xs, xs[i], lstAt_sq s, by simp [h]⟩, fun _ s => ⟨xs, lstAt_sq s, Nat.le_refl _⟩, fun _ _ _ _ _ s y => ⟨y.1, y.2 xs (lstAt_sq s)⟩⟩
theorem runs_enum (K : PySem.W.Frag) (a : Addr) (xs : List V) : Runs (Ite K a) xs.length (fun H => lstAt H a = some xs) (fun i x H H' => ∃ T v, x = .ref T ∧ H T = none ∧ Ex H H' ∧ H' T = some (.tup [.int (i : Nat), v]) ∧ xs[i]? = some v) :=
  ⟨fun i H h s => ⟨xs, xs[i], lstAt_sq s, by simp [h]⟩, fun _ s => ⟨xs, lstAt_sq s, Nat.le_refl _⟩, fun i H x H' _ s y => by
    obtain ⟨T, v, e1, e2, e3, e4⟩ := y
    subst e3
    exact ⟨T, v, e1, e2, Fr.new e2, upd_same, e4 xs (lstAt_sq s)⟩⟩
def LcGoal (J : It) (g : TG) (tt : TT) (te : TE) (vs : List Nat) (σ : L2.St) (Q : VK) (H1 : Hp) : Prop := ∀ D, H1 D = none → ∃ W : Nat → Nat → Hp → Prop, (∃ m, W 0 m (upd H1 D (.lst []))) ∧ ∀ i m H, W i m H →
      (J.stop i H ∧ Q (.ref D) H) ∨ (J.go i H ∧ ∃ Nx : Hp → Prop, (∀ H', Nx H' → ∃ m', m' < m ∧ W (i + 1) m' H') ∧ ∀ x H', J.yld i H x H' → g x (wipe σ vs) H' fun σ2 H2 => wipe σ2 vs = wipe σ vs ∧ tt σ2 H2 fun b H3 =>
        if b = true then te σ2 H3 fun y H4 => ∃ acc, H4 D = some (.lst acc) ∧ acc.length < sizeLine ∧ Nx (upd H4 D (.lst (acc ++ [y]))) else Nx H3)
def ForGoal (J : It) (g : TG) (tb : TS) (D : Ends) (σ : L2.St) (H : Hp) : Prop := ∃ W : Nat → Nat → L2.St → Hp → Prop, (∃ m, W 0 m σ H) ∧ ∀ i m σ H, W i m σ H →
      (J.stop i H ∧ D.nx σ H) ∨ (J.go i H ∧ ∃ N : L2.St → Hp → Prop, (∀ σ' H', N σ' H' → ∃ m', m' < m ∧ W (i + 1) m' σ' H') ∧ ∀ x H', J.yld i H x H' → g x σ H' fun σ2 H2 => tb { D with nx := N, ct := N, bk := D.nx } σ2 H2)
section
variable {J : It} {n : Nat} {S : Hp → Prop} {item : Nat → V → Hp → Hp → Prop} {g : TG} {σ : L2.St} {H H1 : Hp} {K : PySem.W.Frag}
/-- a for loop by its word Pv -/
theorem for_runs {tb : TS} {D : Ends} (hR : Runs J n S item) (Pv : Nat → L2.St → Hp → Prop) (h0 : Pv 0 σ H) (hS : ∀ i σ H, i ≤ n → Pv i σ H → S H)
    (hs : ∀ i x σ H H', i < n → Pv i σ H → item i x H H' → g x σ H' fun σ2 H2 => tb { D with nx := Pv (i + 1), ct := Pv (i + 1), bk := D.nx } σ2 H2) (hd : ∀ σ H, Pv n σ H → D.nx σ H) :
    ForGoal J g tb D σ H := by
  refine ⟨fun i m σ H => m = n - i ∧ i ≤ n ∧ Pv i σ H, ⟨n, by simp, Nat.zero_le _, h0⟩, ?_⟩
  rintro i m σ H ⟨rfl, hi, p⟩
  by_cases hlt : i < n
  · refine .inr ⟨hR.go i H hlt (hS i σ H hi p), Pv (i + 1), fun σ' H' p' => ⟨n - (i + 1), by omega, rfl, hlt, p'⟩, fun x H' y => ?_⟩
    exact hs i x σ H H' hlt p (hR.yld i H x H' hlt (hS i σ H hi p) y)
  · have e : i = n := by omega
    subst e
    exact .inl ⟨hR.stop H (hS i σ H hi p), hd σ H p⟩
/-- the list of a comprehension on its way -/
structure LcAt (M : Addr → Prop) (H1 : Hp) (D : Addr) (acc : List V) (H : Hp) : Prop where
  new : H1 D = none
  non : ¬ M D
  at_ : H D = some (.lst acc)
  fr : Fr M H1 H
def LcW (M : Addr → Prop) (H1 : Hp) (Pv : Nat → List V → Hp → Prop) (D : Addr) (i : Nat) (H : Hp) : Prop := ∃ acc, LcAt M H1 D acc H ∧ Pv i acc H
/-- Pv does not look at the list itself -/
def LcSt (M : Addr → Prop) (H1 : Hp) (Pv : Nat → List V → Hp → Prop) : Prop := ∀ i acc H' D o, H1 D = none → Fr M H1 H' → Pv i acc H' → Pv i acc (upd H' D o)
theorem lc_yes {M : Addr → Prop} {Pv : Nat → List V → Hp → Prop} {D : Addr} {i : Nat} {acc : List V} {H' H4 : Hp} {y : V} (L : LcAt M H1 D acc H') (hst : LcSt M H1 Pv) (e : Fr M H' H4) (hz : acc.length < 1000000) (p : Pv (i + 1) (acc ++ [y]) H4) :
    ∃ acc, H4 D = some (.lst acc) ∧ acc.length < sizeLine ∧ LcW M H1 Pv D (i + 1) (upd H4 D (.lst (acc ++ [y]))) :=
  ⟨acc, e D _ L.non L.at_, by rw [sl16]; omega, acc ++ [y], ⟨L.new, L.non, upd_same, (L.fr.trans e).mut L.new⟩, hst _ _ _ _ _ L.new (L.fr.trans e) p⟩
theorem lc_no {M : Addr → Prop} {Pv : Nat → List V → Hp → Prop} {D : Addr} {i : Nat} {acc : List V} {H' H4 : Hp} (L : LcAt M H1 D acc H') (e : Fr M H' H4) (p : Pv (i + 1) acc H4) : LcW M H1 Pv D (i + 1) H4 :=
  ⟨acc, ⟨L.new, L.non, e D _ L.non L.at_, L.fr.trans e⟩, p⟩
theorem lc_runs {tt : TT} {te : TE} {vs : List Nat} {Q : VK} (hR : Runs J n S item) (M : Addr → Prop) (Pv : Nat → List V → Hp → Prop) (hM : ∀ b, M b → H1 b ≠ none) (h0 : Pv 0 [] H1) (hst : LcSt M H1 Pv) (hS : ∀ i acc H', Fr M H1 H' → Pv i acc H' → S H')
    (hs : ∀ D i acc x H' H'', i < n → LcAt M H1 D acc H' → Pv i acc H' → item i x H' H'' → g x (wipe σ vs) H'' fun σ2 H2 => wipe σ2 vs = wipe σ vs ∧ tt σ2 H2 fun b H3 => if b = true then te σ2 H3 fun y H4 => ∃ acc, H4 D = some (.lst acc) ∧ acc.length < sizeLine ∧ LcW M H1 Pv D (i + 1) (upd H4 D (.lst (acc ++ [y]))) else LcW M H1 Pv D (i + 1) H3)
    (hd : ∀ D acc H', H1 D = none → Fr M H1 H' → H' D = some (.lst acc) → Pv n acc H' → Q (.ref D) H') :
    LcGoal J g tt te vs σ Q H1 := by
  intro D hD
  refine ⟨fun i m H => m = n - i ∧ i ≤ n ∧ LcW M H1 Pv D i H, ⟨n, by simp, Nat.zero_le _, [], ⟨hD, fun m => hM D m hD, upd_same, Fr.new hD⟩, hst _ _ _ _ _ hD (Fr.refl _) h0⟩, ?_⟩
  rintro i m H ⟨rfl, hi, acc, L, p⟩
  by_cases hlt : i < n
  · refine .inr ⟨hR.go i H hlt (hS i acc H L.fr p), LcW M H1 Pv D (i + 1), fun H' p' => ⟨n - (i + 1), by omega, rfl, hlt, p'⟩, fun x H' y => ?_⟩
    exact hs D i acc x H H' hlt L p (hR.yld i H x H' hlt (hS i acc H L.fr p) y)
  · have e : i = n := by omega
    subst e
    exact .inl ⟨hR.stop H (hS i acc H L.fr p), hd D acc H hD L.fr L.at_ p⟩
abbrev RunsV {α : Type} (J : It) (ys : List α) (val : α → V) (S : Hp → Prop) : Prop := Runs J ys.length S (fun i x H H' => H' = H ∧ ∃ y, ys[i]? = some y ∧ x = val y)
theorem rv_str (z : Str) : RunsV (Its z) z.cps.toList (fun c => .str (tx [c])) (fun _ => True) :=
  ⟨fun i _ h _ => by show i < z.cps.size; simpa using h, fun _ _ => by show z.cps.size ≤ z.cps.toList.length; simp, fun _ _ _ _ _ _ y => by
    obtain ⟨h, c, e1, e2⟩ := y
    exact ⟨h, c, by rw [Array.getElem?_toList]; exact e1, e2⟩⟩
theorem rv_list (K : PySem.W.Frag) (a : Addr) {α : Type} (ys : List α) (val : α → V) : RunsV (Itl K a) ys val (fun H => lstAt H a = some (ys.map val)) :=
  ⟨fun i H h s => ⟨ys.map val, val ys[i], lstAt_sq s, by simp [h]⟩, fun _ s => ⟨ys.map val, lstAt_sq s, by simp⟩, fun i H x H' h s y => by
    have e := y.2 _ (lstAt_sq s)
    rw [List.getElem?_map, List.getElem?_eq_getElem h] at e
    exact ⟨y.1, ys[i], List.getElem?_eq_getElem h, (Option.some.inj e).symm⟩⟩
theorem rv_range (lo : Int) (n : Nat) : RunsV (Itr lo n) (List.range n) (fun i => .int (lo + i)) (fun _ => True) :=
  ⟨fun _ _ h _ => by rw [List.length_range] at h; exact h, fun _ _ => by rw [List.length_range]; exact Nat.le_refl _, fun i _ _ _ h _ y => by
    rw [List.length_range] at h
    exact ⟨y.1, i, by rw [List.getElem?_range h], y.2⟩⟩
theorem lc_pure {α : Type} {ys : List α} {val : α → V} {tt : TT} {te : TE} {vs : List Nat} {Q : VK} (hR : RunsV J ys val S) (hS : ∀ H', Ex H1 H' → S H') (hz : ys.length < 1000000) (p : α → Bool) (f : α → V)
    (hs : ∀ y H', y ∈ ys → Ex H1 H' → ∀ (B : V → Hp → Prop) (A : Hp → Prop), (p y = true → ∀ H'', Ex H' H'' → B (f y) H'') → (p y = false → ∀ H'', Ex H' H'' → A H'') → g (val y) (wipe σ vs) H' fun σ2 H2 => wipe σ2 vs = wipe σ vs ∧ tt σ2 H2 fun b H3 => if b = true then te σ2 H3 B else A H3)
    (hd : ∀ D H', H1 D = none → Ex H1 H' → H' D = some (.lst ((ys.filter p).map f)) → Q (.ref D) H') :
    LcGoal J g tt te vs σ Q H1 := by
  have tk : ∀ {i : Nat} {y : α}, ys[i]? = some y → ys.take (i + 1) = ys.take i ++ [y] := fun {i y} e => by
    rw [List.take_succ, e]
    rfl
  refine lc_runs hR (fun _ => False) (fun i acc _ => acc = ((ys.take i).filter p).map f) (fun _ z => z.elim) (by simp) (fun i acc H' D o _ _ e => e) (fun i acc H' e _ => hS H' e) ?_ ?_
  · rintro D i acc x H' H'' hi L rfl ⟨rfl, y, hy, rfl⟩
    have hl : (((ys.take i).filter p).map f).length < 1000000 := by
      rw [List.length_map]
      have := List.length_filter_le p (ys.take i)
      rw [List.length_take] at this
      omega
    refine hs y H'' (List.mem_of_getElem? hy) L.fr _ _ (fun hp H3 e => ?_) (fun hp H3 e => ?_)
    · refine lc_yes L (fun i acc H' D o _ _ e => e) e hl ?_
      rw [tk hy, List.filter_append, List.map_append, List.filter_cons, if_pos hp]
      rfl
    · refine lc_no L e ?_
      rw [tk hy, List.filter_append, List.map_append, List.filter_cons, if_neg (by rw [hp]; decide)]
      simp
  · rintro D acc H' hD e h rfl
    rw [List.take_length] at h
    exact hd D H' hD e h
/-- no test -/
theorem lc_map {α : Type} {ys : List α} {val : α → V} {te : TE} {vs : List Nat} {Q : VK} (hR : RunsV J ys val S) (hS : ∀ H', Ex H1 H' → S H') (hz : ys.length < 1000000) (f : α → V)
    (hs : ∀ y H', y ∈ ys → Ex H1 H' → ∀ (B : V → Hp → Prop), (∀ H'', Ex H' H'' → B (f y) H'') → g (val y) (wipe σ vs) H' fun σ2 H2 => wipe σ2 vs = wipe σ vs ∧ te σ2 H2 B)
    (hd : ∀ D H', H1 D = none → Ex H1 H' → H' D = some (.lst (ys.map f)) → Q (.ref D) H')
    (hg : ∀ v σ H (P P' : L2.St → Hp → Prop), (∀ σ H, P σ H → P' σ H) → g v σ H P → g v σ H P' := by intro _ _ _ _ _ k h; exact k _ _ h) : LcGoal J g tYes te vs σ Q H1 := by
  refine lc_pure hR hS hz (fun _ => true) f (fun y H' hy e B A h1 h2 => ?_) (fun D H' hD e h => hd D H' hD e ?_)
  · exact hg _ _ _ _ _ (fun σ2 H2 h => ⟨h.1, h.2⟩) (hs y H' hy e B (h1 rfl))
  · rwa [List.filter_eq_self.mpr (fun _ _ => rfl)] at h
theorem st_yes {P : Bool → Hp → Prop} (h : P true H) : tYes σ H P := h
/-- isinstance(b, bool) -/
theorem st_isBool {Q : VK} {b : Bool} (h : Q (.bl true) H) : rIs [.bl b, .ty "bool"] H Q := ⟨"bool", rfl, true, by decide +kernel, h⟩
theorem st_iStr {te : TE} {R : It → Hp → Prop} (h : te σ H (fun v H1 => ∃ x, v = .str x ∧ R (Its x) H1)) : iStr te σ H R := h
theorem st_isStr {x : Str} {P : Str → Prop} (h : P x) : ∃ y, V.str x = .str y ∧ P y := ⟨x, rfl, h⟩
theorem st_iList {tl : TE} {R : It → Hp → Prop} (h : tl σ H (fun x H1 => ∃ a, x = .ref a ∧ (∃ xs, SqL K H1 a xs) ∧ R (Itl K a) H1)) : iList K tl σ H R := h
theorem st_isList {a : Addr} {xs : List V} {P : Addr → Prop} (h1 : lstAt H a = some xs) (h : P a) : ∃ b, V.ref a = .ref b ∧ (∃ xs, SqL K H b xs) ∧ P b := ⟨a, rfl, ⟨xs, lstAt_sq h1⟩, h⟩
theorem st_iTup {tl : TE} {R : It → Hp → Prop} (h : tl σ H (fun x H1 => ∃ a, x = .ref a ∧ (∃ xs, SqT K H1 a xs) ∧ R (Itt K a) H1)) : iTup K tl σ H R := h
theorem st_isTup {a : Addr} {xs : List V} {P : Addr → Prop} (h1 : tupAt H a = some xs) (h : P a) : ∃ b, V.ref a = .ref b ∧ (∃ xs, SqT K H b xs) ∧ P b := ⟨a, rfl, ⟨xs, tupAt_sq h1⟩, h⟩
theorem st_iR1 {ta : TA} {R : It → Hp → Prop} (h : ta σ H (fun vs H1 => ∃ j : Int, vs = [.int j] ∧ -(2 ^ 62) ≤ j ∧ j < 2 ^ 62 ∧ R (Itr 0 j.toNat) H1)) : iRng1 ta σ H R := h
theorem st_isR1 {j : Int} {P : Int → Prop} (h1 : -1000000000000 ≤ j ∧ j < 1000000000000) (h : P j) : ∃ i : Int, [V.int j] = [.int i] ∧ -(2 ^ 62) ≤ i ∧ i < 2 ^ 62 ∧ P i := ⟨j, rfl, by omega, by omega, h⟩
theorem st_iR2 {ta : TA} {R : It → Hp → Prop} (h : ta σ H (fun vs H1 => ∃ i j : Int, vs = [.int i, .int j] ∧ (-(2 ^ 62) ≤ i ∧ i < 2 ^ 62 ∧ -(2 ^ 62) ≤ j ∧ j < 2 ^ 62) ∧ R (Itr i (j - i).toNat) H1)) : iRng2 ta σ H R := h
theorem st_isR2 {i j : Int} {P : Int → Int → Prop} (h1 : -1000000000000 ≤ i ∧ i < 1000000000000 ∧ -1000000000000 ≤ j ∧ j < 1000000000000) (h : P i j) : ∃ i' j' : Int, [V.int i, V.int j] = [.int i', .int j'] ∧ (-(2 ^ 62) ≤ i' ∧ i' < 2 ^ 62 ∧ -(2 ^ 62) ≤ j' ∧ j' < 2 ^ 62) ∧ P i' j' := ⟨i, j, rfl, ⟨by omega, by omega, by omega, by omega⟩, h⟩
theorem st_iEn {ta : TA} {R : It → Hp → Prop} (h : ta σ H (fun vs H1 => ∃ a xs, vs = [.ref a] ∧ SqL K H1 a xs ∧ R (Ite K a) H1)) : iEnum K ta σ H R := h
theorem st_isEn {a : Addr} {xs : List V} {P : Addr → Prop} (h1 : lstAt H a = some xs) (h : P a) : ∃ b xs, [V.ref a] = [.ref b] ∧ SqL K H b xs ∧ P b := ⟨a, xs, rfl, lstAt_sq h1, h⟩
theorem st_iZp {ta : TA} {R : It → Hp → Prop} (h : ta σ H (fun vs H1 => ∃ a b xs ys, vs = [.ref a, .ref b] ∧ SqL K H1 a xs ∧ SqL K H1 b ys ∧ R (Itz K a b) H1)) : iZip K ta σ H R := h
theorem st_isZp {a b : Addr} {xs ys : List V} {P : Addr → Addr → Prop} (h1 : lstAt H a = some xs) (h2 : lstAt H b = some ys) (h : P a b) : ∃ a' b' xs ys, [V.ref a, V.ref b] = [.ref a', .ref b'] ∧ SqL K H a' xs ∧ SqL K H b' ys ∧ P a' b' := ⟨a, b, xs, ys, rfl, lstAt_sq h1, lstAt_sq h2, h⟩
theorem st_lc {wi : TI} {tt : TT} {te : TE} {vs : List Nat} {Q : VK} (h : wi σ H fun J H1 => LcGoal J g tt te vs σ Q H1) : tLc wi g tt te vs σ H Q := h
theorem st_for {wi : TI} {tb : TS} {D : Ends} (h : wi σ H fun J H1 => ForGoal J g tb D σ H1) : tFor wi g tb D σ H := h
end
section
variable {H : Hp} {Q : VK} {σ : L2.St}
theorem st_inC {c : Nat} {z : Str} (h : Q (.bl (decide (c ∈ z.cps.toList))) H) : rInU false (.str (tx [c])) (.str z) H Q := by
  refine ⟨_, rfl, ?_⟩
  show Q (.bl (!(Builtin.Str.occurrences z ⟨#[c]⟩ 0 z.length 1).isEmpty)) H
  rw [PySem.StrLaws.found_one]
  exact h
theorem st_ninC {c : Nat} {z : Str} (h : Q (.bl (!decide (c ∈ z.cps.toList))) H) : rInU true (.str (tx [c])) (.str z) H Q := by
  refine ⟨_, rfl, ?_⟩
  show Q (.bl (!(!(Builtin.Str.occurrences z ⟨#[c]⟩ 0 z.length 1).isEmpty))) H
  rw [PySem.StrLaws.found_one]
  exact h
theorem st_all {p : Addr} {bs : List Bool} {xs : List V} (h1 : H p = some (.lst xs)) (e : xs = bs.map V.bl) (h : Q (.bl (bs.all id)) H) : rAllU [.ref p] H Q := ⟨bs, by rw [lst_of h1, e], h⟩
theorem st_gtup {K : PySem.W.Frag} {a : Addr} {xs : List V} {n : Nat} {t : TGs} {R : L2.St → Hp → Prop} (h1 : H a = some (.tup xs)) (hn : xs.length = n) (h : t xs σ H R) : gTup K n t (.ref a) σ H R := ⟨a, xs, rfl, tupAt_sq (tup_of h1), hn, h⟩
theorem st_glst {K : PySem.W.Frag} {a : Addr} {xs : List V} {n : Nat} {t : TGs} {R : L2.St → Hp → Prop} (h1 : H a = some (.lst xs)) (hn : xs.length = n) (h : t xs σ H R) : gLst K n t (.ref a) σ H R := ⟨a, xs, rfl, lstAt_sq (lst_of h1), hn, h⟩
theorem st_gcons {v : V} {r : List V} {t : TG} {u : TGs} {R : L2.St → Hp → Prop} (h : t v σ H fun σ' H' => u r σ' H' R) : gCons t u (v :: r) σ H R := ⟨v, r, rfl, h⟩
theorem st_gnil {R : L2.St → Hp → Prop} (h : R σ H) : gNil [] σ H R := ⟨rfl, h⟩
theorem st_m1 {r : V → List V → Hp → VK → Prop} {to te : TE} (h : to σ H (fun x H1 => (∃ a, x = .str a) ∧ te σ H1 fun y H2 => r x [y] H2 Q)) : tM1 r to te σ H Q := h
theorem st_isS {a : Str} {P : Prop} (h : P) : (∃ b, V.str a = .str b) ∧ P := ⟨⟨a, rfl⟩, h⟩
theorem st_bm {K : PySem.W.Frag} {T : String} {r : V → List V → Hp → VK → Prop} {to : TE} {t : TA} (h : to σ H (fun x H1 => tyV K T x H1 ∧ t σ H1 fun xs H2 => r x xs H2 Q)) : tBM K T r to t σ H Q := h
theorem st_bm0 {K : PySem.W.Frag} {T : String} {r : V → List V → Hp → VK → Prop} {to : TE} (h : to σ H (fun x H1 => tyV K T x H1 ∧ r x [] H1 Q)) : tBM0 K T r to σ H Q := h
theorem st_tyL {K : PySem.W.Frag} {p : Addr} {xs : List V} {P : Prop} (h1 : H p = some (.lst xs)) (h : P) : tyV K "list" (.ref p) H ∧ P := ⟨.inl ⟨rfl, xs, lstAt_sq (lst_of h1)⟩, h⟩
theorem st_app {p : Addr} {xs : List V} {y : V} (h1 : H p = some (.lst xs)) (hz : xs.length < 16777216) (h : Q .non (upd H p (.lst (xs ++ [y])))) : rAppend (.ref p) [y] H Q := ⟨p, xs, y, rfl, rfl, h1, by rw [sl16]; exact hz, h⟩
theorem st_listS {K : PySem.W.Frag} {z : Str} (hz : z.length ≤ 16777216) (h : ∀ p H', H p = none → Ex H H' → H' p = some (.lst (z.cps.toList.map fun c => V.str (tx [c]))) → Q (.ref p) H') : rListU K [.str z] H Q := ⟨hz, fun p hp => h p _ hp (Fr.new hp) upd_same⟩
theorem st_listQ {K : PySem.W.Frag} {a : Addr} {ys : List V} (h1 : seqAt H a = some ys) (h : ∀ p H', H p = none → Ex H H' → H' p = some (.lst ys) → Q (.ref p) H') : rListU K [.ref a] H Q := ⟨ys, seqAt_sq h1, fun p hp => h p _ hp (Fr.new hp) upd_same⟩
theorem st_tupS {K : PySem.W.Frag} {z : Str} (hz : z.length ≤ 16777216) (h : ∀ p H', H p = none → Ex H H' → H' p = some (.tup (z.cps.toList.map fun c => V.str (tx [c]))) → Q (.ref p) H') : rTupU K [.str z] H Q := ⟨hz, fun p hp => h p _ hp (Fr.new hp) upd_same⟩
theorem st_tupL {K : PySem.W.Frag} {a : Addr} {ys : List V} (h1 : lstAt H a = some ys) (h : ∀ p H', H p = none → Ex H H' → H' p = some (.tup ys) → Q (.ref p) H') : rTupU K [.ref a] H Q := ⟨ys, .inl ⟨lstAt_sq h1, fun p hp => h p _ hp (Fr.new hp) upd_same⟩⟩
def DispEnd (p : Addr) (Q : VK) (ps : List (V × V)) (H2 : Hp) : Prop := H2 p = some (.dK []) ∧ ∃ kvs : List (Key × V), ps = kvs.map (fun kv => (kV kv.1, kv.2)) ∧ kvs.length ≤ 15 ∧ Q (.ref p) (upd H2 p (.dK (mergeK [] kvs)))
theorem st_disp {trs : List (TE × TE)} (h : ∀ p H', H p = none → Ex H H' → H' p = some (.dK []) → tPairs trs σ H' (DispEnd p Q)) : tDisp trs σ H Q := fun p hp => h p _ hp (Fr.new hp) upd_same
theorem st_pair {tk tv : TE} {r : List (TE × TE)} {P : List (V × V) → Hp → Prop} (h : tk σ H fun x H1 => tv σ H1 fun y H2 => tPairs r σ H2 fun ps H3 => P ((x, y) :: ps) H3) : tPairs ((tk, tv) :: r) σ H P := h
theorem st_pairs0 {P : List (V × V) → Hp → Prop} (h : P [] H) : tPairs [] σ H P := h
theorem st_clear {p : Addr} {xs : List V} (h1 : H p = some (.lst xs)) (h : Q .non (upd H p (.lst []))) : rClear (.ref p) [] H Q := ⟨p, xs, rfl, rfl, h1, h⟩
theorem st_isL {p : Addr} {xs : List V} {n : String} {b : Bool} (h1 : H p = some (.lst xs)) (h2 : kitB "list" n = some b) (h : Q (.bl b) H) : rIs [.ref p, .ty n] H Q := ⟨"list", by show tyO (H p) = _; rw [h1]; rfl, b, h2, h⟩
theorem st_isT {p : Addr} {xs : List V} {n : String} {b : Bool} (h1 : H p = some (.tup xs)) (h2 : kitB "tuple" n = some b) (h : Q (.bl b) H) : rIs [.ref p, .ty n] H Q := ⟨"tuple", by show tyO (H p) = _; rw [h1]; rfl, b, h2, h⟩
theorem st_isI {i : Int} {n : String} {b : Bool} (h2 : kitB "int" n = some b) (h : Q (.bl b) H) : rIs [.int i, .ty n] H Q := ⟨"int", rfl, b, h2, h⟩
theorem st_isB {i : Bool} {n : String} {b : Bool} (h2 : kitB "bool" n = some b) (h : Q (.bl b) H) : rIs [.bl i, .ty n] H Q := ⟨"bool", rfl, b, h2, h⟩
theorem st_isS' {i : Str} {n : String} {b : Bool} (h2 : kitB "str" n = some b) (h : Q (.bl b) H) : rIs [.str i, .ty n] H Q := ⟨"str", rfl, b, h2, h⟩
theorem kit_ii : kitB "int" "int" = some true := by decide +kernel
theorem kit_ib : kitB "int" "bool" = some false := by decide +kernel
theorem kit_il : kitB "int" "list" = some false := by decide +kernel
theorem kit_is : kitB "int" "str" = some false := by decide +kernel
theorem kit_it : kitB "int" "tuple" = some false := by decide +kernel
theorem kit_ll : kitB "list" "list" = some true := by decide +kernel
theorem kit_lt : kitB "list" "tuple" = some false := by decide +kernel
theorem kit_tt : kitB "tuple" "tuple" = some true := by decide +kernel
theorem kit_tl : kitB "tuple" "list" = some false := by decide +kernel
theorem kit_ss : kitB "str" "str" = some true := by decide +kernel
theorem kit_bb : kitB "bool" "bool" = some true := by decide +kernel
theorem kit_bi : kitB "bool" "int" = some true := by decide +kernel
/-- a table that is read -/
structure TabR (H : Hp) (p : Addr) (rs : List Addr) (row : Nat → List V) : Prop where
  at_ : H p = some (.lst (rs.map V.ref))
  rows : ∀ k r, rs[k]? = some r → H r = some (.lst (row k))
theorem TabR.ex {H H' : Hp} {p : Addr} {rs : List Addr} {row : Nat → List V} (T : TabR H p rs row) (e : Ex H H') : TabR H' p rs row := ⟨e.get T.at_, fun k r h => e.get (T.rows k r h)⟩
/-- x is a thing whose type is known -/
def Ty (H : Hp) (v : V) : Prop := ∃ t, tyN H v = some t
theorem ty_lst {p : Addr} {xs : List V} (h : H p = some (.lst xs)) : Ty H (.ref p) := ⟨"list", by show tyO (H p) = _; rw [h]; rfl⟩
theorem ty_str (z : Str) : Ty H (.str z) := ⟨"str", rfl⟩
theorem ty_int (z : Int) : Ty H (.int z) := ⟨"int", rfl⟩
theorem ty_bl (z : Bool) : Ty H (.bl z) := ⟨"bool", rfl⟩
theorem ty_non : Ty H .non := ⟨"NoneType", rfl⟩
theorem tyN_ex {H' : Hp} {v : V} {t : String} (e : Ex H H') (h : tyN H v = some t) : tyN H' v = some t := by
  cases v with
  | ref p =>
    have h : tyO (H p) = some t := h
    show tyO (H' p) = some t
    cases q : H p with
    | none => rw [q] at h; cases h
    | some o =>
      rw [e p o (fun z => z) q]
      rw [q] at h
      exact h
  | _ => exact h
theorem Ty.ex {H' : Hp} {v : V} (h : Ty H v) (e : Ex H H') : Ty H' v := by
  obtain ⟨t, h⟩ := h
  exact ⟨t, tyN_ex e h⟩
theorem fold_len (a : Array Nat) : ∀ (n : Nat) (b : Array Nat), ((List.replicate n a).foldl (· ++ ·) b).size = b.size + n * a.size
  | 0, b => by simp
  | n + 1, b => by
    rw [List.replicate_succ, List.foldl_cons, fold_len a n, Array.size_append, Nat.succ_mul]
    omega
theorem mulS_len (z : Str) (n : Int) : (Txt.mul z n).length ≤ z.length * n.toNat := by
  unfold Txt.mul
  by_cases h : n < 1
  · rw [if_pos h]; exact Nat.zero_le _
  · rw [if_neg h]
    by_cases h2 : (n == 1 || z.length == 0) = true
    · rw [if_pos h2]
      exact Nat.le_mul_of_pos_right _ (by omega)
    · rw [if_neg h2]
      show ((List.replicate n.toNat z.cps).foldl (· ++ ·) #[]).size ≤ _
      rw [fold_len, Nat.mul_comm]
      simp
      exact Nat.le_refl _
def isStrV : V → Bool
  | .str _ => true
  | _ => false
theorem kb_str : kitB "NoneType" "str" = some false ∧ kitB "bool" "str" = some false ∧ kitB "int" "str" = some false ∧ kitB "str" "str" = some true ∧ kitB "list" "str" = some false ∧ kitB "tuple" "str" = some false ∧ kitB "dict" "str" = some false := by decide +kernel
theorem kb_bool : kitB "NoneType" "bool" = some false ∧ kitB "bool" "bool" = some true ∧ kitB "int" "bool" = some false ∧ kitB "str" "bool" = some false ∧ kitB "list" "bool" = some false ∧ kitB "tuple" "bool" = some false ∧ kitB "dict" "bool" = some false := by decide +kernel
theorem st_isStrT {x : V} (h1 : Ty H x) (h : Q (.bl (isStrV x)) H) : rIs [x, .ty "str"] H Q := by
  obtain ⟨t, h1⟩ := h1
  obtain ⟨k1, k2, k3, k4, k5, k6, k7⟩ := kb_str
  refine st_is h1 (b := isStrV x) ?_ h
  cases x with
  | ref p =>
    have h1 : tyO (H p) = some t := h1
    unfold tyO at h1
    split at h1 <;> first | (cases h1; assumption) | cases h1
  | _ => first | (cases h1; assumption) | cases h1
end
theorem lstAt_ex {H H' : Hp} {a : Addr} {xs : List V} (e : Ex H H') (h : lstAt H a = some xs) : lstAt H' a = some xs := by
  unfold lstAt at h ⊢
  cases q : H a with
  | none => rw [q] at h; cases h
  | some o => rw [e a o (fun z => z) q]; rw [q] at h; exact h
theorem tupAt_ex {H H' : Hp} {a : Addr} {xs : List V} (e : Ex H H') (h : tupAt H a = some xs) : tupAt H' a = some xs := by
  unfold tupAt at h ⊢
  cases q : H a with
  | none => rw [q] at h; cases h
  | some o => rw [e a o (fun z => z) q]; rw [q] at h; exact h
mutual
theorem Rp.ex {H H' : Hp} (e : Ex H H') : ∀ {v : V} {d : PyData}, Rp H v d → Rp H' v d
  | _, _, .non => .non
  | _, _, .bl b => .bl b
  | _, _, .int i => .int i
  | _, _, .str x => .str x
  | _, _, .lst h k => .lst (lstAt_ex e h) (RpA.ex e k)
  | _, _, .tup h k => .tup (tupAt_ex e h) (RpA.ex e k)
theorem RpA.ex {H H' : Hp} (e : Ex H H') : ∀ {vs : List V} {ds : List PyData}, RpA H vs ds → RpA H' vs ds
  | _, _, .nil => .nil
  | _, _, .cons h k => .cons (Rp.ex e h) (RpA.ex e k)
end
theorem rpA_map {H : Hp} {α : Type} {val : α → V} {enc : α → PyData} : ∀ {xs : List α}, (∀ x ∈ xs, Rp H (val x) (enc x)) → RpA H (xs.map val) (xs.map enc)
  | [], _ => .nil
  | a :: r, h => .cons (h a List.mem_cons_self) (rpA_map fun x hx => h x (List.mem_cons_of_mem _ hx))
theorem eqv_int (a b : Int) : PyData.eqv (.int a) (.int b) = decide (a = b) := by simp only [PyData.eqv]; rfl
theorem eqv_str (a b : Str) : PyData.eqv (.str a) (.str b) = decide (a = b) := by simp only [PyData.eqv]; rfl
theorem depth_map {α : Type} {enc : α → PyData} {n : Nat} : ∀ {xs : List α}, (∀ x ∈ xs, (enc x).depth ≤ n) → PyData.depthAll (xs.map enc) ≤ n
  | [], _ => by simp [PyData.depthAll]
  | a :: r, h => by
    simp only [List.map_cons, PyData.depthAll]
    exact Nat.max_le.mpr ⟨h a List.mem_cons_self, depth_map fun x hx => h x (List.mem_cons_of_mem _ hx)⟩
structure Df (K : PySem.W.Frag) (mg : Str → Option Value) (x : Str) (st : Stmt) (ps : List Str) (f : Addr) (fd : FuncData) : Prop where
  g : mg x = some (.ref f)
  F : Fun K x x st f fd
  b : Binds K fd ps []
theorem df_mk {K : PySem.W.Frag} {h : Heap} {mg : Str → Option Value} {x : Str} {st : Stmt} {ps : List Str} {f : Addr} {oc : Value} {od an : Option Addr} {osl : Array (Option Value)} {kV dc pm cd ct : Value} (X : K.In h) (G : h.Ns mainGlobals mg)
    (a : PySem.W.nsIn K mainGlobals x = some (some (.ref f))) (l : K.lookup f = some ⟨oc, od, .func (PySem.W.fnOf x x (defArgs st) (defBody st) (defScope st) .none kV dc pm an cd ct), osl⟩) (c : PySem.W.codeIn K cd x = true) (k : PySem.W.keepIn K (.ref f) = true)
    (hb : ∀ (kV doc pm : Value) (an : Option Addr) (cdv ct : Value) (us : List Value), us.length = ps.length → bindArgs (PySem.W.fnOf x x (defArgs st) (defBody st) (defScope st) .none kV doc pm an cdv ct) ⟨us, []⟩ = pure (ps.zip us)) :
    Df K mg x st ps f (PySem.W.fnOf x x (defArgs st) (defBody st) (defScope st) .none kV dc pm an cd ct) :=
  have F := fun_mk (st := st) l c k
  ⟨PySem.W.mg_of X G a, F, F.binds hb⟩
/-- the script: a list of ints that is read, never written -/
def Scr (K : PySem.W.Frag) (H : Hp) (a : Addr) (ns : List Int) : Prop :=
  (∃ o, H a = some (.frz o (.lst (ns.map V.int)))) ∨ ∃ (o : Obj) (its : Array Value) (n : Nat), K.lookup a = some o ∧ o.cls = .type "list" ∧ o.dict = none ∧ o.data = .seq its n ∧ its.size ≤ sizeLine ∧ Vals (ns.map V.int) its.toList
theorem FrP.fresh {H0 H1 H2 : Hp} {p : Addr} (e : Ex H0 H1) (h : H0 p = none) (f : FrP p H1 H2) : Ex H0 H2 := fun b o _ q => f b o (ne_of_none q h) (e b o (fun z => z) q)
theorem tx_nil : ("" : Str) = tx [] := by decide +kernel
theorem app_tx (a b : List Nat) : tx a ++ tx b = tx (a ++ b) := tx_append a b
/-- texts joined by nothing -/
theorem join_txs (ls : List (List Nat)) : Txt.join "" (ls.map tx) = tx ls.flatten := by
  show Builtin.Str.glued "" _ = _
  rw [PySem.StrLaws.glued_eq_join]
  induction ls with
  | nil => rfl
  | cons a r ih =>
    cases r with
    | nil => show tx a = tx (a ++ []); rw [List.append_nil]
    | cons b r =>
      show tx a ++ "" ++ Str.join "" ((b :: r).map tx) = tx (a ++ (b :: r).flatten)
      rw [ih, tx_nil, app_tx, app_tx, List.append_nil]
theorem join_signs (cs : List Nat) : Txt.join "" (cs.map fun c => tx [c]) = tx cs := by
  have h := join_txs (cs.map fun c => [c])
  rw [List.map_map] at h
  have e : ∀ l : List Nat, (l.map fun c => [c]).flatten = l := fun l => by
    induction l with
    | nil => rfl
    | cons a r ih => rw [List.map_cons, List.flatten_cons, ih]; rfl
  rw [e cs] at h
  exact h
theorem sum_signs (cs : List Nat) : ((cs.map fun c => tx [c]).map (·.length)).sum = cs.length := by
  induction cs with
  | nil => rfl
  | cons a r ih =>
    rw [List.map_cons, List.map_cons, List.sum_cons, ih, tx_length, List.length_cons, List.length_cons, List.length_nil]
    omega
theorem Scr.ex {K : PySem.W.Frag} {H H' : Hp} {a : Addr} {ns : List Int} (h : Scr K H a ns) (e : Ex H H') : Scr K H' a ns := by
  rcases h with ⟨o, h⟩ | h
  · exact .inl ⟨o, e.get h⟩
  · exact .inr h
theorem Scr.frp {K : PySem.W.Frag} {H H' : Hp} {a p : Addr} {ns : List Int} (h : Scr K H a ns) (hp : Purse H p) (e : FrP p H H') : Scr K H' a ns := by
  rcases h with ⟨o, h⟩ | h
  · refine .inl ⟨o, e.get (fun z => ?_) h⟩
    obtain ⟨x, y, z', q⟩ := hp
    rw [z, q] at h
    cases h
  · exact .inr h
end Zb
namespace Zb
open PySem PySem.Spec PyProof.Rows L2
def Ites (x : Str) : It := ⟨fun i _ => i < x.cps.size, fun i H v H' => ∃ T c, v = .ref T ∧ H T = none ∧ H' = upd H T (.tup [.int (i : Nat), .str (tx [c])]) ∧ x.cps[i]? = some c, fun i _ => i = x.cps.size⟩
def iEnS (ta : TA) : TI := fun σ H R => ta σ H fun vs H1 => ∃ x, vs = [.str x] ∧ R (Ites x) H1
theorem st_iEnS {ta : TA} {σ : L2.St} {H : Hp} {R : It → Hp → Prop} (h : ta σ H (fun vs H1 => ∃ x, vs = [.str x] ∧ R (Ites x) H1)) : iEnS ta σ H R := h
theorem st_isEnS {x : Str} {P : Str → Prop} (h : P x) : ∃ y, [V.str x] = [.str y] ∧ P y := ⟨x, rfl, h⟩
end Zb
namespace Zb
open PySem PySem.Spec PyProof.Rows L2
def clsA (K : PySem.W.Frag) (nm : Str) : Addr := match PySem.W.nsIn K mainGlobals nm with
  | some (some (.ref C)) => C
  | _ => 0
theorem clsA_of {K : PySem.W.Frag} {nm : Str} {C : Addr} (h : PySem.W.nsIn K mainGlobals nm = some (some (.ref C))) : clsA K nm = C := by unfold clsA; rw [h]
/-- a class that is named in an except clause -/
structure EC (K : PySem.W.Frag) (mg : Str → Option Value) (nm : Str) : Prop where
  g : mg nm = some (.ref (clsA K nm))
  sb : PySem.W.subIn K (.ref (clsA K nm)) (.type "BaseException") = some true
  hd : PySem.W.hasDictIn K (clsA K nm) = true
  ty : PySem.W.typeIn K (.ref (clsA K nm)) = some (.type "type")
/-- what an isinstance, a field, of an exception in hand wants -/
structure XI (K : PySem.W.Frag) (C : Addr) : Prop where
  hc : (PySem.W.clsIn K C).isSome = true
  ga : PySem.W.findIn K (.ref C) "__getattribute__" = some (some (.builtin "BaseException.__getattribute__"))
  gg : PySem.W.findIn K (.ref C) "__getattr__" = some none
  sb : PySem.W.subIn K (.ref C) (.type "BaseException") = some true
  hd : PySem.W.hasDictIn K C = true
  ca : PySem.W.findIn K (.ref C) "__class__" = some (some (.builtin "object.__class__"))
  cn : PySem.W.specialIn K (.builtin "object.__class__") "__get__" = some (some (.builtin "getset_descriptor.__get__"))
  ct : PySem.W.takesIn K (.builtin "object.__class__") = some true
  cm : PySem.W.mroIn K C (.type "object") = some true
theorem EC.xm {K : PySem.W.Frag} {mg : Str → Option Value} {nm : Str} {cls : Value} {b : Bool} (e : EC K mg nm) (h : PySem.W.subIn K cls (.ref (clsA K nm)) = some b) : PySem.W.exmOne K cls (.ref (clsA K nm)) = some b := PySem.W.exm_ref e.sb e.hd e.ty h
theorem EC.kit {K : PySem.W.Frag} {mg : Str → Option Value} {nm : Str} {D : Addr} {b : Bool} (e : EC K mg nm) (h : PySem.W.subIn K (.ref D) (.ref (clsA K nm)) = some b) (hs : PySem.W.subIn K (.ref (clsA K nm)) (.ref (clsA K nm)) = some true) : PySem.W.kitOne K (.ref D) (.ref (clsA K nm)) = some b := by
  unfold PySem.W.kitOne
  by_cases q : D = clsA K nm
  · subst q
    rw [hs] at h
    cases h
    rw [if_pos (beq_self_eq_true _)]
  · have hq : ((Value.ref D) == (Value.ref (clsA K nm))) = false := beq_eq_false_iff_ne.mpr fun z => q (Value.ref.inj z)
    rw [hq, if_neg Bool.false_ne_true]
    show (if ((PySem.W.clsIn K (clsA K nm)).isSome && PySem.W.typeIn K (.ref (clsA K nm)) == some (.type "type")) = true then PySem.W.subIn K (.ref D) (.ref (clsA K nm)) else none) = some b
    obtain ⟨cd, hc, _⟩ := PySem.W.any_some e.hd
    rw [hc, e.ty]
    exact h
theorem kit_ve {K : PySem.W.Frag} {D : Addr} {b : Bool} (h : PySem.W.subIn K (.ref D) (.type "ValueError") = some b) : PySem.W.kitOne K (.ref D) (.type "ValueError") = some b := by
  unfold PySem.W.kitOne
  have hq : ((Value.ref D) == (Value.type "ValueError")) = false := rfl
  rw [hq, if_neg Bool.false_ne_true]
  show (if PySem.W.kitMeta "ValueError" = true then PySem.W.subIn K (.ref D) (.type "ValueError") else none) = some b
  rw [if_pos (by decide +kernel)]
  exact h
abbrev Cl := Value × Option Nat × (Addr → Value → Option Addr → TS)
def goneD (i : Nat) (D : Ends) : Ends := { nx := fun σ' H' => D.nx (σ'.set i none) H', rt := D.rt, bk := fun σ' H' => D.bk (σ'.set i none) H', ct := fun σ' H' => D.ct (σ'.set i none) H' }
def clD : Option Nat → Ends → Ends
  | none, D => D
  | some i, D => goneD i D
def clS : Option Nat → Addr → L2.St → L2.St
  | none, _, σ => σ
  | some i, a, σ => σ.set i (some (.ref a))
def wG (K : PySem.W.Frag) (Wout : WX) (D : Ends) : List Cl → WX
  | [] => Wout
  | (c, i, ts) :: r => fun cls d σ H => ∃ b, PySem.W.exmOne K cls c = some b ∧ (b = true → ∀ a, H a = none → ts a cls d (clD i D) (clS i a σ) H) ∧ (b = false → wG K Wout D r cls d σ H)
inductive HdG (X : Cx) : List ExceptHandler → List Cl → Prop
  | nil : HdG X [] []
  | one {x : Str} {c : Value} {ts : Addr → Value → Option Addr → TS} {b₀ : Stmt} {suite : List Stmt} {np pos' : Pos} {hds : List ExceptHandler} {l : List Cl} (hc : Names X x c)
      (hsu : ∀ (a : Addr) (oe : Obj) (cls : Value) (d : Option Addr) (pn : List (Addr × Obj)), Zc cls d oe → (∃ vs, oe.data = .fields vs) → PSs (X.suite a ((a, oe) :: pn)) (b₀ :: suite) (ts a cls d)) (r : HdG X hds l) :
      HdG X (.ExceptHandler (some (.Name x np)) none (b₀ :: suite) pos' :: hds) ((c, none, ts) :: l)
  | named {x n : Str} {c : Value} {i : Nat} {ts : Addr → Value → Option Addr → TS} {b₀ : Stmt} {suite : List Stmt} {np pos' : Pos} {hds : List ExceptHandler} {l : List Cl} (hN : X.N.Nodup) (hi : X.N[i]? = some n) (hln : X.env.kindOf n = some .local) (hc : Names X x c)
      (hsu : ∀ (a : Addr) (oe : Obj) (cls : Value) (d : Option Addr) (pn : List (Addr × Obj)), Zc cls d oe → (∃ vs, oe.data = .fields vs) → PSs (X.suite a ((a, oe) :: pn)) (b₀ :: suite) (ts a cls d)) (r : HdG X hds l) :
      HdG X (.ExceptHandler (some (.Name x np)) (some n) (b₀ :: suite) pos' :: hds) ((c, some i, ts) :: l)
section
variable {X : Cx} {body orelse : List Stmt} {h₀ : ExceptHandler} {hds : List ExceptHandler} {l : List Cl} {pos : Pos} {tb : WX → TS} {u : TS} {Wout : WX}
def tTry (K : PySem.W.Frag) (Wout : WX) (tb : WX → TS) (u : TS) (l : List Cl) : TS := fun D σ H => tb (wG K Wout D l) { D with nx := u D } σ H
theorem ps_tryG (hs : X.stack = X.env :: X.outer) (hf : X.env.frame = some X.env.locals) (tk : Takes X Wout)
    (hb : ∀ (W : WX) (pn : List (Addr × Obj)) (xe : Value → Shared → Prop), Takes (X.tr pn xe) W → PassesOwn (model X.prog X.w) X.A X.env xe → PSs (X.tr pn xe) body (tb W))
    (hh : HdG X (h₀ :: hds) l) (ho : PSs X orelse u) : PS X (.Try body (h₀ :: hds) orelse [] pos) (tTry X.K Wout tb u l) := by
  refine ⟨fun pins s σ H D I h => ?_⟩
  have ok := I.ok
  have hfr : X.A.frames = some (X.env :: X.outer) := by rw [ok.frames, hs]
  refine wpAny_Try_except ?_
  refine wpAny_mono ((hb (wG X.K Wout D l) (X.pn ++ pins) (fun e s₁ => wpAny (model X.prog X.w) X.A (noteFrame e X.env) (fun _ s₂ => wpAny (model X.prog X.w) X.A (setFlight e none) (fun _ s₃ =>
    wpAny (model X.prog X.w) X.A (handleBy e X.env (h₀ :: hds)) (SP X pins D) X.xe s₃) X.xe s₂) X.xe s₁) (fun u s' xx => ?_) PassesOwn.looking).run [] s σ H { D with nx := u D } (I.toTry _) h) (fun f s1 hsp => ?_) (fun e s1 he => he)
  · obtain ⟨a, B, sI, pins', σ', H', cls, d, rfl, J', nb, up, sky, na, os, ag, w⟩ := xx
    have J : Inv X pins σ' H' sI := J'.ofTry ok
    have sky' : Sky B (X.env :: X.outer) a (Zc cls d) X.env.locals s'.heap := by rw [← hs]; exact sky
    show wpAny (model X.prog X.w) X.A (noteFrame (.ref a) X.env) _ _ _
    refine Sky.land Zc.steady hfr hf sky' fun h3 fl3 up3 => ?_
    have J3 : Inv X pins σ' H' { s' with heap := h3 } := J.landed nb fl3.1 (up.trans up3) os ag
    obtain ⟨oe3, vs3, he3, hz3, hd3⟩ := fl3.there
    have notFr : ∀ {h : Heap} {o : Obj} {vs : Array Value}, h.FunFrames B (X.env :: X.outer) → h.get? a = some o → o.data = .fields vs → a ∉ frs (X.env :: X.outer) := fun {h o vs} ff e dd hm => by
      obtain ⟨_, o', e', hnf⟩ := ff.mem hm
      rw [e] at e'; cases e'
      exact hnf _ dd
    have nfr := notFr fl3.2.2.1 he3 hd3
    have nL : a ≠ X.env.locals := fun z => nfr (List.mem_filterMap.mpr ⟨X.env, List.mem_cons_self, by rw [hf, z]⟩)
    have nF : a ∉ X.fs := fun hm => by
      obtain ⟨e, he, q⟩ := List.mem_filterMap.mp hm
      exact nfr (List.mem_filterMap.mpr ⟨e, List.mem_cons_of_mem _ he, q⟩)
    have S3 := J3.suite he3 hd3 na nL nF
    have LT : PySem.W.Looks (model X.prog X.w) h3 (typeOf (.ref a)) cls := fun A Q E s k q => wpAny_typeOf_ref (k _ _ he3) (by rw [hz3.1]; exact q)
    have test : ∀ {x : Str} {c : Value} {np : Pos} {Q : Value → Shared → Prop} {E : Value → Shared → Prop}, Names X x c → Q c { s' with heap := h3 } → wpAny (model X.prog X.w) (X.A.mark (some (.ref a))) (eval (.Name x np) X.env) Q E { s' with heap := h3 } := fun {x c np Q E} hc q => by
      obtain ⟨hg, hdbg, hm | ⟨hm, hv, hnn⟩⟩ := hc
      · exact ld_glob (X := X.suite a ((a, oe3) :: (X.pn ++ pins))) S3 hg hm q hdbg
      · exact ld_blt (X := X.suite a ((a, oe3) :: (X.pn ++ pins))) S3 hg hm hv q hnn hdbg
    have go : ∀ {hds' : List ExceptHandler} {l' : List Cl}, HdG X hds' l' → wG X.K Wout D l' cls d σ' H' →
        wpAny (model X.prog X.w) X.A (handleBy (.ref a) X.env hds') (SP X pins D) X.xe { s' with heap := h3 } := by
      intro hds' l' hk
      induction hk with
      | nil =>
        intro w
        refine wpAny_handleBy_nil ?_
        obtain ⟨k1, k2, k3, oe, vs, T, oT, ts', he, hz, hd, h1, hr⟩ := id fl3
        unfold PySem.passOn
        refine wpAny_bind (wpAny_field he hd h1 ?_)
        rw [if_neg (show ¬ ((Value.ref T == Value.none) = true) from by simp)]
        have fin : wpAny (model X.prog X.w) X.A (setFlight (.ref a) X.env.frame) (fun _ s4 => wpAny (model X.prog X.w) X.A (throw (.ref a) : Sem Flow) (SP X pins D) X.xe s4) X.xe { s' with heap := h3 } := by
          rw [hf]
          refine HandSPX.setFlight_upZ fl3 fun h4 hh4 up4 => wpAny_throw (tk _ _ ?_)
          exact ⟨a, B, sI, pins, σ', H', cls, d, rfl, J, nb, (up.trans up3).trans up4, .inr (.inr (by rw [hs]; exact hh4)), na, os, ag, w⟩
        first
          | exact wpAny_bind (wpAny_pure (wpAny_bind fin))
          | exact wpAny_bind fin
      | @one x c ts b₀ suite np pos' hds2 l2 hc hsu r ih =>
        intro w
        obtain ⟨b, hb1, hyes, hno⟩ := w
        refine wpAny_handleBy_cons (codeAny_handlers_test ?_) (by intro q; cases q)
        have LM := PySem.W.exm_one (M := model X.prog X.w) (J3.kIn) LT hb1
        refine test hc (LM.here ?_)
        cases b with
        | true =>
          refine codeAny_handlers_suite ?_
          refine HandSPX.lands_againZ fl3 fun h4 fl4 up4 => ?_
          have J4 : Inv X pins σ' H' { s' with heap := h4 } := J.landed nb fl4.1 ((up.trans up3).trans up4) os ag
          obtain ⟨oe4, vs4, he4, hz4, hd4⟩ := fl4.there
          have S4 := J4.suite he4 hd4 na nL nF
          refine wpAny_mono ((hsu a oe4 cls d (X.pn ++ pins) hz4 ⟨_, hd4⟩).run [] _ _ H' _ S4 (hyes rfl a na)) (fun f s6 hsp => ?_) (fun _ _ z => False.elim z)
          cases f with
          | next =>
            obtain ⟨σ6, H6, S6, q6⟩ := hsp
            exact ⟨_, _, S6.unsuite ok, q6⟩
          | brk =>
            obtain ⟨σ6, H6, S6, q6⟩ := hsp
            exact ⟨_, _, S6.unsuite ok, q6⟩
          | cont =>
            obtain ⟨σ6, H6, S6, q6⟩ := hsp
            exact ⟨_, _, S6.unsuite ok, q6⟩
          | ret u =>
            obtain ⟨v6, σ6, H6, S6, r6, q6⟩ := hsp
            exact ⟨_, _, _, S6.unsuite ok, r6, q6⟩
        | false =>
          show wpAny _ X.A (handleBy (.ref a) X.env hds2) _ _ _
          exact ih (hno rfl)
      | @named x n c i ts b₀ suite np pos' hds2 l2 hN hi hln hc hsu r ih =>
        intro w
        obtain ⟨b, hb1, hyes, hno⟩ := w
        refine wpAny_handleBy_cons (codeAny_handlers_test ?_) (by intro q; cases q)
        have LM := PySem.W.exm_one (M := model X.prog X.w) (J3.kIn) LT hb1
        refine test hc (LM.here ?_)
        have hloc : Loc X.env.scope n := .inl hln
        cases b with
        | true =>
          refine codeAny_handlers_suite_as ?_
          refine HandSPX.lands_againZ fl3 fun h4 fl4 up4 => ?_
          have J4 : Inv X pins σ' H' { s' with heap := h4 } := J.landed nb fl4.1 ((up.trans up3).trans up4) os ag
          obtain ⟨oe4, vs4, he4, hz4, hd4⟩ := fl4.there
          have S4 := J4.suite he4 hd4 na nL nF
          refine store_ok (X := X.suite a ((a, oe4) :: (X.pn ++ pins))) (v := .ref a) S4 hN hi hloc rfl (fun s5 S5 => ?_) (.inr hln)
          refine wpAny_mono ((hsu a oe4 cls d (X.pn ++ pins) hz4 ⟨_, hd4⟩).run [] s5 _ H' _ S5 (hyes rfl a na)) (fun f s6 hsp => ?_) (fun _ _ z => False.elim z)
          have end_ : ∀ {σ6 : L2.St} {H6 : Hp} {Q : Shared → Prop}, Inv (X.suite a ((a, oe4) :: (X.pn ++ pins))) [] σ6 H6 s6 → (∀ s7, Inv X pins (σ6.set i none) H6 s7 → Q s7) →
              wpAny (model X.prog X.w) X.A (do bindName X.env n .none; unbindBehindTheSuite X.env n pos') (fun _ s7 => Q s7) X.xe s6 := fun {σ6 H6 Q} S6 hq => gone_ok (S6.unsuite ok) hN hi hln hq
          cases f with
          | next =>
            obtain ⟨σ6, H6, S6, q6⟩ := hsp
            exact end_ S6 fun s7 J7 => ⟨_, _, J7, q6⟩
          | brk =>
            obtain ⟨σ6, H6, S6, q6⟩ := hsp
            exact end_ S6 fun s7 J7 => ⟨_, _, J7, q6⟩
          | cont =>
            obtain ⟨σ6, H6, S6, q6⟩ := hsp
            exact end_ S6 fun s7 J7 => ⟨_, _, J7, q6⟩
          | ret u =>
            obtain ⟨v6, σ6, H6, S6, r6, q6⟩ := hsp
            exact end_ S6 fun s7 J7 => ⟨_, _, _, J7, r6, q6⟩
        | false =>
          show wpAny _ X.A (handleBy (.ref a) X.env hds2) _ _ _
          exact ih (hno rfl)
    exact go hh w
  · cases f with
    | next =>
      obtain ⟨σ', H', J', q⟩ := hsp
      exact ho.run pins s1 σ' H' D (J'.ofTry ok) q
    | brk =>
      obtain ⟨σ', H', J', q⟩ := hsp
      exact ⟨σ', H', J'.ofTry ok, q⟩
    | cont =>
      obtain ⟨σ', H', J', q⟩ := hsp
      exact ⟨σ', H', J'.ofTry ok, q⟩
    | ret u =>
      obtain ⟨v, σ', H', J', r, q⟩ := hsp
      exact ⟨v, σ', H', J'.ofTry ok, r, q⟩
end
def XeP (K : PySem.W.Frag) (a : Addr) (cls : Value) (d : Option Addr) (n : Str) (Q : VK) : VK := fun x H1 => x = .ref a ∧ ∃ C, cls = .ref C ∧ XI K C ∧ PySem.W.findIn K (.ref C) n = some none ∧ ∃ (dd : Addr) (fs : List (Str × V)) (v : V), d = some dd ∧ H1 dd = some (.xd fs) ∧ fs.lookup n = some v ∧ Q v H1
def tXe (K : PySem.W.Frag) (a : Addr) (cls : Value) (d : Option Addr) (n : Str) (te : TE) : TE := fun σ H Q => te σ H (XeP K a cls d n Q)
theorem pe_xe {X : Cx} {a : Addr} {oe : Obj} {cls : Value} {d : Option Addr} {pn : List (Addr × Obj)} {e : Expr} {te : TE} {pos : Pos} {n : Str}
    (hz : Zc cls d oe) (hf : ∃ vs, oe.data = .fields vs) (he : PE (X.suite a ((a, oe) :: pn)) e te) (hb : attributeBase e n X.env (eval e X.env) = eval e X.env := by rfl) :
    PE (X.suite a ((a, oe) :: pn)) (.Attribute e n pos) (tXe X.K a cls d n te) := by
  refine ⟨fun pins s σ H Q I h => ?_⟩
  refine attr_of hb (thn (he.run pins s σ H _ I h) fun u s1 hh => ?_)
  obtain ⟨x, H1, I1, rx, ex, C, ec, T, hno, dd, fs, v, ed, ea, l, q⟩ := hh
  subst ex
  obtain rfl : u = Value.ref a := rx
  subst ec
  subst ed
  obtain ⟨ha, _⟩ := I1.pin (a, oe) (List.mem_append_left _ List.mem_cons_self)
  obtain ⟨vs, hd⟩ := hf
  have hx : ObjOk X.prog X.w H1 s1.heap dd (.xd fs) := I1.hok dd _ ea
  obtain ⟨mA, hns, hr⟩ := hx
  obtain ⟨od, ho, hl⟩ := lookIn_ns hns
  obtain ⟨u, hu, ru⟩ := RelO.some_of (v := v) (o := mA n) (by rw [← l]; exact hr n)
  have J : PySem.W.InstAt s1.heap a oe C (some od) := ⟨ha, hz.1, by unfold PySem.W.notCls; rw [hd] <;> rfl, by rw [hz.2]; exact ho⟩
  exact HandSPX.exc_get I1.kIn J T.ga T.gg T.sb (PySem.W.findObj_own T.hd hno rfl (by rw [hl, hu])) (handed_of ru) ⟨v, H1, I1.tok _, ru, q⟩
def rIsX (K : PySem.W.Frag) (a : Addr) (cls : Value) (d : Option Addr) : List V → Hp → VK → Prop := fun xs H Q => ∃ (c : V) (cv : Value) (b : Bool) (C dd : Addr) (fs : List (Str × V)), xs = [.ref a, c] ∧ (∀ u, RelV c u → u = cv) ∧ cls = .ref C ∧ XI K C ∧ d = some dd ∧ H dd = some (.xd fs) ∧ PySem.W.kitOne K (.ref C) cv = some b ∧ Q (.bl b) H
theorem call_isX {X : Cx} {a : Addr} {cls : Value} {d : Option Addr} {oe : Obj} {pn : List (Addr × Obj)} (hz : Zc cls d oe) (hf : ∃ vs, oe.data = .fields vs) : CallR (X.suite a ((a, oe) :: pn)) (.builtin "isinstance") (rIsX X.K a cls d) := by
  intro pins s σ H xs us Q I r h
  obtain ⟨c, cv, b, C, dd, fs, rfl, hcv, ec, T, ed, ea, e, q⟩ := h
  subst ec
  subst ed
  cases r with
  | cons rx rr =>
    cases rr with
    | cons rt rr =>
      cases rr
      cases rx
      have ecv := hcv _ rt
      subst ecv
      obtain ⟨hget, _⟩ := I.pin (a, oe) (List.mem_append.mpr (.inl List.mem_cons_self))
      obtain ⟨vs, hv⟩ := hf
      have hx : ObjOk X.prog X.w H s.heap dd (.xd fs) := I.hok dd _ ea
      obtain ⟨mA, hns, hr⟩ := hx
      obtain ⟨od, ho, hl⟩ := lookIn_ns hns
      have J : PySem.W.InstAt s.heap a oe C (some od) := ⟨hget, hz.1, by unfold PySem.W.notCls; rw [hv] <;> rfl, by rw [hz.2]; exact ho⟩
      exact PySem.W.kia_one (PySem.W.kitx_exc T.hc T.ga T.gg T.sb T.ca T.cn T.ct T.cm) I.kIn J e (fun z => nomatch z) fun tk => ⟨.bl b, H, I.kept (t' := tk) fun _ _ z => z, rfl, q⟩
structure BI (K : PySem.W.Frag) (mg : Str → Option Value) (nm : Str) : Prop where
  g : mg nm = some (.ref (clsA K nm))
  ga : PySem.W.specialIn K (.ref (clsA K nm)) "__getattribute__" = some (some (.builtin "type.__getattribute__"))
  rd : PySem.W.readsIn K (clsA K nm) (.type "type") = true
  fi : PySem.W.findCls K (.ref (clsA K nm)) (.type "type") "__init__" = some (.val (.builtin "ValueError.__init__"))
section
variable {X : Cx} {e : Expr} {es : List Expr} {ta : TA} {p1 p2 pos : Pos} {nm : Str}
theorem pe_oinit {pl : Sem Bool} (B : BI X.K X.mg nm) (hg : Gl X nm) (ha : PA X (e :: es) ta) (hdb : (nm == ("__debug__" : Str)) = false := by decide)
    (hc : eval (.Call (.Attribute (.Name nm p1) "__init__" p2) (e :: es) [] pos) X.env = (do
      let ov ← eval (.Name nm p1) X.env
      standAt p2.atName
      let (f, first) ← holding [ov] (getMethod ov "__init__" pl)
      callWith pos f first (backTo pos (starEach (e :: es) X.env)) (backToKw pos (keywordEach [] X.env))) := by rfl)
    (he : starEach (e :: es) X.env = (false, eval e X.env) :: starEach es X.env := by rfl) (hpl : (backTo pos (starEach es X.env)).any (·.1) = false := by rfl) :
    PE X (.Call (.Attribute (.Name nm p1) "__init__" p2) (e :: es) [] pos) (tVeI X.K ta) := by
  refine ⟨fun pins s σ H Q I h => ?_⟩
  refine PySem.W.methodCall_KW (ld_glob I hg B.g ?_ hdb) hc
  refine PySem.W.method_cls I.kIn B.ga (PySem.W.cls_value I.kIn B.rd B.fi (by decide +kernel) ?_)
  show wpAny _ _ (callWith pos (Value.builtin "ValueError.__init__") [] (backTo pos (starEach (e :: es) X.env)) []) _ _ _
  refine PyProof.Rows.callWith_method1 (thn (ha.run pos pins _ σ H _ (I.tok _) h) fun us s1 ⟨vs, H1, I1, r1, a, C, ws, ev, hl, T, ea, q⟩ => ?_) he hpl
  subst ev
  cases r1 with
  | @cons _ u0 _ ur ra rw' =>
    obtain rfl : u0 = Value.ref a := ra
    have hlen : ur.length ≤ sizeLine := by
      rw [← Paired.length rw', sizeLine_eq]
      omega
    exact oinit_ok T I1 ea hlen fun s' J => ⟨.non, H1, J, rfl, q⟩
end
/-- its __init__ of one field, of two -/
def spI1 (K : PySem.W.Frag) (f : Str) : Sp := fun vs H Q _ => ∃ (a C : Addr) (y : V), vs = [.ref a, y] ∧ OexC K C ∧ PySem.W.findIn K (.ref C) f = some none ∧ H a = some (exo a C none) ∧
  ∀ dx, H dx = none → dx ≠ a → Q .non (upd (upd H dx (exd dx [(f, y)])) a (exo a C (some dx)))
def spI2 (K : PySem.W.Frag) (f g : Str) : Sp := fun vs H Q _ => ∃ (a C : Addr) (y z : V), vs = [.ref a, y, z] ∧ OexC K C ∧ PySem.W.findIn K (.ref C) f = some none ∧ PySem.W.findIn K (.ref C) g = some none ∧ H a = some (exo a C none) ∧
  ∀ dx, H dx = none → dx ≠ a → Q .non (upd (upd (upd H dx (exd dx [(f, y)])) a (exo a C (some dx))) dx (exd dx [(g, z), (f, y)]))
structure EX (P : Program) (w : World) (K : PySem.W.Frag) (mg : Str → Option Value) (base : Heap) (nm : Str) (ps : List Str) (sp : Sp) : Prop where
  g : mg nm = some (.ref (clsA K nm))
  o : OexC K (clsA K nm)
  i : ∃ (fI : Addr) (fd : FuncData), PySem.W.findIn K (.ref (clsA K nm)) "__init__" = some (some (.ref fI)) ∧ PySem.W.typeIn K (.ref fI) = some (.type "function") ∧ FnOk P w K mg base CX0 1 fI fd ps sp ∧ Binds K fd ps []
def MkG (C : Addr) (sp : Sp) (vs : List V) (Q : XK) (H1 : Hp) : Prop := vs.length ≤ 1000 ∧ ∀ a, H1 a = none → sp (.ref a :: (vs ++ [])) (upd H1 a (exo a C none))
  (fun v H2 => v = .non ∧ ∃ (d : Addr) (fs : List (Str × V)), H2 a = some (exo a C (some d)) ∧ H2 d = some (exd d fs) ∧ H1 d = none ∧ Q (.ref C) (some d) (upd (del H2 a) d (.xd fs))) (fun _ _ _ => False)
def tRaise (C : Addr) (sp : Sp) (W : WX) (ta : TA) : TS := fun _ σ H => ta σ H fun vs H1 => MkG C sp vs (fun cls d H' => W cls d σ H') H1
section
variable {X : Cx} {e : Expr} {es : List Expr} {ta : TA} {p pos pos2 : Pos} {nm : Str} {ps : List Str} {sp : Sp} {W : WX}
theorem ps_raiseG (hc : X.calm = true) (T : EX X.prog X.w X.K X.mg X.base nm ps sp) (hr : Room 2 X.A) (tk : Takes X W) (hg : Gl X nm) (ha : PA X (e :: es) ta)
    (hdb : (nm == ("__debug__" : Str)) = false := by decide) (he : starEach (e :: es) X.env = (false, eval e X.env) :: starEach es X.env := by rfl) (hpl : (backTo pos (starEach es X.env)).any (·.1) = false := by rfl) :
    PS X (.Raise (some (.Call (.Name nm p) (e :: es) [] pos)) none pos2) (tRaise (clsA X.K nm) sp W ta) := by
  obtain ⟨fI, fd, i1, i2, i3, i4⟩ := T.i
  exact ps_raise hc tk (pmk_oex (dvs := []) T.o i1 i2 i3 hr i4 .nil pass0 hg T.g ha hdb he hpl)
end
theorem mk_heap {H1 : Hp} {a dx : Addr} {o1 o2 o3 u : HO} (hn : H1 a = none) (ne : dx ≠ a) : upd (del (upd (upd (upd H1 a o1) dx o2) a o3) a) dx u = upd H1 dx u := by
  funext b
  by_cases h1 : b = dx
  · rw [h1, upd_same, upd_same]
  · rw [upd_ne h1, upd_ne h1]
    by_cases h2 : b = a
    · rw [h2, del_same, hn]
    · rw [del_ne h2, upd_ne h2, upd_ne h1, upd_ne h2]
theorem mk_heap2 {H1 : Hp} {a dx : Addr} {o1 o2 o3 o4 u : HO} (hn : H1 a = none) (ne : dx ≠ a) : upd (del (upd (upd (upd (upd H1 a o1) dx o2) a o3) dx o4) a) dx u = upd H1 dx u := by
  funext b
  by_cases h1 : b = dx
  · rw [h1, upd_same, upd_same]
  · rw [upd_ne h1, upd_ne h1]
    by_cases h2 : b = a
    · rw [h2, del_same, hn]
    · rw [del_ne h2, upd_ne h1, upd_ne h2, upd_ne h1, upd_ne h2]
section
variable {K : PySem.W.Frag} {C : Addr} {Q : XK} {H : Hp} {f g : Str}
theorem st_mk1 {v : V} (T : OexC K C) (hf : PySem.W.findIn K (.ref C) f = some none) (h : ∀ d H', H d = none → Ex H H' → H' d = some (.xd [(f, v)]) → Q (.ref C) (some d) H') : MkG C (spI1 K f) [v] Q H := by
  refine ⟨(by decide : 1 ≤ 1000), fun a ha => ⟨a, C, v, rfl, T, hf, upd_same, fun dx hdx ne => ⟨rfl, dx, [(f, v)], upd_same, ?_, ?_, ?_⟩⟩⟩
  · rw [upd_ne ne]; exact upd_same
  · rw [upd_ne ne] at hdx; exact hdx
  · rw [upd_ne ne] at hdx
    rw [mk_heap ha ne]
    exact h dx _ hdx (Fr.new hdx) upd_same
theorem st_mk2 {v z : V} (T : OexC K C) (hf : PySem.W.findIn K (.ref C) f = some none) (hg : PySem.W.findIn K (.ref C) g = some none) (h : ∀ d H', H d = none → Ex H H' → H' d = some (.xd [(g, z), (f, v)]) → Q (.ref C) (some d) H') : MkG C (spI2 K f g) [v, z] Q H := by
  refine ⟨(by decide : 2 ≤ 1000), fun a ha => ⟨a, C, v, z, rfl, T, hf, hg, upd_same, fun dx hdx ne => ⟨rfl, dx, [(g, z), (f, v)], ?_, upd_same, ?_, ?_⟩⟩⟩
  · rw [upd_ne (Ne.symm ne)]; exact upd_same
  · rw [upd_ne ne] at hdx; exact hdx
  · rw [upd_ne ne] at hdx
    rw [mk_heap2 ha ne]
    exact h dx _ hdx (Fr.new hdx) upd_same
end
structure IniF (K : PySem.W.Frag) (nm qual : Str) (st : Stmt) (ps : List Str) : Prop where
  ex : ∃ (fI : Addr) (fd : FuncData), PySem.W.findIn K (.ref (clsA K nm)) "__init__" = some (some (.ref fI)) ∧ PySem.W.typeIn K (.ref fI) = some (.type "function") ∧ Fun K "__init__" qual st fI fd ∧ Binds K fd ps []
theorem ini_mk {K : PySem.W.Frag} {nm qual : Str} {st : Stmt} {ps : List Str} {f : Addr} {oc : Value} {od an : Option Addr} {osl : Array (Option Value)} {kV dc pm cd ct : Value} (i : PySem.W.findIn K (.ref (clsA K nm)) "__init__" = some (some (.ref f))) (t : PySem.W.typeIn K (.ref f) = some (.type "function"))
    (l : K.lookup f = some ⟨oc, od, .func (PySem.W.fnOf "__init__" qual (defArgs st) (defBody st) (defScope st) .none kV dc pm an cd ct), osl⟩) (c : PySem.W.codeIn K cd qual = true) (k : PySem.W.keepIn K (.ref f) = true)
    (hb : ∀ (kV doc pm : Value) (an : Option Addr) (cdv ct : Value) (us : List Value), us.length = ps.length → bindArgs (PySem.W.fnOf "__init__" qual (defArgs st) (defBody st) (defScope st) .none kV doc pm an cdv ct) ⟨us, []⟩ = pure (ps.zip us)) : IniF K nm qual st ps :=
  have F := fun_mk (st := st) l c k
  ⟨f, _, i, t, F, F.binds hb⟩
theorem xi_mk {K : PySem.W.Frag} {C : Addr} (ga : PySem.W.findIn K (.ref C) "__getattribute__" = some (some (.builtin "BaseException.__getattribute__"))) (gg : PySem.W.findIn K (.ref C) "__getattr__" = some none) (sb : PySem.W.subIn K (.ref C) (.type "BaseException") = some true) (hd : PySem.W.hasDictIn K C = true)
    (ca : PySem.W.findIn K (.ref C) "__class__" = some (some (.builtin "object.__class__"))) (cn : PySem.W.specialIn K (.builtin "object.__class__") "__get__" = some (some (.builtin "getset_descriptor.__get__"))) (ct : PySem.W.takesIn K (.builtin "object.__class__") = some true) (cm : PySem.W.mroIn K C (.type "object") = some true) : XI K C :=
  ⟨by obtain ⟨cd, hc, _⟩ := PySem.W.any_some hd; rw [hc]; rfl, ga, gg, sb, hd, ca, cn, ct, cm⟩
theorem ini1_go {K : PySem.W.Frag} {f tx : Str} {a C : Addr} {y : V} {H : Hp} {Q : VK} (hO : OexC K C) (hn : PySem.W.findIn K (.ref C) f = some none) (ha : H a = some (exo a C none))
    (k : ∀ dx, H dx = none → dx ≠ a → Q .non (upd (upd H dx (exd dx [(f, y)])) a (exo a C (some dx)))) :
    tSeq (tDrop (tVeI K (tCons (tVar 0) (tCons (tC (.str tx)) tNil)))) (tOst K f (tVar 0) (tVar 1)) { nx := fun _ H' => Q .non H', rt := Q } [some (.ref a), some y] H :=
  ⟨.ref a, rfl, a, C, [.str tx], rfl, Nat.le_of_ble_eq_true rfl, hO, ha, y, rfl, .ref a, rfl, a, C, rfl, hO, hn, .inl ⟨ha, k⟩⟩
/-- a thing of a kind that is known; a text not too long -/
def Thg (H : Hp) (v : V) : Prop := Ty H v ∧ ∀ z, v = .str z → z.length ≤ 16777216
theorem Thg.ex {H H' : Hp} {v : V} (h : Thg H v) (e : Ex H H') : Thg H' v := ⟨h.1.ex e, h.2⟩
/-- an error of the class nm that holds these fields is let out -/
def RaF (K : PySem.W.Frag) (E : XK) (H : Hp) (nm : Str) (fs : List (Str × V)) : Prop := ∀ d H', H d = none → Ex H H' → H' d = some (.xd fs) → E (.ref (clsA K nm)) (some d) H'
abbrev RaR (K : PySem.W.Frag) (E : XK) (H : Hp) (nm f : Str) (v : V) : Prop := RaF K E H nm [(f, v)]
theorem RaF.ex {K : PySem.W.Frag} {E : XK} {H H1 : Hp} {nm : Str} {fs : List (Str × V)} (h : RaF K E H nm fs) (e : Ex H H1) : RaF K E H1 nm fs := fun d H' h1 h2 h3 => h d H' (Ex.free e h1) (e.trans h2) h3
section
variable {D : Ends} {σ : L2.St} {H : Hp} {Q : VK} {K : PySem.W.Frag}
theorem st_raise {C : Addr} {sp : Sp} {W : WX} {ta : TA} (h : ta σ H fun vs H1 => MkG C sp vs (fun cls d H' => W cls d σ H') H1) : tRaise C sp W ta D σ H := h
theorem st_try {Wout : WX} {tb : WX → TS} {u : TS} {l : List Cl} (h : tb (wG K Wout D l) { D with nx := u D } σ H) : tTry K Wout tb u l D σ H := h
theorem st_callS {sp : Sp} {W : WX} {t : TA} (h : t σ H fun vs H1 => sp vs H1 Q (WE W σ)) : tCallS sp (WE W) t σ H Q := h
theorem st_hYn {Wout : WX} {c : Value} {i : Nat} {ts : Addr → Value → Option Addr → TS} {r : List Cl} {cls : Value} {d : Option Addr} (e : PySem.W.exmOne K cls c = some true) (h : ∀ a, H a = none → ts a cls d { nx := fun σ' H' => D.nx (σ'.set i none) H', rt := D.rt, bk := fun σ' H' => D.bk (σ'.set i none) H', ct := fun σ' H' => D.ct (σ'.set i none) H' } (σ.set i (some (.ref a))) H) : wG K Wout D ((c, some i, ts) :: r) cls d σ H := ⟨true, e, fun _ => h, fun z => nomatch z⟩
theorem st_hY0 {Wout : WX} {c : Value} {ts : Addr → Value → Option Addr → TS} {r : List Cl} {cls : Value} {d : Option Addr} (e : PySem.W.exmOne K cls c = some true) (h : ∀ a, H a = none → ts a cls d D σ H) : wG K Wout D ((c, none, ts) :: r) cls d σ H := ⟨true, e, fun _ => h, fun z => nomatch z⟩
theorem st_hN {Wout : WX} {c : Value} {i : Option Nat} {ts : Addr → Value → Option Addr → TS} {r : List Cl} {cls : Value} {d : Option Addr} (e : PySem.W.exmOne K cls c = some false) (h : wG K Wout D r cls d σ H) : wG K Wout D ((c, i, ts) :: r) cls d σ H := ⟨false, e, (fun z => by cases z), fun _ => h⟩
theorem st_xe {a : Addr} {cls : Value} {d : Option Addr} {n : Str} {te : TE} (h : te σ H (XeP K a cls d n Q)) : tXe K a cls d n te σ H Q := h
theorem st_xeP {a C dd : Addr} {n : Str} {fs : List (Str × V)} {v : V} (T : XI K C) (hno : PySem.W.findIn K (.ref C) n = some none) (h1 : H dd = some (.xd fs)) (h2 : fs.lookup n = some v) (h : Q v H) : XeP K a (.ref C) (some dd) n Q (.ref a) H := ⟨rfl, C, rfl, T, hno, dd, fs, v, rfl, h1, h2, h⟩
theorem st_isX {a C C' dd : Addr} {fs : List (Str × V)} {b : Bool} (T : XI K C) (h1 : H dd = some (.xd fs)) (e : PySem.W.kitOne K (.ref C) (.ref C') = some b) (h : Q (.bl b) H) : rIsX K a (.ref C) (some dd) [.ref a, .ref C'] H Q := ⟨.ref C', .ref C', b, C, dd, fs, rfl, fun _ r => r, rfl, T, rfl, h1, e, h⟩
theorem st_isXT {a C dd : Addr} {fs : List (Str × V)} {n : String} {b : Bool} (T : XI K C) (h1 : H dd = some (.xd fs)) (e : PySem.W.kitOne K (.ref C) (.type n) = some b) (h : Q (.bl b) H) : rIsX K a (.ref C) (some dd) [.ref a, .ty n] H Q := ⟨.ty n, .type n, b, C, dd, fs, rfl, fun _ r => r, rfl, T, rfl, h1, e, h⟩
end
end Zb
namespace Zb
open PySem PySem.Spec PyProof.Rows L2
abbrev ixSt (lo hi : Option Int) (k : Int) (n : Nat) : List Nat := Builtin.Str.strSliceIndices lo hi k n
def pick {α : Type} (is : List Nat) (xs : List α) : List α := is.filterMap (xs[·]?)
theorem vals_pick {xs : List V} {its : List Value} (r : Vals xs its) : ∀ is : List Nat, Vals (pick is xs) (pick is its)
  | [] => .nil
  | i :: is => by
    have ih := vals_pick r is
    unfold pick at ih ⊢
    rw [List.filterMap_cons, List.filterMap_cons]
    cases e : xs[i]? with
    | some v =>
      obtain ⟨u, hu, ru⟩ := r.get e
      rw [hu]
      exact .cons ru ih
    | none =>
      have hl := r.length
      rw [List.getElem?_eq_none (by rw [List.getElem?_eq_none_iff] at e; omega)]
      exact ih
theorem pick_get {α : Type} {xs : List α} : ∀ {is : List Nat}, (∀ j ∈ is, j < xs.length) → ∀ i : Nat, (pick is xs)[i]? = is[i]?.bind (xs[·]?)
  | [], _, i => by simp [pick]
  | j :: is, h, i => by
    have hj := h j List.mem_cons_self
    have ih := pick_get (xs := xs) (is := is) fun k hk => h k (List.mem_cons_of_mem _ hk)
    unfold pick at ih ⊢
    rw [List.filterMap_cons, List.getElem?_eq_getElem hj]
    cases i with
    | zero => simp [hj]
    | succ i => simpa using ih i
theorem pick_rev {α : Type} (xs : List α) : pick (ixSt none none (-1) xs.length) xs = xs.reverse := by
  have e : ixSt none none (-1) xs.length = (List.range xs.length).map fun (i : Nat) => ((xs.length : Int) - 1 + (-1) * (i : Int)).toNat := by
    show sliceRange _ _ _ = _
    unfold sliceRange
    have h0 : ¬ ((-1 : Int) > 0) := by decide
    simp only [h0, if_false]
    by_cases h : xs.length = 0
    · rw [h]; rfl
    · have h1 : ((xs.length : Int) - 1) > -1 := by omega
      simp only [h1, if_true]
      have h2 : (((xs.length : Int) - 1 - -1 - -1 - 1) / - -1).toNat = xs.length := by rw [Int.neg_neg, Int.ediv_one]; omega
      rw [h2]
  apply List.ext_getElem?
  intro i
  rw [pick_get (fun j hj => by
    rw [e, List.mem_map] at hj
    obtain ⟨i, hi, rfl⟩ := hj
    rw [List.mem_range] at hi
    show ((xs.length : Int) - 1 + (-1) * (i : Int)).toNat < xs.length
    omega), e, List.getElem?_map]
  by_cases hi : i < xs.length
  · rw [List.getElem?_range hi, List.getElem?_reverse hi]
    show xs[((xs.length : Int) - 1 + (-1) * (i : Int)).toNat]? = _
    congr 1
    omega
  · rw [List.getElem?_eq_none (l := List.range _) (by rw [List.length_range]; omega), List.getElem?_eq_none (l := xs.reverse) (by rw [List.length_reverse]; omega)]
    rfl
/-- the items at 0, 2, .. ; at 1, 3, .. -/
def evL {α : Type} : List α → List α
  | [] => []
  | [a] => [a]
  | a :: _ :: r => a :: evL r
def odL {α : Type} : List α → List α
  | [] => []
  | [_] => []
  | _ :: b :: r => b :: odL r
theorem evL_get {α : Type} : ∀ (xs : List α) (i : Nat), (evL xs)[i]? = xs[2 * i]?
  | [], i => by simp [evL]
  | [a], i => by cases i <;> simp [evL]
  | a :: b :: r, i => by
    cases i with
    | zero => simp [evL]
    | succ i =>
      have ih := evL_get r i
      show (a :: evL r)[i + 1]? = (a :: b :: r)[2 * (i + 1)]?
      rw [List.getElem?_cons_succ, ih, show 2 * (i + 1) = 2 * i + 1 + 1 from rfl, List.getElem?_cons_succ, List.getElem?_cons_succ]
theorem odL_get {α : Type} : ∀ (xs : List α) (i : Nat), (odL xs)[i]? = xs[2 * i + 1]?
  | [], i => by simp [odL]
  | [a], i => by simp [odL]
  | a :: b :: r, i => by
    cases i with
    | zero => simp [odL]
    | succ i =>
      have ih := odL_get r i
      show (b :: odL r)[i + 1]? = (a :: b :: r)[2 * (i + 1) + 1]?
      rw [List.getElem?_cons_succ, ih, show 2 * (i + 1) + 1 = 2 * i + 1 + 1 + 1 from rfl, List.getElem?_cons_succ, List.getElem?_cons_succ]
theorem pick_ev {α : Type} (xs : List α) : pick (ixSt none none 2 xs.length) xs = evL xs := by
  have e : ixSt none none 2 xs.length = (List.range ((xs.length + 1) / 2)).map fun (i : Nat) => ((0 : Int) + 2 * (i : Int)).toNat := by
    show sliceRange _ _ _ = _
    unfold sliceRange
    have h0 : ((2 : Int) > 0) := by decide
    simp only [h0, if_true]
    by_cases h : xs.length = 0
    · rw [h]; rfl
    · have h1 : (0 : Int) < (xs.length : Int) := by omega
      simp only [h1, if_true]
      have h2 : (((xs.length : Int) - 0 + 2 - 1) / 2).toNat = (xs.length + 1) / 2 := by omega
      rw [h2]
  apply List.ext_getElem?
  intro i
  rw [pick_get (fun j hj => by
    rw [e, List.mem_map] at hj
    obtain ⟨i, hi, rfl⟩ := hj
    rw [List.mem_range] at hi
    show ((0 : Int) + 2 * (i : Int)).toNat < xs.length
    omega), e, List.getElem?_map, evL_get]
  by_cases hi : i < (xs.length + 1) / 2
  · rw [List.getElem?_range hi]
    show xs[((0 : Int) + 2 * (i : Int)).toNat]? = _
    congr 1
    omega
  · rw [List.getElem?_eq_none (l := List.range _) (by rw [List.length_range]; omega), List.getElem?_eq_none (l := xs) (by omega)]
    rfl
theorem pick_od {α : Type} (xs : List α) : pick (ixSt (some 1) none 2 xs.length) xs = odL xs := by
  have e : ixSt (some 1) none 2 xs.length = (List.range (xs.length / 2)).map fun (i : Nat) => ((1 : Int) + 2 * (i : Int)).toNat := by
    show sliceRange _ _ _ = _
    unfold sliceRange
    have h0 : ((2 : Int) > 0) := by decide
    have h9 : ¬ ((1 : Int) < 0) := by decide
    simp only [h0, h9, if_true, if_false]
    by_cases h : xs.length = 0
    · rw [h]; rfl
    · have h3 : (max 0 (min 1 (xs.length : Int))) = 1 := by omega
      rw [h3]
      by_cases h1 : (1 : Int) < (xs.length : Int)
      · simp only [h1, if_true]
        have h2 : (((xs.length : Int) - 1 + 2 - 1) / 2).toNat = xs.length / 2 := by omega
        rw [h2]
      · simp only [h1, if_false]
        have h2 : xs.length / 2 = 0 := by omega
        rw [h2]
        rfl
  apply List.ext_getElem?
  intro i
  rw [pick_get (fun j hj => by
    rw [e, List.mem_map] at hj
    obtain ⟨i, hi, rfl⟩ := hj
    rw [List.mem_range] at hi
    show ((1 : Int) + 2 * (i : Int)).toNat < xs.length
    omega), e, List.getElem?_map, odL_get]
  by_cases hi : i < xs.length / 2
  · rw [List.getElem?_range hi]
    show xs[((1 : Int) + 2 * (i : Int)).toNat]? = _
    congr 1
    omega
  · rw [List.getElem?_eq_none (l := List.range _) (by rw [List.length_range]; omega), List.getElem?_eq_none (l := xs) (by omega)]
    rfl
theorem pick_len {α : Type} (is : List Nat) (xs : List α) : (pick is xs).length ≤ is.length := List.length_filterMap_le _ _
theorem ixSt_len (lo hi : Option Int) (k : Int) (n : Nat) : (ixSt lo hi k n).length ≤ n := by
  have h := PySem.sliceRange_length_le (sliceBounds lo hi (some k) n).1 (sliceBounds lo hi (some k) n).2.1 (sliceBounds lo hi (some k) n).2.2 n (fun hc => ?_) (fun hc => ?_)
  · exact h
  · simp only [sliceBounds, Option.getD_some] at hc ⊢
    simp only [hc, if_true]
    constructor
    · cases lo with
      | none => simp
      | some i => dsimp only; omega
    · cases hi with
      | none => simp
      | some i => dsimp only; omega
  · simp only [sliceBounds, Option.getD_some] at hc ⊢
    simp only [hc, if_false]
    constructor
    · cases lo with
      | none => simp
      | some i => dsimp only; omega
    · cases hi with
      | none => simp
      | some i => dsimp only; omega
def rSt (K : PySem.W.Frag) : V → Option Int → Option Int → Int → Hp → VK → Prop := fun x lo hi k H Q => match x with
  | .str z => z.length ≤ 16777216 ∧ k ≠ 0 ∧ k ≠ 1 ∧ Q (.str (tx (pick (ixSt lo hi k z.length) z.cps.toList))) H
  | .ref p => ∃ xs, SqL K H p xs ∧ k ≠ 0 ∧ ∀ q, H q = none → Q (.ref q) (upd H q (.lst (pick (ixSt lo hi k xs.length) xs)))
  | _ => False
def tSt (r : V → Option Int → Option Int → Int → Hp → VK → Prop) (te : TE) (tl th : TO) (ts : TE) : TE := fun σ H Q => te σ H fun x H1 => tl σ H1 fun l H2 => th σ H2 fun u H3 => ts σ H3 fun s H4 => ∃ k, s = .int k ∧ r x l u k H4 Q
section
variable {X : Cx} {e st : Expr} {te ts : TE} {lo hi : Option Expr} {tl th : TO} {pos p2 : Pos} {K : PySem.W.Frag}
theorem pe_slice3 (he : PE X e te) (hl : PO X lo tl) (hu : PO X hi th) (hs : PE X st ts) (hK : X.K = K := by rfl) : PE X (.Subscript e (.Slice lo hi (some st) p2) pos) (tSt (rSt K) te tl th ts) := by
  subst hK
  refine ⟨fun pins s σ H Q I h => ?_⟩
  rw [eval_Subscript]
  refine wpAny_bind (thn (he.run pins s σ H _ I h) fun v s1 ⟨x, H1, I1, r1, q1⟩ => wpAny_bind (wpAny_holding (wpAny_Slice (thn (hl.run pins s1 σ H1 _ I1 q1) fun vl s2 ⟨l, H2, I2, pl, q2⟩ => thn (hu.run pins s2 σ H2 _ I2 q2) fun vu s3 ⟨u, H3, I3, pu, q3⟩ => ?_))))
  rw [evalPart_some]
  refine thn (hs.run pins s3 σ H3 _ I3 q3) fun vk s4 ⟨xk, H4, I4, rk, q4⟩ => ?_
  obtain ⟨k, ek, q⟩ := q4
  subst ek
  obtain ⟨tk, rfl⟩ := rk
  refine wpAny_bind (wpAny_standAt ?_)
  have I5 : Inv X pins σ H4 { s4 with heap := s4.heap.push { cls := .type "slice", data := .fields #[vl, vu, .int k tk] } } := I4.kept (t' := s4.toks) fun b ob q => Heap.get?_push_of_some _ q
  have go : ∀ {T id : String}, typeLookup (.type T) "__getitem__" = pure (some (.builtin id)) → ({ s4 with heap := s4.heap.push { cls := .type "slice", data := .fields #[vl, vu, .int k tk] } } : Shared).TypeIs v T → wpAny (model X.prog X.w) X.A (getItem v (.ref s4.heap.objs.size)) (EP X pins σ Q) X.xe { s4 with heap := s4.heap.push { cls := .type "slice", data := .fields #[vl, vu, .int k tk] } } →
      wpAny (model X.prog X.w) X.A (subscriptTail e (.Slice lo hi (some st) p2) v (.ref s4.heap.objs.size)) (EP X pins σ Q) X.xe { s4 with heap := s4.heap.push { cls := .type "slice", data := .fields #[vl, vu, .int k tk] } } := by
    intro T id hT ht hg
    exact tail_any (ops := [v, .ref s4.heap.objs.size]) ht hT hg (by with_unfolding_all rfl)
  have hsl : ({ s4 with heap := s4.heap.push { cls := .type "slice", data := .fields #[vl, vu, .int k tk] } } : Shared).heap.IsSliceOf s4.heap.objs.size vl vu (.int k tk) := Heap.IsSliceOf.new ..
  cases x with
  | str z =>
    obtain ⟨hz, hk0, hk1, q⟩ := q
    obtain ⟨tz, rfl⟩ := r1
    obtain ⟨l', rfl, rfl⟩ := IsPart.raw pl
    obtain ⟨u', rfl, rfl⟩ := IsPart.raw pu
    refine go F.slot_str_getitem.lookup (typeIs_str _ _ _) ?_
    refine wpAny_getItem_str_slice (l := l') (u := u') (st := some (k, tk)) hsl (by simpa using hk0) ?_
    have c : ¬ ((k == 1 && (ixSt (l'.map (·.1)) (u'.map (·.1)) k z.length).length == z.length) = true) := by
      intro z
      rw [Bool.and_eq_true] at z
      exact hk1 (by simpa using z.1)
    show Made.post (if (k == 1 && (ixSt (l'.map (·.1)) (u'.map (·.1)) k z.length).length == z.length) = true then Made.val (.str z tz)
      else Made.str ⟨((ixSt (l'.map (·.1)) (u'.map (·.1)) k z.length).filterMap (z.cps[·]?)).toArray⟩) (EP X pins σ Q) _
    rw [if_neg c]
    have e1 : (ixSt (l'.map (·.1)) (u'.map (·.1)) k z.length).filterMap (z.cps[·]?) = pick (ixSt (l'.map (·.1)) (u'.map (·.1)) k z.length) z.cps.toList := by
      unfold pick
      congr 1
      funext j
      rw [Array.getElem?_toList]
    rw [e1]
    refine ⟨?_, .str _, H4, I5.tok _, ⟨_, rfl⟩, q⟩
    show (tx (pick _ _)).length ≤ sizeLine
    rw [tx_length, sl16]
    exact Nat.le_trans (pick_len _ _) (Nat.le_trans (ixSt_len _ _ _ _) hz)
  | ref p =>
    obtain ⟨xs, hx, hk0, q⟩ := q
    obtain rfl : v = Value.ref p := r1
    obtain ⟨its, r, ht, hz⟩ := I5.list hx
    have hlen := r.length
    refine go slot_list_getitem.lookup ht.isList.typeIs ?_
    refine wpAny_getItem_list_slice ht.isList hsl pl pu (.int k tk) (by simpa using hk0) ?_ (by rw [List.size_toArray] <;> omega)
    have e1 : slicePick its.toArray l u (some k) = (pick (ixSt l u k xs.length) its).toArray := by
      unfold slicePick pick
      congr 1
      rw [hlen]
      show (ixSt l u k its.toArray.size).filterMap _ = _
      rw [List.size_toArray]
      congr 1
      funext j
      rw [List.getElem?_toArray]
    rw [e1]
    refine ⟨.ref _, _, I5.laid (t' := s4.toks) (o := .lst (pick (ixSt l u k xs.length) xs)) (fun b ob q => Heap.get?_push_of_some _ q) (Nat.le_refl _) ?_, rfl, q _ (I5.hok.fresh (Nat.le_refl _))⟩
    exact ⟨Nat.le_trans (pick_len _ _) (Nat.le_trans (ixSt_len _ _ _ _) hz), _, 0, vals_pick r _, Heap.get?_push_size _ rfl⟩
  | _ => exact q.elim
end
section
variable {K : PySem.W.Frag} {H : Hp} {σ : L2.St} {Q : VK}
theorem st_st3 {r : V → Option Int → Option Int → Int → Hp → VK → Prop} {te ts : TE} {tl th : TO} (h : te σ H fun x H1 => tl σ H1 fun l H2 => th σ H2 fun u H3 => ts σ H3 fun s H4 => ∃ k, s = .int k ∧ r x l u k H4 Q) : tSt r te tl th ts σ H Q := h
theorem st_revS {z : Str} (hz : z.length ≤ 16777216) (h : Q (.str (tx z.cps.toList.reverse)) H) : rSt K (.str z) none none (-1) H Q := ⟨hz, by decide, by decide, by
  have e : z.length = z.cps.toList.length := Array.length_toList.symm
  rw [e, pick_rev]; exact h⟩
theorem st_evS {z : Str} (hz : z.length ≤ 16777216) (h : Q (.str (tx (evL z.cps.toList))) H) : rSt K (.str z) none none 2 H Q := ⟨hz, by decide, by decide, by
  have e : z.length = z.cps.toList.length := Array.length_toList.symm
  rw [e, pick_ev]; exact h⟩
theorem st_odS {z : Str} (hz : z.length ≤ 16777216) (h : Q (.str (tx (odL z.cps.toList))) H) : rSt K (.str z) (some 1) none 2 H Q := ⟨hz, by decide, by decide, by
  have e : z.length = z.cps.toList.length := Array.length_toList.symm
  rw [e, pick_od]; exact h⟩
theorem st_revL {p : Addr} {xs : List V} (hx : SqL K H p xs) (h : ∀ q H', H q = none → Ex H H' → H' q = some (.lst xs.reverse) → Q (.ref q) H') : rSt K (.ref p) none none (-1) H Q := ⟨xs, hx, by decide, fun q hq => by
  rw [pick_rev]; exact h q _ hq (Fr.new hq) upd_same⟩
end
end Zb
namespace Zb
open PySem PySem.Spec PyProof.Rows L2 PySem.SeqAt
inductive PEq (H : Hp) : V → V → Bool → Prop
  | same (a : Addr) : PEq H (.ref a) (.ref a) true
  | dat {x y : V} {d e : PyData} : Rp H x d → Rp H y e → min d.depth e.depth ≤ 60 → PEq H x y (PyData.eqv d e)
inductive PEqs (H : Hp) : List V → List V → List Bool → Prop
  | nil : PEqs H [] [] []
  | cons {x y : V} {b : Bool} {xs ys : List V} {bs : List Bool} : PEq H x y b → PEqs H xs ys bs → PEqs H (x :: xs) (y :: ys) (b :: bs)
theorem PEqs.len {H : Hp} : ∀ {xs ys : List V} {bs : List Bool}, PEqs H xs ys bs → ys.length = xs.length ∧ bs.length = xs.length
  | _, _, _, .nil => ⟨rfl, rfl⟩
  | _, _, _, .cons _ r => ⟨congrArg (· + 1) r.len.1, congrArg (· + 1) r.len.2⟩
theorem PEqs.at {H : Hp} : ∀ {xs ys : List V} {bs : List Bool}, PEqs H xs ys bs → ∀ j (x y : V), xs[j]? = some x → ys[j]? = some y → PEq H x y (bs.getD j true)
  | _, _, _, .nil, j, x, y, h, _ => by simp at h
  | _, _, _, .cons a r, 0, x, y, h, k => by
    have e1 : _ = x := Option.some.inj h
    have e2 : _ = y := Option.some.inj k
    rw [← e1, ← e2]
    exact a
  | _, _, _, .cons a r, j + 1, x, y, h, k => by
    have h : _ = some x := h
    have := r.at j x y (by simpa using h) (by simpa using k)
    simpa using this
section
variable {X : Cx} {H : Hp} {Q : VK} {σ : L2.St}
def rIsN : R2 := fun x y H Q => y = .non ∧ Q (.bl (decide (x = .non))) H
def rNotN : R2 := fun x y H Q => y = .non ∧ Q (.bl (!decide (x = .non))) H
theorem st_isN {x : V} (h : Q (.bl (decide (x = .non))) H) : Zb.rIsN x .non H Q := ⟨rfl, h⟩
theorem st_notN {x : V} (h : Q (.bl (!decide (x = .non))) H) : Zb.rNotN x .non H Q := ⟨rfl, h⟩
def rInt1 : List V → Hp → VK → Prop := fun vs H Q => match vs with
  | [.int i] => Q (.int i) H
  | [.bl k] => Q (.int (if k then 1 else 0)) H
  | _ => False
theorem c_int : CallR X (.type "int") rInt1 := by
  intro pins s σ H xs us Q I r h
  unfold rInt1 at h
  split at h
  · exact call_int1 pins s σ H _ us Q I r (.inl ⟨_, rfl, h⟩)
  · exact call_int1 pins s σ H _ us Q I r (.inr ⟨_, rfl, h⟩)
  · exact h.elim
theorem st_intI {i : Int} (h : Q (.int i) H) : rInt1 [.int i] H Q := h
theorem st_intB {k : Bool} (h : Q (.int (if k then 1 else 0)) H) : rInt1 [.bl k] H Q := h
theorem st_iR3 {ta : TA} {R : It → Hp → Prop} (h : ta σ H (fun vs H1 => ∃ (i j c : Int) (n : Nat), vs = [.int i, .int j, .int c] ∧ RgC i j c n ∧ R (Itc i c n) H1)) : iRng3 ta σ H R := h
end
end Zb
namespace Zb
open PySem PySem.Spec PyProof.Rows L2
/-- at these addresses these objects -/
inductive ObjsAt (H : Hp) : List Addr → List HO → Prop
  | nil : ObjsAt H [] []
  | cons {a : Addr} {o : HO} {ts : List Addr} {os : List HO} : H a = some o → ObjsAt H ts os → ObjsAt H (a :: ts) (o :: os)
section
variable {H H' : Hp}
theorem ObjsAt.len : ∀ {ts : List Addr} {os : List HO}, ObjsAt H ts os → ts.length = os.length
  | _, _, .nil => rfl
  | _, _, .cons _ r => congrArg (· + 1) r.len
theorem ObjsAt.ex (e : Ex H H') : ∀ {ts : List Addr} {os : List HO}, ObjsAt H ts os → ObjsAt H' ts os
  | _, _, .nil => .nil
  | _, _, .cons h r => .cons (e.get h) (r.ex e)
theorem ObjsAt.fr {M : Addr → Prop} (e : Fr M H H') : ∀ {ts : List Addr} {os : List HO}, (∀ a ∈ ts, ¬ M a) → ObjsAt H ts os → ObjsAt H' ts os
  | _, _, _, .nil => .nil
  | _, _, hm, .cons h r => .cons (e _ _ (hm _ List.mem_cons_self) h) (r.fr e fun a ha => hm a (List.mem_cons_of_mem _ ha))
theorem ObjsAt.up {D : Addr} {u : HO} : ∀ {ts : List Addr} {os : List HO}, D ∉ ts → ObjsAt H ts os → ObjsAt (upd H D u) ts os
  | _, _, _, .nil => .nil
  | _, _, hn, .cons h r => .cons (by rw [upd_ne (fun z => hn (by rw [← z]; exact List.mem_cons_self))]; exact h) (r.up fun z => hn (List.mem_cons_of_mem _ z))
theorem ObjsAt.app : ∀ {ts us : List Addr} {os ps : List HO}, ObjsAt H ts os → ObjsAt H us ps → ObjsAt H (ts ++ us) (os ++ ps)
  | _, _, _, _, .nil, k => k
  | _, _, _, _, .cons h r, k => .cons h (r.app k)
theorem ObjsAt.at : ∀ {ts : List Addr} {os : List HO}, ObjsAt H ts os → ∀ (k : Nat) a o, ts[k]? = some a → os[k]? = some o → H a = some o
  | _, _, .nil, k, a, o, h, _ => by simp at h
  | _, _, .cons h r, 0, a, o, h1, h2 => by
    have e1 : _ = a := Option.some.inj h1
    have e2 : _ = o := Option.some.inj h2
    rw [← e1, ← e2]; exact h
  | _, _, .cons h r, k + 1, a, o, h1, h2 => r.at k a o (by simpa using h1) (by simpa using h2)
theorem ObjsAt.of : ∀ {ts : List Addr} {os : List HO}, ts.length = os.length → (∀ (k : Nat) a o, ts[k]? = some a → os[k]? = some o → H a = some o) → ObjsAt H ts os
  | [], [], _, _ => .nil
  | [], _ :: _, h, _ => by simp at h
  | _ :: _, [], h, _ => by simp at h
  | a :: ts, o :: os, h, k => .cons (k 0 a o rfl rfl) (ObjsAt.of (by simpa using h) fun j x y h1 h2 => k (j + 1) x y (by simpa using h1) (by simpa using h2))
/-- one of them changes -/
theorem ObjsAt.set {a : Addr} {u : HO} {ts : List Addr} {os : List HO} {k : Nat} (h : ObjsAt H ts os) (nd : ts.Nodup) (hk : ts[k]? = some a) : ObjsAt (upd H a u) ts (os.set k u) := by
  refine .of (by rw [List.length_set, h.len]) fun j b o h1 h2 => ?_
  by_cases e : j = k
  · subst e
    rw [hk] at h1
    cases h1
    have hl : j < os.length := by
      rw [← h.len]
      exact (List.getElem?_eq_some_iff.mp hk).1
    rw [List.getElem?_set_self hl] at h2
    cases h2
    exact upd_same
  · rw [List.getElem?_set_ne (Ne.symm e)] at h2
    rw [upd_ne (fun z : b = a => e (nd_ix nd h1 (by rw [z]; exact hk)))]
    exact h.at j b o h1 h2
end
section
variable {H : Hp} {Q : VK} {σ : L2.St}
def DGet2P (a : Addr) (y z : V) (Q : VK) (H : Hp) : Prop := ∃ o, DGet H a y o ∧ Q (o.getD z) H
theorem st_dget2 {td ty tx : TE} (h : td σ H fun x H1 => ∃ a, x = .ref a ∧ IsD H1 a ∧ ty σ H1 fun y H2 => tx σ H2 fun z H3 => DGet2P a y z Q H3) : tDGet2 td ty tx σ H Q := h
theorem st_isD {a : Addr} {kvs : List (Key × V)} {P : Addr → Prop} (h1 : H a = some (.dK kvs)) (h : P a) : ∃ b, V.ref a = .ref b ∧ IsD H b ∧ P b := ⟨a, rfl, .inl ⟨kvs, .inl h1⟩, h⟩
def DSetP (a : Addr) (y z : V) (Q : VK) (H3 : Hp) : Prop := ∃ (kvs : List (Key × V)) (k : Key), H3 a = some (.dK kvs) ∧ y = kV k ∧ kvs.length < sizeLine ∧ (∀ v, valV kvs k = some v → Q v H3) ∧ (valV kvs k = none → Q z (upd H3 a (.dK (putK kvs k z))))
theorem st_dsetd {td ty tx : TE} (h : td σ H fun x H1 => ∃ a, x = .ref a ∧ IsD H1 a ∧ ty σ H1 fun y H2 => tx σ H2 fun z H3 => DSetP a y z Q H3) : tDSetd td ty tx σ H Q := h
/-- {} -/
def DNew (Q : VK) (H : Hp) : Prop := ∀ p H', H p = none → Ex H H' → H' p = some (.dK []) → Q (.ref p) H'
theorem st_dnew (h : DNew Q H) : tDNewK σ H Q := fun p hp => h p _ hp (Fr.new hp) upd_same
theorem st_dnewP (h : ∀ p H', H p = none → Ex H H' → H' p = some (.dK []) → Q (.ref p) H') : DNew Q H := h
end
theorem at_nat {α : Type} {xs : List α} {i : Nat} {a : α} (h : xs[i]? = some a) : atI xs (i : Int) = some a := by
  unfold atI
  rw [Evl.ixN_nat (List.getElem?_eq_some_iff.mp h).1]
  exact h
theorem at_mapN {α β : Type} {f : α → β} {xs : List α} {i : Nat} {a : α} (h : xs[i]? = some a) : atI (xs.map f) (i : Int) = some (f a) := at_nat (by rw [List.getElem?_map, h]; rfl)
end Zb
namespace Zb
open PySem PySem.Spec PyProof.Rows L2
theorem Ex.trans {H H1 H2 : Hp} (a : Ex H H1) (b : Ex H1 H2) : Ex H H2 := Fr.trans a b
section
variable {X : Cx} {H : Hp} {Q : VK} {σ : L2.St} {K : PySem.W.Frag}
def rIsB : R2 := fun x y H Q => ∃ a b, x = .bl a ∧ y = .bl b ∧ Q (.bl (decide (a = b))) H
def rNotB : R2 := fun x y H Q => ∃ a b, x = .bl a ∧ y = .bl b ∧ Q (.bl (!decide (a = b))) H
theorem o_isB : OpR X (compareOp .Is) rIsB := op_is_bl
theorem o_notB : OpR X (compareOp .IsNot) rNotB := op_isnot_bl
theorem st_isB2 {a b : Bool} (h : Q (.bl (decide (a = b))) H) : rIsB (.bl a) (.bl b) H Q := ⟨a, b, rfl, rfl, h⟩
theorem st_notB2 {a b : Bool} (h : Q (.bl (!decide (a = b))) H) : rNotB (.bl a) (.bl b) H Q := ⟨a, b, rfl, rfl, h⟩
theorem st_chain {r r' : R2} {ta tb tc : TE} (h : ta σ H fun x H1 => tb σ H1 fun y H2 => r x y H2 fun z H3 => ∃ k, z = .bl k ∧ (if k = true then tc σ H3 fun w' H4 => r' y w' H4 Q else Q (.bl false) H3)) : tChain r r' ta tb tc σ H Q := h
def isIntV : V → Bool
  | .int _ => true
  | .bl _ => true
  | _ => false
def isBoolV : V → Bool
  | .bl _ => true
  | _ => false
theorem kb_int : kitB "NoneType" "int" = some false ∧ kitB "bool" "int" = some true ∧ kitB "int" "int" = some true ∧ kitB "str" "int" = some false ∧ kitB "list" "int" = some false ∧ kitB "tuple" "int" = some false ∧ kitB "dict" "int" = some false := by decide +kernel
theorem st_isIntT {x : V} (h1 : Ty H x) (h : Q (.bl (isIntV x)) H) : rIs [x, .ty "int"] H Q := by
  obtain ⟨t, h1⟩ := h1
  obtain ⟨k1, k2, k3, k4, k5, k6, k7⟩ := kb_int
  refine st_is h1 (b := isIntV x) ?_ h
  cases x with
  | ref p =>
    have h1 : tyO (H p) = some t := h1
    unfold tyO at h1
    split at h1 <;> first | (cases h1; assumption) | cases h1
  | _ => first | (cases h1; assumption) | cases h1
theorem st_isBoolT {x : V} (h1 : Ty H x) (h : Q (.bl (isBoolV x)) H) : rIs [x, .ty "bool"] H Q := by
  obtain ⟨t, h1⟩ := h1
  obtain ⟨k1, k2, k3, k4, k5, k6, k7⟩ := kb_bool
  refine st_is h1 (b := isBoolV x) ?_ h
  cases x with
  | ref p =>
    have h1 : tyO (H p) = some t := h1
    unfold tyO at h1
    split at h1 <;> first | (cases h1; assumption) | cases h1
  | _ => first | (cases h1; assumption) | cases h1
/-- a value as a test -/
def tTru (K : PySem.W.Frag) (ta : TE) : TT := fun σ H B => ta σ H fun x H' => ∃ k, TruV K x H' k ∧ B k H'
theorem pt_tru {a : Expr} {ta : TE} (ha : PE X a ta) (he : ∀ whole, isTrue a X.env whole = (do let v ← whole; standAt a.pos; holding [v] (truthy v))) (hK : X.K = K := by rfl) : PT X a (tTru K ta) := by subst hK; exact pt_truth ha he
theorem st_tru {ta : TE} {B : Bool → Hp → Prop} (h : ta σ H fun x H' => ∃ k, TruV K x H' k ∧ B k H') : tTru K ta σ H B := h
theorem st_truB {b : Bool} {P : Bool → Prop} (h : P b) : ∃ k, TruV K (.bl b) H k ∧ P k := ⟨b, rfl, h⟩
theorem st_truI {i : Int} {P : Bool → Prop} (h : P (i != 0)) : ∃ k, TruV K (.int i) H k ∧ P k := ⟨_, rfl, h⟩
def WhPost (W : Nat → L2.St → Hp → Prop) (m : Nat) (tb : TS) (D : Ends) (σ : L2.St) : Bool → Hp → Prop := fun b H1 => if b = true then ∃ N : L2.St → Hp → Prop, (∀ σ' H', N σ' H' → ∃ m', m' < m ∧ W m' σ' H') ∧ tb { D with nx := N, ct := N, bk := D.nx } σ H1 else D.nx σ H1
def WhGoal (c : TT) (tb : TS) (D : Ends) (σ : L2.St) (H : Hp) : Prop := ∃ W : Nat → L2.St → Hp → Prop, (∃ m, W m σ H) ∧ ∀ m σ H, W m σ H → c σ H (WhPost W m tb D σ)
theorem st_while {c : TT} {tb : TS} {D : Ends} (h : WhGoal c tb D σ H) : tWhile c tb D σ H := h
end
def tupO (q : Nat × Nat) : HO := .tup [.int (q.1 : Nat), .int (q.2 : Nat)]
abbrev ZP := Addr × (Nat × Nat)
abbrev zV (z : ZP) : V := .ref z.1
/-- each of these stands as its tuple -/
def TP (H : Hp) (zs : List ZP) : Prop := ∀ z ∈ zs, H z.1 = some (tupO z.2)
section
variable {H H' : Hp} {zs ys : List ZP}
theorem TP.ex (h : TP H zs) (e : Ex H H') : TP H' zs := fun z hz => e.get (h z hz)
theorem tup_ne_purse {a p : Addr} {q : Nat × Nat} (h : H a = some (tupO q)) (hp : Purse H p) : a ≠ p := fun e => by
  obtain ⟨x, y, z, hp⟩ := hp
  rw [e, hp] at h
  cases h
theorem zs_ne_purse {a p : Addr} (h : H a = some (.lst (zs.map zV))) (hp : Purse H p) : a ≠ p := fun e => by
  obtain ⟨x, y, z, hp⟩ := hp
  rw [e, hp] at h
  cases zs with
  | nil => cases h
  | cons c r =>
    have h : HO.lst [V.int x, V.int y, V.int z] = HO.lst (V.ref c.1 :: r.map zV) := Option.some.inj h
    cases h
theorem TP.frp {p : Addr} (h : TP H zs) (hp : Purse H p) (e : FrP p H H') : TP H' zs := fun z hz => e.get (tup_ne_purse (h z hz) hp) (h z hz)
theorem TP.up {D : Addr} {xs : List V} {u : HO} (h : TP H zs) (hD : H D = some (.lst xs)) : TP (upd H D u) zs := fun z hz => by
  rw [upd_ne fun e => ?_]
  · exact h z hz
  · have := h z hz
    rw [e, hD] at this
    cases this
theorem TP.app (h : TP H zs) (k : TP H ys) : TP H (zs ++ ys) := fun z hz => by
  rcases List.mem_append.mp hz with q | q
  · exact h z q
  · exact k z q
theorem TP.cons {z : ZP} (h : H z.1 = some (tupO z.2)) (k : TP H ys) : TP H (z :: ys) := fun y hy => by
  rcases List.mem_cons.mp hy with q | q
  · rw [q]; exact h
  · exact k y q
def encQ (q : Nat × Nat) : PyData := .tuple [.int (q.1 : Nat), .int (q.2 : Nat)]
theorem TP.rp1 {z : ZP} (h : H z.1 = some (tupO z.2)) : Rp H (zV z) (encQ z.2) := .tup (tup_of h) (.cons (.int _) (.cons (.int _) .nil))
theorem TP.rp (h : TP H zs) : RpA H (zs.map zV) (zs.map fun z => encQ z.2) := rpA_map fun z hz => TP.rp1 (h z hz)
theorem TP.rpL {a : Addr} (h : TP H zs) (ha : H a = some (.lst (zs.map zV))) : Rp H (.ref a) (.list (zs.map fun z => encQ z.2)) := .lst (lst_of ha) h.rp
theorem encQ_depth (q : Nat × Nat) : (encQ q).depth ≤ 2 := by simp [encQ, PyData.depth, PyData.depthAll]
end
end Zb
namespace Zb
open PySem PySem.Spec PyProof.Rows L2
/-- a def's promise, where no list is being shown -/
structure FnG (P : Program) (w : World) (K : PySem.W.Frag) (mg : Str → Option Value) (base : Heap) (CX : CXT) (k : Nat) (f : Addr) (fd : FuncData) (ps : List Str) (sp : Sp) : Prop where
  len : ∀ vs H Q E, sp vs H Q E → vs.length = ps.length
  go : ∀ (A : Around) (outer : List Env) (s : Shared) (H : Hp) (args : Args) (us : List Value) (vs : List V) (Q : VK) (E : XK), A.guards = some [] → Room k A → Env0 P w K mg base A outer s H → BindsTo s fd args (ps.zip us) → Vals vs us → sp vs H Q E →
    codeAny (model P w) A (.call (.ref f) args) (CR CX outer P w H s Q E) s
section
variable {P : Program} {w : World} {K : PySem.W.Frag} {mg : Str → Option Value} {base : Heap} {k : Nat} {f : Addr} {fd : FuncData} {ps : List Str} {sp : Sp}
theorem FnG.of {CX : CXT} (F : FnOk P w K mg base CX k f fd ps sp) : FnG P w K mg base CX k f fd ps sp := ⟨F.len, fun A outer s H args us vs Q E _ => F.run A outer s H args us vs Q E⟩
end
def keyD : Key → PyData
  | .inl i => .int i
  | .inr x => .str x
mutual
inductive Rq (H : Hp) : V → PyData → Prop
  | non : Rq H .non .none
  | bl (b : Bool) : Rq H (.bl b) (.bool b)
  | int (i : Int) : Rq H (.int i) (.int i)
  | str (x : Str) : Rq H (.str x) (.str x)
  | lst {a : Addr} {xs : List V} {ds : List PyData} : lstAt H a = some xs → RqA H xs ds → Rq H (.ref a) (.list ds)
  | tup {a : Addr} {xs : List V} {ds : List PyData} : tupAt H a = some xs → RqA H xs ds → Rq H (.ref a) (.tuple ds)
  | dk {a : Addr} {kvs : List (Key × V)} {ds : List PyData} : H a = some (.dK kvs) → RqA H (kvs.map (·.2)) ds → Rq H (.ref a) (.dict ((kvs.map fun q => keyD q.1).zip ds))
inductive RqA (H : Hp) : List V → List PyData → Prop
  | nil : RqA H [] []
  | cons {v : V} {vs : List V} {d : PyData} {ds : List PyData} : Rq H v d → RqA H vs ds → RqA H (v :: vs) (d :: ds)
end
theorem RqA.len {H : Hp} : ∀ {vs : List V} {ds : List PyData}, RqA H vs ds → vs.length = ds.length
  | _, _, .nil => rfl
  | _, _, .cons _ k => congrArg (· + 1) k.len
theorem Rq.dk0 {H : Hp} {a : Addr} (h : H a = some (.dK [])) : Rq H (.ref a) (.dict []) := .dk h .nil
mutual
theorem Rp.rq {H : Hp} : ∀ {v : V} {d : PyData}, Rp H v d → Rq H v d
  | _, _, .non => .non
  | _, _, .bl b => .bl b
  | _, _, .int i => .int i
  | _, _, .str x => .str x
  | _, _, .lst h k => .lst h (RpA.rq k)
  | _, _, .tup h k => .tup h (RpA.rq k)
theorem RpA.rq {H : Hp} : ∀ {vs : List V} {ds : List PyData}, RpA H vs ds → RqA H vs ds
  | _, _, .nil => .nil
  | _, _, .cons h k => .cons (Rp.rq h) (RpA.rq k)
theorem noDict {H : Hp} : ∀ {v : V} {d : PyData}, Rp H v d → d.hasDict = false
  | _, _, .non => rfl
  | _, _, .bl b => rfl
  | _, _, .int i => rfl
  | _, _, .str x => rfl
  | _, _, .lst h k => by simp only [PyData.hasDict]; exact noDictA k
  | _, _, .tup h k => by simp only [PyData.hasDict]; exact noDictA k
theorem noDictA {H : Hp} : ∀ {vs : List V} {ds : List PyData}, RpA H vs ds → PyData.hasDictAll ds = false
  | _, _, .nil => rfl
  | _, _, .cons h k => by simp only [PyData.hasDictAll, noDict h, noDictA k, Bool.or_self]
end
section
variable {X : Cx} {pins : List (Addr × Obj)} {σ : L2.St} {H : Hp} {s : Shared}
theorem pairs_keys {h : Heap} {P : Program} {w : World} : ∀ {es : List DictEntry} {kvs : List (Key × V)} {vs : List (Key × Value)}, Pairs (mixKind P w) es vs → KV kvs vs → ∃ as, ReadsAll h (es.map (·.key)) (kvs.map fun q => keyD q.1) as
  | _, _, _, .nil, .nil => ⟨_, .nil⟩
  | _, _, _, .cons (e := e) (kv := kv) h1 h2 h3, .cons (a := p) q r => by
    obtain ⟨as, k⟩ := pairs_keys (h := h) h3 r
    have hk : (mixKind P w).is kv.1 e.key = true := h1
    rcases keyIs_shape hk with ⟨i, t, e1, e2⟩ | ⟨x, t, e1, e2⟩
    · refine ⟨_, .cons (as := []) ?_ k⟩
      show Reads h e.key (keyD p.1) []
      rw [q.1, e1, e2]
      exact .int i t
    · refine ⟨_, .cons (as := []) ?_ k⟩
      show Reads h e.key (keyD p.1) []
      rw [q.1, e1, e2]
      exact .str x t
theorem pairs_vals {P : Program} {w : World} : ∀ {es : List DictEntry} {kvs : List (Key × V)} {vs : List (Key × Value)}, Pairs (mixKind P w) es vs → KV kvs vs → Vals (kvs.map (·.2)) (es.map (·.val))
  | _, _, _, .nil, .nil => .nil
  | _, _, _, .cons (e := e) (kv := kv) h1 h2 h3, .cons (a := p) q r => .cons (by show RelV p.2 e.val; rw [h2]; exact q.2) (pairs_vals h3 r)
theorem zip_fst {α β : Type} : ∀ {xs : List α} {ys : List β}, xs.length = ys.length → (xs.zip ys).map (·.1) = xs := fun h => List.map_fst_zip (Nat.le_of_eq h)
theorem zip_snd {α β : Type} : ∀ {xs : List α} {ys : List β}, xs.length = ys.length → (xs.zip ys).map (·.2) = ys := fun h => List.map_snd_zip (Nat.le_of_eq h.symm)
/-- a tracked dict, as an object -/
theorem dk_obj (I : Inv X pins σ H s) {a : Addr} {kvs : List (Key × V)} (h : H a = some (.dK kvs)) : (a == sysModules) = false ∧ ∃ (o : Obj) (es : Array DictEntry) (n : Nat), s.heap.get? a = some o ∧ o.cls = .type "dict" ∧ o.data = .dict es n ∧ (∃ as, ReadsAll s.heap (es.toList.map (·.key)) (kvs.map fun q => keyD q.1) as) ∧ Vals (kvs.map (·.2)) (es.toList.map (·.val)) := by
  obtain ⟨_, hs, vs, rv, o, es, ep, e1, e2, e3, _, e5, _⟩ := dk_of I.hok h
  exact ⟨hs, o, es, ep, e1, e2.1, e3, pairs_keys e5 rv, pairs_vals e5 rv⟩
mutual
theorem Rq.reads (I : Inv X pins σ H s) : ∀ {v : V} {d : PyData} {u : Value}, Rq H v d → RelV v u → ∃ as, Reads s.heap u d as
  | _, _, u, .non, r => by cases r; exact ⟨_, .none⟩
  | _, _, u, .bl b, r => by cases r; exact ⟨_, .bool b⟩
  | _, _, u, .int i, r => by obtain ⟨t, rfl⟩ := r; exact ⟨_, .int i t⟩
  | _, _, u, .str x, r => by obtain ⟨t, rfl⟩ := r; exact ⟨_, .str x t⟩
  | _, _, u, @Rq.lst _ a xs ds h k, r => by
    obtain rfl : u = Value.ref a := r
    obtain ⟨its, rv, p, _⟩ := I.list (lstAt_sq h)
    obtain ⟨as, q1⟩ := RqA.reads I k rv
    obtain ⟨o, n, e1, e2, e3, e4⟩ := p
    exact ⟨_, .list e1 e2 e4 q1⟩
  | _, _, u, @Rq.tup _ a xs ds h k, r => by
    obtain rfl : u = Value.ref a := r
    obtain ⟨its, rv, p, _⟩ := I.tuple (tupAt_sq h)
    obtain ⟨as, q1⟩ := RqA.reads I k rv
    obtain ⟨o, e1, e2, n, e3⟩ := p
    exact ⟨_, .tuple e1 e2 e3 q1⟩
  | _, _, u, @Rq.dk _ a kvs ds h k, r => by
    obtain rfl : u = Value.ref a := r
    obtain ⟨_, o, es, n, e1, e2, e3, ⟨as, kr⟩, rv⟩ := dk_obj I h
    obtain ⟨bs, vr⟩ := RqA.reads I k rv
    have hl : (kvs.map fun q => keyD q.1).length = ds.length := by rw [List.length_map, ← k.len, List.length_map]
    exact ⟨_, .dict e1 e2 e3 (by rw [zip_fst hl]; exact kr) (by rw [zip_snd hl]; exact vr)⟩
theorem RqA.reads (I : Inv X pins σ H s) : ∀ {vs : List V} {ds : List PyData} {us : List Value}, RqA H vs ds → Vals vs us → ∃ as, ReadsAll s.heap us ds as
  | _, _, us, .nil, r => by cases r; exact ⟨_, .nil⟩
  | _, _, us, .cons h k, r => by
    cases r with
    | cons r1 r2 =>
      obtain ⟨as, a1⟩ := Rq.reads I h r1
      obtain ⟨bs, b1⟩ := RqA.reads I k r2
      exact ⟨_, .cons a1 b1⟩
end
end
end Zb
namespace Zb
open PySem PySem.Spec PyProof.Rows L2
def tyD : PyData → String
  | .none => "NoneType"
  | .bool _ => "bool"
  | .int _ => "int"
  | .str _ => "str"
  | .list _ => "list"
  | .tuple _ => "tuple"
  | .dict _ => "dict"
theorem Rq.tyn {H : Hp} {x : V} {d : PyData} (h : Rq H x d) : tyN H x = some (tyD d) := by
  cases h with
  | non => rfl
  | bl b => rfl
  | int i => rfl
  | str y => rfl
  | @lst a xs ds h _ =>
    show tyO (H a) = _
    unfold lstAt at h
    unfold tyO
    split at h <;> first | (rename_i e; rw [e]; rfl) | cases h
  | @tup a xs ds h _ =>
    show tyO (H a) = _
    unfold tupAt at h
    unfold tyO
    split at h <;> first | (rename_i e; rw [e]; rfl) | cases h
  | @dk a kvs ds h _ =>
    show tyO (H a) = _
    rw [h]
    rfl
theorem Rq.ty {H : Hp} {x : V} {d : PyData} (h : Rq H x d) : Ty H x := ⟨_, h.tyn⟩
theorem Rp.ty {H : Hp} {x : V} {d : PyData} (h : Rp H x d) : Ty H x := h.rq.ty
section
variable {H : Hp} {Q : VK} {K : PySem.W.Frag}
theorem st_isQ {x : V} {d : PyData} {n : String} {b : Bool} (h1 : Rq H x d) (h2 : kitB (tyD d) n = some b) (h : Q (.bl b) H) : rIs [x, .ty n] H Q := st_is h1.tyn h2 h
def isListD : PyData → Bool
  | .list _ => true
  | _ => false
def isTupD : PyData → Bool
  | .tuple _ => true
  | _ => false
theorem kb_list : kitB "NoneType" "list" = some false ∧ kitB "bool" "list" = some false ∧ kitB "int" "list" = some false ∧ kitB "str" "list" = some false ∧ kitB "list" "list" = some true ∧ kitB "tuple" "list" = some false ∧ kitB "dict" "list" = some false := by decide +kernel
theorem st_isListD {x : V} {d : PyData} (h1 : Rq H x d) (h : Q (.bl (isListD d)) H) : rIs [x, .ty "list"] H Q := by
  obtain ⟨k1, k2, k3, k4, k5, k6, k7⟩ := kb_list
  refine st_isQ h1 (b := isListD d) ?_ h
  cases d <;> assumption
/-- the items of data -/
theorem Rp.listAt {x : V} {ds : List PyData} (h : Rp H x (.list ds)) : ∃ a xs, x = .ref a ∧ lstAt H a = some xs ∧ RpA H xs ds := by
  cases h with
  | lst h k => exact ⟨_, _, rfl, h, k⟩
theorem RpA.len : ∀ {xs : List V} {ds : List PyData}, RpA H xs ds → xs.length = ds.length
  | _, _, .nil => rfl
  | _, _, .cons _ k => congrArg (· + 1) k.len
theorem RpA.at : ∀ {xs : List V} {ds : List PyData}, RpA H xs ds → ∀ (i : Nat) x, xs[i]? = some x → ∃ d, ds[i]? = some d ∧ Rp H x d
  | _, _, .nil, i, x, h => by simp at h
  | _, _, .cons a k, 0, x, h => by
    have e : _ = x := Option.some.inj h
    exact ⟨_, rfl, e ▸ a⟩
  | _, _, .cons a k, i + 1, x, h => k.at i x (by simpa using h)
end
end Zb
namespace Zb
open PySem PySem.Spec PyProof.Rows L2
mutual
/-- v is d, by things that are not frozen; empty dicts may be among them -/
inductive Rn (H : Hp) : V → PyData → Prop
  | non : Rn H .non .none
  | bl (b : Bool) : Rn H (.bl b) (.bool b)
  | int (i : Int) : Rn H (.int i) (.int i)
  | str (x : Str) : Rn H (.str x) (.str x)
  | lst {a : Addr} {xs : List V} {ds : List PyData} : H a = some (.lst xs) → RnA H xs ds → Rn H (.ref a) (.list ds)
  | tup {a : Addr} {xs : List V} {ds : List PyData} : H a = some (.tup xs) → RnA H xs ds → Rn H (.ref a) (.tuple ds)
  | dk {a : Addr} : H a = some (.dK []) → Rn H (.ref a) (.dict [])
inductive RnA (H : Hp) : List V → List PyData → Prop
  | nil : RnA H [] []
  | cons {v : V} {vs : List V} {d : PyData} {ds : List PyData} : Rn H v d → RnA H vs ds → RnA H (v :: vs) (d :: ds)
end
section
variable {H H' : Hp}
mutual
theorem Rn.rq : ∀ {v : V} {d : PyData}, Rn H v d → Rq H v d
  | _, _, .non => .non
  | _, _, .bl b => .bl b
  | _, _, .int i => .int i
  | _, _, .str x => .str x
  | _, _, .lst h k => .lst (lst_of h) (RnA.rq k)
  | _, _, .tup h k => .tup (tup_of h) (RnA.rq k)
  | _, _, .dk h => .dk0 h
theorem RnA.rq : ∀ {vs : List V} {ds : List PyData}, RnA H vs ds → RqA H vs ds
  | _, _, .nil => .nil
  | _, _, .cons h k => .cons (Rn.rq h) (RnA.rq k)
end
mutual
theorem Rn.rp : ∀ {v : V} {d : PyData}, Rn H v d → d.hasDict = false → Rp H v d
  | _, _, .non, _ => .non
  | _, _, .bl b, _ => .bl b
  | _, _, .int i, _ => .int i
  | _, _, .str x, _ => .str x
  | _, _, .lst h k, n => .lst (lst_of h) (RnA.rp k (by simpa only [PyData.hasDict] using n))
  | _, _, .tup h k, n => .tup (tup_of h) (RnA.rp k (by simpa only [PyData.hasDict] using n))
  | _, _, .dk h, n => by simp [PyData.hasDict] at n
theorem RnA.rp : ∀ {vs : List V} {ds : List PyData}, RnA H vs ds → PyData.hasDictAll ds = false → RpA H vs ds
  | _, _, .nil, _ => .nil
  | _, _, .cons h k, n => by
    simp only [PyData.hasDictAll, Bool.or_eq_false_iff] at n
    exact .cons (Rn.rp h n.1) (RnA.rp k n.2)
end
mutual
theorem Rn.ex (e : Ex H H') : ∀ {v : V} {d : PyData}, Rn H v d → Rn H' v d
  | _, _, .non => .non
  | _, _, .bl b => .bl b
  | _, _, .int i => .int i
  | _, _, .str x => .str x
  | _, _, .lst h k => .lst (e.get h) (RnA.ex e k)
  | _, _, .tup h k => .tup (e.get h) (RnA.ex e k)
  | _, _, .dk h => .dk (e.get h)
theorem RnA.ex (e : Ex H H') : ∀ {vs : List V} {ds : List PyData}, RnA H vs ds → RnA H' vs ds
  | _, _, .nil => .nil
  | _, _, .cons h k => .cons (Rn.ex e h) (RnA.ex e k)
end
theorem Rn.listAt {x : V} {ds : List PyData} (h : Rn H x (.list ds)) : ∃ a xs, x = .ref a ∧ H a = some (.lst xs) ∧ RnA H xs ds := by
  cases h with
  | lst h k => exact ⟨_, _, rfl, h, k⟩
theorem Rn.tupAt {x : V} {ds : List PyData} (h : Rn H x (.tuple ds)) : ∃ a xs, x = .ref a ∧ H a = some (.tup xs) ∧ RnA H xs ds := by
  cases h with
  | tup h k => exact ⟨_, _, rfl, h, k⟩
theorem RnA.len : ∀ {xs : List V} {ds : List PyData}, RnA H xs ds → xs.length = ds.length
  | _, _, .nil => rfl
  | _, _, .cons _ k => congrArg (· + 1) k.len
theorem RnA.zipped : ∀ {xs : List V} {ds : List PyData}, RnA H xs ds → ∃ zs : List (V × PyData), xs = zs.map (·.1) ∧ ds = zs.map (·.2) ∧ ∀ z ∈ zs, Rn H z.1 z.2
  | _, _, .nil => ⟨[], rfl, rfl, fun _ h => nomatch h⟩
  | _, _, .cons (v := v) (d := d) a k => by
    obtain ⟨zs, rfl, rfl, h⟩ := RnA.zipped k
    refine ⟨(v, d) :: zs, rfl, rfl, fun z hz => ?_⟩
    rcases List.mem_cons.mp hz with e | e
    · rw [e]; exact a
    · exact h z e
theorem rnA_map {α : Type} {val : α → V} {enc : α → PyData} : ∀ {xs : List α}, (∀ x ∈ xs, Rn H (val x) (enc x)) → RnA H (xs.map val) (xs.map enc)
  | [], _ => .nil
  | x :: xs, h => .cons (h x List.mem_cons_self) (rnA_map fun y hy => h y (List.mem_cons_of_mem _ hy))
theorem TP.rn1 {z : ZP} (h : H z.1 = some (tupO z.2)) : Rn H (zV z) (encQ z.2) := .tup h (.cons (.int _) (.cons (.int _) .nil))
theorem TP.rn {zs : List ZP} (h : TP H zs) : RnA H (zs.map zV) (zs.map fun z => encQ z.2) := rnA_map fun z hz => TP.rn1 (h z hz)
theorem TP.rnL {zs : List ZP} {a : Addr} (h : TP H zs) (ha : H a = some (.lst (zs.map zV))) : Rn H (.ref a) (.list (zs.map fun z => encQ z.2)) := .lst ha h.rn
end
mutual
/-- how many things data holds -/
def szD : PyData → Nat
  | .list ds => 1 + szA ds
  | .tuple ds => 1 + szA ds
  | .dict _ => 1
  | _ => 1
def szA : List PyData → Nat
  | [] => 0
  | d :: ds => szD d + szA ds
end
end Zb
namespace Zb
open PySem PySem.Spec PyProof.Rows L2
mutual
/-- numbers of few figures, texts that are shown by few signs, no dict but the empty one -/
def okD : PyData → Bool
  | .none => true
  | .bool _ => true
  | .int i => decide (i.natAbs < 1000000)
  | .str x => decide ((reprText x).length ≤ 14)
  | .list ds => okA ds
  | .tuple ds => okA ds
  | .dict kvs => kvs.isEmpty
def okA : List PyData → Bool
  | [] => true
  | d :: ds => okD d && okA ds
end
/-- data that may be handed round: d is v, small, with no dict but itself -/
structure Sd (H : Hp) (v : V) (d : PyData) : Prop where
  rn : Rn H v d
  hd : d.hasDict = true → d = .dict []
  ok : okD d = true
  sz : szD d ≤ 999999
  dp : d.depth ≤ 59
theorem Sd.ex {H H' : Hp} {v : V} {d : PyData} (h : Sd H v d) (e : Ex H H') : Sd H' v d := ⟨h.rn.ex e, h.hd, h.ok, h.sz, h.dp⟩
/-- v is small data of n things, k deep -/
def Sm (H : Hp) (v : V) (n k : Nat) : Prop := ∃ d, Rn H v d ∧ d.hasDict = false ∧ okD d = true ∧ szD d ≤ n ∧ d.depth ≤ k
section
variable {H H' : Hp} {v : V} {n k m : Nat}
theorem Sm.up {n' k' : Nat} (h : Sm H v n k) (h1 : n ≤ n') (h2 : k ≤ k') : Sm H v n' k' := by
  obtain ⟨d, a, b, c, e, f⟩ := h
  exact ⟨d, a, b, c, by omega, by omega⟩
theorem Sm.ex (h : Sm H v n k) (e : Ex H H') : Sm H' v n k := by
  obtain ⟨d, a, b⟩ := h
  exact ⟨d, a.ex e, b⟩
theorem Sm.sd (h : Sm H v n k) (h1 : n ≤ 999999) (h2 : k ≤ 59) : ∃ d, Sd H v d := by
  obtain ⟨d, a, b, c, e, f⟩ := h
  exact ⟨d, a, (fun z => by rw [b] at z; cases z), c, by omega, by omega⟩
theorem Sm.non : Sm H .non 1 0 := ⟨_, .non, rfl, rfl, by simp [szD], by simp [PyData.depth]⟩
theorem Sm.bl (b : Bool) : Sm H (.bl b) 1 0 := ⟨_, .bl b, rfl, rfl, by simp [szD], by simp [PyData.depth]⟩
theorem Sm.int {i : Int} (h : i.natAbs < 1000000) : Sm H (.int i) 1 0 := ⟨_, .int i, rfl, by simpa only [okD, decide_eq_true_eq] using h, by simp [szD], by simp [PyData.depth]⟩
theorem Sm.str {x : Str} (h : (reprText x).length ≤ 14) : Sm H (.str x) 1 0 := ⟨_, .str x, rfl, by simpa only [okD, decide_eq_true_eq] using h, by simp [szD], by simp [PyData.depth]⟩
theorem Sm.all : ∀ {xs : List V}, (∀ x ∈ xs, Sm H x n k) → ∃ ds, RnA H xs ds ∧ PyData.hasDictAll ds = false ∧ okA ds = true ∧ szA ds ≤ xs.length * n ∧ PyData.depthAll ds ≤ k
  | [], _ => ⟨[], .nil, rfl, rfl, by simp [szA], by simp [PyData.depthAll]⟩
  | x :: xs, h => by
    obtain ⟨ds, a, b, c, e, f⟩ := Sm.all (xs := xs) fun y hy => h y (List.mem_cons_of_mem _ hy)
    obtain ⟨d, a1, b1, c1, e1, f1⟩ := h x List.mem_cons_self
    refine ⟨d :: ds, .cons a1 a, by simp [PyData.hasDictAll, b, b1], by simp [okA, c, c1], ?_, ?_⟩
    · simp only [szA, List.length_cons, Nat.succ_mul]; omega
    · simp only [PyData.depthAll]; omega
theorem Sm.lst {a : Addr} {xs : List V} (h : H a = some (.lst xs)) (hx : ∀ x ∈ xs, Sm H x n k) (hm : xs.length ≤ m) : Sm H (.ref a) (1 + m * n) (k + 1) := by
  obtain ⟨ds, h1, h2, h3, h4, h5⟩ := Sm.all hx
  refine ⟨.list ds, .lst h h1, by simpa only [PyData.hasDict] using h2, by simpa only [okD] using h3, ?_, by simp only [PyData.depth]; omega⟩
  have := Nat.mul_le_mul_right n hm
  simp only [szD]; omega
theorem Sm.tup {a : Addr} {xs : List V} (h : H a = some (.tup xs)) (hx : ∀ x ∈ xs, Sm H x n k) (hm : xs.length ≤ m) : Sm H (.ref a) (1 + m * n) (k + 1) := by
  obtain ⟨ds, h1, h2, h3, h4, h5⟩ := Sm.all hx
  refine ⟨.tuple ds, .tup h h1, by simpa only [PyData.hasDict] using h2, by simpa only [okD] using h3, ?_, by simp only [PyData.depth]; omega⟩
  have := Nat.mul_le_mul_right n hm
  simp only [szD]; omega
theorem Sd.dk {a : Addr} (h : H a = some (.dK [])) : Sd H (.ref a) (.dict []) := ⟨.dk h, fun _ => rfl, rfl, by simp [szD], by simp [PyData.depth, PyData.depthKv]⟩
theorem Sm.mem {xs : List V} (h : ∀ x ∈ xs, Sm H x n k) (hv : v ∈ xs) : Sm H v n k := h v hv
theorem Sm.cons {xs : List V} (h : Sm H v n k) (t : ∀ x ∈ xs, Sm H x n k) : ∀ x ∈ v :: xs, Sm H x n k := fun x hx => by
  rcases List.mem_cons.mp hx with e | e
  · rw [e]; exact h
  · exact t x e
theorem Sm.nil : ∀ x ∈ ([] : List V), Sm H x n k := fun _ h => nomatch h
theorem Sm.app {xs ys : List V} (h : ∀ x ∈ xs, Sm H x n k) (t : ∀ x ∈ ys, Sm H x n k) : ∀ x ∈ xs ++ ys, Sm H x n k := fun x hx => by
  rcases List.mem_append.mp hx with e | e
  · exact h x e
  · exact t x e
theorem Sm.upA {xs : List V} {n' k' : Nat} (h : ∀ x ∈ xs, Sm H x n k) (h1 : n ≤ n') (h2 : k ≤ k') : ∀ x ∈ xs, Sm H x n' k' := fun x hx => (h x hx).up h1 h2
variable {K : PySem.W.Frag} {Q : VK}
end
def cutL {α : Type} (xs : List α) (lo hi : Option Int) : List α := (xs.drop (HT.sIx xs.length 0 lo)).take (HT.sIx xs.length xs.length hi - HT.sIx xs.length 0 lo)
theorem cutV_map {α : Type} (f : α → V) (xs : List α) (lo hi : Option Int) : cutV (xs.map f) lo hi = (cutL xs lo hi).map f := by
  unfold cutV cutL
  rw [List.map_take, List.map_drop, List.length_map]
theorem cutL_sub {α : Type} (xs : List α) (lo hi : Option Int) : (cutL xs lo hi).Sublist xs := (List.take_sublist _ _).trans (List.drop_sublist _ _)
theorem cutL_len {α : Type} (xs : List α) (lo hi : Option Int) : (cutL xs lo hi).length ≤ xs.length := (cutL_sub xs lo hi).length_le
theorem cutV_mem {xs : List V} {lo hi : Option Int} {x : V} (h : x ∈ cutV xs lo hi) : x ∈ xs := by
  have h2 := cutV_map id xs lo hi
  rw [List.map_id, List.map_id] at h2
  rw [h2] at h
  exact (cutL_sub xs lo hi).subset h
abbrev HZ := Addr × List ZP
abbrev hV (g : HZ) : V := .ref g.1
/-- a few small pairs, each as its tuple -/
structure SP (H : Hp) (zs : List ZP) : Prop where
  tp : TP H zs
  few : zs.length ≤ 2305
  small : ∀ z ∈ zs, z.2.1 ≤ 1000 ∧ z.2.2 ≤ 1000
def HP (H : Hp) (gs : List HZ) : Prop := ∀ g ∈ gs, H g.1 = some (.lst (g.2.map zV)) ∧ SP H g.2
section
variable {H H' : Hp} {gs : List HZ} {zs ys : List ZP}
theorem SP.ex (h : SP H zs) (e : Ex H H') : SP H' zs := ⟨h.tp.ex e, h.few, h.small⟩
theorem SP.frp {p : Addr} (h : SP H zs) (hp : Purse H p) (e : FrP p H H') : SP H' zs := ⟨h.tp.frp hp e, h.few, h.small⟩
theorem SP.up {D : Addr} {xs : List V} {u : HO} (h : SP H zs) (hD : H D = some (.lst xs)) : SP (upd H D u) zs := ⟨h.tp.up hD, h.few, h.small⟩
theorem HP.ex (h : HP H gs) (e : Ex H H') : HP H' gs := fun g hg => ⟨e.get (h g hg).1, (h g hg).2.ex e⟩
theorem HP.frp {p : Addr} (h : HP H gs) (hp : Purse H p) (e : FrP p H H') : HP H' gs := fun g hg => ⟨e.get (zs_ne_purse (h g hg).1 hp) (h g hg).1, (h g hg).2.frp hp e⟩
/-- one of the lists changes -/
theorem HP.set {g : HZ} {i : Nat} (h : HP H gs) (nd : (gs.map (·.1)).Nodup) (hg : gs[i]? = some g) (hz : SP H zs) : HP (upd H g.1 (.lst (zs.map zV))) (gs.set i (g.1, zs)) := by
  have hgm := List.mem_of_getElem? hg
  have h1 := (h g hgm).1
  intro f hf
  obtain ⟨j, hj⟩ := List.getElem?_of_mem hf
  have hi : i < gs.length := (List.getElem?_eq_some_iff.mp hg).1
  by_cases e : j = i
  · subst e
    rw [List.getElem?_set_self hi] at hj
    cases hj
    exact ⟨upd_same, hz.up h1⟩
  · rw [List.getElem?_set_ne (Ne.symm e)] at hj
    have hfm := List.mem_of_getElem? hj
    have ne : f.1 ≠ g.1 := fun z => e (nd_ix (x := f.1) nd (by rw [List.getElem?_map, hj]; rfl) (by rw [List.getElem?_map, hg]; exact congrArg some z.symm))
    exact ⟨by rw [upd_ne ne]; exact (h f hfm).1, (h f hfm).2.up h1⟩
def encH (g : HZ) : PyData := .list (g.2.map fun z => encQ z.2)
theorem HP.rn {a : Addr} (h : HP H gs) (ha : H a = some (.lst (gs.map hV))) : Rn H (.ref a) (.list (gs.map encH)) := .lst ha (rnA_map fun g hg => (h g hg).2.tp.rnL (h g hg).1)
theorem HP.rp {a : Addr} (h : HP H gs) (ha : H a = some (.lst (gs.map hV))) : Rp H (.ref a) (.list (gs.map encH)) := .lst (lst_of ha) (rpA_map fun g hg => (h g hg).2.tp.rpL (h g hg).1)
theorem encH_depth (g : HZ) : (encH g).depth ≤ 3 := by
  have : PyData.depthAll (g.2.map fun z => encQ z.2) ≤ 2 := depth_map fun z _ => encQ_depth z.2
  simp only [encH, PyData.depth]
  omega
theorem gs_depth (gs : List HZ) : (PyData.list (gs.map encH)).depth ≤ 4 := by
  have : PyData.depthAll (gs.map encH) ≤ 3 := depth_map fun g _ => encH_depth g
  simp only [PyData.depth]
  omega
theorem okA_of {ds : List PyData} (h : ∀ d ∈ ds, okD d = true) : okA ds = true := by
  induction ds with
  | nil => rfl
  | cons d ds ih => simp only [okA, h d List.mem_cons_self, ih fun x hx => h x (List.mem_cons_of_mem _ hx), Bool.and_self]
theorem szA_le {ds : List PyData} {n : Nat} (h : ∀ d ∈ ds, szD d ≤ n) : szA ds ≤ ds.length * n := by
  induction ds with
  | nil => simp [szA]
  | cons d ds ih =>
    have h1 := h d List.mem_cons_self
    have h2 := ih fun x hx => h x (List.mem_cons_of_mem _ hx)
    simp only [szA, List.length_cons, Nat.succ_mul]
    omega
theorem hasDictA_of {ds : List PyData} (h : ∀ d ∈ ds, d.hasDict = false) : PyData.hasDictAll ds = false := by
  induction ds with
  | nil => rfl
  | cons d ds ih => simp only [PyData.hasDictAll, h d List.mem_cons_self, ih fun x hx => h x (List.mem_cons_of_mem _ hx), Bool.or_self]
theorem HP.sd {a : Addr} (h : HP H gs) (ha : H a = some (.lst (gs.map hV))) (hl : gs.length ≤ 100) : Sd H (.ref a) (.list (gs.map encH)) := by
  refine ⟨h.rn ha, fun z => ?_, ?_, ?_, Nat.le_trans (gs_depth gs) (by decide)⟩
  · have : PyData.hasDictAll (gs.map encH) = false := hasDictA_of fun d hd => by
      obtain ⟨g, hg, rfl⟩ := List.mem_map.mp hd
      exact hasDictA_of fun d hd => by
        obtain ⟨z, hz, rfl⟩ := List.mem_map.mp hd
        rfl
    simp only [PyData.hasDict, this] at z
    cases z
  · refine okA_of fun d hd => ?_
    obtain ⟨g, hg, rfl⟩ := List.mem_map.mp hd
    refine okA_of fun d hd => ?_
    obtain ⟨z, hz, rfl⟩ := List.mem_map.mp hd
    have := (h g hg).2.small z hz
    simp only [encQ, okD, okA, Bool.and_true, Bool.and_eq_true, decide_eq_true_eq]
    omega
  · have h1 : szA (gs.map encH) ≤ (gs.map encH).length * 6916 := szA_le fun d hd => by
      obtain ⟨g, hg, rfl⟩ := List.mem_map.mp hd
      have h2 : szA (g.2.map fun z => encQ z.2) ≤ (g.2.map fun z => encQ z.2).length * 3 := szA_le fun d hd => by
        obtain ⟨z, hz, rfl⟩ := List.mem_map.mp hd
        simp [encQ, szD, szA]
      have h3 := (h g hg).2.few
      rw [List.length_map] at h2
      simp only [encH, szD]
      omega
    rw [List.length_map] at h1
    simp only [szD]
    omega
variable {K : PySem.W.Frag} {Q : VK}
end
theorem Sm.cut {H : Hp} {xs : List V} {n k : Nat} {lo hi : Option Int} (h : ∀ x ∈ xs, Sm H x n k) : ∀ x ∈ cutV xs lo hi, Sm H x n k := fun x hx => h x (cutV_mem hx)
/-- any small data -/
def SdE (H : Hp) (v : V) : Prop := ∃ d, Sd H v d
theorem SdE.of {H : Hp} {v : V} {n k : Nat} (h : Sm H v n k) (h1 : n ≤ 999999) (h2 : k ≤ 59) : SdE H v := h.sd h1 h2
theorem SdE.ex {H H' : Hp} {v : V} (h : SdE H v) (e : Ex H H') : SdE H' v := by
  obtain ⟨d, h⟩ := h
  exact ⟨d, h.ex e⟩
theorem allE_nil {P : V → Prop} : ∀ x ∈ ([] : List V), P x := fun _ h => nomatch h
theorem allE_cons {P : V → Prop} {y : V} {ys : List V} (h : P y) (k : ∀ x ∈ ys, P x) : ∀ x ∈ y :: ys, P x := fun x hx => by
  rcases List.mem_cons.mp hx with e | e
  · rw [e]; exact h
  · exact k x e
mutual
/-- a thing is one data -/
theorem Rn.det {H : Hp} : ∀ {v : V} {d d' : PyData}, Rn H v d → Rn H v d' → d = d'
  | _, _, _, .non, .non => rfl
  | _, _, _, .bl _, .bl _ => rfl
  | _, _, _, .int _, .int _ => rfl
  | _, _, _, .str _, .str _ => rfl
  | _, _, _, .lst h k, .lst h' k' => by
    rw [h] at h'
    cases h'
    rw [RnA.det k k']
  | _, _, _, .tup h k, .tup h' k' => by
    rw [h] at h'
    cases h'
    rw [RnA.det k k']
  | _, _, _, .dk _, .dk _ => rfl
  | _, _, _, .lst h _, .tup h' _ => by rw [h] at h'; cases h'
  | _, _, _, .lst h _, .dk h' => by rw [h] at h'; cases h'
  | _, _, _, .tup h _, .lst h' _ => by rw [h] at h'; cases h'
  | _, _, _, .tup h _, .dk h' => by rw [h] at h'; cases h'
  | _, _, _, .dk h, .lst h' _ => by rw [h] at h'; cases h'
  | _, _, _, .dk h, .tup h' _ => by rw [h] at h'; cases h'
theorem RnA.det {H : Hp} : ∀ {vs : List V} {ds ds' : List PyData}, RnA H vs ds → RnA H vs ds' → ds = ds'
  | _, _, _, .nil, .nil => rfl
  | _, _, _, .cons h k, .cons h' k' => by rw [Rn.det h h', RnA.det k k']
end
theorem SdE.sd {H : Hp} {v : V} {d : PyData} (h : SdE H v) (r : Rn H v d) : Sd H v d := by
  obtain ⟨d', h⟩ := h
  rw [r.det h.rn]
  exact h
def SmA (H : Hp) (xs : List V) (n k : Nat) : Prop := ∃ ds, RnA H xs ds ∧ PyData.hasDictAll ds = false ∧ okA ds = true ∧ szA ds ≤ n ∧ PyData.depthAll ds ≤ k
section
variable {H : Hp} {v : V} {xs ys : List V} {n m k : Nat}
theorem SmA.of (h : ∀ x ∈ xs, Sm H x n k) (hm : xs.length ≤ m) : SmA H xs (m * n) k := by
  obtain ⟨ds, a, b, c, d, e⟩ := Sm.all h
  exact ⟨ds, a, b, c, Nat.le_trans d (Nat.mul_le_mul_right n hm), e⟩
theorem SmA.up {n' k' : Nat} (h : SmA H xs n k) (h1 : n ≤ n') (h2 : k ≤ k') : SmA H xs n' k' := by
  obtain ⟨ds, a, b, c, d, e⟩ := h
  exact ⟨ds, a, b, c, by omega, by omega⟩
theorem SmA.nil : SmA H [] 0 k := ⟨[], .nil, rfl, rfl, by simp [szA], by simp [PyData.depthAll]⟩
theorem SmA.cons (h : Sm H v n k) (t : SmA H xs m k) : SmA H (v :: xs) (n + m) k := by
  obtain ⟨ds, a, b, c, d, e⟩ := t
  obtain ⟨x, a1, b1, c1, d1, e1⟩ := h
  refine ⟨x :: ds, .cons a1 a, by simp [PyData.hasDictAll, b, b1], by simp [okA, c, c1], ?_, ?_⟩
  · simp only [szA]; omega
  · simp only [PyData.depthAll]; omega
theorem SmA.app : ∀ {xs : List V} {n : Nat}, SmA H xs n k → SmA H ys m k → SmA H (xs ++ ys) (n + m) k
  | [], n, _, t => t.up (by omega) (Nat.le_refl _)
  | x :: xs, n, ⟨ds, a, b, c, d, e⟩, t => by
    cases a with
    | @cons _ _ d0 ds0 a1 a2 =>
      simp only [PyData.hasDictAll, Bool.or_eq_false_iff] at b
      simp only [okA, Bool.and_eq_true] at c
      simp only [szA] at d
      simp only [PyData.depthAll] at e
      have h := SmA.app (xs := xs) ⟨ds0, a2, b.2, c.2, Nat.le_refl _, by omega⟩ t
      exact (SmA.cons (n := szD d0) ⟨d0, a1, b.1, c.1, Nat.le_refl _, by omega⟩ h).up (by omega) (Nat.le_refl _)
theorem SmA.lst {a : Addr} (h : H a = some (.lst xs)) (t : SmA H xs n k) : Sm H (.ref a) (1 + n) (k + 1) := by
  obtain ⟨ds, h1, h2, h3, h4, h5⟩ := t
  exact ⟨.list ds, .lst h h1, by simpa only [PyData.hasDict] using h2, by simpa only [okD] using h3, by simp only [szD]; omega, by simp only [PyData.depth]; omega⟩
theorem SmA.tup {a : Addr} (h : H a = some (.tup xs)) (t : SmA H xs n k) : Sm H (.ref a) (1 + n) (k + 1) := by
  obtain ⟨ds, h1, h2, h3, h4, h5⟩ := t
  exact ⟨.tuple ds, .tup h h1, by simpa only [PyData.hasDict] using h2, by simpa only [okD] using h3, by simp only [szD]; omega, by simp only [PyData.depth]; omega⟩
theorem ObjsAt.mem {ts : List Addr} {os : List HO} (h : ObjsAt H ts os) {a : Addr} (ha : a ∈ ts) : ∃ o ∈ os, H a = some o := by
  obtain ⟨j, hj⟩ := List.getElem?_of_mem ha
  have hl := h.len
  have hjl := (List.getElem?_eq_some_iff.mp hj).1
  obtain ⟨o, ho⟩ : ∃ o, os[j]? = some o := ⟨os[j]'(by omega), List.getElem?_eq_getElem _⟩
  exact ⟨o, List.mem_of_getElem? ho, h.at j a o hj ho⟩
end
theorem Ex.comp {M : Addr → Prop} {H0 H H' : Hp} (e0 : Ex H0 H) (e : Fr M H H') (n : ∀ b, M b → H0 b = none) : Ex H0 H' := fun b o _ q => e b o (fun m => by rw [n b m] at q; cases q) (e0 b o (fun z => z) q)
end Zb
namespace Zb
open PySem PySem.Spec PyProof.Rows L2
mutual
theorem Rq.ex {H H' : Hp} (e : Ex H H') : ∀ {v : V} {d : PyData}, Rq H v d → Rq H' v d
  | _, _, .non => .non
  | _, _, .bl b => .bl b
  | _, _, .int i => .int i
  | _, _, .str x => .str x
  | _, _, .lst h k => .lst (lstAt_ex e h) (RqA.ex e k)
  | _, _, .tup h k => .tup (tupAt_ex e h) (RqA.ex e k)
  | _, _, .dk h k => .dk (e.get h) (RqA.ex e k)
theorem RqA.ex {H H' : Hp} (e : Ex H H') : ∀ {vs : List V} {ds : List PyData}, RqA H vs ds → RqA H' vs ds
  | _, _, .nil => .nil
  | _, _, .cons h k => .cons (Rq.ex e h) (RqA.ex e k)
end
/-- v is d, and is shown by n signs at most, k deep -/
structure Sh (H : Hp) (v : V) (d : PyData) (n k : Nat) : Prop where
  rq : Rq H v d
  sw : d.showable = true
  dp : d.depth ≤ k
  sz : d.shown.length ≤ n
section
variable {H H' : Hp} {v : V} {d : PyData} {n k : Nat} {Q : VK}
theorem Sh.ex (h : Sh H v d n k) (e : Ex H H') : Sh H' v d n k := ⟨h.rq.ex e, h.sw, h.dp, h.sz⟩
theorem Sh.up {n' k' : Nat} (h : Sh H v d n k) (h1 : n ≤ n') (h2 : k ≤ k') : Sh H v d n' k' := ⟨h.rq, h.sw, by have := h.dp; omega, by have := h.sz; omega⟩
theorem Sh.non : Sh H .non .none 4 0 := ⟨.non, rfl, by simp [PyData.depth], by decide⟩
theorem Sh.bl (b : Bool) : Sh H (.bl b) (.bool b) 5 0 := ⟨.bl b, rfl, by simp [PyData.depth], by cases b <;> decide⟩
theorem Sh.str {x : Str} (hx : ∀ c ∈ x.cps.toList, c < 16 ^ 8) : Sh H (.str x) (.str x) (10 * x.length + 2) 0 := ⟨.str x, rfl, by simp [PyData.depth], PySem.StrLaws.reprText_len x hx⟩
theorem Sh.int {i : Int} {m : Nat} (hm : 0 < m) (h : i.natAbs < 10 ^ m) (h2 : i.natAbs.log2 < 1920) : Sh H (.int i) (.int i) (m + 1) 0 := ⟨.int i, by simpa only [PyData.showable, decide_eq_true_eq] using h2, by simp [PyData.depth], by
  have e := int_text_length_le10 hm h
  have e2 : (Str.ofString (toString i)).length = (toString i).length := PySem.ofString_length _
  show (Str.ofString (toString i)).length ≤ _
  omega⟩
/-- rows of shown things -/
inductive ShA (H : Hp) (k : Nat) : List V → List PyData → Nat → Prop
  | nil : ShA H k [] [] 0
  | cons {v : V} {d : PyData} {n : Nat} {vs : List V} {ds : List PyData} {m : Nat} : Sh H v d n k → ShA H k vs ds m → ShA H k (v :: vs) (d :: ds) (n + 2 + m)
theorem ShA.all : ∀ {vs : List V} {ds : List PyData} {m : Nat}, ShA H k vs ds m → RqA H vs ds ∧ PyData.showableAll ds = true ∧ PyData.depthAll ds ≤ k ∧ ((PyData.shownAll ds).map (·.length)).sum + 2 * ds.length ≤ m
  | _, _, _, .nil => ⟨.nil, rfl, by simp [PyData.depthAll], by simp [PyData.shownAll]⟩
  | _, _, _, .cons h t => by
    obtain ⟨a, b, c, e⟩ := ShA.all t
    refine ⟨.cons h.rq a, by simp [PyData.showableAll, h.sw, b], ?_, ?_⟩
    · have := h.dp
      simp only [PyData.depthAll]; omega
    · have := h.sz
      simp only [PyData.shownAll, List.map_cons, List.sum_cons, List.length_cons]; omega
theorem ShA.lst {a : Addr} {xs : List V} {ds : List PyData} (h : H a = some (.lst xs)) (t : ShA H k xs ds n) : Sh H (.ref a) (.list ds) (n + 3) (k + 1) := by
  obtain ⟨r, s, dp, sz⟩ := t.all
  have h2 := listText_len_le (PyData.shownAll ds)
  have h3 := PyData.shownAll_length ds
  exact ⟨.lst (lst_of h) r, by simpa only [PyData.showable] using s, by simp only [PyData.depth]; omega, by simp only [PyData.shown]; omega⟩
theorem ShA.tup {a : Addr} {xs : List V} {ds : List PyData} (h : H a = some (.tup xs)) (t : ShA H k xs ds n) : Sh H (.ref a) (.tuple ds) (n + 3) (k + 1) := by
  obtain ⟨r, s, dp, sz⟩ := t.all
  have h2 := tupleText_len_le (PyData.shownAll ds)
  have h3 := PyData.shownAll_length ds
  exact ⟨.tup (tup_of h) r, by simpa only [PyData.showable] using s, by simp only [PyData.depth]; omega, by simp only [PyData.shown]; omega⟩
theorem ShA.map {α : Type} {val : α → V} {enc : α → PyData} {m : Nat} : ∀ {xs : List α}, (∀ x ∈ xs, Sh H (val x) (enc x) m k) → ShA H k (xs.map val) (xs.map enc) (xs.length * (m + 2))
  | [], _ => by rw [List.length_nil, Nat.zero_mul]; exact .nil
  | x :: xs, h => by
    have := ShA.cons (h x List.mem_cons_self) (ShA.map fun y hy => h y (List.mem_cons_of_mem _ hy))
    rw [List.length_cons, Nat.succ_mul]
    rwa [show xs.length * (m + 2) + (m + 2) = m + 2 + xs.length * (m + 2) by omega]
theorem Sh.dk0 {a : Addr} (h : H a = some (.dK [])) : Sh H (.ref a) (.dict []) 2 1 := ⟨.dk0 h, rfl, by simp [PyData.depth, PyData.depthKv], by decide +kernel⟩
end
def rIsXs (K : PySem.W.Frag) (a : Addr) (cls : Value) (d : Option Addr) : List V → Hp → VK → Prop := fun xs H Q => ∃ (tp : Addr) (cs : List V) (cvs : List Value) (b : Bool) (C dd : Addr) (fs : List (Str × V)), xs = [.ref a, .ref tp] ∧ H tp = some (.tup cs) ∧ (∀ us, Vals cs us → us = cvs) ∧ cls = .ref C ∧ XI K C ∧ d = some dd ∧ H dd = some (.xd fs) ∧ PySem.W.kitAny K (.ref C) cvs = some b ∧ Q (.bl b) H
section
variable {K : PySem.W.Frag} {H : Hp} {Q : VK}
theorem st_isXs2 {a C C1 C2 dd tp : Addr} {fs : List (Str × V)} {b1 b2 : Bool} (T : XI K C) (h1 : H dd = some (.xd fs)) (ht : H tp = some (.tup [.ref C1, .ref C2])) (e1 : PySem.W.kitOne K (.ref C) (.ref C1) = some b1) (e2 : PySem.W.kitOne K (.ref C) (.ref C2) = some b2) (h : Q (.bl (b1 || b2)) H) : rIsXs K a (.ref C) (some dd) [.ref a, .ref tp] H Q := by
  refine ⟨tp, _, [.ref C1, .ref C2], b1 || b2, C, dd, fs, rfl, ht, fun us r => ?_, rfl, T, rfl, h1, ?_, h⟩
  · cases r with
    | cons r1 rr =>
      cases rr with
      | cons r2 rr =>
        cases rr
        cases r1
        cases r2
        rfl
  · unfold PySem.W.kitAny
    rw [e1]
    cases b1 with
    | true => rfl
    | false =>
      show PySem.W.kitAny K _ [.ref C2] = _
      unfold PySem.W.kitAny
      rw [e2]
      cases b2 <;> rfl
end
end Zb
namespace Zb
open PySem PySem.Spec PyProof.Rows L2
def rEqA (K : PySem.W.Frag) : R2 := fun x y H Q => rEqU x y H Q ∨ rEqV K x y H Q
theorem o_eqA {X : Cx} {K : PySem.W.Frag} (hu : X.A.units + 64 < cLine) (hK : X.K = K := by rfl) : OpR X (compareOp .Eq) (rEqA K) := by
  subst hK
  intro pins s σ H x y v u Q I rx ry h
  rcases h with h | h
  · exact o_eq hu pins s σ H x y v u Q I rx ry h
  · exact op_eqV hu pins s σ H x y v u Q I rx ry h
section
variable {K : PySem.W.Frag} {H : Hp} {Q : VK}
theorem st_eqA {x y : V} {d e : PyData} (h1 : Rp H x d) (h2 : Rp H y e) (hd : min d.depth e.depth ≤ 64) (h : Q (.bl (PyData.eqv d e)) H) : rEqA K x y H Q := .inl ⟨d, e, h1, h2, hd, h⟩
theorem st_eqA0 {a : Addr} (h1 : H a = some (.dK [])) (h : Q (.bl true) H) : rEqA K (.ref a) (.ref a) H Q :=
  .inr ⟨0, by decide, .inr ⟨a, a, [], [], rfl, rfl, h1, h1, rfl, fun _ h => (List.not_mem_nil h).elim⟩, h⟩
mutual
theorem eqv_self : ∀ d : PyData, d.hasDict = false → PyData.eqv d d = true
  | .none, _ => rfl
  | .bool b, _ => by simp [PyData.eqv]
  | .int i, _ => by simp [PyData.eqv]
  | .str x, _ => by simp [PyData.eqv]
  | .list ds, h => by
    simp only [PyData.eqv]
    exact eqvAll_self ds (by simpa only [PyData.hasDict] using h)
  | .tuple ds, h => by
    simp only [PyData.eqv]
    exact eqvAll_self ds (by simpa only [PyData.hasDict] using h)
  | .dict kvs, h => by simp [PyData.hasDict] at h
theorem eqvAll_self : ∀ ds : List PyData, PyData.hasDictAll ds = false → PyData.eqvAll ds ds = true
  | [], _ => rfl
  | d :: ds, h => by
    simp only [PyData.hasDictAll, Bool.or_eq_false_iff] at h
    simp only [PyData.eqvAll, eqv_self d h.1, eqvAll_self ds h.2, Bool.and_self]
end
/-- a thing is like itself -/
theorem st_eqSelf {x : V} {d : PyData} (h1 : Rn H x d) (hd : d.hasDict = true → d = .dict []) (hp : d.depth ≤ 64) (h : Q (.bl true) H) : rEqA K x x H Q := by
  cases hb : d.hasDict with
  | false => exact st_eqA (h1.rp hb) (h1.rp hb) (by omega) (by rw [eqv_self d hb]; exact h)
  | true =>
    have := hd hb
    subst this
    cases h1 with
    | dk h2 => exact st_eqA0 h2 h
end
end Zb
namespace Zb
open PySem PySem.Spec PyProof.Rows L2
def gSl (to : TE) (tl th : TO) : TG := fun v σ H Q => to σ H fun o H1 => tl σ H1 fun l H2 => th σ H2 fun u H3 => ∃ (p q : Addr) (xs ys : List V) (a c : Int), o = .ref p ∧ v = .ref q ∧ l = some a ∧ u = some c ∧ H3 p = some (.lst xs) ∧ H3 q = some (.lst ys) ∧ p ≠ q ∧ 0 ≤ a ∧ a ≤ c ∧ c ≤ xs.length ∧ xs.length + ys.length ≤ 16777216 ∧ Q σ (upd H3 p (.lst (xs.take a.toNat ++ ys ++ xs.drop c.toNat)))
theorem st_gsl {to : TE} {tl th : TO} {v : V} {σ : L2.St} {H : Hp} {R : L2.St → Hp → Prop} (h : to σ H fun o H1 => tl σ H1 fun l H2 => th σ H2 fun u H3 => ∃ (p q : Addr) (xs ys : List V) (a c : Int), o = .ref p ∧ v = .ref q ∧ l = some a ∧ u = some c ∧ H3 p = some (.lst xs) ∧ H3 q = some (.lst ys) ∧ p ≠ q ∧ 0 ≤ a ∧ a ≤ c ∧ c ≤ xs.length ∧ xs.length + ys.length ≤ 16777216 ∧ R σ (upd H3 p (.lst (xs.take a.toNat ++ ys ++ xs.drop c.toNat)))) : gSl to tl th v σ H R := h
abbrev TRg := L2.St → Hp → (Int → Int → Int → Hp → Prop) → Prop
def PRgC (X : Cx) (e : Expr) (t : TRg) : Prop := ∀ (pins : List (Addr × Obj)) (s : Shared) (σ : L2.St) (H : Hp) (Q : Int → Int → Int → Hp → Prop), Inv X pins σ H s → t σ H Q →
  wpAny (model X.prog X.w) X.A (eval e X.env) (fun x s' => ∃ r a b c t u v H', x = .ref r ∧ IsRange s'.heap r a b c t u v ∧ Inv X pins σ H' s' ∧ Q a b c H') X.xe s
def tRgC (ta : TA) : TRg := fun σ H Q => ta σ H fun vs H1 => match vs with
  | [.int n] => Q 0 n 1 H1
  | [.int i, .int j] => Q i j 1 H1
  | [.int i, .int j, .int c] => c ≠ 0 ∧ c.natAbs < 1073741824 ∧ Q i j c H1
  | _ => False
section
variable {X : Cx}
theorem prgC {es : List Expr} {e : Expr} {ta : TA} {p pos : Pos} (hg : Gl X "range") (hm : X.mg "range" = none) (ha : PA X (e :: es) ta) (hs : starEach (e :: es) X.env = (false, eval e X.env) :: starEach es X.env := by rfl)
    (hpl : (backTo pos (starEach es X.env)).any (·.1) = false := by rfl) : PRgC X (.Call (.Name "range" p) (e :: es) [] pos) (tRgC ta) := by
  intro pins s σ H Q I h
  refine Call_ (ld_blt I hg hm boot_range (PyProof.Rows.callWith_type1 (thn (ha.run pos pins s σ H _ I h) fun us s1 ⟨vs, H1, I1, r1, q1⟩ => ?_) hs hpl))
  dsimp only at q1
  split at q1
  · obtain ⟨u, rfl, t, rfl⟩ := vals1 r1
    exact call_range_1 ⟨_, _, _, _, _, _, _, H1, rfl, IsRange.new _ _ _ _ _ _ _, I1.kept fun _ _ z => Heap.get?_push_of_some _ z, q1⟩
  · obtain ⟨u, w, rfl, ⟨t, rfl⟩, t', rfl⟩ := vals2 r1
    exact call_range_2 ⟨_, _, _, _, _, _, _, H1, rfl, IsRange.new _ _ _ _ _ _ _, I1.kept fun _ _ z => Heap.get?_push_of_some _ z, q1⟩
  · obtain ⟨c0, c1, q1⟩ := q1
    cases r1 with
    | cons r rr =>
      obtain ⟨u, w, rfl, ⟨t1, rfl⟩, t2, rfl⟩ := vals2 rr
      obtain ⟨t, rfl⟩ := r
      exact call_range_3 c0 ⟨_, _, _, _, _, _, _, H1, rfl, IsRange.new _ _ _ _ _ _ _, I1.kept fun _ _ z => Heap.get?_push_of_some _ z, q1⟩ (.inl (PyProof.noPylong_small c1))
  · exact q1.elim
def rgL (a c : Int) (n : Nat) : List Int := (List.range n).map fun i : Nat => a + (i : Int) * c
theorem vals_rgL {a c : Int} {n : Nat} {acc : Array Value} (h : ItemsOf (fun i v => ∃ t, v = .int (a + i * c) t) acc n) : Vals ((rgL a c n).map V.int) acc.toList := by
  have e : acc.toList.length = n := by rw [Array.length_toList]; exact h.1
  unfold rgL
  rw [← e, List.map_map]
  refine vals_of_get acc.toList _ fun j u hj => ?_
  obtain ⟨t, rfl⟩ := h.2 j u (by rw [← hj, Array.getElem?_toList])
  exact ⟨t, rfl⟩
def tListRg (t : TRg) : TE := fun σ H Q => t σ H fun a b c H1 => ∃ n : Nat, Builtin.Range.small a b c = true ∧ Builtin.Range.rangeSize a b c = n ∧ n ≤ 16777216 ∧ ∀ q, H1 q = none → Q (.ref q) (upd H1 q (.lst ((rgL a c n).map V.int)))
theorem pe_listRgC {e : Expr} {t : TRg} {p pos : Pos} (hc : X.calm = true) (hg : Gl X "list") (hm : X.mg "list" = none) (he : PRgC X e t) (na : starEach [e] X.env = (false, eval e X.env) :: starEach [] X.env := by rfl) : PE X (.Call (.Name "list" p) [e] [] pos) (tListRg t) := by
  refine ⟨fun pins s σ H Q I h => ?_⟩
  refine Call_ (ld_blt I hg hm boot_list (PyProof.Rows.callWith_type1 (args_cons (thn (he pins s σ H _ I h) fun x s1 ⟨r, a, b, c, t, u, v, H1, ex, hr, I1, n, o1, o2, o3, q⟩ => args_nil ?_) na) na))
  subst ex
  refine call_list_range (n := n) (I1.ok.hd hc) hr o1 o2 o3 fun h' tk acc c' hk e' hi => ?_
  have hl : ((rgL a c n).map V.int).length ≤ sizeLine := by rw [List.length_map, rgL, List.length_map, List.length_range, sl16]; exact o3
  refine ⟨.ref s1.heap.objs.size, _, I1.laid (t' := tk) hk (Nat.le_refl _) (show ObjOk X.prog X.w _ h' _ (.lst _) from ⟨hl, acc.toList, c', vals_rgL hi, ?_⟩), rfl, q _ (I1.hok.fresh (Nat.le_refl _))⟩
  rw [Array.toArray_toList]
  exact e'
end
section
variable {σ : L2.St} {H : Hp} {Q : VK} {K : PySem.W.Frag}
def RgP (Q : VK) (a b c : Int) (H1 : Hp) : Prop := ∃ n : Nat, Builtin.Range.small a b c = true ∧ Builtin.Range.rangeSize a b c = n ∧ n ≤ 16777216 ∧ ∀ q, H1 q = none → Q (.ref q) (upd H1 q (.lst ((rgL a c n).map V.int)))
theorem st_listRg {t : TRg} (h : t σ H (RgP Q)) : tListRg t σ H Q := h
def RgQ (P : Int → Int → Int → Hp → Prop) (vs : List V) (H1 : Hp) : Prop := match vs with
  | [.int n] => P 0 n 1 H1
  | [.int i, .int j] => P i j 1 H1
  | [.int i, .int j, .int c] => c ≠ 0 ∧ c.natAbs < 1073741824 ∧ P i j c H1
  | _ => False
theorem st_rgC {ta : TA} {P : Int → Int → Int → Hp → Prop} (h : ta σ H (RgQ P)) : tRgC ta σ H P := h
theorem st_rg1 {n : Int} {P : Int → Int → Int → Hp → Prop} (h : P 0 n 1 H) : RgQ P [.int n] H := h
theorem st_rg2 {i j : Int} {P : Int → Int → Int → Hp → Prop} (h : P i j 1 H) : RgQ P [.int i, .int j] H := h
theorem st_rg3 {i j : Int} {P : Int → Int → Int → Hp → Prop} (h : P i j (-1) H) : RgQ P [.int i, .int j, .int (-1)] H := ⟨by decide, by decide, h⟩
theorem st_rgUp {a b : Int} (hz : -1000000 ≤ a ∧ a ≤ 1000000 ∧ -1000000 ≤ b ∧ b ≤ 1000000) (h : ∀ q H', H q = none → Ex H H' → H' q = some (.lst ((rgL a 1 (b - a).toNat).map V.int)) → Q (.ref q) H') : RgP Q a b 1 H :=
  ⟨(b - a).toNat, small_one (by omega) (by omega) (by omega) (by omega), rangeSize_nat a b, by omega, fun q hq => h q _ hq (Fr.new hq) upd_same⟩
theorem st_rgDown {a b : Int} (hz : -1000000 ≤ a ∧ a ≤ 1000000 ∧ -1000000 ≤ b ∧ b ≤ 1000000) (h : ∀ q H', H q = none → Ex H H' → H' q = some (.lst ((rgL a (-1) (a - b).toNat).map V.int)) → Q (.ref q) H') : RgP Q a b (-1) H :=
  ⟨(a - b).toNat, PySem.W.small_down (by omega) (by omega) (by omega) (by omega), PySem.W.rangeSize_downNat a b, by omega, fun q hq => h q _ hq (Fr.new hq) upd_same⟩
end
def iSeq (K : PySem.W.Frag) (tl : TE) : TI := fun σ H R => tl σ H fun x H1 => ∃ a xs, x = .ref a ∧ seqAt H1 a = some xs ∧ ∀ (J : It) (S : Hp → Prop), Runs J xs.length S (fun i x H H' => H' = H ∧ xs[i]? = some x) → (∀ H', H' a = H1 a → S H') → R J H1
/-- enumerate of a list or a tuple -/
def iEnQ (K : PySem.W.Frag) (ta : TA) : TI := fun σ H R => ta σ H fun vs H1 => ∃ a xs, vs = [.ref a] ∧ seqAt H1 a = some xs ∧ ∀ (J : It) (S : Hp → Prop), Runs J xs.length S (fun i x H H' => ∃ T v, x = .ref T ∧ H T = none ∧ Ex H H' ∧ H' T = some (.tup [.int (i : Nat), v]) ∧ xs[i]? = some v) → (∀ H', H' a = H1 a → S H') → R J H1
section
variable {σ : L2.St} {H : Hp} {K : PySem.W.Frag}
theorem st_iSeq {tl : TE} {R : It → Hp → Prop} (h : tl σ H fun x H1 => ∃ a xs, x = .ref a ∧ seqAt H1 a = some xs ∧ ∀ (J : It) (S : Hp → Prop), Runs J xs.length S (fun i x H H' => H' = H ∧ xs[i]? = some x) → (∀ H', H' a = H1 a → S H') → R J H1) : iSeq K tl σ H R := h
theorem st_iEnQ {ta : TA} {R : It → Hp → Prop} (h : ta σ H fun vs H1 => ∃ a xs, vs = [.ref a] ∧ seqAt H1 a = some xs ∧ ∀ (J : It) (S : Hp → Prop), Runs J xs.length S (fun i x H H' => ∃ T v, x = .ref T ∧ H T = none ∧ Ex H H' ∧ H' T = some (.tup [.int (i : Nat), v]) ∧ xs[i]? = some v) → (∀ H', H' a = H1 a → S H') → R J H1) : iEnQ K ta σ H R := h
end
theorem Rn.seq {H : Hp} {x : V} {d : PyData} (h : Rn H x d) (hd : (isListD d || isTupD d) = true) : ∃ a xs ds, x = .ref a ∧ seqAt H a = some xs ∧ RnA H xs ds ∧ (d = .list ds ∨ d = .tuple ds) := by
  cases h with
  | lst h k => exact ⟨_, _, _, rfl, seq_l h, k, .inl rfl⟩
  | tup h k => exact ⟨_, _, _, rfl, seq_t h, k, .inr rfl⟩
  | _ => cases hd
def rDivW : R2 := fun x y H Q => match x, y with
  | .int i, .int j => 0 < j ∧ j < 1267650600228229401496703205376 ∧ Q (.int (i / j)) H
  | _, _ => False
theorem st_divW {H : Hp} {Q : VK} {i j : Int} (hc : 0 < j ∧ j < 1267650600228229401496703205376) (h : Q (.int (i / j)) H) : rDivW (.int i) (.int j) H Q := ⟨hc.1, hc.2, h⟩
end Zb
namespace Zb
open PySem PySem.Spec PyProof.Rows L2
/-- tuples of like things: the very same ones, or data that are alike -/
inductive Lk (H : Hp) : V → V → Prop
  | same (a : Addr) : Lk H (.ref a) (.ref a)
  | dat {x y : V} {d e : PyData} : Rp H x d → Rp H y e → min d.depth e.depth ≤ 60 → PyData.eqv d e = true → Lk H x y
section
variable {K : PySem.W.Frag} {H : Hp} {Q : VK}
theorem Lk.str (z : Str) : Lk H (.str z) (.str z) := .dat (.str z) (.str z) (by simp [PyData.depth]) (by rw [eqv_str]; exact decide_eq_true rfl)
theorem Lk.bl (z : Bool) : Lk H (.bl z) (.bl z) := .dat (.bl z) (.bl z) (by simp [PyData.depth]) (by cases z <;> rfl)
theorem Lk.int (z : Int) : Lk H (.int z) (.int z) := .dat (.int z) (.int z) (by simp [PyData.depth]) (by rw [eqv_int]; exact decide_eq_true rfl)
theorem st_dinU {ty td : TE} {σ : L2.St} (h : ty σ H fun y H1 => td σ H1 fun x H2 => ∃ a o, x = .ref a ∧ DGet H2 a y o ∧ Q (.bl o.isSome) H2) : tDIn ty td σ H Q := h
theorem st_dninU {ty td : TE} {σ : L2.St} (h : ty σ H fun y H1 => td σ H1 fun x H2 => ∃ a o, x = .ref a ∧ DGet H2 a y o ∧ Q (.bl (!o.isSome)) H2) : tDNotIn ty td σ H Q := h
theorem st_dputU {td ty tv : TE} {D : Ends} {σ : L2.St} (h : tv σ H fun v H1 => td σ H1 fun x H2 => ty σ H2 fun y H3 => ∃ a H4, x = .ref a ∧ DPut H3 a y v H4 ∧ D.nx σ H4) : sDPut td ty tv D σ H := h
theorem st_dnewT {σ : L2.St} (h : ∀ p H', H p = none → Ex H H' → H' p = some (.dT []) → Q (.ref p) H') : tDNewT σ H Q := fun p hp => h p _ hp (Fr.new hp) upd_same
end
end Zb
namespace Zb
open PySem PySem.Spec PyProof.Rows L2
/-- a method of the class cls -/
structure Dm (K : PySem.W.Frag) (cls m qual : Str) (st : Stmt) (ps : List Str) (f : Addr) (fd : FuncData) : Prop where
  g : Meth K (clsA K cls) m f
  F : Fun K m qual st f fd
  b : Binds K fd ps []
theorem dm_mk {K : PySem.W.Frag} {cls m qual : Str} {st : Stmt} {ps : List Str} {f : Addr} {oc : Value} {od an : Option Addr} {osl : Array (Option Value)} {kV dc pm cd ct : Value}
    (a : PySem.W.findIn K (.ref (clsA K cls)) m = some (some (.ref f))) (i : PySem.W.isFn K (.ref f) = true) (l : K.lookup f = some ⟨oc, od, .func (PySem.W.fnOf m qual (defArgs st) (defBody st) (defScope st) .none kV dc pm an cd ct), osl⟩) (c : PySem.W.codeIn K cd qual = true) (k : PySem.W.keepIn K (.ref f) = true)
    (hb : ∀ (kV doc pm : Value) (an : Option Addr) (cdv ct : Value) (us : List Value), us.length = ps.length → bindArgs (PySem.W.fnOf m qual (defArgs st) (defBody st) (defScope st) .none kV doc pm an cdv ct) ⟨us, []⟩ = pure (ps.zip us)) :
    Dm K cls m qual st ps f (PySem.W.fnOf m qual (defArgs st) (defBody st) (defScope st) .none kV dc pm an cd ct) :=
  have F := fun_mk (st := st) l c k
  ⟨⟨a, i, k⟩, F, F.binds hb⟩
section
variable {X : Cx} {K : PySem.W.Frag} {e o value : Expr} {f : Str} {pos pos' : Pos} {ta tv : TE}
theorem pe_fldK (he : PE X e ta) (hb : attributeBase e f X.env (eval e X.env) = eval e X.env) (hK : X.K = K := by rfl) : PE X (.Attribute e f pos) (tFld K ta f) := by subst hK; exact pe_fld he hb
theorem ps_fldK (ha : PE X o ta) (hv : PE X value tv) (hs : swapsWith value (some (.Attribute o f pos')) pos.line X.env = pure false) (hK : X.K = K := by rfl) : PS X (.Assign [.Attribute o f pos'] value pos) (sFld K ta tv f) := by subst hK; exact ps_fld ha hv hs
end
section
variable {K : PySem.W.Frag} {σ : L2.St} {H : Hp} {Q : VK} {D : Ends} {C : Addr}
def FldP (K : PySem.W.Frag) (f : Str) (Q : VK) (x : V) (H1 : Hp) : Prop := ∃ a C dx fs v, x = .ref a ∧ H1 a = some (.ins C dx fs) ∧ Cls K C ∧ NoAttr K C f ∧ fs.lookup f = some v ∧ Q v H1
theorem st_fld {ta : TE} {f : Str} (h : ta σ H (FldP K f Q)) : tFld K ta f σ H Q := h
theorem st_fldP {f : Str} {a dx : Addr} {fs : List (Str × V)} {v : V} (h1 : H a = some (.ins C dx fs)) (c : Cls K C) (n : NoAttr K C f) (l : fs.lookup f = some v) (h : Q v H) : FldP K f Q (.ref a) H := ⟨a, C, dx, fs, v, rfl, h1, c, n, l, h⟩
def FldS (K : PySem.W.Frag) (f : Str) (y : V) (P : Hp → Prop) (x : V) (H2 : Hp) : Prop := ∃ a C dx fs, x = .ref a ∧ H2 a = some (.ins C dx fs) ∧ Cls K C ∧ NoAttr K C f ∧ fs.length < 1000 ∧ P (upd H2 a (.ins C dx (putF f y fs)))
theorem st_fldS {ta tv : TE} {f : Str} (h : tv σ H fun y H1 => ta σ H1 (FldS K f y (D.nx σ))) : sFld K ta tv f D σ H := h
theorem st_fldSP {f : Str} {y : V} {P : Hp → Prop} {a dx : Addr} {fs : List (Str × V)} (h1 : H a = some (.ins C dx fs)) (c : Cls K C) (n : NoAttr K C f) (l : fs.length < 1000) (h : P (upd H a (.ins C dx (putF f y fs)))) : FldS K f y P (.ref a) H := ⟨a, C, dx, fs, rfl, h1, c, n, l, h⟩
theorem putF_nil {f : Str} {y : V} : putF f y [] = [(f, y)] := rfl
theorem putF_ne {f g : Str} {y v : V} {r : List (Str × V)} (h : ¬ g = f) : putF f y ((g, v) :: r) = (g, v) :: putF f y r := by
  show (if g = f then _ else _) = _
  rw [if_neg h]
def MethP (C : Addr) (m : Str) (sp : Sp) (dvs : List V) (E : XK) (t : TA) (σ : L2.St) (Q : VK) (x : V) (H1 : Hp) : Prop := ∃ a dx fs, x = .ref a ∧ H1 a = some (.ins C dx fs) ∧ fs.lookup m = none ∧ t σ H1 fun vs H2 => sp (x :: (vs ++ dvs)) H2 Q E
theorem st_meth {m : Str} {sp : Sp} {dvs : List V} {E : XK} {ta : TE} {t : TA} (h : ta σ H (MethP C m sp dvs E t σ Q)) : tMeth C m sp dvs E ta t σ H Q := h
theorem st_methP {m : Str} {sp : Sp} {dvs : List V} {E : XK} {t : TA} {a dx : Addr} {fs : List (Str × V)} (h1 : H a = some (.ins C dx fs)) (l : fs.lookup m = none) (h : t σ H fun vs H2 => sp (.ref a :: (vs ++ dvs)) H2 Q E) : MethP C m sp dvs E t σ Q (.ref a) H := ⟨a, dx, fs, rfl, h1, l, h⟩
def MakeP (C : Addr) (sp : Sp) (dvs : List V) (E : XK) (Q : VK) (vs : List V) (H1 : Hp) : Prop := ∀ x dx, H1 x = none → H1 dx = none → dx ≠ x → sp (.ref x :: (vs ++ dvs)) (upd (upd H1 dx (.own x)) x (.ins C dx [])) (fun v H2 => v = .non ∧ Q (.ref x) H2) E
theorem st_make {sp : Sp} {dvs : List V} {E : XK} {t : TA} (h : t σ H (MakeP C sp dvs E Q)) : tMake C sp dvs E t σ H Q := h
theorem st_makeP {sp : Sp} {dvs : List V} {E : XK} {vs : List V} (h : ∀ x dx H', H x = none → Ex H H' → H' x = some (.ins C dx []) → sp (.ref x :: (vs ++ dvs)) H' (fun v H2 => v = .non ∧ Q (.ref x) H2) E) : MakeP C sp dvs E Q vs H := fun x dx nx nd ne =>
  h x dx _ nx ((Fr.new nd).trans (Fr.new (by rw [upd_ne (Ne.symm ne)]; exact nx))) upd_same
end
/-- a comprehension of which something is told item by item -/
theorem lc_rel {J : It} {S : Hp → Prop} {item : Nat → V → Hp → Hp → Prop} {g : TG} {σ : L2.St} {H1 : Hp} {te : TE} {vs : List Nat} {Q : VK} {n : Nat} (hR : Runs J n S item) (hE : ∀ i x H H', item i x H H' → Ex H H') (hS : ∀ H', Ex H1 H' → S H') (hz : n < 1000000) (R : Nat → V → Prop)
    (hs : ∀ i x H' H'', i < n → Ex H1 H' → item i x H' H'' → ∀ (B : V → Hp → Prop), (∀ v H3, R i v → Ex H'' H3 → B v H3) → g x (wipe σ vs) H'' fun σ2 H2 => wipe σ2 vs = wipe σ vs ∧ te σ2 H2 B)
    (hd : ∀ D H' acc, H1 D = none → Ex H1 H' → H' D = some (.lst acc) → acc.length = n → (∀ i v, acc[i]? = some v → R i v) → Q (.ref D) H')
    (hg : ∀ v σ H (P P' : L2.St → Hp → Prop), (∀ σ H, P σ H → P' σ H) → g v σ H P → g v σ H P' := by intro _ _ _ _ _ k h; exact k _ _ h) : LcGoal J g tYes te vs σ Q H1 := by
  refine lc_runs hR (fun _ => False) (fun i acc _ => acc.length = i ∧ ∀ j v, acc[j]? = some v → R j v) (fun _ z => z.elim) ⟨rfl, by simp⟩ (fun i acc H' D o _ _ e => e) (fun i acc H' e _ => hS H' e) ?_ ?_
  · rintro D i acc x H' H'' hi L ⟨hl, hacc⟩ hx
    have e := hE _ _ _ _ hx
    refine hg _ _ _ _ _ (fun σ2 H2 h => ⟨h.1, h.2⟩) (hs i x H' H'' hi L.fr hx (fun v H4 => ∃ acc, H4 D = some (.lst acc) ∧ acc.length < sizeLine ∧ LcW (fun _ => False) H1 (fun i acc _ => acc.length = i ∧ ∀ j v, acc[j]? = some v → R j v) D (i + 1) (upd H4 D (.lst (acc ++ [v])))) fun v H3 hr e3 => ?_)
    refine lc_yes L (fun i acc H' D o _ _ e => e) (e.trans e3) (by omega) ⟨by rw [List.length_append, hl]; rfl, fun j w hw => ?_⟩
    by_cases hj : j < acc.length
    · rw [List.getElem?_append_left hj] at hw
      exact hacc j w hw
    · rw [List.getElem?_append_right (by omega)] at hw
      have hj0 : j - acc.length = 0 := by
        have := (List.getElem?_eq_some_iff.mp hw).1
        rw [List.length_singleton] at this
        omega
      rw [hj0] at hw
      cases hw
      rw [show j = i by omega]
      exact hr
  · rintro D acc H' hD e h ⟨hl, hacc⟩
    exact hd D H' acc hD e h hl hacc
end Zb
namespace Zb
open PySem PySem.Spec PyProof.Rows L2
end Zb
namespace Zb
open PySem PySem.Spec PyProof.Rows L2
open Evl (tCut pss_cut)
/-- an exception of the class cls, its dict at d, kept at a -/
def XkO (a : Addr) (cls : Value) (d : Option Addr) : HO := .ext fun h => ∃ (oe : Obj) (vs : Array Value), h.get? a = some oe ∧ Zc cls d oe ∧ oe.data = .fields vs
def XkP (K : PySem.W.Frag) (n : Str) (Q : VK) : VK := fun x H1 => ∃ (a C dd : Addr) (fs : List (Str × V)) (v : V), x = .ref a ∧ H1 a = some (XkO a (.ref C) (some dd)) ∧ XI K C ∧ PySem.W.findIn K (.ref C) n = some none ∧ H1 dd = some (.xd fs) ∧ fs.lookup n = some v ∧ Q v H1
def tXk (K : PySem.W.Frag) (n : Str) (te : TE) : TE := fun σ H Q => te σ H (XkP K n Q)
section
variable {X : Cx} {K : PySem.W.Frag}
/-- isinstance(e, C), isinstance(e, (C1, ..)), e a kept exception -/
def rIsK (K : PySem.W.Frag) : List V → Hp → VK → Prop := fun xs H Q => ∃ (a : Addr) (c : V) (cv : Value) (b : Bool) (C dd : Addr) (fs : List (Str × V)), xs = [.ref a, c] ∧ H a = some (XkO a (.ref C) (some dd)) ∧ (∀ u, RelV c u → u = cv) ∧ XI K C ∧ H dd = some (.xd fs) ∧ PySem.W.kitOne K (.ref C) cv = some b ∧ Q (.bl b) H
def rIsKs (K : PySem.W.Frag) : List V → Hp → VK → Prop := fun xs H Q => ∃ (a tp : Addr) (cs : List V) (cvs : List Value) (b : Bool) (C dd : Addr) (fs : List (Str × V)), xs = [.ref a, .ref tp] ∧ H a = some (XkO a (.ref C) (some dd)) ∧ H tp = some (.tup cs) ∧ (∀ us, Vals cs us → us = cvs) ∧ XI K C ∧ H dd = some (.xd fs) ∧ PySem.W.kitAny K (.ref C) cvs = some b ∧ Q (.bl b) H
end
section
variable {K : PySem.W.Frag} {σ : L2.St} {H : Hp} {Q : VK}
theorem st_xk {n : Str} {te : TE} (h : te σ H (XkP K n Q)) : tXk K n te σ H Q := h
theorem st_xkP {a C dd : Addr} {n : Str} {fs : List (Str × V)} {v : V} (h0 : H a = some (XkO a (.ref C) (some dd))) (T : XI K C) (hno : PySem.W.findIn K (.ref C) n = some none) (h1 : H dd = some (.xd fs)) (h2 : fs.lookup n = some v) (h : Q v H) : XkP K n Q (.ref a) H := ⟨a, C, dd, fs, v, rfl, h0, T, hno, h1, h2, h⟩
theorem st_isK {a C C' dd : Addr} {fs : List (Str × V)} {b : Bool} (h0 : H a = some (XkO a (.ref C) (some dd))) (T : XI K C) (h1 : H dd = some (.xd fs)) (e : PySem.W.kitOne K (.ref C) (.ref C') = some b) (h : Q (.bl b) H) : rIsK K [.ref a, .ref C'] H Q :=
  ⟨a, .ref C', .ref C', b, C, dd, fs, rfl, h0, fun u r => by cases r; rfl, T, h1, e, h⟩
theorem st_isKT {a C dd : Addr} {fs : List (Str × V)} {n : String} {b : Bool} (h0 : H a = some (XkO a (.ref C) (some dd))) (T : XI K C) (h1 : H dd = some (.xd fs)) (e : PySem.W.kitOne K (.ref C) (.type n) = some b) (h : Q (.bl b) H) : rIsK K [.ref a, .ty n] H Q :=
  ⟨a, .ty n, .type n, b, C, dd, fs, rfl, h0, fun u r => by cases r; rfl, T, h1, e, h⟩
/-- of no class among these -/
inductive KitN (K : PySem.W.Frag) (C : Addr) : List V → Prop
  | nil : KitN K C []
  | cons {D : Addr} {l : List V} : PySem.W.kitOne K (.ref C) (.ref D) = some false → KitN K C l → KitN K C (.ref D :: l)
theorem KitN.any {C : Addr} : ∀ {l : List V}, KitN K C l → ∃ cvs : List Value, (∀ us, Vals l us → us = cvs) ∧ PySem.W.kitAny K (.ref C) cvs = some false
  | _, .nil => ⟨[], fun us r => by cases r; rfl, rfl⟩
  | _, .cons (D := D) h t => by
    obtain ⟨cvs, h1, h2⟩ := t.any
    refine ⟨.ref D :: cvs, fun us r => ?_, ?_⟩
    · cases r with
      | cons r1 rr =>
        cases r1
        rw [h1 _ rr]
    · unfold PySem.W.kitAny
      rw [h]
      exact h2
theorem st_isKs {a C dd tp : Addr} {cs : List V} {fs : List (Str × V)} (h0 : H a = some (XkO a (.ref C) (some dd))) (T : XI K C) (h1 : H dd = some (.xd fs)) (ht : H tp = some (.tup cs)) (k : KitN K C cs) (h : Q (.bl false) H) : rIsKs K [.ref a, .ref tp] H Q := by
  obtain ⟨cvs, k1, k2⟩ := k.any
  exact ⟨a, tp, cs, cvs, false, C, dd, fs, rfl, h0, ht, k1, T, h1, k2, h⟩
end
end Zb
namespace Zb
open PySem PySem.Spec PyProof.Rows L2
open Evl (tCut pss_cut)
def rRv : V → Hp → VK → Prop := fun x H Q => ∃ a xs, x = .ref a ∧ ((lstAt H a = some xs ∧ ∀ q, H q = none → Q (.ref q) (upd H q (.lst xs.reverse))) ∨ (tupAt H a = some xs ∧ ∀ q, H q = none → Q (.ref q) (upd H q (.tup xs.reverse))))
def tRv (te ts : TE) : TE := fun σ H Q => te σ H fun x H1 => ts σ H1 fun s H4 => s = .int (-1) ∧ rRv x H4 Q
section
variable {K : PySem.W.Frag} {σ : L2.St} {H : Hp} {Q : VK}
def RvP (Q : VK) (x s : V) (H4 : Hp) : Prop := s = .int (-1) ∧ rRv x H4 Q
theorem st_rv {te ts : TE} (h : te σ H fun x H1 => ts σ H1 fun s H4 => RvP Q x s H4) : tRv te ts σ H Q := h
theorem st_rvQ {a : Addr} {xs : List V} (h1 : seqAt H a = some xs) (h : ∀ q H', H q = none → Ex H H' → seqAt H' q = some xs.reverse → Q (.ref q) H') : RvP Q (.ref a) (.int (-1)) H :=
  ⟨rfl, a, xs, rfl, (seqAt_cases h1).elim (fun z => .inl ⟨z, fun q hq => h q _ hq (Fr.new hq) (seq_l upd_same)⟩) fun z => .inr ⟨z, fun q hq => h q _ hq (Fr.new hq) (seq_t upd_same)⟩⟩
end
end Zb
namespace SrtO
open PySem PyProof.Rows Srt
end SrtO
namespace Zb
open PySem PySem.Spec PyProof.Rows L2
end Zb
namespace Zb
open PySem PySem.Spec PyProof.Rows L2
/-- x += a text -/
def rIpS : R2 := fun x y H Q => ∃ a b : Str, x = .str a ∧ y = .str b ∧ a.length + b.length ≤ 16777216 ∧ Q (.str (a ++ b)) H
theorem ip_addS {X : Cx} : PIp X .Add rIpS := by
  intro pins s σ H x y v u Q I r1 r2 h
  obtain ⟨a, b, rfl, rfl, hz, q⟩ := h
  exact iop_add_str pins s σ H _ _ v u Q I r1 r2 ⟨a, b, rfl, rfl, by rw [sl16]; exact hz, q⟩
section
variable {σ : L2.St} {H : Hp} {Q : VK} {D : Ends}
theorem st_augS {i : Nat} {te : TE} {z : Str} (hx : σ[i]? = some (some (.str z))) (h : te σ H (fun y H1 => rIpS (.str z) y H1 fun z H2 => D.nx (σ.set i (some z)) H2)) : tAug i te rIpS D σ H := ⟨_, hx, h⟩
theorem st_ipS {x y : Str} (hz : x.length + y.length ≤ 16777216) (h : Q (.str (x ++ y)) H) : rIpS (.str x) (.str y) H Q := ⟨x, y, rfl, rfl, hz, h⟩
end
end Zb
namespace Zb
open PySem PySem.Spec PyProof.Rows L2
end Zb
namespace Zb
open PySem PySem.Spec PyProof.Rows L2
section
variable {X : Cx} {CX : CXT} {k : Nat} {f C : Addr} {fd : FuncData} {ps : List Str} {sp : Sp} {E : L2.St → XK} {x m : Str} {p pos apos : Pos} {e o : Expr} {es : List Expr} {ta : TE} {t : TA}
def tMethS (C : Addr) (m : Str) (sp : Sp) (E : L2.St → XK) (ta : TE) (t : TA) : TE := fun σ H Q => ta σ H (MethP C m sp [] (E σ) t σ Q)
def tMakeS (C : Addr) (sp : Sp) (E : L2.St → XK) (t : TA) : TE := fun σ H Q => t σ H (MakeP C sp [] (E σ) Q)
end
section
variable {σ : L2.St} {H : Hp} {Q : VK} {C : Addr} {sp : Sp} {W : WX}
theorem st_methS {m : Str} {ta : TE} {t : TA} (h : ta σ H (MethP C m sp [] (WE W σ) t σ Q)) : tMethS C m sp (WE W) ta t σ H Q := h
theorem st_makeS {t : TA} (h : t σ H (MakeP C sp [] (WE W σ) Q)) : tMakeS C sp (WE W) t σ H Q := h
end
end Zb
namespace Zb
open PySem PySem.Spec PyProof.Rows L2 SrtO
def IsTri (h : Heap) (v : Value) (k : Int × Int × Int) : Prop := ∃ a o t u r n, v = .ref a ∧ h.get? a = some o ∧ o.cls = .type "tuple" ∧ o.data = .seq #[.int k.1 t, .int k.2.1 u, .int k.2.2 r] n
theorem IsTri.keeps {h h' : Heap} {v : Value} {k : Int × Int × Int} (p : IsTri h v k) (kk : ∀ b o, h.get? b = some o → o.cls = .type "tuple" → h'.get? b = some o) : IsTri h' v k := by
  obtain ⟨a, o, t, u, r, n, e, ho, hc, hd⟩ := p
  exact ⟨a, o, t, u, r, n, e, kk _ _ ho hc, hc, hd⟩
def tri3 (q : Int × Int × Int) : HO := .tup [.int q.1, .int q.2.1, .int q.2.2]
abbrev ZT := Addr × (Int × Int × Int)
def T3 (H : Hp) (zs : List ZT) : Prop := ∀ z ∈ zs, H z.1 = some (tri3 z.2)
section
variable {H H' : Hp} {zs ys : List ZT}
theorem T3.ex (h : T3 H zs) (e : Ex H H') : T3 H' zs := fun z hz => e.get (h z hz)
theorem T3.up {D : Addr} {xs : List V} {u : HO} (h : T3 H zs) (hD : H D = some (.lst xs)) : T3 (upd H D u) zs := fun z hz => by
  rw [upd_ne fun e => by have := h z hz; rw [e, hD] at this; cases this]
  exact h z hz
theorem T3.app (h : T3 H zs) (k : T3 H ys) : T3 H (zs ++ ys) := fun z hz => (List.mem_append.mp hz).elim (h z) (k z)
theorem T3.cons {z : ZT} (h : H z.1 = some (tri3 z.2)) (k : T3 H ys) : T3 H (z :: ys) := fun y hy => by
  rcases List.mem_cons.mp hy with rfl | hy
  · exact h
  · exact k y hy
end
def rMin3 : List V → Hp → VK → Prop := fun vs H Q => match vs with
  | [.int i, .int j, .int k] => Q (.int (min (min i j) k)) H
  | _ => False
theorem st_min3 {i j k : Int} {H : Hp} {Q : VK} (h : Q (.int (min (min i j) k)) H) : Zb.rMin3 [.int i, .int j, .int k] H Q := h
end Zb
namespace Zb
open PySem PySem.Spec PyProof.Rows L2
section
variable {X : Cx} {CX : CXT} {k : Nat} {f : Addr} {fd : FuncData} {ps : List Str} {sp : Sp} {E : XK} {e o : Expr} {es : List Expr} {ta : TE} {t : TA} {p1 p2 pos apos : Pos} {nm m : Str}
def MethD (CS : Addr → Prop) (m : Str) (sp : Addr → Sp) (E : XK) (t : TA) (σ : L2.St) (Q : VK) (x : V) (H1 : Hp) : Prop := ∃ a C dx fs, x = .ref a ∧ H1 a = some (.ins C dx fs) ∧ CS C ∧ fs.lookup m = none ∧ t σ H1 fun vs H2 => sp C (x :: vs) H2 Q E
def tMethD (CS : Addr → Prop) (m : Str) (sp : Addr → Sp) (E : XK) (ta : TE) (t : TA) : TE := fun σ H Q => ta σ H (MethD CS m sp E t σ Q)
variable {CS : Addr → Prop} {spD : Addr → Sp}
end
section
variable {σ : L2.St} {H : Hp} {Q : VK} {CS : Addr → Prop} {m : Str} {sp : Addr → Sp} {E : XK}
theorem st_methD {ta : TE} {t : TA} (h : ta σ H (MethD CS m sp E t σ Q)) : tMethD CS m sp E ta t σ H Q := h
end
end Zb
namespace Zb
open PySem PySem.Spec PyProof.Rows L2
section
variable {K : PySem.W.Frag} {H : Hp} {Q : VK}
theorem st_dget {td ty : TE} {σ : L2.St} (h : td σ H fun x H1 => ty σ H1 fun y H2 => ∃ a v, x = .ref a ∧ DGet H2 a y (some v) ∧ Q v H2) : tDGet td ty σ H Q := h
end
end Zb
namespace Zb
open PySem PySem.Spec PyProof.Rows L2
def gvEq : V → Value → Bool
  | .int i, .int j _ => i == j
  | .str x, .str y _ => x == y
  | _, _ => false
theorem gvEq_rel {v : V} {u : Value} (h : gvEq v u = true) : RelV v u := by
  cases v <;> cases u <;> simp only [gvEq, Bool.false_eq_true, beq_iff_eq] at h
  · subst h; exact ⟨_, rfl⟩
  · subst h; exact ⟨_, rfl⟩
def gdAll : List DictEntry → List (Str × V) → Bool
  | [], [] => true
  | e :: es, p :: ps => (match e.key with | .str x _ => x == p.1 | _ => false) && (gvEq p.2 e.val && gdAll es ps)
  | _, _ => false
def valS (kvs : List (Str × V)) (x : Str) : Option V := (kvs.find? fun p => p.1 == x).map (·.2)
theorem gd_find {x : Str} : ∀ {es : List DictEntry} {kvs : List (Str × V)}, gdAll es kvs = true → RelO (valS kvs x) ((es.find? fun e => Value.isStrOf x e.key).map (·.val))
  | [], [], _ => trivial
  | [], _ :: _, h => by cases h
  | _ :: _, [], h => by cases h
  | e :: es, p :: ps, h => by
    unfold gdAll at h
    rw [Bool.and_eq_true, Bool.and_eq_true] at h
    obtain ⟨h1, h2, h3⟩ := h
    obtain ⟨k, t, hk⟩ : ∃ k t, e.key = .str k t := by
      cases q : e.key <;> rw [q] at h1 <;> first | exact ⟨_, _, rfl⟩ | cases h1
    rw [hk] at h1
    have h1 : (k == p.1) = true := h1
    unfold valS
    rw [List.find?_cons, List.find?_cons, hk]
    have e1 : Value.isStrOf x (.str k t) = (p.1 == x) := by
      rw [beq_iff_eq.mp h1]
      unfold Value.isStrOf
      by_cases c : p.1 = x
      · simp [c]
      · have c' : x ≠ p.1 := fun z => c z.symm
        simp [c, c']
    rw [e1]
    cases (p.1 == x) with
    | true => exact gvEq_rel h2
    | false => exact gd_find h3
/-- the dict at a, as the top has written it -/
structure GDat (w : World) (K : PySem.W.Frag) (a : Addr) (kvs : List (Str × V)) : Prop where
  lo : (a == sysModules) = false
  ex : ∃ es n, K.lookup a = some ⟨.type "dict", none, .dict es n, #[]⟩ ∧ PySem.W.KeysLit w.params es.toList ∧ gdAll es.toList kvs = true
section
variable {X : Cx} {pins : List (Addr × Obj)} {σ : L2.St} {H : Hp} {s : Shared} {a : Addr} {kvs : List (Str × V)}
theorem GDat.map (g : GDat X.w X.K a kvs) (I : Inv X pins σ H s) : ∃ f, s.heap.MapOf (PySem.strKind X.prog X.w) a f ∧ ∀ x, RelO (valS kvs x) (f x) := by
  obtain ⟨es, n, h1, h2, h3⟩ := g.ex
  refine ⟨_, PySem.W.mapOf_K I.kIn h1 h2, fun x => ?_⟩
  obtain ⟨l⟩ := es
  have := gd_find (x := x) h3
  unfold PySem.findBy
  rw [List.find?_toArray]
  exact this
end
def tGGet1 (w : World) (K : PySem.W.Frag) (td ty : TE) : TE := fun σ H Q => td σ H fun x H1 => ∃ a kvs, x = .ref a ∧ GDat w K a kvs ∧ ty σ H1 fun y H2 => ∃ k, y = .str k ∧ Q ((valS kvs k).getD .non) H2
def tGGet2 (w : World) (K : PySem.W.Frag) (td ty tx : TE) : TE := fun σ H Q => td σ H fun x H1 => ∃ a kvs, x = .ref a ∧ GDat w K a kvs ∧ ty σ H1 fun y H2 => tx σ H2 fun z H3 => ∃ k, y = .str k ∧ Q ((valS kvs k).getD z) H3
def tGItem (w : World) (K : PySem.W.Frag) (td ty : TE) : TE := fun σ H Q => td σ H fun x H1 => ∃ a kvs, x = .ref a ∧ GDat w K a kvs ∧ ty σ H1 fun y H2 => ∃ k v, y = .str k ∧ valS kvs k = some v ∧ Q v H2
section
variable {w : World} {K : PySem.W.Frag} {σ : L2.St} {H : Hp} {Q : VK} {td ty tx : TE}
theorem st_gget1 (h : td σ H fun x H1 => ∃ a kvs, x = .ref a ∧ GDat w K a kvs ∧ ty σ H1 fun y H2 => ∃ k, y = .str k ∧ Q ((valS kvs k).getD .non) H2) : tGGet1 w K td ty σ H Q := h
theorem st_gget2 (h : td σ H fun x H1 => ∃ a kvs, x = .ref a ∧ GDat w K a kvs ∧ ty σ H1 fun y H2 => tx σ H2 fun z H3 => ∃ k, y = .str k ∧ Q ((valS kvs k).getD z) H3) : tGGet2 w K td ty tx σ H Q := h
theorem st_gitem (h : td σ H fun x H1 => ∃ a kvs, x = .ref a ∧ GDat w K a kvs ∧ ty σ H1 fun y H2 => ∃ k v, y = .str k ∧ valS kvs k = some v ∧ Q v H2) : tGItem w K td ty σ H Q := h
theorem st_gdat {a : Addr} {kvs : List (Str × V)} {P : List (Str × V) → Prop} (g : GDat w K a kvs) (h : P kvs) : ∃ a' kvs', V.ref a = .ref a' ∧ GDat w K a' kvs' ∧ P kvs' := ⟨a, kvs, rfl, g, h⟩
theorem st_gkey {k : Str} {P : Str → Prop} (h : P k) : ∃ k', V.str k = .str k' ∧ P k' := ⟨k, rfl, h⟩
end
theorem st_isXsN {K : PySem.W.Frag} {H : Hp} {Q : VK} {a C dd tp : Addr} {cs : List V} {fs : List (Str × V)} (T : XI K C) (h1 : H dd = some (.xd fs)) (ht : H tp = some (.tup cs)) (k : KitN K C cs) (h : Q (.bl false) H) : rIsXs K a (.ref C) (some dd) [.ref a, .ref tp] H Q := by
  obtain ⟨cvs, k1, k2⟩ := k.any
  exact ⟨tp, cs, cvs, false, C, dd, fs, rfl, ht, k1, rfl, T, rfl, h1, k2, h⟩
def rUpper : V → List V → Hp → VK → Prop := fun x xs H Q => ∃ z, x = .str z ∧ xs = [] ∧ z.length ≤ 5592405 ∧ Q (.str (Txt.upper z)) H
theorem st_upper {z : Str} {H : Hp} {Q : VK} (hz : z.length ≤ 5592405) (h : Q (.str (Txt.upper z)) H) : rUpper (.str z) [] H Q := ⟨z, rfl, rfl, hz, h⟩
end Zb
namespace Zb
open PySem PySem.Spec PyProof.Rows L2
theorem sIx_some (n : Nat) (b : Nat) : HT.sIx n 0 (some (b : Int)) = min b n := by
  show (if (b : Int) < 0 then ((b : Int) + (n : Int)).toNat else min (b : Int).toNat n) = min b n
  rw [if_neg (by omega), Int.toNat_natCast]
theorem cutS_list (z : Str) (lo hi : Option Int) : (cutS z lo hi).cps.toList = (z.cps.toList.drop (HT.sIx z.length 0 lo)).take (HT.sIx z.length z.length hi - HT.sIx z.length 0 lo) := by simp [cutS]
theorem lenStr (z : Str) : z.cps.toList.length = z.length := Array.length_toList
theorem cutS_from (z : Str) (b : Nat) (h : b ≤ z.length) : (cutS z (some (b : Int)) none).cps.toList = z.cps.toList.drop b := by
  rw [cutS_list, sIx_some, show HT.sIx z.length z.length none = z.length from rfl, Nat.min_eq_left h, List.take_of_length_le]
  rw [List.length_drop, lenStr]
  exact Nat.le_refl _
theorem take_minL {α : Type} (l : List α) (b : Nat) : l.take (min b l.length) = l.take b := by
  by_cases h : b ≤ l.length
  · rw [Nat.min_eq_left h]
  · rw [Nat.min_eq_right (by omega), List.take_of_length_le (Nat.le_refl _), List.take_of_length_le (by omega)]
theorem cutS_toN (z : Str) (b : Nat) : (cutS z none (some (b : Int))).cps.toList = z.cps.toList.take b := by
  rw [cutS_list, show HT.sIx z.length z.length (some (b : Int)) = min b z.length from HT.sIx_nat _ _ b, show HT.sIx z.length 0 none = 0 from rfl, List.drop_zero, Nat.sub_zero, ← lenStr, take_minL]
theorem cutS_toN_len (z : Str) (b : Nat) : (cutS z none (some (b : Int))).length = min b z.length := by
  rw [← lenStr, cutS_toN, List.length_take, lenStr]
theorem cutS_from_len (z : Str) (b : Nat) (h : b ≤ z.length) : (cutS z (some (b : Int)) none).length = z.length - b := by
  rw [← lenStr, cutS_from z b h, List.length_drop, lenStr]
theorem cutL_to {α : Type} (l : List α) (b : Nat) : cutL l none (some (b : Int)) = l.take b := by
  unfold cutL
  rw [show HT.sIx l.length l.length (some (b : Int)) = min b l.length from HT.sIx_nat _ _ b, show HT.sIx l.length 0 none = 0 from rfl, List.drop_zero, Nat.sub_zero, take_minL]
theorem cutL_from {α : Type} (l : List α) (b : Nat) : cutL l (some (b : Int)) none = l.drop b := by
  unfold cutL
  rw [sIx_some, show HT.sIx l.length l.length none = l.length from rfl]
  by_cases h : b ≤ l.length
  · rw [Nat.min_eq_left h, List.take_of_length_le (by rw [List.length_drop]; exact Nat.le_refl _)]
  · rw [List.drop_of_length_le (i := min b l.length) (by omega), List.drop_of_length_le (i := b) (by omega), List.take_nil]
end Zb
namespace Zb
open PySem PySem.Spec PyProof.Rows L2 PySem.W
def tLk : List (R2 × TE) → V → L2.St → Hp → VK → Prop
  | [], _, _, _, _ => False
  | [(r, tb)], x, σ, H, Q => tb σ H fun y H1 => r x y H1 Q
  | (r, tb) :: p :: rest, x, σ, H, Q => tb σ H fun y H1 => r x y H1 fun z H2 => ∃ k, z = .bl k ∧ if k = true then tLk (p :: rest) y σ H2 Q else Q (.bl false) H2
def tChN (ta : TE) (l : List (R2 × TE)) : TE := fun σ H Q => ta σ H fun x H1 => tLk l x σ H1 Q
section
variable {σ : L2.St} {H : Hp} {Q : VK} {x : V} {r : R2} {tb ta : TE} {p : R2 × TE} {l : List (R2 × TE)}
theorem st_chN (h : ta σ H fun x H1 => tLk l x σ H1 Q) : tChN ta l σ H Q := h
theorem st_lk (h : tb σ H fun y H1 => r x y H1 fun z H2 => ∃ k, z = .bl k ∧ if k = true then tLk (p :: l) y σ H2 Q else Q (.bl false) H2) : tLk ((r, tb) :: p :: l) x σ H Q := h
theorem st_lk1 (h : tb σ H fun y H1 => r x y H1 Q) : tLk [(r, tb)] x σ H Q := h
end
section
variable {K : PySem.W.Frag} {σ : L2.St} {H : Hp} {D : Ends} {ta tv : TE} {rd : V → V → Hp → VK → Prop} {f : Str}
def AugP (K : PySem.W.Frag) (tv : TE) (rd : V → V → Hp → VK → Prop) (f : Str) (D : Ends) (σ : L2.St) (x : V) (H1 : Hp) : Prop := ∃ a C dx fs v, x = .ref a ∧ H1 a = some (.ins C dx fs) ∧ Cls K C ∧ NoAttr K C f ∧ fs.lookup f = some v ∧ tv σ H1 fun y H2 => rd v y H2 fun z H3 => ∃ dx' fs', H3 a = some (.ins C dx' fs') ∧ fs'.length < 1000 ∧ D.nx σ (upd H3 a (.ins C dx' (putF f z fs')))
theorem st_aug (h : ta σ H (AugP K tv rd f D σ)) : sFldAug K ta tv rd f D σ H := h
theorem st_augP {a C dx : Addr} {fs : List (Str × V)} {v : V} (h1 : H a = some (.ins C dx fs)) (c : Cls K C) (n : NoAttr K C f) (l : fs.lookup f = some v) (h : tv σ H fun y H2 => rd v y H2 fun z H3 => ∃ dx' fs', H3 a = some (.ins C dx' fs') ∧ fs'.length < 1000 ∧ D.nx σ (upd H3 a (.ins C dx' (putF f z fs')))) : AugP K tv rd f D σ (.ref a) H := ⟨a, C, dx, fs, v, rfl, h1, c, n, l, h⟩
theorem st_inAdd {i j : Int} {Q : VK} (h : Q (.int (i + j)) H) : L2.rAdd (.int i) (.int j) H Q := ⟨i, j, rfl, rfl, h⟩
theorem st_augE {a C dx : Addr} {fs : List (Str × V)} {g : List (Str × V) → List (Str × V)} {P : Hp → Prop} (h1 : H a = some (.ins C dx fs)) (hl : fs.length < 1000) (h : P (upd H a (.ins C dx (g fs)))) : ∃ dx' fs', H a = some (.ins C dx' fs') ∧ fs'.length < 1000 ∧ P (upd H a (.ins C dx' (g fs'))) := ⟨dx, fs, h1, hl, h⟩
end
end Zb
namespace Zb
open PySem PySem.Spec PyProof.Rows L2 PySem.W
def DSetT (a : Addr) (y z : V) (Q : VK) (H : Hp) : Prop := ∃ (kvs : List (List Key × V)) (k : List Key) (b : Addr), H a = some (.dT kvs) ∧ y = .ref b ∧ H b = some (.tup (k.map kV)) ∧ kvs.length < sizeLine ∧ (∀ v, valV kvs k = some v → Q v H) ∧ (valV kvs k = none → Q z (upd H a (.dT (putK kvs k z))))
def tDSetT (td ty tx : TE) : TE := fun σ H Q => td σ H fun x H1 => ∃ a, x = .ref a ∧ IsD H1 a ∧ ty σ H1 fun y H2 => tx σ H2 fun z H3 => DSetT a y z Q H3
section
variable {K : PySem.W.Frag} {H : Hp} {Q : VK} {σ : L2.St}
theorem st_dsetTU {td ty tx : TE} (h : td σ H fun x H1 => ∃ a, x = .ref a ∧ IsD H1 a ∧ ty σ H1 fun y H2 => tx σ H2 fun z H3 => DSetT a y z Q H3) : tDSetT td ty tx σ H Q := h
theorem st_isDT {a : Addr} {kvs : List (List Key × V)} {P : Addr → Prop} (h1 : H a = some (.dT kvs)) (h : P a) : ∃ b, V.ref a = .ref b ∧ IsD H b ∧ P b := ⟨a, rfl, .inr ⟨kvs, .inl h1⟩, h⟩
end
end Zb
namespace Zb
open PySem PySem.Spec PyProof.Rows L2 LamX NdefX
open Evl (tCut pss_cut)
/-- a lambda: its words, what it captured, its code object -/
structure LF where
  qual : Str
  params : Arguments
  body : Expr
  scope : Scope
  cl : List (Str × Addr)
  c : Addr
abbrev LF.nf (F : LF) : NF := ⟨"<lambda>", F.qual, F.params, [], F.scope, F.cl, F.c⟩
abbrev LF.fd (F : LF) (pm ctv : Value) : FuncData := PySem.W.kla_fn "<lambda>" F.qual F.params F.body F.scope F.cl pm (.ref F.c) ctv
def LamO (f : Addr) (F : LF) : HO := .ext fun h => ∃ (od : Option Addr) (sl : Array (Option Value)) (pm ctv : Value), h.get? f = some (⟨.type "function", od, .func (F.fd pm ctv), sl⟩ : Obj)
theorem lamO_at {P : Program} {w : World} {H : Hp} {h : Heap} {f : Addr} {F : LF} (hok : HOk P w H h) (e : H f = some (LamO f F)) : ∃ (od : Option Addr) (sl : Array (Option Value)) (pm ctv : Value), h.get? f = some (⟨.type "function", od, .func (F.fd pm ctv), sl⟩ : Obj) := (hok f _ e).1
/-- all but the tables stay -/
abbrev ExT (H H' : Hp) : Prop := LamX.ExtN H H'
/-- a heap without its tables -/
def noT (H : Hp) : Hp := fun b => match H b with
  | some (.tbl _) => none
  | x => x
theorem noT_get {H : Hp} {a : Addr} {o : HO} (h : H a = some o) (n : ∀ ps, o ≠ .tbl ps) : noT H a = some o := by
  unfold noT
  rw [h]
  cases o <;> first | rfl | exact absurd rfl (n _)
theorem noT_of {H : Hp} {a : Addr} {o : HO} (h : noT H a = some o) : H a = some o ∧ ∀ ps, o ≠ .tbl ps := by
  unfold noT at h
  split at h
  · cases h
  · rename_i x hx
    exact ⟨h, fun ps z => hx ps (h.trans (by rw [z]))⟩
theorem noT_ex (H : Hp) : Ex (noT H) H := fun b o _ h => (noT_of h).1
theorem ExT.ex {H H' : Hp} (e : ExT H H') : Ex (noT H) H' := fun b o _ h => e b o (noT_of h).1 (noT_of h).2
theorem ExT.of {H H' : Hp} (e : Ex H H') : ExT H H' := fun b o h _ => e b o (fun z => z) h
theorem ExT.tr {H H1 H2 : Hp} (a : ExT H H1) (b : ExT H1 H2) : ExT H H2 := fun c o h n => b c o (a c o h n) n
theorem ExT.nn {H H' : Hp} (e : ExT H H') : Ex (noT H) (noT H') := fun b o _ h => noT_get (e b o (noT_of h).1 (noT_of h).2) (noT_of h).2
theorem noT_mono {H H' : Hp} (e : Ex H H') : Ex (noT H) (noT H') := (ExT.of e).nn
theorem ExT.get {H H' : Hp} {a : Addr} {o : HO} (e : ExT H H') (h : H a = some o) (n : ∀ ps, o ≠ .tbl ps := by intro _ z; cases z) : H' a = some o := e a o h n
section
variable {X : Cx} {pins : List (Addr × Obj)} {σ : L2.St} {H : Hp} {s : Shared}
theorem inv_lam {F : LF} {o : Obj} {t' : Nat} {pm ctv : Value} (I : Inv X pins σ H s) (ho : o = { cls := .type "function", data := .func (F.fd pm ctv) }) :
    Inv X pins σ (upd H s.heap.objs.size (LamO s.heap.objs.size F)) { s with heap := s.heap.push o, toks := t' } := by
  subst ho
  have e : (s.heap.push ({ cls := .type "function", data := .func (F.fd pm ctv) } : Obj)).get? s.heap.objs.size = some { cls := .type "function", data := .func (F.fd pm ctv) } := Heap.get?_push_size _ rfl
  exact I.laid (a := s.heap.objs.size) (fun b u q => Heap.get?_push_of_some _ q) (Nat.le_refl _) ⟨⟨_, _, pm, ctv, e⟩, ⟨_, e⟩, fun h1 h2 ⟨od, sl, p, t, z⟩ st => ⟨od, sl, p, t, st _ z⟩⟩
/-- the tables, when one of them has grown by a code object -/
theorem tabs_more {T : List (Addr × Str)} {P c' : Addr} {q : Str} {pos : Pos} {ps : Array Value} (hT : Tabs T H) (hu : ∀ p ∈ T, p.1 = P → p.2 = q) (hP : H P = some (.tbl ps)) (ht : TriplesOk ps.toList) (ha : ∀ (pos : Pos) (cv : Value), codeAmong pos ps.toList = some cv → ∃ c, cv = .ref c ∧ H c = some (CodeO c q)) (nC : H c' = none) :
    Tabs T (upd (upd H P (.tbl (ps ++ #[rawInt pos.line, rawInt pos.col, .ref c']))) c' (CodeO c' q)) ∧ ExT H (upd (upd H P (.tbl (ps ++ #[rawInt pos.line, rawInt pos.col, .ref c']))) c' (CodeO c' q)) := by
  have hE : ExT H (upd (upd H P (.tbl (ps ++ #[rawInt pos.line, rawInt pos.col, .ref c']))) c' (CodeO c' q)) := fun b o e n => by
    have n1 : b ≠ c' := ne_of_none e nC
    have n2 : b ≠ P := fun z => by
      subst z
      rw [hP] at e
      exact n ps (Option.some.inj e).symm
    rw [upd_ne n1, upd_ne n2]
    exact e
  have eL : (ps ++ #[rawInt pos.line, rawInt pos.col, .ref c']).toList = ps.toList ++ [rawInt pos.line, rawInt pos.col, .ref c'] := by simp
  refine ⟨fun p hp => ?_, hE⟩
  by_cases hb : p.1 = P
  · have hq := hu p hp hb
    rw [hb, hq]
    refine ⟨_, (upd_ne (ne_of_none hP nC)).trans upd_same, ?_, fun p' cv h => ?_⟩
    · rw [eL]
      exact PySem.TriplesOk_snoc _ _ _ _ ht
    · rw [eL] at h
      rcases among_app _ ht h with z | z
      · obtain ⟨c0, e1, e2⟩ := ha p' cv z
        exact ⟨c0, e1, hE _ _ e2 codeO_ne⟩
      · exact ⟨c', z, upd_same⟩
  · obtain ⟨ps', a1, a2, a3⟩ := hT p hp
    refine ⟨ps', (upd_ne (ne_of_none a1 nC)).trans ((upd_ne hb).trans a1), a2, fun p' cv h => ?_⟩
    obtain ⟨c0, e1, e2⟩ := a3 p' cv h
    exact ⟨c0, e1, hE _ _ e2 codeO_ne⟩
theorem lam_new {T : List (Addr × Str)} {c P : Addr} {params : Arguments} {body : Expr} {scope : Scope} {pos : Pos} {E : Value → Shared → Prop} {Q : Value → Shared → Prop} (I : Inv X pins σ H s) (TB : TabB X.base X.mg c P) (hcode : X.env.code = .ref c)
    (hm : (P, X.env.qual ++ "<lambda>") ∈ T) (hu : ∀ p ∈ T, p.1 = P → p.2 = X.env.qual ++ "<lambda>") (hT : Tabs T H) (hdef : defaultsOf params X.env = ([], [])) (hfree : ∀ y ∈ scope.names, y.2 = .free → ∃ c, X.env.cells.lookup y.1 = some c)
    (h : ∀ (f c' : Addr) (H1 : Hp) (s' : Shared), Inv X pins σ H1 s' → ExT H H1 → (∀ b, H1 b = none → H b = none) → Tabs T H1 → H f = none → H1 f = some (LamO f ⟨X.env.qual ++ "<lambda>", params, body, scope, cloFrom X.env.cells scope.names [], c'⟩) → H1 c' = some (CodeO c' (X.env.qual ++ "<lambda>")) → Q (.ref f) s') :
    wpAny (model X.prog X.w) X.A (eval (.Lambda params body scope pos) X.env) Q E s := by
  obtain ⟨ps, hP, ht, ha⟩ := hT _ hm
  have bP := TB.bm.keeps I.bk
  have hP' := I.hok P _ hP
  have un : ∀ {b a : Addr} {G : Hp} {o : HO}, upd G a o b = none → G b = none := fun e => upd_free e
  refine PySem.W.kla_eval hdef ?_
  cases hc : codeAmong pos ps.toList with
  | none =>
    refine PySem.W.kla_makeFunction (closure_ok hfree) I.ok.glob (I.mod.glob.keeps I.bk) hcode (TB.code.keeps I.bk) hP' ht hc TB.gP bP ?_
    intro c' ctv h' tk hx hge hlt hrec htb
    obtain ⟨c2, oc, vs, t, e2, hoc, hd, hv⟩ := hrec
    cases e2
    have nC := I.hok.fresh hge
    obtain ⟨T1, hE⟩ := tabs_more (pos := pos) hT hu hP ht ha nC
    have I1 := inv_table (t' := tk) (more := #[rawInt pos.line, rawInt pos.col, .ref c']) (h' := h') I hP (fun b o n e => hx b o n e) htb hge ⟨oc, vs, t, hoc, hd, hv⟩
    have I2 := inv_lam (F := ⟨X.env.qual ++ "<lambda>", params, body, scope, cloFrom X.env.cells scope.names [], c'⟩) (t' := tk) (pm := (X.mg "__name__").getD .none) (ctv := ctv) I1 rfl
    have nF := I1.hok.fresh (Nat.le_refl h'.objs.size)
    have keepF : ∀ b o, upd (upd H P (.tbl (ps ++ #[rawInt pos.line, rawInt pos.col, .ref c']))) c' (CodeO c' (X.env.qual ++ "<lambda>")) b = some o → b ≠ h'.objs.size := fun b o e => ne_of_none e nF
    refine h h'.objs.size c' _ _ I2 (fun b o e n => ?_) (fun b e => un (un (un e))) (T1.ext fun b o e => ?_) (un (un nF)) upd_same ?_
    · have e1 := hE b o e n
      rw [upd_ne (keepF b o e1)]
      exact e1
    · rw [upd_ne (keepF b o e)]
      exact e
    · rw [upd_ne (keepF c' _ upd_same)]
      exact upd_same
  | some cv =>
    obtain ⟨c', e, hco⟩ := ha pos cv hc
    subst e
    refine PySem.W.kla_makeFunctionHit (closure_ok hfree) I.ok.glob (I.mod.glob.keeps I.bk) hcode (TB.code.keeps I.bk) hP' ht hc bP ?_
    intro ctv h' tk hx hsz
    have I1 : Inv X pins σ H { s with heap := h', toks := tk } := I.kept hx
    have nF := I1.hok.fresh (Nat.le_refl h'.objs.size)
    have I2 := inv_lam (F := ⟨X.env.qual ++ "<lambda>", params, body, scope, cloFrom X.env.cells scope.names [], c'⟩) (t' := tk) (pm := (X.mg "__name__").getD .none) (ctv := ctv) I1 rfl
    have keepF : ∀ b o, H b = some o → b ≠ h'.objs.size := fun b o e => ne_of_none e nF
    refine h h'.objs.size c' _ _ I2 (fun b o e _ => ?_) (fun b e => un e) (hT.ext fun b o e => ?_) nF upd_same ?_
    · rw [upd_ne (keepF b o e)]
      exact e
    · rw [upd_ne (keepF b o e)]
      exact e
    · rw [upd_ne (keepF c' _ hco)]
      exact hco
end
/-- the reading of a lambda as a value -/
def tLamb (T : List (Addr × Str)) (mk : Addr → LF) : TE := fun σ H Q => Tabs T H ∧ ∀ (f c' : Addr) (H1 : Hp), ExT H H1 → (∀ b, H1 b = none → H b = none) → Tabs T H1 → H f = none → H1 f = some (LamO f (mk c')) → H1 c' = some (CodeO c' (mk c').qual) → Q (.ref f) H1
section
variable {X : Cx}
theorem pe_lamb {T : List (Addr × Str)} {c P : Addr} {params : Arguments} {body : Expr} {scope : Scope} {pos : Pos} (TB : TabB X.base X.mg c P) (hcode : X.env.code = .ref c) (hm : (P, X.env.qual ++ "<lambda>") ∈ T) (hu : ∀ p ∈ T, p.1 = P → p.2 = X.env.qual ++ "<lambda>")
    (hdef : defaultsOf params X.env = ([], [])) (hfree : ∀ y ∈ scope.names, y.2 = .free → X.env.scope.names.lookup y.1 = some .cell ∨ X.env.scope.names.lookup y.1 = some .free) :
    PE X (.Lambda params body scope pos) (tLamb T fun c' => ⟨X.env.qual ++ "<lambda>", params, body, scope, cloFrom X.env.cells scope.names [], c'⟩) := by
  refine ⟨fun pins s σ H Q I h => ?_⟩
  obtain ⟨hT, h⟩ := h
  refine lam_new I TB hcode hm hu hT hdef (fun y hy e => (hfree y hy e).elim (fun z => I.ok.has _ (.inl z)) fun z => I.ok.has _ (.inr z)) ?_
  intro f c' H1 s' I1 eN nn T1 f0 f1 c1
  exact ⟨.ref f, H1, I1, rfl, h f c' H1 eN nn T1 f0 f1 c1⟩
end
structure LOk (P : Program) (w : World) (K : PySem.W.Frag) (mg : Str → Option Value) (base : Heap) (k : Nat) (f : Addr) (F : LF) (ps fr : List Str) (sp : List (Option V) → List V → Hp → VK → Prop) : Prop where
  len : ∀ ws vs H Q, sp ws vs H Q → vs.length = ps.length
  run : ∀ (A : Around) (outer : List Env) (s : Shared) (H : Hp) (us : List Value) (vs : List V) (ws : List (Option V)) (Q : VK), Room k A → Env0 P w K mg base A outer s H → H f = some (LamO f F) → H F.c = some (CodeO F.c F.qual) →
    CellsAt F.cl fr ws s.heap H → Vals vs us → sp ws vs H Q → codeAny (model P w) A (.call (.ref f) ⟨us, []⟩) (CR CX0 outer P w H s Q E0) s
section
variable {P : Program} {w : World} {K : PySem.W.Frag} {mg : Str → Option Value} {base : Heap} {N ps fr : List Str} {F : LF} {f : Addr} {k : Nat} {sp : List (Option V) → List V → Hp → VK → Prop}
/-- .. by its body -/
theorem lok_of (S : NScope N ps fr F.scope) (hb : ∀ (pm ctv : Value) (us : List Value), us.length = ps.length → bindArgs (F.fd pm ctv) ⟨us, []⟩ = pure (ps.zip us)) (len : ∀ ws vs H Q, sp ws vs H Q → vs.length = ps.length)
    (hbody : ∀ (A : Around) (outer : List Env) (s : Shared) (H : Hp) (vs : List V) (ws : List (Option V)) (Q : VK), Room k (A.deeper (envF F.nf f s.heap.objs.size)) → sp ws vs H Q →
      ∃ t, PE (ncx CX0 P w K mg base N F.nf f A outer s H E0) F.body t ∧ t (startF N vs ws) H Q) : LOk P w K mg base (k + 1) f F ps fr sp := by
  refine ⟨len, fun A outer s H us vs ws Q hr e0 hf hc C r hsp => ?_⟩
  have hl := len _ _ _ _ hsp
  have lim : s.heap.NoLimit := e0.mod.nolimit.keeps fun b o e => (e0.bs b o e).1
  obtain ⟨od, sl, pm, ctv, ho⟩ := lamO_at e0.hok hf
  refine PySem.W.kla_callFunE hr.depth ho rfl S.co S.gen rfl (codeO_at e0.hok hc) ?_
  rw [hb pm ctv us (by rw [← r.length]; exact hl)]
  refine wpAny_pure (wpAny_newFunctionEnv S.nocell (fun ⟨n, _⟩ hy => S.par n (List.of_mem_zip hy).1) ?_ S.kind)
  intro h₁ hns hsb
  refine ⟨lim.fresh _ hsb, ?_⟩
  show codeAny _ _ (.expr F.body (envF F.nf f s.heap.objs.size)) _ _
  obtain ⟨t, ht, hq⟩ := hbody A outer s H vs ws Q (hr.deeper _) hsp
  have kp : ∀ b o, s.heap.get? b = some o → h₁.get? b = some o := fun b o e => hsb.extBut b o (Nat.ne_of_lt (Heap.lt_size e)) (Heap.get?_push_of_some _ e)
  have I : Inv (ncx CX0 P w K mg base N F.nf f A outer s H E0) [] (startF N vs ws) H { s with heap := h₁, toks := s.toks + (ps.zip us).length } := inv_startN (F := F.nf) S hr.hd e0 hl r C hns kp
  refine PySem.W.kla_codeExpr (wpAny_mono (ht.run [] _ (startF N vs ws) H Q I hq) (fun v s' hs => ?_) fun e s' hs => hs)
  obtain ⟨x, H', J, rv, q⟩ := hs
  exact ⟨x, H', J.os, J.bare, J.base, J.hok, rv, q⟩
end
section
variable {X : Cx} {pins : List (Addr × Obj)} {σ : L2.St} {H : Hp} {s : Shared} {cl : List (Str × Addr)} {fr : List Str} {ws : List (Option V)}
/-- captured cells that stood at the entry stand -/
theorem cells_later (C : CellsAt cl fr ws X.s_0.heap X.H_0) (hex : X.ex = []) (I : Inv X pins σ H s) : CellsAt cl fr ws s.heap H := by
  have nx : ∀ b, b ∉ X.ex := fun b z => by rw [hex] at z; cases z
  have kp : ∀ y c, cl.lookup y = some c → ∀ v, X.s_0.heap.IsCell c v → s.heap.IsCell c v := fun y c e v ⟨o, ho, hd⟩ => by
    obtain ⟨sl, q⟩ := I.base.any ho (C.all y c e).1 (nx c)
    exact ⟨_, q, hd⟩
  refine ⟨C.len, fun y c e => ?_, C.inj, fun i y e => ?_⟩
  · obtain ⟨n, v, z⟩ := C.all y c e
    have z' := kp y c e v z
    obtain ⟨o, ho, _⟩ := z
    exact ⟨I.base.free c o ho n (nx c), v, z'⟩
  · obtain ⟨c, hc, hv⟩ := C.has i y e
    refine ⟨c, hc, fun v ev => ?_⟩
    obtain ⟨u, r, z⟩ := hv v ev
    exact ⟨u, r, kp y c hc _ z⟩
theorem lam_fn {f : Addr} {F : LF} (I : Inv X pins σ H s) (e : H f = some (LamO f F)) : PySem.W.FnAt f s.heap := by
  obtain ⟨od, sl, pm, ctv, ho⟩ := lamO_at I.hok e
  exact ⟨_, od, _, sl, ho⟩
end
/-- x(..), x a name that holds a lambda: tl, what it does -/
def tCb (f : Addr) (F : LF) (i : Nat) (tl : List V → Hp → VK → Prop) (t : TA) : TE := fun σ H Q => σ[i]? = some (some (.ref f)) ∧ H f = some (LamO f F) ∧ t σ H fun vs H1 => H1 f = some (LamO f F) ∧ H1 F.c = some (CodeO F.c F.qual) ∧ tl vs H1 Q
/-- in X calls of the lambda may be read so -/
def CbAt (X : Cx) (f : Addr) (F : LF) (tl : List V → Hp → VK → Prop) : Prop := ∀ {i : Nat} {x : Str} {e : Expr} {es : List Expr} {t : TA} {p pos : Pos}, X.N[i]? = some x → Vis X.env.scope x → PA X (e :: es) t → (x == ("__debug__" : Str)) = false → (x == ("__classdict__" : Str)) = false →
  starEach (e :: es) X.env = (false, eval e X.env) :: starEach es X.env → (backTo pos (starEach es X.env)).any (·.1) = false → PE X (.Call (.Name x p) (e :: es) [] pos) (tCb f F i tl t)
theorem cbAt_of {X : Cx} {k j : Nat} {f : Addr} {F : LF} {ps fr : List Str} {ws : List (Option V)} {sp : List (Option V) → List V → Hp → VK → Prop} (L : LOk X.prog X.w X.K X.mg X.base k f F ps fr sp) (C : CellsAt F.cl fr ws X.s_0.heap X.H_0) (hex : X.ex = []) (hr : Room j X.A) (hk : k ≤ j) : CbAt X f F (sp ws) := by
  intro i x e es t p pos hN hv ha hd hcd he hpl
  refine ⟨fun pins s σ H Q I h => ?_⟩
  obtain ⟨hs, hf, ht⟩ := h
  refine wpAny_Call_Name_kw (thn ((pe_var (pos := p) hN hv hd hcd).run pins s σ H (fun v H1 => v = .ref f ∧ H1 = H) I ⟨.ref f, hs, rfl, rfl⟩) fun u s1 ⟨v, H1, I1, r1, ev, eH⟩ => ?_)
  subst ev
  subst eH
  obtain rfl : u = Value.ref f := r1
  refine PySem.W.callWith_F (first := []) (lam_fn I1 hf) (thn (ha.run pos pins s1 σ _ _ I1 ht) fun us s2 ⟨vs, H2, I2, r, h1, h2, q⟩ => ⟨lam_fn I2 h1, ?_⟩) he hpl
  show wpAny _ _ (call (.ref f) us) _ _ _
  refine wpAny_call (codeAny_mono (L.run X.A X.stack s2 H2 us vs ws _ (hr.mono hk) I2.env0 h1 h2 (cells_later C hex I2) r q) fun r' s' hq => ?_)
  cases r' with
  | error e => exact (show False from hq).elim
  | ok fl =>
    cases fl with
    | ret u => exact I2.after hq
    | next => exact False.elim hq
    | brk => exact False.elim hq
    | cont => exact False.elim hq
structure FnCb (P : Program) (w : World) (K : PySem.W.Frag) (mg : Str → Option Value) (base : Heap) (k j : Nat) (f : Addr) (fd : FuncData) (ps : List Str) (spc : Addr → LF → (List V → Hp → VK → Prop) → Sp) : Prop where
  len : ∀ fl F tl vs H Q E, spc fl F tl vs H Q E → vs.length = ps.length
  run : ∀ (A : Around) (outer : List Env) (s : Shared) (H : Hp) (us : List Value) (vs : List V) (Q : VK) (E : XK) (fl : Addr) (F : LF) (pl fr : List Str) (spl : List (Option V) → List V → Hp → VK → Prop) (ws : List (Option V)), Room k A → Env0 P w K mg base A outer s H → BindsTo s fd ⟨us, []⟩ (ps.zip us) → Vals vs us →
    LOk P w K mg base j fl F pl fr spl → CellsAt F.cl fr ws s.heap H → spc fl F (spl ws) vs H Q E → codeAny (model P w) A (.call (.ref f) ⟨us, []⟩) (CR CX0 outer P w H s Q E) s
section
variable {P : Program} {w : World} {K : PySem.W.Frag} {mg : Str → Option Value} {base : Heap}
theorem okCb {x qual : Str} {st : Stmt} {f : Addr} {fd : FuncData} {N ps : List Str} {k j : Nat} {spc : Addr → LF → (List V → Hp → VK → Prop) → Sp} (F : Fun K x qual st f fd) (S : FnScope N ps (defScope st)) (hj : j ≤ k) (len : ∀ fl F tl vs H Q E, spc fl F tl vs H Q E → vs.length = ps.length)
    (hbody : ∀ (cdv : Value) (A : Around) (outer : List Env) (s : Shared) (H : Hp) (vs : List V) (Q : VK) (E : XK) (fl : Addr) (G : LF) (tl : List V → Hp → VK → Prop), Room k (A.deeper (envOfC qual (defScope st) s.heap.objs.size f cdv)) → CbAt (cxOf CX0 P w K mg base N qual (defScope st) f cdv A outer s H E).nox fl G tl → spc fl G tl vs H Q E →
      ∃ t, PSs (cxOf CX0 P w K mg base N qual (defScope st) f cdv A outer s H E).nox (defBody st) t ∧ t { nx := fun _ H' => Q .non H', rt := Q } (L2.start N vs) H) : FnCb P w K mg base (k + 1) j f fd ps spc := by
  obtain ⟨oc, od, kV, doc, pm, an, cdv, ct, osl, rfl, lk, hcd⟩ := F.ex
  refine ⟨len, fun A outer s H us vs Q E fl G pl fr spl ws hr e0 hb r L C hsp => ?_⟩
  have hl := len _ _ _ _ _ _ _ hsp
  refine LamX.run_ofS (N := N) (ps := ps) lk hcd S hr e0 hb r hl fun hr' => ?_
  obtain ⟨t, h, q⟩ := hbody cdv A outer s H vs Q E fl G (spl ws) hr' (cbAt_of L C rfl hr' hj) hsp
  exact ⟨t, h.nox, q⟩
end
/-- a call that hands on a lambda which the caller has made: mk, its words; js: the slots of what it captured -/
def tCallCb (mk : Addr → LF) (js : List Nat) (spl : Addr → Addr → List (Option V) → List V → Hp → VK → Prop) (spc : Addr → LF → (List V → Hp → VK → Prop) → Sp) (t : TA) : TE := fun σ H Q => t σ H fun vs H1 => ∃ fl c', spc fl (mk c') (spl fl c' (js.map (slotAt σ))) vs H1 Q E0
section
variable {X : Cx} {k j i : Nat} {f : Addr} {fd : FuncData} {ps pl fr : List Str} {mk : Addr → LF} {cl : List (Str × Addr)} {js : List Nat} {spl : Addr → Addr → List (Option V) → List V → Hp → VK → Prop} {spc : Addr → LF → (List V → Hp → VK → Prop) → Sp} {x : Str} {t : TA} {e : Expr} {es : List Expr} {p pos : Pos}
theorem pe_callCb (F : FnCb X.prog X.w X.K X.mg X.base k j f fd ps spc) (Lk : ∀ fl c', LOk X.prog X.w X.K X.mg X.base j fl (mk c') pl fr (spl fl c')) (hcl : ∀ c', (mk c').cl = cl) (cp : X.Ok → Caps X cl fr js) (hr : Room k X.A) (gl : Gl X x) (hm : X.mg x = some (.ref f)) (hk : PySem.W.keepIn X.K (.ref f) = true) (hb : Binds X.K fd ps [])
    (ha : PA X (e :: es) t) (hdb : (x == ("__debug__" : Str)) = false := by decide) (he : starEach (e :: es) X.env = (false, eval e X.env) :: starEach es X.env := by rfl) (hpl : (backTo pos (starEach es X.env)).any (·.1) = false := by rfl) : PE X (.Call (.Name x p) (e :: es) [] pos) (tCallCb mk js spl spc t) := by
  refine ⟨fun pins s σ H Q I h => ?_⟩
  refine wpAny_Call_Name_kw (ld_glob I gl hm ?_ hdb)
  refine PySem.W.callWith_K (h₀ := X.base) I.ok.mod.kin hk (thn (ha.run pos pins s σ H _ I h) fun us s2 ⟨vs, H2, I2, r, fl, c', q⟩ => ⟨I2.kIn, ?_⟩) he hpl
  have hl := F.len _ _ _ _ _ _ _ q
  have C := cells_of I2 (cp I2.ok)
  rw [← hcl c'] at C
  have hbt : BindsTo s2 fd ⟨us, []⟩ (ps.zip us) := by
    have := hb s2 us I2.kIn (by rw [List.append_nil, ← r.length]; exact hl)
    rwa [List.append_nil] at this
  show wpAny _ _ (call (.ref f) us) _ _ _
  refine wpAny_call (codeAny_mono (F.run X.A X.stack s2 H2 us vs Q E0 fl (mk c') pl fr _ _ hr I2.env0 hbt r (Lk fl c') C q) fun r' s' hq => ?_)
  cases r' with
  | error e => exact (show False from hq).elim
  | ok fl =>
    cases fl with
    | ret u => exact I2.after hq
    | next => exact False.elim hq
    | brk => exact False.elim hq
    | cont => exact False.elim hq
end
structure FunC (K : PySem.W.Frag) (x qual : Str) (st : Stmt) (f : Addr) (fd : FuncData) (c : Addr) : Prop where
  ex : ∃ (oc : Value) (od : Option Addr) (kV doc pm : Value) (an : Option Addr) (ct : Value) (osl : Array (Option Value)),
    fd = PySem.W.fnOf x qual (defArgs st) (defBody st) (defScope st) .none kV doc pm an (.ref c) ct ∧ K.lookup f = some ⟨oc, od, .func fd, osl⟩ ∧ PySem.W.codeIn K (.ref c) qual = true
section
variable {P : Program} {w : World} {K : PySem.W.Frag} {mg : Str → Option Value} {base : Heap}
theorem FunC.ok {x qual : Str} {st : Stmt} {f c : Addr} {fd : FuncData} {N ps : List Str} {k : Nat} {sp : Sp} (F : FunC K x qual st f fd c) (S : FnScope N ps (defScope st)) (len : ∀ vs H Q E, sp vs H Q E → vs.length = ps.length)
    (hbody : ∀ (A : Around) (outer : List Env) (s : Shared) (H : Hp) (vs : List V) (Q : VK) (E : XK), Room k (A.deeper (envOfC qual (defScope st) s.heap.objs.size f (.ref c))) → sp vs H Q E →
      ∃ t, PSs (cxOf CX0 P w K mg base N qual (defScope st) f (.ref c) A outer s H E).nox (defBody st) t ∧ t { nx := fun _ H' => Q .non H', rt := Q } (L2.start N vs) H) : FnOk P w K mg base CX0 (k + 1) f fd ps sp := by
  obtain ⟨oc, od, kV, doc, pm, an, ct, osl, rfl, lk, hcd⟩ := F.ex
  refine fn_of lk hcd S len fun A outer s H vs Q E hr hsp => ?_
  obtain ⟨t, h, q⟩ := hbody A outer s H vs Q E hr hsp
  exact ⟨t, h.nox, q⟩
theorem FunC.okX {x qual : Str} {st : Stmt} {f c : Addr} {fd : FuncData} {N ps : List Str} {k : Nat} {sp : Sp} (F : FunC K x qual st f fd c) (S : FnScope N ps (defScope st)) (len : ∀ vs H Q E, sp vs H Q E → vs.length = ps.length)
    (hbody : ∀ (A : Around) (outer : List Env) (s : Shared) (H : Hp) (vs : List V) (Q : VK) (E : XK), Room k (A.deeper (envOfC qual (defScope st) s.heap.objs.size f (.ref c))) → sp vs H Q E →
      ∃ t, PSs (cxOf (L2.CX P w) P w K mg base N qual (defScope st) f (.ref c) A outer s H E) (defBody st) t ∧ t { nx := fun _ H' => Q .non H', rt := Q } (L2.start N vs) H) : FnOk P w K mg base (L2.CX P w) (k + 1) f fd ps sp := by
  obtain ⟨oc, od, kV, doc, pm, an, ct, osl, rfl, lk, hcd⟩ := F.ex
  exact fn_of lk hcd S len fun A outer s H vs Q E hr hsp => hbody A outer s H vs Q E hr hsp
end
section
variable {σ : L2.St} {H : Hp} {Q : VK}
theorem st_lamb {T : List (Addr × Str)} {mk : Addr → LF} (hT : Tabs T H) (h : ∀ (f c' : Addr) (H1 : Hp), ExT H H1 → (∀ b, H1 b = none → H b = none) → Tabs T H1 → H f = none → H1 f = some (LamO f (mk c')) → H1 c' = some (CodeO c' (mk c').qual) → Q (.ref f) H1) : tLamb T mk σ H Q := ⟨hT, h⟩
def CbP (f : Addr) (F : LF) (tl : List V → Hp → VK → Prop) (Q : VK) (vs : List V) (H1 : Hp) : Prop := H1 f = some (LamO f F) ∧ H1 F.c = some (CodeO F.c F.qual) ∧ tl vs H1 Q
theorem st_cbk {f : Addr} {F : LF} {i : Nat} {tl : List V → Hp → VK → Prop} {t : TA} (h1 : σ[i]? = some (some (.ref f))) (h2 : H f = some (LamO f F)) (h : t σ H (CbP f F tl Q)) : tCb f F i tl t σ H Q := ⟨h1, h2, h⟩
theorem st_cbP {f : Addr} {F : LF} {tl : List V → Hp → VK → Prop} {vs : List V} (h1 : H f = some (LamO f F)) (h2 : H F.c = some (CodeO F.c F.qual)) (h : tl vs H Q) : CbP f F tl Q vs H := ⟨h1, h2, h⟩
end
end Zb
namespace Zb
open PySem PySem.Spec PyProof.Rows L2 LamX NdefX
section
variable {P : Program} {w : World} {K : PySem.W.Frag} {mg : Str → Option Value} {base : Heap} {N ps fr : List Str} {F : LF} {f : Addr} {k : Nat} {t : TE}
/-- a lambda's promise is its body's reading -/
theorem lok_t (S : NScope N ps fr F.scope) (hb : ∀ (pm ctv : Value) (us : List Value), us.length = ps.length → bindArgs (F.fd pm ctv) ⟨us, []⟩ = pure (ps.zip us))
    (hbody : ∀ (A : Around) (outer : List Env) (s : Shared) (H : Hp), Room k (A.deeper (envF F.nf f s.heap.objs.size)) → PE (ncx CX0 P w K mg base N F.nf f A outer s H E0) F.body t) : LOk P w K mg base (k + 1) f F ps fr (fun ws vs H Q => vs.length = ps.length ∧ t (startF N vs ws) H Q) :=
  lok_of S hb (fun _ _ _ _ h => h.1) fun A outer s H vs ws Q hr h => ⟨t, hbody A outer s H hr, h.2⟩
end
def asgE : Stmt → Expr
  | .Assign _ e _ => e
  | .Return (some e) _ => e
  | _ => .Constant .none 0 ⟨0, 0, 0, 0⟩
def subE : Expr → Expr
  | .Subscript e _ _ => e
  | e => e
def argE (i : Nat) : Expr → Expr
  | .Call _ es _ _ => es.getD i (.Constant .none 0 ⟨0, 0, 0, 0⟩)
  | e => e
def bodyS (st : Stmt) (i : Nat) : Stmt := (defBody st).getD i (.Pass ⟨0, 0, 0, 0⟩)
def lamA : Expr → Arguments
  | .Lambda a _ _ _ => a
  | _ => { posonlyargs := [], args := [], vararg := none, kwonlyargs := [], kw_defaults := [], kwarg := none, defaults := [] }
def lamB : Expr → Expr
  | .Lambda _ b _ _ => b
  | e => e
def lamSc : Expr → Scope
  | .Lambda _ _ s _ => s
  | _ => { kind := .function, names := [], isGenerator := false, isCoroutine := false }
section
variable {σ : L2.St} {H : Hp} {Q : VK}
def CbC (mk : Addr → LF) (js : List Nat) (spl : Addr → Addr → List (Option V) → List V → Hp → VK → Prop) (spc : Addr → LF → (List V → Hp → VK → Prop) → Sp) (σ : L2.St) (Q : VK) (vs : List V) (H1 : Hp) : Prop := ∃ fl c', spc fl (mk c') (spl fl c' (js.map (slotAt σ))) vs H1 Q E0
theorem st_callCb {mk : Addr → LF} {js : List Nat} {spl : Addr → Addr → List (Option V) → List V → Hp → VK → Prop} {spc : Addr → LF → (List V → Hp → VK → Prop) → Sp} {t : TA} (h : t σ H (CbC mk js spl spc σ Q)) : tCallCb mk js spl spc t σ H Q := h
end
end Zb
namespace Zb
open PySem PySem.Spec PyProof.Rows L2
end Zb
set_option Elab.async false
set_option linter.all false
set_option maxRecDepth 100000
set_option maxHeartbeats 4000000
namespace My
open PySem PySem.Spec PyProof.Rows L2 Zb LamX NdefX
open Evl (tCut pss_cut)
def top (i : Nat) : Stmt := PySem.Challenge.pw_panethread_k34_any_cells_walked.main.body.getD i (.Pass ⟨0, 0, 0, 0⟩)
abbrev s_is_whole : Stmt := top 9
abbrev N_is_whole : List Str := ["thing"]
theorem sc_is_whole : FnScope N_is_whole ["thing"] (defScope s_is_whole) := ⟨rfl, rfl, rfl, by decide +kernel, rfl, by decide +kernel, by decide +kernel⟩
abbrev s_is_within : Stmt := top 10
abbrev N_is_within : List Str := ["thing", "low", "high"]
theorem sc_is_within : FnScope N_is_within ["thing", "low", "high"] (defScope s_is_within) := ⟨rfl, rfl, rfl, by decide +kernel, rfl, by decide +kernel, by decide +kernel⟩
abbrev s_is_row : Stmt := top 11
abbrev N_is_row : List Str := ["thing", "sign"]
theorem sc_is_row : FnScope N_is_row ["thing"] (defScope s_is_row) := ⟨rfl, rfl, rfl, by decide +kernel, rfl, by decide +kernel, by decide +kernel⟩
abbrev s_need_row : Stmt := top 12
abbrev N_need_row : List Str := ["row"]
theorem sc_need_row : FnScope N_need_row ["row"] (defScope s_need_row) := ⟨rfl, rfl, rfl, by decide +kernel, rfl, by decide +kernel, by decide +kernel⟩
abbrev s_need_rows : Stmt := top 13
abbrev N_need_rows : List Str := ["side", "top"]
theorem sc_need_rows : FnScope N_need_rows ["side", "top"] (defScope s_need_rows) := ⟨rfl, rfl, rfl, by decide +kernel, rfl, by decide +kernel, by decide +kernel⟩
abbrev s_led : Stmt := top 16
abbrev N_led : List Str := ["many", "far", "crosses", "downs", "rights", "meetings", "signs", "row", "across", "met", "told", "column", "above", "goals", "goal", "line"]
theorem sc_led : FnScope N_led ["many", "far", "crosses"] (defScope s_led) := ⟨rfl, rfl, rfl, by decide +kernel, rfl, by decide +kernel, by decide +kernel⟩
abbrev s_are_cells : Stmt := top 18
abbrev N_are_cells : List Str := ["many", "far", "thing", "row", "sign"]
theorem sc_are_cells : FnScope N_are_cells ["many", "far", "thing"] (defScope s_are_cells) := ⟨rfl, rfl, rfl, by decide +kernel, rfl, by decide +kernel, by decide +kernel⟩
abbrev s_walked : Stmt := top 19
abbrev N_walked : List Str := ["many", "far", "cells"]
theorem sc_walked : FnScope N_walked ["many", "far", "cells"] (defScope s_walked) := ⟨rfl, rfl, rfl, by decide +kernel, rfl, by decide +kernel, by decide +kernel⟩
abbrev s_Board_cells : Stmt := inClass (top 17) 4
abbrev N_Board_cells : List Str := ["self"]
theorem sc_Board_cells : FnScope N_Board_cells ["self"] (defScope s_Board_cells) := ⟨rfl, rfl, rfl, by decide +kernel, rfl, by decide +kernel, by decide +kernel⟩
abbrev s_Board_init : Stmt := inClass (top 17) 0
abbrev N_Board_init : List Str := ["self", "side", "top", "rule", "meetings", "signs", "goals"]
theorem sc_Board_init : FnScope N_Board_init ["self", "side", "top"] (defScope s_Board_init) := ⟨rfl, rfl, rfl, by decide +kernel, rfl, by decide +kernel, by decide +kernel⟩
abbrev s_is_board : Stmt := top 20
abbrev N_is_board : List Str := ["side", "top", "thing", "board"]
theorem sc_is_board : FnScope N_is_board ["side", "top", "thing"] (defScope s_is_board) := ⟨rfl, rfl, rfl, by decide +kernel, rfl, by decide +kernel, by decide +kernel⟩
abbrev s__law_at : Stmt := top 22
abbrev N__law_at : List Str := ["_law_script", "_law_k"]
theorem sc__law_at : FnScope N__law_at ["_law_script", "_law_k"] (defScope s__law_at) := ⟨rfl, rfl, rfl, by decide +kernel, rfl, by decide +kernel, by decide +kernel⟩
abbrev s__law_mix : Stmt := top 23
abbrev N__law_mix : List Str := ["_law_cell", "_law_k", "_law_one", "_law_two"]
theorem sc__law_mix : FnScope N__law_mix ["_law_cell", "_law_k"] (defScope s__law_mix) := ⟨rfl, rfl, rfl, by decide +kernel, rfl, by decide +kernel, by decide +kernel⟩
abbrev s__law_ints : Stmt := top 24
abbrev N__law_ints : List Str := ["_law_found", "_law_due", "_law_k"]
theorem sc__law_ints : FnScope N__law_ints ["_law_found", "_law_due"] (defScope s__law_ints) := ⟨rfl, rfl, rfl, by decide +kernel, rfl, by decide +kernel, by decide +kernel⟩
abbrev s__law_bit : Stmt := top 25
abbrev N__law_bit : List Str := ["_law_script", "_law_t", "_law_cell"]
theorem sc__law_bit : FnScope N__law_bit ["_law_script", "_law_t"] (defScope s__law_bit) := ⟨rfl, rfl, rfl, by decide +kernel, rfl, by decide +kernel, by decide +kernel⟩
abbrev s__law_walked : Stmt := top 26
abbrev N__law_walked : List Str := ["_law_many", "_law_far", "_law_cells", "_law_across", "_law_downs", "_law_t", "_law_i", "_law_j", "_law_left", "_law_ends", "_law_k"]
theorem sc__law_walked : FnScope N__law_walked ["_law_many", "_law_far", "_law_cells"] (defScope s__law_walked) := ⟨rfl, rfl, rfl, by decide +kernel, rfl, by decide +kernel, by decide +kernel⟩
abbrev s__law_of_rows : Stmt := top 27
abbrev N__law_of_rows : List Str := ["_law_side", "_law_top", "_law_across", "_law_downs", "_law_cells", "_law_i", "_law_text", "_law_j", "_law_left"]
theorem sc__law_of_rows : FnScope N__law_of_rows ["_law_side", "_law_top"] (defScope s__law_of_rows) := ⟨rfl, rfl, rfl, by decide +kernel, rfl, by decide +kernel, by decide +kernel⟩
abbrev s__law_spoiled : Stmt := top 28
abbrev N__law_spoiled : List Str := ["_law_cells", "_law_far", "_law_way", "_law_at_here", "_law_many", "_law_i", "_law_row", "_law_j", "_law_sign"]
theorem sc__law_spoiled : FnScope N__law_spoiled ["_law_cells", "_law_far", "_law_way", "_law_at_here"] (defScope s__law_spoiled) := ⟨rfl, rfl, rfl, by decide +kernel, rfl, by decide +kernel, by decide +kernel⟩
abbrev s__law_no : Stmt := top 29
abbrev N__law_no : List Str := ["_law_many", "_law_far", "_law_cells", "_law_due", "_law_place", "e"]
theorem sc__law_no : FnScope N__law_no ["_law_many", "_law_far", "_law_cells", "_law_due", "_law_place"] (defScope s__law_no) := ⟨rfl, rfl, rfl, by decide +kernel, rfl, by decide +kernel, by decide +kernel⟩
abbrev s__law_any : Stmt := top 30
abbrev N__law_any : List Str := ["_law_script", "_law_many", "_law_far", "_law_at_here", "_law_cells", "_law_i", "_law_due", "_law_handed", "_law_turn", "_law_found", "_law_way", "_law_bad", "_law_j"]
theorem sc__law_any : FnScope N__law_any ["_law_script", "_law_many", "_law_far", "_law_at_here"] (defScope s__law_any) := ⟨rfl, rfl, rfl, by decide +kernel, rfl, by decide +kernel, by decide +kernel⟩
abbrev s__law_is : Stmt := top 31
abbrev N__law_is : List Str := ["_law_side", "_law_top", "_law_at_here", "_law_cells", "_law_handed", "_law_way", "_law_other", "_law_told", "_law_i", "_law_j", "_law_sign", "_law_row"]
theorem sc__law_is : FnScope N__law_is ["_law_side", "_law_top", "_law_at_here"] (defScope s__law_is) := ⟨rfl, rfl, rfl, by decide +kernel, rfl, by decide +kernel, by decide +kernel⟩
abbrev s_law : Stmt := top 32
abbrev N_law : List Str := ["_law_script", "_law_shape", "_law_many", "_law_far", "_law_at_here", "_law_signs", "_law_wide", "_law_cap", "_law_rows", "_law_cell", "_law_letter"]
theorem sc_law : FnScope N_law ["_law_script"] (defScope s_law) := ⟨rfl, rfl, rfl, by decide +kernel, rfl, by decide +kernel, by decide +kernel⟩
local macro_rules | `(tactic| walk_at "hp") => `(tactic| first
  | assumption
  | exact upd_same
  | (refine upd_old (by assumption) ?_; walk_at "hp")
  | (refine Ex.get (by assumption) ?_; walk_at "hp")
  | (refine Fr.get (by assumption) (by assumption) ?_; walk_at "hp"))
local macro_rules | `(tactic| walk_at "kn") => `(tactic| first
  | exact KitN.nil
  | (refine KitN.cons ?_ ?_; (walk_at "ki"); (walk_at "kn")))
local macro_rules | `(tactic| walk_at "pu") => `(tactic| first
  | assumption
  | (refine Purse.ex ?_ (by assumption); walk_at "pu"))
local macro_rules | `(tactic| walk_at "fr") => `(tactic| first
  | exact Fr.refl _
  | assumption
  | exact Fr.ex (by assumption)
  | (refine Fr.trans ?_ (by assumption); walk_at "fr")
  | (refine Fr.trans ?_ (Fr.ex (by assumption)); walk_at "fr"))
local macro_rules | `(tactic| walk_at "sd") => `(tactic| first
  | omega
  | (simp only [tx_length, List.length_append, List.length_cons, List.length_nil, List.length_map, List.length_take, List.length_drop]; omega)
  | assumption
  | exact rfl
  | decide)
local macro_rules | `(tactic| walk_at "nw") => `(tactic| (intro q H' hq he hv; (try (have hne := Purse.ne (by assumption) hq; have hpu := Purse.ex (by assumption) he))))
local macro_rules | `(tactic| walk_at "sm") => `(tactic| first
  | exact Sm.nil
  | assumption
  | (refine Sm.app ?_ ?_ <;> walk_at "sm")
  | (refine Sm.cons ?_ ?_ <;> walk_at "sm")
  | exact Sm.up Sm.non (Nat.le_of_ble_eq_true rfl) (Nat.le_of_ble_eq_true rfl)
  | exact Sm.up (Sm.bl _) (Nat.le_of_ble_eq_true rfl) (Nat.le_of_ble_eq_true rfl)
  | exact Sm.up (Sm.int (by omega)) (Nat.le_of_ble_eq_true rfl) (Nat.le_of_ble_eq_true rfl)
  | exact Sm.up (Sm.str (by decide +kernel)) (Nat.le_of_ble_eq_true rfl) (Nat.le_of_ble_eq_true rfl)
  | (refine Sm.up (Sm.tup (n := 1) (k := 1) (by walk_at "hp") ?_ (Nat.le_refl _)) (Nat.le_of_ble_eq_true rfl) (Nat.le_of_ble_eq_true rfl); walk_at "sm")
  | (refine Sm.up (Sm.lst (n := 1) (k := 1) (by walk_at "hp") ?_ (Nat.le_refl _)) (Nat.le_of_ble_eq_true rfl) (Nat.le_of_ble_eq_true rfl); walk_at "sm"))
local macro_rules | `(tactic| walk_at "ln") => `(tactic| first | omega | (simp only [List.length_append, List.length_cons, List.length_nil, List.length_map, List.length_singleton]; omega))
local macro_rules | `(tactic| walk_at "sn") => `(tactic| first
  | exact Sm.nil
  | assumption
  | exact Sm.upA (by assumption) (Nat.le_of_ble_eq_true rfl) (Nat.le_of_ble_eq_true rfl)
  | exact Sm.up (by assumption) (Nat.le_of_ble_eq_true rfl) (Nat.le_of_ble_eq_true rfl)
  | (refine Sm.app ?_ ?_ <;> walk_at "sn")
  | (refine Sm.cons ?_ ?_ <;> walk_at "sn")
  | (refine Sm.cut ?_ ; walk_at "sn")
  | walk_at "sm"
  | (refine Sm.up (Sm.lst (n := 100) (k := 3) (by walk_at "hp") ?_ (Nat.le_refl _)) (Nat.le_of_ble_eq_true rfl) (Nat.le_of_ble_eq_true rfl); walk_at "sn")
  | (refine Sm.up (Sm.lst (n := 4) (k := 2) (m := 4612) (by walk_at "hp") ?_ (by walk_at "ln")) (Nat.le_of_ble_eq_true rfl) (Nat.le_of_ble_eq_true rfl); walk_at "sn")
  | (refine Sm.up (Sm.tup (n := 4) (k := 2) (m := 4612) (by walk_at "hp") ?_ (by walk_at "ln")) (Nat.le_of_ble_eq_true rfl) (Nat.le_of_ble_eq_true rfl); walk_at "sn"))
local macro_rules | `(tactic| walk_at "sg") => `(tactic| first
  | exact allE_nil
  | (refine allE_cons ?_ ?_ <;> walk_at "sg")
  | exact ⟨_, Sd.dk (by walk_at "hp")⟩
  | (refine SdE.of (n := 1) (k := 1) ?_ (by decide) (by decide); walk_at "sm")
  | (refine SdE.of (Sm.lst (n := 18500) (k := 5) (m := 50) (by walk_at "hp") ?_ (by walk_at "ln")) (by decide) (by decide); walk_at "sn")
  | (refine SdE.of (Sm.tup (n := 18500) (k := 5) (m := 50) (by walk_at "hp") ?_ (by walk_at "ln")) (by decide) (by decide); walk_at "sn"))
local macro_rules | `(tactic| walk_at "s") => `(tactic| first
  | ((with_reducible refine' st_var ?a0 ?_); (case a0 => exact rfl))
  | ((with_reducible refine' st_isR1 ?a0 ?_); (case a0 => constructor <;> walk_at "sd"))
  | ((with_reducible refine' st_isR2 ?a0 ?_); (case a0 => refine ⟨?_, ?_, ?_, ?_⟩ <;> walk_at "sd"))
  | ((with_reducible refine' st_c ?_))
  | ((with_reducible refine' st_op ?_))
  | ((with_reducible refine' st_seq ?_))
  | ((with_reducible refine' st_asg ?_))
  | ((with_reducible refine' st_name ?_))
  | ((with_reducible refine' st_cons ?_))
  | ((with_reducible refine' st_nil ?_))
  | ((with_reducible refine' st_call ?_))
  | ((with_reducible refine' st_cb ?_))
  | ((with_reducible refine' st_ret ?_))
  | ((with_reducible refine' st_drop ?_))
  | ((with_reducible refine' st_ifS ?_))
  | ((with_reducible refine' st_test ?_))
  | ((with_reducible refine' st_B ?_))
  | ((with_reducible refine' st_isb ?_))
  | ((with_reducible refine' st_and ?_))
  | ((with_reducible refine' st_or ?_))
  | ((with_reducible refine' st_not ?_))
  | ((with_reducible refine' st_andV ?_))
  | ((with_reducible refine' st_orV ?_))
  | ((with_reducible refine' st_notV ?_))
  | ((with_reducible refine' st_if ?_))
  | ((with_reducible refine' st_lst ?_))
  | ((with_reducible refine' st_tup ?_))
  | ((with_reducible refine' st_sl ?_))
  | ((with_reducible refine' st_part ?_))
  | ((with_reducible refine' st_nopart ?_))
  | ((with_reducible refine' st_isi ?_))
  | ((with_reducible refine' st_sub ?_))
  | ((with_reducible refine' st_next ?_))
  | ((with_reducible refine' st_un ?_))
  | ((with_reducible refine' st_rU ?_))
  | ((with_reducible refine' st_augI ?a0 ?_); (case a0 => exact rfl))
  | ((with_reducible refine' st_ipI ?_))
  | ((with_reducible refine' st_par ?_))
  | ((with_reducible refine' st_par2 ?_))
  | ((with_reducible refine' st_addI ?_))
  | ((with_reducible refine' st_subI ?_))
  | ((with_reducible refine' st_cmpI ?_))
  | ((with_reducible refine' st_eqI ?_))
  | ((with_reducible refine' st_neI ?_))
  | ((with_reducible refine' st_eqS ?_))
  | ((with_reducible refine' st_neS ?_))
  | ((with_reducible refine' st_eqB ?_))
  | ((with_reducible refine' st_neB ?_))
  | ((with_reducible refine' st_max2 ?_))
  | ((with_reducible refine' st_min2 ?_))
  | ((with_reducible refine' st_min3 ?_))
  | ((with_reducible refine' st_brk ?_))
  | ((with_reducible refine' st_cont ?_))
  | ((with_reducible refine' st_retN ?_))
  | ((with_reducible refine' st_new ?a0 ?_); (case a0 => exact Nat.le_of_ble_eq_true rfl); walk_at "nw")
  | ((with_reducible refine' st_modI ?a0 ?_); (case a0 => walk_at "sd"))
  | ((with_reducible refine' st_divI ?a0 ?_); (case a0 => constructor <;> walk_at "sd"))
  | ((with_reducible refine' st_mulI ?a0 ?_); (case a0 => walk_at "sd"))
  | ((with_reducible refine' st_powI ?a0 ?_); (case a0 => refine ⟨?_, ?_, ?_⟩ <;> decide))
  | ((with_reducible refine' st_addS ?a0 ?_); (case a0 => walk_at "sd"))
  | ((with_reducible refine' st_ixL ?a0 ?a1 ?_); (case a0 => walk_at "hp"); (case a1 => exact rfl))
  | ((with_reducible refine' st_ixT ?a0 ?a1 ?_); (case a0 => walk_at "hp"); (case a1 => exact rfl))
  | ((with_reducible refine' st_lenL ?a0 ?_); (case a0 => walk_at "hp"))
  | ((with_reducible refine' st_lenT ?a0 ?_); (case a0 => walk_at "hp"))
  | ((with_reducible refine' st_lenS ?a0 ?_); (case a0 => walk_at "sd"))
  | ((with_reducible refine' st_slS ?a0 ?_); (case a0 => walk_at "sd"))
  | ((with_reducible refine' st_slL (lst_of ?a0) ?_); (case a0 => walk_at "hp"); walk_at "nw")
  | ((with_reducible refine' st_addL ?a0 ?a1 ?a2 ?_); (case a0 => walk_at "hp"); (case a1 => walk_at "hp"); (case a2 => walk_at "sd"); walk_at "nw")
  | ((with_reducible refine' st_setL ?a0 ?a1 ?_); (case a0 => walk_at "hp"); (case a1 => exact rfl))
  | ((with_reducible refine' st_yes ?_))
  | ((with_reducible refine' st_isI ?a0 ?_); (case a0 => first | exact kit_ii | exact kit_ib | exact kit_il | exact kit_is | exact kit_it | decide +kernel))
  | ((with_reducible refine' st_isL ?a0 ?a1 ?_); (case a0 => walk_at "hp"); (case a1 => first | exact kit_ll | exact kit_lt | decide +kernel))
  | ((with_reducible refine' st_isT ?a0 ?a1 ?_); (case a0 => walk_at "hp"); (case a1 => first | exact kit_tt | exact kit_tl | decide +kernel))
  | ((with_reducible refine' st_isS' ?a0 ?_); (case a0 => first | exact kit_ss | decide +kernel))
  | ((with_reducible refine' st_isB ?a0 ?_); (case a0 => first | exact kit_bb | exact kit_bi | decide +kernel))
  | ((with_reducible refine' st_clear ?a0 ?_); (case a0 => walk_at "hp"))
  | ((with_reducible refine' st_gtup ?a0 ?a1 ?_); (case a0 => walk_at "hp"); (case a1 => exact rfl))
  | ((with_reducible refine' st_glst ?a0 ?a1 ?_); (case a0 => walk_at "hp"); (case a1 => exact rfl))
  | ((with_reducible refine' st_gcons ?_))
  | ((with_reducible refine' st_gnil ?_))
  | ((with_reducible refine' st_iEnS ?_))
  | ((with_reducible refine' st_isEnS ?_))
  | ((with_reducible refine' st_mulL ?a0 ?a1 ?a2 ?a3 ?_); (case a0 => walk_at "hp"); (case a1 => walk_at "sd"); (case a2 => walk_at "sd"); (case a3 => walk_at "sd"); walk_at "nw")
  | ((with_reducible refine' st_isBool ?_))
  | ((with_reducible refine' st_pair ?_))
  | ((with_reducible refine' st_pairs0 ?_))
  | ((with_reducible refine' st_disp ?_); walk_at "nw")
  | ((with_reducible refine' st_listS ?a0 ?_); (case a0 => walk_at "sd"); walk_at "nw")
  | ((with_reducible refine' st_tupS ?a0 ?_); (case a0 => walk_at "sd"); walk_at "nw")
  | ((with_reducible refine' st_listQ (seq_l ?a0) ?_); (case a0 => walk_at "hp"); walk_at "nw")
  | ((with_reducible refine' st_tupL (lst_of ?a0) ?_); (case a0 => walk_at "hp"); walk_at "nw")
  | ((with_reducible refine' st_for ?_))
  | ((with_reducible refine' st_lc ?_))
  | ((with_reducible refine' st_iStr ?_))
  | ((with_reducible refine' st_isStr ?_))
  | ((with_reducible refine' st_iList ?_))
  | ((with_reducible refine' st_isList (lst_of ?a0) ?_); (case a0 => walk_at "hp"))
  | ((with_reducible refine' st_iTup ?_))
  | ((with_reducible refine' st_isTup (tup_of ?a0) ?_); (case a0 => walk_at "hp"))
  | ((with_reducible refine' st_iR1 ?_))
  | ((with_reducible refine' st_iR2 ?_))
  | ((with_reducible refine' st_iEn ?_))
  | ((with_reducible refine' st_isEn (lst_of ?a0) ?_); (case a0 => walk_at "hp"))
  | ((with_reducible refine' st_iZp ?_))
  | ((with_reducible refine' st_isZp (lst_of ?a0) (lst_of ?a1) ?_); (case a0 => walk_at "hp"); (case a1 => walk_at "hp"))
  | ((with_reducible refine' st_inC ?_))
  | ((with_reducible refine' st_ninC ?_))
  | ((with_reducible refine' st_m1 ?_))
  | ((with_reducible refine' st_isS ?_))
  | ((with_reducible refine' st_bm ?_))
  | ((with_reducible refine' st_bm0 ?_))
  | ((with_reducible refine' st_tyL ?a0 ?_); (case a0 => walk_at "hp"))
  | ((with_reducible refine' st_isN ?_))
  | ((with_reducible refine' st_notN ?_))
  | ((with_reducible refine' st_intB ?_))
  | ((with_reducible refine' st_intI ?_))
  | ((with_reducible refine' st_iR3 ?_))
  | ((with_reducible refine' st_dget2 ?_))
  | ((with_reducible refine' st_dsetTU ?_))
  | ((with_reducible refine' st_isDT ?a0 ?_); (case a0 => walk_at "hp"))
  | ((with_reducible refine' st_dsetd ?_))
  | ((with_reducible refine' st_dnew ?_))
  | ((with_reducible refine' st_dnewP ?_); walk_at "nw")
  | ((with_reducible refine' st_isD ?a0 ?_); (case a0 => walk_at "hp"))
  | ((with_reducible refine' st_isB2 ?_))
  | ((with_reducible refine' st_notB2 ?_))
  | ((with_reducible refine' st_chain ?_))
  | ((with_reducible refine' st_tru ?_))
  | ((with_reducible refine' st_chN ?_))
  | ((with_reducible refine' st_aug ?_))
  | ((with_reducible refine' st_augP ?a0 ?a1 ?a2 ?a3 ?_); (case a0 => walk_at "hp"); (case a1 => walk_at "cl"); (case a2 => walk_at "na"); (case a3 => exact rfl))
  | ((with_reducible refine' st_inAdd ?_))
  | ((with_reducible refine' st_augE ?a0 ?a1 ?_); (case a0 => walk_at "hp"); (case a1 => exact Nat.le_of_ble_eq_true rfl))
  | ((with_reducible refine' st_lk ?_))
  | ((with_reducible refine' st_lk1 ?_))
  | ((with_reducible refine' st_truB ?_))
  | ((with_reducible refine' st_truI ?_))
  | ((with_reducible refine' st_while ?_))
  | ((with_reducible refine' st_st3 ?_))
  | ((with_reducible refine' st_revS ?a0 ?_); (case a0 => walk_at "sd"))
  | ((with_reducible refine' st_evS ?a0 ?_); (case a0 => walk_at "sd"))
  | ((with_reducible refine' st_odS ?a0 ?_); (case a0 => walk_at "sd"))
  | ((with_reducible refine' st_raise ?_))
  | ((with_reducible refine' st_mk1 ?a0 ?a1 ?_); (case a0 => walk_at "xo"); (case a1 => walk_at "nf"); walk_at "nw")
  | ((with_reducible refine' st_mk2 ?a0 ?a1 ?a2 ?_); (case a0 => walk_at "xo"); (case a1 => walk_at "nf"); (case a2 => walk_at "nf"); walk_at "nw")
  | ((with_reducible refine' st_try ?_))
  | ((with_reducible refine' st_callS ?_))
  | ((with_reducible refine' st_hYn ?a0 ?_); (case a0 => walk_at "ex"); intro ax hax)
  | ((with_reducible refine' st_hY0 ?a0 ?_); (case a0 => walk_at "ex"); intro ax hax)
  | ((with_reducible refine' st_hN ?a0 ?_); (case a0 => walk_at "ex"))
  | ((with_reducible refine' st_xe ?_))
  | ((with_reducible refine' st_xeP ?a0 ?a1 ?a2 ?a3 ?_); (case a0 => walk_at "xi"); (case a1 => walk_at "nf"); (case a2 => walk_at "hp"); (case a3 => exact rfl))
  | ((with_reducible refine' st_isX ?a0 ?a1 ?a2 ?_); (case a0 => walk_at "xi"); (case a1 => walk_at "hp"); (case a2 => walk_at "ki"))
  | ((with_reducible refine' st_isXT ?a0 ?a1 ?a2 ?_); (case a0 => walk_at "xi"); (case a1 => walk_at "hp"); (case a2 => walk_at "ki"))
  | ((with_reducible refine' st_isXs2 ?a0 ?a1 ?a2 ?a3 ?a4 ?_); (case a0 => walk_at "xi"); (case a1 => walk_at "hp"); (case a2 => walk_at "hp"); (case a3 => walk_at "ki"); (case a4 => walk_at "ki"))
  | ((with_reducible refine' st_isXsN ?a0 ?a1 ?a2 ?a3 ?_); (case a0 => walk_at "xi"); (case a1 => walk_at "hp"); (case a2 => walk_at "hp"); (case a3 => walk_at "kn"))
  | ((with_reducible refine' st_listRg ?_))
  | ((with_reducible refine' st_rgC ?_))
  | ((with_reducible refine' st_rg1 ?_))
  | ((with_reducible refine' st_rg2 ?_))
  | ((with_reducible refine' st_rg3 ?_))
  | ((with_reducible refine' st_rgUp ?a0 ?_); (case a0 => refine ⟨?_, ?_, ?_, ?_⟩ <;> walk_at "sd"); walk_at "nw")
  | ((with_reducible refine' st_rgDown ?a0 ?_); (case a0 => refine ⟨?_, ?_, ?_, ?_⟩ <;> walk_at "sd"); walk_at "nw")
  | ((with_reducible refine' st_divW ?a0 ?_); (case a0 => constructor <;> walk_at "sd"))
  | ((with_reducible refine' st_iSeq ?_))
  | ((with_reducible refine' st_iEnQ ?_))
  | ((with_reducible refine' st_gsl ?_))
  | ((with_reducible refine' st_augS ?a0 ?_); (case a0 => exact rfl))
  | ((with_reducible refine' st_ipS ?a0 ?_); (case a0 => walk_at "sd"))
  | ((with_reducible refine' st_rv ?_))
  | ((with_reducible refine' st_rvQ ?a0 ?_); (case a0 => first | walk_at "hp" | exact seq_l (by walk_at "hp") | exact seq_t (by walk_at "hp")); walk_at "nw")
  | ((with_reducible refine' st_xk ?_))
  | ((with_reducible refine' st_xkP ?a0 ?a1 ?a2 ?a3 ?a4 ?_); (case a0 => walk_at "hp"); (case a1 => walk_at "xi"); (case a2 => walk_at "nf"); (case a3 => walk_at "hp"); (case a4 => exact rfl))
  | ((with_reducible refine' st_isK ?a0 ?a1 ?a2 ?a3 ?_); (case a0 => walk_at "hp"); (case a1 => walk_at "xi"); (case a2 => walk_at "hp"); (case a3 => walk_at "ki"))
  | ((with_reducible refine' st_isKT ?a0 ?a1 ?a2 ?a3 ?_); (case a0 => walk_at "hp"); (case a1 => walk_at "xi"); (case a2 => walk_at "hp"); (case a3 => walk_at "ki"))
  | ((with_reducible refine' st_isKs ?a0 ?a1 ?a2 ?a3 ?a4 ?_); (case a0 => walk_at "hp"); (case a1 => walk_at "xi"); (case a2 => walk_at "hp"); (case a3 => walk_at "hp"); (case a4 => walk_at "kn"))
  | ((with_reducible refine' st_fld ?_))
  | ((with_reducible refine' st_fldP ?a0 ?a1 ?a2 ?a3 ?_); (case a0 => walk_at "hp"); (case a1 => walk_at "cl"); (case a2 => walk_at "na"); (case a3 => exact rfl))
  | ((with_reducible refine' st_fldS ?_))
  | ((with_reducible refine' st_fldSP ?a0 ?a1 ?a2 ?a3 ?_); (case a0 => walk_at "hp"); (case a1 => walk_at "cl"); (case a2 => walk_at "na"); (case a3 => exact Nat.le_of_ble_eq_true rfl))
  | ((with_reducible refine' st_meth ?_))
  | ((with_reducible refine' st_methP ?a0 ?a1 ?_); (case a0 => walk_at "hp"); (case a1 => exact rfl))
  | ((with_reducible refine' st_make ?_))
  | ((with_reducible refine' st_methS ?_))
  | ((with_reducible refine' st_methD ?_))
  | ((with_reducible refine' st_makeS ?_))
  | ((with_reducible refine' st_dnewT ?_); walk_at "nw")
  | ((with_reducible refine' st_dputU ?_))
  | ((with_reducible refine' st_dget ?_))
  | ((with_reducible refine' st_gget1 ?_))
  | ((with_reducible refine' st_gget2 ?_))
  | ((with_reducible refine' st_gitem ?_))
  | ((with_reducible refine' st_gdat ?a0 ?_); (case a0 => walk_at "gd"))
  | ((with_reducible refine' st_gkey ?_))
  | ((with_reducible refine' st_upper ?a0 ?_); (case a0 => walk_at "sd"))
  | ((with_reducible refine' st_dinU ?_))
  | ((with_reducible refine' st_dninU ?_))
  | ((with_reducible refine' st_T ?a0 ?_); (case a0 => exact rfl))
  | ((with_reducible refine' st_F ?a0 ?_); (case a0 => exact rfl)))
local macro_rules | `(tactic| walk_at "go") => `(tactic| repeat walk_at "s")
local macro_rules | `(tactic| walk_at "s") => `(tactic| first
  | ((with_reducible refine' st_callCb ?_))
  | ((with_reducible refine' st_cbk ?a0 ?a1 ?_); (case a0 => exact rfl); (case a1 => walk_at "hp"))
  | ((with_reducible refine' st_cbP ?a0 ?a1 ?_); (case a0 => walk_at "hp"); (case a1 => walk_at "hp")))
def tabsL (tc : Nat → Addr × Addr) : List (Addr × Str) := [((tc 0).2, ("walked" : Str) ++ ".<locals>." ++ "<lambda>"), ((tc 1).2, ("Board.__init__" : Str) ++ ".<locals>." ++ "<lambda>")]
abbrev L_walked : Expr := argE 2 (subE (asgE (bodyS s_walked 3)))
abbrev q_walked : Str := ("walked" : Str) ++ ".<locals>." ++ "<lambda>"
abbrev L_Board_init : Expr := asgE (bodyS s_Board_init 3)
abbrev q_Board_init : Str := ("Board.__init__" : Str) ++ ".<locals>." ++ "<lambda>"
theorem ndf_walked : ndefB (defScope s_walked) (lamSc L_walked) ["cells"] = true := by decide +kernel
theorem nsc_walked : nscB ["row", "column", "across", "above", "cells"] ["row", "column", "across", "above"] ["cells"] (lamSc L_walked) = true := by decide +kernel
theorem ndf_Board_init : ndefB (defScope s_Board_init) (lamSc L_Board_init) ["side", "top"] = true := by decide +kernel
theorem nsc_Board_init : nscB ["row", "column", "across", "above", "side", "top"] ["row", "column", "across", "above"] ["side", "top"] (lamSc L_Board_init) = true := by decide +kernel
abbrev si_NoCells : Stmt := inClass (top 5) 0
theorem sci_NoCells : FnScope ["self", "found"] ["self", "found"] (defScope si_NoCells) := ⟨rfl, rfl, rfl, by decide +kernel, rfl, by decide +kernel, by decide +kernel⟩
abbrev si_NoPlace : Stmt := inClass (top 4) 0
theorem sci_NoPlace : FnScope ["self", "found"] ["self", "found"] (defScope si_NoPlace) := ⟨rfl, rfl, rfl, by decide +kernel, rfl, by decide +kernel, by decide +kernel⟩
abbrev si_NoRow : Stmt := inClass (top 3) 0
theorem sci_NoRow : FnScope ["self", "found"] ["self", "found"] (defScope si_NoRow) := ⟨rfl, rfl, rfl, by decide +kernel, rfl, by decide +kernel, by decide +kernel⟩
/-- what the top has written -/
structure Tx (K : PySem.W.Frag) (mg : Str → Option Value) (ad : Nat → Addr) (fd : Nat → FuncData) (tk : Nat → Tok) (base : Heap) (tc : Nat → Addr × Addr) : Prop where
  nt_0_1 : (tc 0).2 ≠ (tc 1).2
  d_is_whole : Df K mg "is_whole" s_is_whole ["thing"] (ad 0) (fd 0)
  d_is_within : Df K mg "is_within" s_is_within ["thing", "low", "high"] (ad 1) (fd 1)
  d_is_row : Df K mg "is_row" s_is_row ["thing"] (ad 2) (fd 2)
  d_need_row : Df K mg "need_row" s_need_row ["row"] (ad 3) (fd 3)
  d_need_rows : Df K mg "need_rows" s_need_rows ["side", "top"] (ad 4) (fd 4)
  d_led : Df K mg "led" s_led ["many", "far", "crosses"] (ad 5) (fd 5)
  d_are_cells : Df K mg "are_cells" s_are_cells ["many", "far", "thing"] (ad 6) (fd 6)
  d_walked : Df K mg "walked" s_walked ["many", "far", "cells"] (ad 7) (fd 7)
  fc_walked : FunC K "walked" "walked" s_walked (ad 7) (fd 7) (tc 0).1
  tb_walked : TabB base mg (tc 0).1 (tc 0).2
  d_Board_cells : Dm K "Board" "cells" "Board.cells" s_Board_cells ["self"] (ad 8) (fd 8)
  d_Board_init : Dm K "Board" "__init__" "Board.__init__" s_Board_init ["self", "side", "top"] (ad 9) (fd 9)
  fc_Board_init : FunC K "__init__" "Board.__init__" s_Board_init (ad 9) (fd 9) (tc 1).1
  tb_Board_init : TabB base mg (tc 1).1 (tc 1).2
  d_is_board : Df K mg "is_board" s_is_board ["side", "top", "thing"] (ad 10) (fd 10)
  d__law_at : Df K mg "_law_at" s__law_at ["_law_script", "_law_k"] (ad 11) (fd 11)
  d__law_mix : Df K mg "_law_mix" s__law_mix ["_law_cell", "_law_k"] (ad 12) (fd 12)
  d__law_ints : Df K mg "_law_ints" s__law_ints ["_law_found", "_law_due"] (ad 13) (fd 13)
  d__law_bit : Df K mg "_law_bit" s__law_bit ["_law_script", "_law_t"] (ad 14) (fd 14)
  d__law_walked : Df K mg "_law_walked" s__law_walked ["_law_many", "_law_far", "_law_cells"] (ad 15) (fd 15)
  d__law_of_rows : Df K mg "_law_of_rows" s__law_of_rows ["_law_side", "_law_top"] (ad 16) (fd 16)
  d__law_spoiled : Df K mg "_law_spoiled" s__law_spoiled ["_law_cells", "_law_far", "_law_way", "_law_at_here"] (ad 17) (fd 17)
  d__law_no : Df K mg "_law_no" s__law_no ["_law_many", "_law_far", "_law_cells", "_law_due", "_law_place"] (ad 18) (fd 18)
  d__law_any : Df K mg "_law_any" s__law_any ["_law_script", "_law_many", "_law_far", "_law_at_here"] (ad 19) (fd 19)
  d__law_is : Df K mg "_law_is" s__law_is ["_law_side", "_law_top", "_law_at_here"] (ad 20) (fd 20)
  d_law : Df K mg "law" s_law ["_law_script"] (ad 21) (fd 21)
  c_MOST_SIGNS : mg "MOST_SIGNS" = some (.int 48 (tk 0))
  c_LETTERS : mg "LETTERS" = some (.str "abcdefghijklmnopqrstuvwxyz" (tk 1))
  c_MOST_ROWS : mg "MOST_ROWS" = some (.int 48 (tk 2))
  b_isinstance : mg "isinstance" = none
  b_int : mg "int" = none
  b_bool : mg "bool" = none
  b_all : mg "all" = none
  b_str : mg "str" = none
  b_len : mg "len" = none
  b_list : mg "list" = none
  b_range : mg "range" = none
  b_enumerate : mg "enumerate" = none
  b_tuple : mg "tuple" = none
  b_ValueError : mg "ValueError" = none
  e_NoPlace : EC K mg "NoPlace"
  e_NoCells : EC K mg "NoCells"
  e_PaneError : EC K mg "PaneError"
  g_NoRow : mg "NoRow" = some (.ref (clsA K "NoRow"))
  o_NoRow : OexC K (clsA K "NoRow")
  n_NoRow_found : PySem.W.findIn K (.ref (clsA K "NoRow")) "found" = some none
  i_NoRow : IniF K "NoRow" "NoRow.__init__" si_NoRow ["self", "found"]
  x_NoRow : XI K (clsA K "NoRow")
  s_NoRow_NoPlace : PySem.W.subIn K (.ref (clsA K "NoRow")) (.ref (clsA K "NoPlace")) = some false
  s_NoRow_NoCells : PySem.W.subIn K (.ref (clsA K "NoRow")) (.ref (clsA K "NoCells")) = some false
  s_NoRow_PaneError : PySem.W.subIn K (.ref (clsA K "NoRow")) (.ref (clsA K "PaneError")) = some true
  v_NoRow : PySem.W.subIn K (.ref (clsA K "NoRow")) (.type "ValueError") = some true
  g_NoPlace : mg "NoPlace" = some (.ref (clsA K "NoPlace"))
  o_NoPlace : OexC K (clsA K "NoPlace")
  n_NoPlace_found : PySem.W.findIn K (.ref (clsA K "NoPlace")) "found" = some none
  i_NoPlace : IniF K "NoPlace" "NoPlace.__init__" si_NoPlace ["self", "found"]
  x_NoPlace : XI K (clsA K "NoPlace")
  s_NoPlace_NoPlace : PySem.W.subIn K (.ref (clsA K "NoPlace")) (.ref (clsA K "NoPlace")) = some true
  s_NoPlace_NoCells : PySem.W.subIn K (.ref (clsA K "NoPlace")) (.ref (clsA K "NoCells")) = some false
  s_NoPlace_PaneError : PySem.W.subIn K (.ref (clsA K "NoPlace")) (.ref (clsA K "PaneError")) = some true
  v_NoPlace : PySem.W.subIn K (.ref (clsA K "NoPlace")) (.type "ValueError") = some true
  g_NoCells : mg "NoCells" = some (.ref (clsA K "NoCells"))
  o_NoCells : OexC K (clsA K "NoCells")
  n_NoCells_found : PySem.W.findIn K (.ref (clsA K "NoCells")) "found" = some none
  i_NoCells : IniF K "NoCells" "NoCells.__init__" si_NoCells ["self", "found"]
  x_NoCells : XI K (clsA K "NoCells")
  s_NoCells_NoPlace : PySem.W.subIn K (.ref (clsA K "NoCells")) (.ref (clsA K "NoPlace")) = some false
  s_NoCells_NoCells : PySem.W.subIn K (.ref (clsA K "NoCells")) (.ref (clsA K "NoCells")) = some true
  s_NoCells_PaneError : PySem.W.subIn K (.ref (clsA K "NoCells")) (.ref (clsA K "PaneError")) = some true
  v_NoCells : PySem.W.subIn K (.ref (clsA K "NoCells")) (.type "ValueError") = some true
  s_PaneError_PaneError : PySem.W.subIn K (.ref (clsA K "PaneError")) (.ref (clsA K "PaneError")) = some true
  bi_PaneError : BI K mg "PaneError"
  mg_Board : mg "Board" = some (.ref (clsA K "Board"))
  cl_Board : Cls K (clsA K "Board")
  na_Board_left_row : NoAttr K (clsA K "Board") "left_row"
  na_Board_upper_row : NoAttr K (clsA K "Board") "upper_row"
  na_Board_meetings : NoAttr K (clsA K "Board") "meetings"
  na_Board_signs : NoAttr K (clsA K "Board") "signs"
  na_Board_goals : NoAttr K (clsA K "Board") "goals"
  m_Board : Mk K (clsA K "Board") (ad 9)
local macro_rules | `(tactic| walk_at "ex") => `(tactic| first
  | exact EC.xm (Tx.e_NoPlace (by assumption)) (Tx.s_NoRow_NoPlace (by assumption))
  | exact EC.xm (Tx.e_NoCells (by assumption)) (Tx.s_NoRow_NoCells (by assumption))
  | exact EC.xm (Tx.e_NoPlace (by assumption)) (Tx.s_NoPlace_NoPlace (by assumption))
  | exact EC.xm (Tx.e_NoCells (by assumption)) (Tx.s_NoPlace_NoCells (by assumption))
  | exact EC.xm (Tx.e_NoPlace (by assumption)) (Tx.s_NoCells_NoPlace (by assumption))
  | exact EC.xm (Tx.e_NoCells (by assumption)) (Tx.s_NoCells_NoCells (by assumption)))
local macro_rules | `(tactic| walk_at "ki") => `(tactic| first
  | exact EC.kit (Tx.e_PaneError (by assumption)) (Tx.s_NoRow_PaneError (by assumption)) (Tx.s_PaneError_PaneError (by assumption))
  | exact EC.kit (Tx.e_NoCells (by assumption)) (Tx.s_NoRow_NoCells (by assumption)) (Tx.s_NoCells_NoCells (by assumption))
  | exact EC.kit (Tx.e_PaneError (by assumption)) (Tx.s_NoPlace_PaneError (by assumption)) (Tx.s_PaneError_PaneError (by assumption))
  | exact EC.kit (Tx.e_NoCells (by assumption)) (Tx.s_NoPlace_NoCells (by assumption)) (Tx.s_NoCells_NoCells (by assumption))
  | exact EC.kit (Tx.e_PaneError (by assumption)) (Tx.s_NoCells_PaneError (by assumption)) (Tx.s_PaneError_PaneError (by assumption))
  | exact EC.kit (Tx.e_NoCells (by assumption)) (Tx.s_NoCells_NoCells (by assumption)) (Tx.s_NoCells_NoCells (by assumption))
  | exact kit_ve (Tx.v_NoRow (by assumption))
  | exact kit_ve (Tx.v_NoPlace (by assumption))
  | exact kit_ve (Tx.v_NoCells (by assumption)))
local macro_rules | `(tactic| walk_at "xi") => `(tactic| first
  | exact Tx.x_NoRow (by assumption)
  | exact Tx.x_NoPlace (by assumption)
  | exact Tx.x_NoCells (by assumption))
local macro_rules | `(tactic| walk_at "xo") => `(tactic| first
  | exact Tx.o_NoRow (by assumption)
  | exact Tx.o_NoPlace (by assumption)
  | exact Tx.o_NoCells (by assumption))
local macro_rules | `(tactic| walk_at "nf") => `(tactic| first
  | exact Tx.n_NoRow_found (by assumption)
  | exact Tx.n_NoPlace_found (by assumption)
  | exact Tx.n_NoCells_found (by assumption))
local macro_rules | `(tactic| walk_at "cl") => `(tactic| first
  | exact Tx.cl_Board (by assumption))
local macro_rules | `(tactic| walk_at "na") => `(tactic| first
  | exact Tx.na_Board_left_row (by assumption)
  | exact Tx.na_Board_upper_row (by assumption)
  | exact Tx.na_Board_meetings (by assumption)
  | exact Tx.na_Board_signs (by assumption)
  | exact Tx.na_Board_goals (by assumption))
section
variable {P : Program} {w : World} {K : PySem.W.Frag} {mg : Str → Option Value} {base : Heap} {ad : Nat → Addr} {fd : Nat → FuncData} {tk : Nat → Tok} {tc : Nat → Addr × Addr}
theorem tabs_m_walked : ((tc 0).2, q_walked) ∈ tabsL tc := by
  unfold tabsL
  simp
theorem tabs_u_walked (T : Tx K mg ad fd tk base tc) : ∀ p ∈ tabsL tc, p.1 = (tc 0).2 → p.2 = q_walked := by
  intro p hp e
  simp only [tabsL, List.mem_cons, List.not_mem_nil, or_false] at hp
  rcases hp with rfl | rfl
  all_goals first
  | exact absurd e T.nt_0_1
  | exact absurd e.symm T.nt_0_1
  | rfl
theorem tabs_m_Board_init : ((tc 1).2, q_Board_init) ∈ tabsL tc := by
  unfold tabsL
  simp
theorem tabs_u_Board_init (T : Tx K mg ad fd tk base tc) : ∀ p ∈ tabsL tc, p.1 = (tc 1).2 → p.2 = q_Board_init := by
  intro p hp e
  simp only [tabsL, List.mem_cons, List.not_mem_nil, or_false] at hp
  rcases hp with rfl | rfl
  all_goals first
  | exact absurd e T.nt_0_1
  | exact absurd e.symm T.nt_0_1
  | rfl
theorem ex_NoRow (T : Tx K mg ad fd tk base tc) : EX P w K mg base "NoRow" ["self", "found"] (spI1 K "found") := by
  obtain ⟨f, fd, i1, i2, F, b⟩ := T.i_NoRow.ex
  refine ⟨T.g_NoRow, T.o_NoRow, f, fd, i1, i2, F.ok sci_NoRow (fun vs H Q E h => ?_) (fun cdv A outer s H vs Q E hr h => ?_), b⟩
  · obtain ⟨a, C, y0, rfl, _⟩ := h
    rfl
  · obtain ⟨a, C, y0, rfl, hO, hn0, ha, k⟩ := h
    refine ⟨_, (pss_cons (ps_expr (pe_oinit T.bi_PaneError rfl (pa_cons (pv 0) (pa_cons pe_str pa_nil))))
      (pss_one (ps_ost (pv 0) (pv 1)))), ?_⟩
    exact ini1_go hO hn0 ha k
theorem ex_NoPlace (T : Tx K mg ad fd tk base tc) : EX P w K mg base "NoPlace" ["self", "found"] (spI1 K "found") := by
  obtain ⟨f, fd, i1, i2, F, b⟩ := T.i_NoPlace.ex
  refine ⟨T.g_NoPlace, T.o_NoPlace, f, fd, i1, i2, F.ok sci_NoPlace (fun vs H Q E h => ?_) (fun cdv A outer s H vs Q E hr h => ?_), b⟩
  · obtain ⟨a, C, y0, rfl, _⟩ := h
    rfl
  · obtain ⟨a, C, y0, rfl, hO, hn0, ha, k⟩ := h
    refine ⟨_, (pss_cons (ps_expr (pe_oinit T.bi_PaneError rfl (pa_cons (pv 0) (pa_cons pe_str pa_nil))))
      (pss_one (ps_ost (pv 0) (pv 1)))), ?_⟩
    exact ini1_go hO hn0 ha k
theorem ex_NoCells (T : Tx K mg ad fd tk base tc) : EX P w K mg base "NoCells" ["self", "found"] (spI1 K "found") := by
  obtain ⟨f, fd, i1, i2, F, b⟩ := T.i_NoCells.ex
  refine ⟨T.g_NoCells, T.o_NoCells, f, fd, i1, i2, F.ok sci_NoCells (fun vs H Q E h => ?_) (fun cdv A outer s H vs Q E hr h => ?_), b⟩
  · obtain ⟨a, C, y0, rfl, _⟩ := h
    rfl
  · obtain ⟨a, C, y0, rfl, hO, hn0, ha, k⟩ := h
    refine ⟨_, (pss_cons (ps_expr (pe_oinit T.bi_PaneError rfl (pa_cons (pv 0) (pa_cons pe_str pa_nil))))
      (pss_one (ps_ost (pv 0) (pv 1)))), ?_⟩
    exact ini1_go hO hn0 ha k
def isWholeV : V → Bool
  | .int _ => true
  | _ => false
def sp_is_whole : Sp := fun vs H Q _ => ∃ x, vs = [x] ∧ Ty H x ∧ Q (.bl (isWholeV x)) H
theorem ok_is_whole (T : Tx K mg ad fd tk base tc) : FnOk P w K mg base CX0 1 (ad 0) (fd 0) ["thing"] sp_is_whole := by
  refine T.d_is_whole.F.ok sc_is_whole (fun vs H Q E h => ?_) (fun cdv A outer s H vs Q E hr h => ?_)
  · obtain ⟨x, rfl, _⟩ := h
    rfl
  · obtain ⟨x, rfl, ht, k⟩ := h
    refine ⟨_, (pss_one (ps_ret (pe_and (pe_callB c_is (by rfl) T.b_isinstance (by decide +kernel) (pa_cons (pv 0) (pa_cons (pe_bltn (v := .ty "int") rfl T.b_int (by decide +kernel) rfl) pa_nil))) (pe_one (pe_not (pe_callB c_is (by rfl) T.b_isinstance (by decide +kernel) (pa_cons (pv 0) (pa_cons (pe_bltn (v := .ty "bool") rfl T.b_bool (by decide +kernel) rfl) pa_nil)))))))), ?_⟩
    walk_at "go"
    refine st_isIntT ht ?_
    walk_at "go"
    cases x with
    | int i =>
      refine st_T rfl ?_
      walk_at "go"
      exact k
    | bl b =>
      refine st_T rfl ?_
      walk_at "go"
      exact k
    | _ =>
      refine st_F rfl ?_
      walk_at "go"
      exact k
def withinV (x : V) (lo hi : Int) : Bool := match x with
  | .int i => decide (lo ≤ i ∧ i ≤ hi)
  | _ => false
def sp_is_within : Sp := fun vs H Q _ => ∃ (x : V) (lo hi : Int), vs = [x, .int lo, .int hi] ∧ Ty H x ∧ Q (.bl (withinV x lo hi)) H
theorem ok_is_within (T : Tx K mg ad fd tk base tc) : FnOk P w K mg base CX0 2 (ad 1) (fd 1) ["thing", "low", "high"] sp_is_within := by
  refine T.d_is_within.F.ok sc_is_within (fun vs H Q E h => ?_) (fun cdv A outer s H vs Q E hr h => ?_)
  · obtain ⟨x, lo, hi, rfl, _⟩ := h
    rfl
  · obtain ⟨x, lo, hi, rfl, ht, k⟩ := h
    refine ⟨_, (pss_one (ps_ret (pe_and (pe_call (ok_is_whole T) (hr.mono (by decide)) rfl T.d_is_whole.g T.d_is_whole.F.kp T.d_is_whole.b .nil pass0 (pa_cons (pv 0) pa_nil)) (pe_one (pe_chain o_le o_le (pv 1) (pv 0) (pv 2)))))), ?_⟩
    walk_at "go"
    refine ⟨x, rfl, ht, ?_⟩
    cases x with
    | int i =>
      walk_at "go"
      refine st_br2 (fun c => ?_) (fun c => ?_)
      · walk_at "go"
        have e : withinV (.int i) lo hi = decide (i ≤ hi) := by
          unfold withinV
          simp [c]
        rw [e] at k
        exact k
      · have e : withinV (.int i) lo hi = false := by
          unfold withinV
          simp [c]
        rw [e] at k
        exact k
    | _ =>
      walk_at "go"
      exact k
def rowSign (c : Nat) : Bool := decide (97 ≤ c ∧ c ≤ 122) || decide (c = 46)
def isRow : V → Bool
  | .str z => decide (z.length ≤ 48) && z.cps.toList.all rowSign
  | _ => false
theorem letters_eq : ("abcdefghijklmnopqrstuvwxyz" : Str).cps.toList = List.range' 97 26 := by decide +kernel
theorem letters_mem (c : Nat) : (c ∈ ("abcdefghijklmnopqrstuvwxyz" : Str).cps.toList) ↔ (97 ≤ c ∧ c ≤ 122) := by
  rw [letters_eq, List.mem_range'_1]
  omega
theorem point_eq : ("." : Str) = tx [46] := by decide +kernel
def sp_is_row : Sp := fun vs H Q _ => ∃ v, vs = [v] ∧ Ty H v ∧ (∀ z, v = .str z → z.length ≤ 16777216) ∧ ∀ H', Ex H H' → Q (.bl (isRow v)) H'
theorem ok_is_row (T : Tx K mg ad fd tk base tc) : FnOk P w K mg base CX0 1 (ad 2) (fd 2) ["thing"] sp_is_row := by
  refine T.d_is_row.F.ok sc_is_row (fun vs H Q E h => ?_) (fun cdv A outer s H vs Q E hr h => ?_)
  · obtain ⟨v, rfl, _⟩ := h
    rfl
  · obtain ⟨v, rfl, ht, hz, k⟩ := h
    refine ⟨_, (pss_cons (ps_if (PW.pt (pw_or (pt_not (pt_val (pe_callB c_is (by rfl) T.b_isinstance (by decide +kernel) (pa_cons (pv 0) (pa_cons (pe_bltn (v := .ty "str") rfl T.b_str (by decide +kernel) rfl) pa_nil))))) (pw_or1 (pt_cmpR o_gt (pe_callB (c_len (K := K)) (by rfl) T.b_len (by decide +kernel) (pa_cons (pv 0) pa_nil)) (pe_glob (v := .int 48) rfl T.c_MOST_SIGNS ⟨_, rfl⟩) (nomark _))))) (pss_one (ps_ret pe_bl)) pss_nil)
      (pss_one (ps_ret (pe_callB (c_all rfl) (by rfl) T.b_all (by decide +kernel) (pa_cons (pe_lc (own := [("sign", 1)]) (g := gName 1) rfl sc_is_row.nd (pi_str (pv 0)) (blkOk_by (own := [("sign", 1)]) (N := N_is_row) (sc := defScope s_is_row) (by decide +kernel)) (fun _ _ _ _ _ => pg_name (i := 1) sc_is_row.nd rfl (Or.inl rfl)) (fun _ _ _ _ _ => pts_nil) (fun _ _ _ _ _ => (pe_or (pe_cmpR (o_in hr.units) (pv 1) (pe_glob (v := .str "abcdefghijklmnopqrstuvwxyz") rfl T.c_LETTERS ⟨_, rfl⟩) rfl) (pe_one (pe_cmpR (o_eq hr.units) (pv 1) pe_str (nomark _)))))) pa_nil))))), ?_⟩
    walk_at "go"
    refine st_isStrT ht ?_
    walk_at "go"
    cases v with
    | str z =>
      have hz' := hz z rfl
      refine st_F rfl ?_
      walk_at "go"
      refine st_br2 (fun c => ?_) (fun c => ?_)
      · walk_at "go"
        have e : isRow (.str z) = false := by
          show (decide (z.length ≤ 48) && _) = false
          rw [decide_eq_false (by omega)]
          rfl
        have k' := k _ (Fr.refl H)
        rw [e] at k'
        exact k'
      · walk_at "go"
        refine lc_pure (rv_str z) (fun _ _ => trivial) (by show z.cps.toList.length < _; simp only [Array.length_toList]; have : z.cps.size = z.length := rfl; omega) (fun _ => true) (fun c => .bl (rowSign c)) ?_ ?_
        · intro c' H' hc e B A h1 h2
          refine ⟨rfl, ?_⟩
          have h1' := h1 rfl _ (Fr.refl _)
          walk_at "go"
          refine st_br2 (fun m => ?_) (fun m => ?_)
          · rw [letters_mem] at m
            have e1 : rowSign c' = true := by
              unfold rowSign
              rw [decide_eq_true m]
              rfl
            rw [e1] at h1'
            exact h1'
          · rw [letters_mem] at m
            walk_at "go"
            have e1 : rowSign c' = decide (tx [c'] = ".") := by
              unfold rowSign
              rw [decide_eq_false m, point_eq, Bool.false_or]
              simp [tx_inj]
            rw [e1] at h1'
            exact h1'
        · intro D H' hD e hd
          walk_at "go"
          refine st_all (bs := z.cps.toList.map rowSign) hd (by rw [List.filter_eq_self.mpr (fun _ _ => rfl), List.map_map]; rfl) ?_
          have e1 : isRow (.str z) = (z.cps.toList.map rowSign).all id := by
            show (decide (z.length ≤ 48) && _) = _
            rw [decide_eq_true (by omega), Bool.true_and, List.all_map]
            rfl
          have k' := k _ e
          rw [e1] at k'
          exact k'
    | _ =>
      refine st_T rfl ?_
      walk_at "go"
      exact k _ (Fr.refl H)
/-- a text that is a row -/
def RowS (z : Str) : Prop := isRow (.str z) = true
theorem RowS.len {z : Str} (h : RowS z) : z.length ≤ 48 := by
  have h : (decide (z.length ≤ 48) && z.cps.toList.all rowSign) = true := h
  rw [Bool.and_eq_true] at h
  exact of_decide_eq_true h.1
theorem rowS_of_true {x : V} (h : isRow x = true) : ∃ s, x = .str s ∧ RowS s := by
  cases x with
  | str s => exact ⟨s, rfl, h⟩
  | _ => cases h
/-- a row, or refused -/
def Row1 (K : PySem.W.Frag) (E : XK) (H : Hp) (x : V) (k : Str → Prop) : Prop := (∃ s, x = .str s ∧ RowS s ∧ k s) ∨ (Thg H x ∧ isRow x = false ∧ RaR K E H "NoRow" "found" x)
theorem Row1.imp {K : PySem.W.Frag} {E : XK} {H : Hp} {x : V} {k k' : Str → Prop} (h : Row1 K E H x k) (f : ∀ s, x = .str s → RowS s → k s → k' s) : Row1 K E H x k' := by
  rcases h with ⟨s, e, hs, h⟩ | h
  · exact .inl ⟨s, e, hs, f s e hs h⟩
  · exact .inr h
def sp_need_row (K : PySem.W.Frag) : Sp := fun vs H Q E => ∃ x, vs = [x] ∧ Row1 K E H x fun _ => ∀ H', Ex H H' → Q .non H'
theorem ok_need_row (T : Tx K mg ad fd tk base tc) : FnOk P w K mg base (L2.CX P w) 3 (ad 3) (fd 3) ["row"] (sp_need_row K) := by
  refine T.d_need_row.F.okX sc_need_row (fun vs H Q E h => ?_) (fun cdv A outer s H vs Q E hr h => ?_)
  · obtain ⟨x, rfl, _⟩ := h
    rfl
  · obtain ⟨x, rfl, k⟩ := h
    refine ⟨_, (pss_one (ps_if (pt_not (pt_val (pe_call (ok_is_row T) (hr.mono (by decide)) rfl T.d_is_row.g T.d_is_row.F.kp T.d_is_row.b .nil pass0 (pa_cons (pv 0) pa_nil)))) (pss_one (ps_raiseG rfl (ex_NoRow T) (hr.mono (by decide)) (takes_of rfl rfl rfl rfl) rfl (pa_cons (pv 0) pa_nil))) pss_nil)), ?_⟩
    walk_at "go"
    rcases k with ⟨s, rfl, hs, k⟩ | ⟨ht, hb, k⟩
    · have hs' := hs.len
      refine ⟨.str s, rfl, ty_str _, fun z' e => by cases e; omega, fun H1 e1 => ?_⟩
      rw [show isRow (.str s) = true from hs]
      walk_at "go"
      exact k _ e1
    · refine ⟨x, rfl, ht.1, ht.2, fun H1 e1 => ?_⟩
      rw [hb]
      walk_at "go"
      rename_i d H2 hd e2 hv
      exact k d H2 (Ex.free e1 hd) (e1.trans e2) hv
/-- two rows, or the first that is none is refused -/
def Rows2 (K : PySem.W.Frag) (E : XK) (H : Hp) (x y : V) (k : Str → Str → Prop) : Prop := (∃ s t, x = .str s ∧ y = .str t ∧ RowS s ∧ RowS t ∧ k s t) ∨
  (Thg H x ∧ Thg H y ∧ ((isRow x = false ∧ RaR K E H "NoRow" "found" x) ∨ (isRow x = true ∧ isRow y = false ∧ RaR K E H "NoRow" "found" y)))
theorem Rows2.imp {K : PySem.W.Frag} {E : XK} {H : Hp} {x y : V} {k k' : Str → Str → Prop} (h : Rows2 K E H x y k) (f : ∀ s t, x = .str s → y = .str t → RowS s → RowS t → k s t → k' s t) : Rows2 K E H x y k' := by
  rcases h with ⟨s, t, e1, e2, hs, ht, h⟩ | h
  · exact .inl ⟨s, t, e1, e2, hs, ht, f s t e1 e2 hs ht h⟩
  · exact .inr h
def sp_need_rows (K : PySem.W.Frag) : Sp := fun vs H Q E => ∃ x y, vs = [x, y] ∧ Rows2 K E H x y fun _ _ => ∀ H', Ex H H' → Q .non H'
theorem ok_need_rows (T : Tx K mg ad fd tk base tc) : FnOk P w K mg base (L2.CX P w) 4 (ad 4) (fd 4) ["side", "top"] (sp_need_rows K) := by
  refine T.d_need_rows.F.okX sc_need_rows (fun vs H Q E h => ?_) (fun cdv A outer s H vs Q E hr h => ?_)
  · obtain ⟨x, y, rfl, _⟩ := h
    rfl
  · obtain ⟨x, y, rfl, k⟩ := h
    refine ⟨_, (pss_cons (ps_expr (pe_call (ok_need_row T) (hr.mono (by decide)) rfl T.d_need_row.g T.d_need_row.F.kp T.d_need_row.b .nil (passes_call (takes_of rfl rfl rfl rfl) (fun _ _ _ _ h => h)) (pa_cons (pv 0) pa_nil)))
      (pss_one (ps_expr (pe_call (ok_need_row T) (hr.mono (by decide)) rfl T.d_need_row.g T.d_need_row.F.kp T.d_need_row.b .nil (passes_call (takes_of rfl rfl rfl rfl) (fun _ _ _ _ h => h)) (pa_cons (pv 1) pa_nil))))), ?_⟩
    walk_at "go"
    rcases k with ⟨s, t, rfl, rfl, hs, ht, k⟩ | ⟨h1, h2, ⟨hb, k⟩ | ⟨ha, hb, k⟩⟩
    · refine ⟨.str s, rfl, .inl ⟨s, rfl, hs, fun H1 e1 => ?_⟩⟩
      walk_at "go"
      refine ⟨.str t, rfl, .inl ⟨t, rfl, ht, fun H2 e2 => ?_⟩⟩
      walk_at "go"
      exact k _ (e1.trans e2)
    · exact ⟨x, rfl, .inr ⟨h1, hb, k⟩⟩
    · obtain ⟨s, rfl, hs⟩ := rowS_of_true ha
      refine ⟨.str s, rfl, .inl ⟨s, rfl, hs, fun H1 e1 => ?_⟩⟩
      walk_at "go"
      exact ⟨y, rfl, .inr ⟨h2.ex e1, hb, k.ex e1⟩⟩
/-- an item, nought behind the end -/
def gT (e : List Nat) (i : Nat) : Nat := e.getD i 0
theorem gT_at {e : List Nat} {i : Nat} (h : i < e.length) : gT e i = e[i] := by
  unfold gT
  rw [List.getD_eq_getElem?_getD, List.getElem?_eq_getElem h]
  rfl
theorem gT_of {e : List Nat} {i v : Nat} (h : e[i]? = some v) : gT e i = v := by unfold gT; rw [List.getD_eq_getElem?_getD, h]; rfl
theorem gT_ext {a b : List Nat} (hl : a.length = b.length) (h : ∀ i, i < a.length → gT a i = gT b i) : a = b := by
  refine List.ext_getElem hl fun i h1 h2 => ?_
  have := h i h1
  rwa [gT_at h1, gT_at h2] at this
theorem gT_map {f : Nat → Nat} {n i : Nat} (h : i < n) : gT ((List.range n).map f) i = f i := by
  refine gT_of ?_
  rw [List.getElem?_map, List.getElem?_range h]
  rfl
/-- a turning -/
structure IsT (l : List Nat) : Prop where
  nd : l.Nodup
  lt : ∀ x ∈ l, x < l.length
theorem IsT.g_lt {l : List Nat} (h : IsT l) {i : Nat} (hi : i < l.length) : gT l i < l.length := h.lt _ (by rw [gT_at hi]; exact List.getElem_mem hi)
theorem IsT.mem {l : List Nat} (h : IsT l) {v : Nat} (hv : v < l.length) : v ∈ l := by
  refine Decidable.byContradiction fun hn => ?_
  have h1 : l ⊆ (List.range l.length).erase v := fun x hx => by
    refine (List.mem_erase_of_ne (fun e => hn (by rw [← e]; exact hx))).mpr ?_
    exact List.mem_range.mpr (h.lt x hx)
  have h2 := h.nd.length_le_of_subset h1
  rw [List.length_erase_of_mem (List.mem_range.mpr hv), List.length_range] at h2
  omega
theorem isT_range (n : Nat) : IsT (List.range n) := ⟨List.nodup_range, fun x hx => by rw [List.length_range]; exact List.mem_range.mp hx⟩
theorem IsT.of_perm {l m : List Nat} (h : IsT m) (p : l.Perm m) : IsT l := ⟨p.nodup_iff.mpr h.nd, fun x hx => by rw [p.length_eq]; exact h.lt x (p.mem_iff.mp hx)⟩
theorem IsT.of_perm_range {l : List Nat} {n : Nat} (p : l.Perm (List.range n)) : IsT l := (isT_range n).of_perm p
theorem IsT.idx_lt {l : List Nat} (h : IsT l) {v : Nat} (hv : v < l.length) : l.idxOf v < l.length := List.idxOf_lt_length_iff.mpr (h.mem hv)
theorem IsT.g_idx {l : List Nat} (h : IsT l) {v : Nat} (hv : v < l.length) : gT l (l.idxOf v) = v := by
  rw [gT_at (h.idx_lt hv)]
  exact List.getElem_idxOf _
theorem IsT.idx_g {l : List Nat} (h : IsT l) {i : Nat} (hi : i < l.length) : l.idxOf (gT l i) = i := by
  rw [gT_at hi]
  exact h.nd.idxOf_getElem i hi
theorem IsT.inj {l : List Nat} (h : IsT l) {i j : Nat} (hi : i < l.length) (hj : j < l.length) (e : gT l i = gT l j) : i = j := by
  rw [← h.idx_g hi, ← h.idx_g hj, e]
/-- the opposite turning -/
def invT (l : List Nat) : List Nat := (List.range l.length).map fun v => l.idxOf v
theorem invT_len (l : List Nat) : (invT l).length = l.length := by rw [invT, List.length_map, List.length_range]
theorem invT_g {l : List Nat} {v : Nat} (h : v < l.length) : gT (invT l) v = l.idxOf v := gT_map h
/-- two neighbours exchanged -/
def swapAt (e : List Nat) (s : Nat) : List Nat := e.take s ++ [gT e (s + 1), gT e s] ++ e.drop (s + 2)
theorem swapAt_len {e : List Nat} {s : Nat} (h : s + 1 < e.length) : (swapAt e s).length = e.length := by
  unfold swapAt
  rw [List.length_append, List.length_append, List.length_take, List.length_drop]
  simp only [List.length_cons, List.length_nil]
  omega
/-- words of swaps -/
def OkW (n : Nat) (w : List Nat) : Prop := ∀ s ∈ w, s + 1 < n
theorem OkW.cons {n s : Nat} {w : List Nat} (h : OkW n (s :: w)) : s + 1 < n ∧ OkW n w := ⟨h s List.mem_cons_self, fun t ht => h t (List.mem_cons_of_mem _ ht)⟩
def swapsT (e : List Nat) (w : List Nat) : List Nat := w.foldl swapAt e
def Down : List Nat → List Nat → Prop
  | _, [] => True
  | e, s :: w => s + 1 < e.length ∧ gT e (s + 1) < gT e s ∧ Down (swapAt e s) w
def Up : List Nat → List Nat → Prop
  | _, [] => True
  | e, s :: w => s + 1 < e.length ∧ gT e s < gT e (s + 1) ∧ Up (swapAt e s) w
theorem Down.ok : ∀ {w e : List Nat}, Down e w → OkW e.length w
  | [], _, _, s, hs => by cases hs
  | t :: w, e, ⟨h1, _, h3⟩, s, hs => by
    rcases List.mem_cons.mp hs with q | q
    · rw [q]; exact h1
    · have := h3.ok s q
      rwa [swapAt_len h1] at this
theorem Up.ok : ∀ {w e : List Nat}, Up e w → OkW e.length w
  | [], _, _, s, hs => by cases hs
  | t :: w, e, ⟨h1, _, h3⟩, s, hs => by
    rcases List.mem_cons.mp hs with q | q
    · rw [q]; exact h1
    · have := h3.ok s q
      rwa [swapAt_len h1] at this
theorem Down.app : ∀ {v w e : List Nat}, Down e v → Down (swapsT e v) w → Down e (v ++ w)
  | [], _, _, _, h => h
  | s :: v, w, e, ⟨h1, h2, h3⟩, h => ⟨h1, h2, h3.app h⟩
theorem Up.app : ∀ {v w e : List Nat}, Up e v → Up (swapsT e v) w → Up e (v ++ w)
  | [], _, _, _, h => h
  | s :: v, w, e, ⟨h1, h2, h3⟩, h => ⟨h1, h2, h3.app h⟩
/-- how these stand -/
def nV (x : Nat) : V := .int (x : Nat)
def encN (x : Nat) : PyData := .int (x : Nat)
def TurnD (d : PyData) : Prop := ∃ l : List Nat, (d = .list (l.map encN) ∨ d = .tuple (l.map encN)) ∧ IsT l ∧ l.length ≤ 96
/-- lists that stand for functions on the first n places -/
theorem fn_at {f : Nat → V} {n p : Nat} (h : p < n) : atI ((List.range n).map f) (p : Nat) = some (f p) := at_mapN (List.getElem?_range h)
theorem fn_set {f : Nat → V} {n p : Nat} {v : V} : ((List.range n).map f).set p v = (List.range n).map fun e => if e = p then v else f e := by
  refine List.ext_getElem? fun i => ?_
  rw [List.getElem?_set, List.getElem?_map, List.getElem?_map, List.length_map, List.length_range]
  by_cases h : i < n
  · rw [List.getElem?_range h]
    by_cases e : p = i
    · subst e
      rw [if_pos rfl, if_pos h]
      simp
    · rw [if_neg e]
      simp [Ne.symm e]
  · rw [List.getElem?_eq_none (by rw [List.length_range]; omega)]
    by_cases e : p = i
    · subst e
      rw [if_pos rfl, if_neg h]
      rfl
    · rw [if_neg e]
      rfl
theorem fn_ix {f : Nat → V} {n p : Nat} (h : p < n) : ixN ((List.range n).map f).length (p : Nat) = some p := Evl.ixN_nat (by rw [List.length_map, List.length_range]; exact h)
theorem fn_congr {f g : Nat → V} {n : Nat} (h : ∀ e, e < n → f e = g e) : (List.range n).map f = (List.range n).map g := List.map_congr_left fun e he => h e (List.mem_range.mp he)
theorem TurnD.seq {H : Hp} {x : V} {d : PyData} {l : List Nat} (hx : Rn H x d) (hd : d = .list (l.map encN) ∨ d = .tuple (l.map encN)) : ∃ a, x = .ref a ∧ seqAt H a = some (l.map nV) := by
  have : ∀ (xs : List V) (l : List Nat), RnA H xs (l.map encN) → xs = l.map nV := by
    intro xs l
    induction l generalizing xs with
    | nil => intro h; cases h; rfl
    | cons v l ih =>
      intro h
      cases h with
      | cons h1 h2 =>
        rw [List.map_cons, ← ih _ h2]
        congr 1
        unfold encN at h1
        cases h1
        rfl
  rcases hd with rfl | rfl
  · obtain ⟨a, xs, rfl, h1, h2⟩ := hx.listAt
    exact ⟨a, rfl, by rw [seq_l h1, this _ _ h2]⟩
  · obtain ⟨a, xs, rfl, h1, h2⟩ := hx.tupAt
    exact ⟨a, rfl, by rw [seq_t h1, this _ _ h2]⟩
theorem nV_at {l : List Nat} {i : Nat} {v : V} (h : (l.map nV)[i]? = some v) : i < l.length ∧ v = nV (gT l i) := by
  rw [List.getElem?_map] at h
  cases q : l[i]? with
  | none => rw [q] at h; cases h
  | some x =>
    rw [q] at h
    refine ⟨(List.getElem?_eq_some_iff.mp q).1, ?_⟩
    rw [gT_of q]
    exact (Option.some.inj h).symm
theorem gT_set {l : List Nat} {j v i : Nat} (hj : j < l.length) : gT (l.set j v) i = if i = j then v else gT l i := by
  unfold gT
  rw [List.getD_eq_getElem?_getD, List.getElem?_set, List.getD_eq_getElem?_getD]
  by_cases h : j = i
  · subst h
    rw [if_pos rfl, if_pos rfl, if_pos hj]
    rfl
  · rw [if_neg h, if_neg (fun e => h e.symm)]
theorem rnL {H : Hp} {p : Addr} {xs : List Nat} (h : H p = some (.lst (xs.map nV))) : Rn H (.ref p) (.list (xs.map encN)) := .lst h (rnA_map fun _ _ => .int _)
/-- lines that are led over a board by a rule: the number that goes right, ahead of a column -/
def ledX (r : Nat → Nat → Nat → Nat → Bool) (D : Nat → Nat) (i x0 : Nat) : Nat → Nat
  | 0 => x0
  | j + 1 => if r i j (ledX r D i x0 j) (D j) = true then ledX r D i x0 j else D j
/-- the numbers that go down, ahead of a row -/
def ledD (r : Nat → Nat → Nat → Nat → Bool) (m : Nat) : Nat → Nat → Nat
  | 0, j => m + j
  | i + 1, j => if r i j (ledX r (ledD r m i) i (m - 1 - i) j) (ledD r m i j) = true then ledD r m i j else ledX r (ledD r m i) i (m - 1 - i) j
def ledA (r : Nat → Nat → Nat → Nat → Bool) (m i j : Nat) : Nat := ledX r (ledD r m i) i (m - 1 - i) j
def ledS (r : Nat → Nat → Nat → Nat → Bool) (m i j : Nat) : Bool := r i j (ledA r m i j) (ledD r m i j)
theorem ledA_0 (r : Nat → Nat → Nat → Nat → Bool) (m i : Nat) : ledA r m i 0 = m - 1 - i := rfl
theorem ledA_s (r : Nat → Nat → Nat → Nat → Bool) (m i j : Nat) : ledA r m i (j + 1) = if ledS r m i j = true then ledA r m i j else ledD r m i j := rfl
theorem ledD_s (r : Nat → Nat → Nat → Nat → Bool) (m i j : Nat) : ledD r m (i + 1) j = if ledS r m i j = true then ledD r m i j else ledA r m i j := rfl
/-- which line comes to each end -/
def ledE (r : Nat → Nat → Nat → Nat → Bool) (m n : Nat) : List Nat := (List.range n).map (ledD r m m) ++ ((List.range m).map fun i => ledA r m i n).reverse
theorem ledE_len (r : Nat → Nat → Nat → Nat → Bool) (m n : Nat) : (ledE r m n).length = m + n := by simp [ledE]; omega
theorem led_row (r : Nat → Nat → Nat → Nat → Bool) (m i : Nat) : ∀ j : Nat, ((List.range j).map (ledD r m (i + 1)) ++ [ledA r m i j]).Perm ((m - 1 - i) :: (List.range j).map (ledD r m i))
  | 0 => .refl _
  | j + 1 => by
    have ih := led_row r m i j
    rw [List.range_succ, List.map_append, List.map_append, List.append_assoc, ledA_s]
    show ((List.range j).map (ledD r m (i + 1)) ++ ([ledD r m (i + 1) j] ++ [if ledS r m i j = true then ledA r m i j else ledD r m i j])).Perm ((m - 1 - i) :: ((List.range j).map (ledD r m i) ++ [ledD r m i j]))
    have sw : ([ledD r m (i + 1) j] ++ [if ledS r m i j = true then ledA r m i j else ledD r m i j]).Perm ([ledA r m i j] ++ [ledD r m i j]) := by
      rw [ledD_s]
      by_cases h : ledS r m i j = true
      · rw [if_pos h, if_pos h]
        exact List.perm_append_comm
      · rw [if_neg h, if_neg h]
    refine (sw.append_left _).trans ?_
    rw [← List.append_assoc, ← List.cons_append]
    exact ih.append_right _
theorem led_perm (r : Nat → Nat → Nat → Nat → Bool) (m n : Nat) : ∀ i : Nat, i ≤ m → ((List.range n).map (ledD r m i) ++ ((List.range i).map fun i => ledA r m i n) ++ List.range (m - i)).Perm (List.range (m + n))
  | 0, _ => by
    rw [List.range_zero, List.map_nil, List.append_nil, Nat.sub_zero, List.range_add]
    exact List.perm_append_comm
  | i + 1, hi => by
    refine List.Perm.trans ?_ (led_perm r m n i (by omega))
    have h1 := led_row r m i n
    rw [List.range_succ, List.map_append]
    have h2 : List.range (m - i) = List.range (m - (i + 1)) ++ [m - 1 - i] := by
      rw [show m - i = (m - (i + 1)) + 1 by omega, List.range_succ, show m - (i + 1) = m - 1 - i by omega]
    rw [h2]
    have e1 : ((List.range n).map (ledD r m (i + 1)) ++ ((List.range i).map (fun i => ledA r m i n) ++ [ledA r m i n]) ++ List.range (m - (i + 1))).Perm (((List.range n).map (ledD r m (i + 1)) ++ [ledA r m i n]) ++ ((List.range i).map (fun i => ledA r m i n) ++ List.range (m - (i + 1)))) := by
      rw [List.append_assoc, List.append_assoc, List.append_assoc]
      refine List.Perm.append_left _ ?_
      rw [← List.append_assoc, ← List.append_assoc]
      exact List.Perm.append_right _ List.perm_append_comm
    have e2 : ((List.range n).map (ledD r m i) ++ (List.range i).map (fun i => ledA r m i n) ++ (List.range (m - (i + 1)) ++ [m - 1 - i])).Perm (((m - 1 - i) :: (List.range n).map (ledD r m i)) ++ ((List.range i).map (fun i => ledA r m i n) ++ List.range (m - (i + 1)))) := by
      rw [← List.append_assoc, List.cons_append, List.append_assoc ((List.range n).map _)]
      exact List.perm_append_singleton _ _
    exact e1.trans ((h1.append_right _).trans e2.symm)
theorem ledE_T (r : Nat → Nat → Nat → Nat → Bool) (m n : Nat) : IsT (ledE r m n) := by
  have h := led_perm r m n m (Nat.le_refl _)
  rw [Nat.sub_self, List.range_zero, List.append_nil] at h
  refine IsT.of_perm_range (n := m + n) (List.Perm.trans ?_ h)
  unfold ledE
  exact List.Perm.append_left _ (List.reverse_perm _)
theorem ledE_lt {r : Nat → Nat → Nat → Nat → Bool} {m n i j : Nat} (hi : i ≤ m) (hj : j < n) : ledD r m i j < m + n := by
  have h := led_perm r m n i hi
  exact List.mem_range.mp (h.mem_iff.mp (List.mem_append_left _ (List.mem_append_left _ (List.mem_map.mpr ⟨j, List.mem_range.mpr hj, rfl⟩))))
/-- the signs of a row of cells -/
def sgT (r : Nat → Nat → Nat → Nat → Bool) (m n i : Nat) : Str := tx ((List.range n).map fun j => if ledS r m i j = true then 120 else 111)
structure LedAt (H : Hp) (me sg go : Addr) (r : Nat → Nat → Nat → Nat → Bool) (m n : Nat) : Prop where
  go : H go = some (.lst ((invT (ledE r m n)).map nV))
  sg : H sg = some (.lst ((List.range m).map fun i => V.str (sgT r m n i)))
  me : ∃ rs : List Addr, H me = some (.lst (rs.map V.ref)) ∧ rs.length = m ∧ ∀ i row, rs[i]? = some row → ∃ zs : List ZP, H row = some (.lst (zs.map zV)) ∧ TP H zs ∧ zs.map (·.2) = (List.range n).map fun j => (ledA r m i j, ledD r m i j)
theorem LedAt.ex {H H' : Hp} {me sg go : Addr} {r : Nat → Nat → Nat → Nat → Bool} {m n : Nat} (h : LedAt H me sg go r m n) (e : Ex H H') : LedAt H' me sg go r m n := by
  obtain ⟨rs, h1, h2, h3⟩ := h.me
  refine ⟨e.get h.go, e.get h.sg, rs, e.get h1, h2, fun i row hr => ?_⟩
  obtain ⟨zs, a, b, c⟩ := h3 i row hr
  exact ⟨zs, e.get a, b.ex e, c⟩
/-- what is told of the lambda that decides -/
def RuleOk (tl : List V → Hp → VK → Prop) (H : Hp) (r : Nat → Nat → Nat → Nat → Bool) (m n : Nat) : Prop := ∀ (i j a b : Nat) (H' : Hp) (Q : VK), i < m → j < n → a < m + n → b < m + n → Ex H H' → Q (.bl (r i j a b)) H' → tl [.int (i : Nat), .int (j : Nat), .int (a : Nat), .int (b : Nat)] H' Q
theorem ledA_lt {r : Nat → Nat → Nat → Nat → Bool} {m n i j : Nat} (hi : i < m) (hj : j ≤ n) : ledA r m i j < m + n := by
  have h := led_row r m i j
  have h1 : ledA r m i j ∈ (m - 1 - i) :: (List.range j).map (ledD r m i) := h.mem_iff.mp (List.mem_append_right _ (List.mem_singleton.mpr rfl))
  rcases List.mem_cons.mp h1 with e | e
  · omega
  · obtain ⟨c, hc, e⟩ := List.mem_map.mp e
    have := List.mem_range.mp hc
    have := ledE_lt (r := r) (m := m) (n := n) (i := i) (j := c) (by omega) (by omega)
    omega
/-- the rows of meetings, as far as they are led -/
def MeOk (H : Hp) (r : Nat → Nat → Nat → Nat → Bool) (m n i : Nat) (rs : List Addr) : Prop := rs.length = i ∧ ∀ k row, rs[k]? = some row → ∃ zs : List ZP, H row = some (.lst (zs.map zV)) ∧ TP H zs ∧ zs.map (·.2) = (List.range n).map fun j => (ledA r m k j, ledD r m k j)
theorem MeOk.fr {M : Addr → Prop} {H H' : Hp} {r : Nat → Nat → Nat → Nat → Bool} {m n i : Nat} {rs : List Addr} (h : MeOk H r m n i rs) (e : Fr M H H') (h1 : ∀ row ∈ rs, ¬ M row) (h2 : ∀ b q, H b = some (tupO q) → ¬ M b) : MeOk H' r m n i rs := ⟨h.1, fun k row hk => by
  obtain ⟨zs, a, b, c⟩ := h.2 k row hk
  exact ⟨zs, e.get (h1 _ (List.mem_of_getElem? hk)) a, fun z hz => e.get (h2 _ _ (b z hz)) (b z hz), c⟩⟩
theorem MeOk.snoc {H : Hp} {r : Nat → Nat → Nat → Nat → Bool} {m n i : Nat} {rs : List Addr} {row : Addr} {zs : List ZP} (h : MeOk H r m n i rs) (a : H row = some (.lst (zs.map zV))) (b : TP H zs) (c : zs.map (·.2) = (List.range n).map fun j => (ledA r m i j, ledD r m i j)) : MeOk H r m n (i + 1) (rs ++ [row]) := ⟨by rw [List.length_append, h.1]; rfl, fun k q hk => by
  by_cases hk1 : k < rs.length
  · rw [List.getElem?_append_left hk1] at hk
    exact h.2 k q hk
  · rw [List.getElem?_append_right (by omega)] at hk
    have : k = rs.length := by
      have := (List.getElem?_eq_some_iff.mp hk).1
      simp at this
      omega
    subst this
    rw [Nat.sub_self] at hk
    cases hk
    rw [h.1]
    exact ⟨zs, a, b, c⟩⟩
theorem tup_nlst {H : Hp} {a b : Addr} {q : Nat × Nat} {xs : List V} (h : H a = some (tupO q)) (k : H b = some (.lst xs)) : a ≠ b := fun e => by
  rw [e, k] at h
  cases h
theorem rgL_nVm (m n : Nat) : (rgL (m : Int) 1 n).map V.int = (List.range n).map fun j => nV (m + j) := by
  unfold rgL
  rw [List.map_map]
  refine List.map_congr_left fun j _ => ?_
  show V.int ((m : Int) + (j : Int) * 1) = V.int ((m + j : Nat) : Int)
  congr 1
  omega
theorem rep0 (n : Nat) : (List.replicate n [V.int 0]).flatten = (List.replicate n 0).map nV := by
  induction n with
  | zero => rfl
  | succ n ih => rw [List.replicate_succ, List.flatten_cons, ih, List.replicate_succ]; rfl
def sp_led (fl : Addr) (G : LF) (tl : List V → Hp → VK → Prop) : Sp := fun vs H Q _ => ∃ (m n : Nat), vs = [.int (m : Nat), .int (n : Nat), .ref fl] ∧ H fl = some (LamO fl G) ∧ H G.c = some (CodeO G.c G.qual) ∧ m ≤ 48 ∧ n ≤ 48 ∧ ∃ r, RuleOk tl H r m n ∧ ∀ t me sg go H', Ex H H' → H t = none → H' t = some (.tup [.ref me, .ref sg, .ref go]) → LedAt H' me sg go r m n → H go = none → Q (.ref t) H'
theorem ok_led (T : Tx K mg ad fd tk base tc) : FnCb P w K mg base  2 1 (ad 5) (fd 5) ["many", "far", "crosses"] sp_led := by
  refine okCb T.d_led.F sc_led (by decide) (fun fl G tl vs H Q E h => ?_) (fun cdv A outer s H vs Q E fl G tl hr hcb h => ?_)
  · obtain ⟨m, n, rfl, _⟩ := h
    rfl
  · obtain ⟨m, n, rfl, hl, hc, hm, hn, r, hr2, k⟩ := h
    refine ⟨_, (pss_cons (ps_set (i := 3) sc_led.nd rfl (Or.inl rfl) (pe_listRgC rfl (by rfl) T.b_list (prgC (by rfl) T.b_range (pa_cons (pv 0) (pa_cons (pe_op o_add (pv 0) (pv 1)) pa_nil)))))
      (pss_cons (ps_set (i := 4) sc_led.nd rfl (Or.inl rfl) (pe_lst pa_nil))
      (pss_cons (ps_set (i := 5) sc_led.nd rfl (Or.inl rfl) (pe_lst pa_nil))
      (pss_cons (ps_set (i := 6) sc_led.nd rfl (Or.inl rfl) (pe_lst pa_nil))
      (pss_cons (ps_for PassesOwn.never rfl (pi_range1 rfl T.b_range (pa_cons (pv 0) pa_nil)) (pg_name (i := 7) sc_led.nd rfl (Or.inl rfl)) (pss_cons (ps_set (i := 8) sc_led.nd rfl (Or.inl rfl) (pe_op o_sub (pe_op o_sub (pv 0) pe_int) (pv 7)))
      (pss_cons (ps_set (i := 9) sc_led.nd rfl (Or.inl rfl) (pe_lst pa_nil))
      (pss_cons (ps_set (i := 10) sc_led.nd rfl (Or.inl rfl) pe_str)
      (pss_cons (ps_for PassesOwn.never rfl (pi_range1 rfl T.b_range (pa_cons (pv 1) pa_nil)) (pg_name (i := 11) sc_led.nd rfl (Or.inl rfl)) (pss_cons (ps_set (i := 12) sc_led.nd rfl (Or.inl rfl) (pe_ix (i_ix (K := K)) (pv 3) (pv 11) (fun _ _ => rfl)))
      (pss_cons (ps_expr (pe_bm PySem.F.plainAttrs_list PySem.F.slot_list_append PySem.F.type_list_append mt_append (pv 9) (pa_cons (pe_tup (pa_cons (pv 8) (pa_cons (pv 12) pa_nil))) pa_nil)))
      (pss_one (ps_if (pt_val (@hcb 2 _ _ _ _ _ _ rfl (Or.inl rfl) (pa_cons (pv 7) (pa_cons (pv 11) (pa_cons (pv 8) (pa_cons (pv 12) pa_nil)))) (by decide) (by decide) rfl rfl)) (pss_one (ps_aug (i := 10) sc_led.nd rfl (Or.inl rfl) pe_str ip_addS)) (pss_cons (ps_aug (i := 10) sc_led.nd rfl (Or.inl rfl) pe_str ip_addS)
      (pss_cons (ps_asg (pv 8) (pg_sub (pv 3) (pv 11) set_list))
      (pss_one (ps_set (i := 8) sc_led.nd rfl (Or.inl rfl) (pv 12))))))))))
      (pss_cons (ps_expr (pe_bm PySem.F.plainAttrs_list PySem.F.slot_list_append PySem.F.type_list_append mt_append (pv 5) (pa_cons (pv 9) pa_nil)))
      (pss_cons (ps_expr (pe_bm PySem.F.plainAttrs_list PySem.F.slot_list_append PySem.F.type_list_append mt_append (pv 6) (pa_cons (pv 10) pa_nil)))
      (pss_one (ps_expr (pe_bm PySem.F.plainAttrs_list PySem.F.slot_list_append PySem.F.type_list_append mt_append (pv 4) (pa_cons (pv 8) pa_nil)))))))))))
      (pss_cons (ps_set (i := 13) sc_led.nd rfl (Or.inl rfl) (pe_op o_mul (pe_lst (pa_cons pe_int pa_nil)) (pe_op o_add (pv 0) (pv 1))))
      (pss_cons (ps_for PassesOwn.never rfl (pi_enum rfl T.b_enumerate (pa_cons (pe_op o_add (pv 3) (pe_slice3 (pv 4) po_none po_none (pe_un un_neg pe_int) (K := K))) pa_nil)) (pg_tup rfl (pgs_cons (pg_name (i := 14) sc_led.nd rfl (Or.inl rfl)) (pgs_cons (pg_name (i := 15) sc_led.nd rfl (Or.inl rfl)) pgs_nil))) (pss_one (ps_asg (pv 14) (pg_sub (pv 13) (pv 15) set_list))))
      (pss_one (ps_ret (pe_tup (pa_cons (pv 5) (pa_cons (pv 6) (pa_cons (pv 13) pa_nil))))))))))))), ?_⟩
    walk_at "go"
    rename_i d G1 n1 e1 v1 ri G2 n2 e2 v2 me G3 n3 e3 v3 sg G4 n4 e4 v4
    rw [show ((m : Int) + (n : Int) - (m : Int)).toNat = n by omega, rgL_nVm] at v1
    have n02 := Ex.free e1 n2
    have n03 := Ex.free (e1.trans e2) n3
    have n04 := Ex.free ((e1.trans e2).trans e3) n4
    have d1 := (e2.trans (e3.trans e4)).get v1
    have d2 := (e3.trans e4).get v2
    have d3 := e4.get v3
    have e04 := (e1.trans e2).trans (e3.trans e4)
    have q12 : d ≠ ri := ne_of_none v1 n2
    have q13 : d ≠ me := ne_of_none (e2.get v1) n3
    have q14 : d ≠ sg := ne_of_none ((e2.trans e3).get v1) n4
    have q23 : ri ≠ me := ne_of_none v2 n3
    have q24 : ri ≠ sg := ne_of_none (e3.get v2) n4
    have q34 : me ≠ sg := ne_of_none v3 n4
    have q21 := q12.symm
    have q31 := q13.symm
    have q41 := q14.symm
    have q32 := q23.symm
    have q42 := q24.symm
    have q43 := q34.symm
    clear e1 e2 e3 e4 v1 v2 v3
    rw [Int.toNat_natCast]
    refine for_runs (runs_range 0 m) (fun i σ H' => Ex H H' ∧ H' d = some (.lst ((List.range n).map fun j => nV (ledD r m i j))) ∧ H' ri = some (.lst ((List.range i).map fun i => nV (ledA r m i n))) ∧ H' sg = some (.lst ((List.range i).map fun i => V.str (sgT r m n i))) ∧ (∃ rs : List Addr, H' me = some (.lst (rs.map V.ref)) ∧ MeOk H' r m n i rs ∧ ∀ row ∈ rs, row ≠ d ∧ row ≠ ri ∧ row ≠ me ∧ row ≠ sg) ∧ ∃ a7 a8 a9 a10 a11 a12 a13 a14 a15, σ = [some (.int (m : Nat)), some (.int (n : Nat)), some (.ref fl), some (.ref d), some (.ref ri), some (.ref me), some (.ref sg), a7, a8, a9, a10, a11, a12, a13, a14, a15]) ⟨e04, d1, d2, v4, ⟨[], d3, ⟨rfl, fun k row h => by cases h⟩, fun _ h => by cases h⟩, _, _, _, _, _, _, _, _, _, rfl⟩ (fun _ _ _ _ _ => trivial) ?_ ?_
    · rintro i x σ H5 H5' hi ⟨e5, b1, b2, b3, ⟨rs, b4, b5, b6⟩, a7, a8, a9, a10, a11, a12, a13, a14, a15, rfl⟩ ⟨rfl, rfl⟩
      walk_at "go"
      rename_i mt H6 n6 e6 v6
      have c1 := e6.get b1
      have c2 := e6.get b2
      have c3 := e6.get b3
      have c4 := e6.get b4
      have c5 : MeOk H6 r m n i rs := b5.fr (Fr.ex (M := fun _ => False) e6) (fun _ _ z => z) (fun _ _ _ z => z)
      have e06 := e5.trans e6
      have nm := Ex.free e5 n6
      have m1 : mt ≠ d := (ne_of_none b1 n6).symm
      have m2 : mt ≠ ri := (ne_of_none b2 n6).symm
      have m3 : mt ≠ me := (ne_of_none b4 n6).symm
      have m4 : mt ≠ sg := (ne_of_none b3 n6).symm
      have w1 := m1.symm
      have w2 := m2.symm
      have w3 := m3.symm
      have w4 := m4.symm
      have rm : ∀ row ∈ rs, row ≠ mt := fun row hr z => by
        obtain ⟨k, hk⟩ := List.getElem?_of_mem hr
        obtain ⟨zs, q, _⟩ := b5.2 k row hk
        exact ne_of_none q n6 z
      clear b1 b2 b3 b4 b5 e5 e6
      have ea : (m : Int) - 1 - (0 + (i : Int)) = ((ledA r m i 0 : Nat) : Int) := by rw [ledA_0]; omega
      rw [Int.toNat_natCast, ea, Int.zero_add, show (Str.ofString "") = tx [] from tx_nil]
      have c1' : H6 d = some (.lst ((List.range n).map fun c => nV (if c < 0 then ledD r m (i + 1) c else ledD r m i c))) := c1
      refine for_runs (runs_range 0 n) (fun j σ H' => Ex H H' ∧ H' d = some (.lst ((List.range n).map fun c => nV (if c < j then ledD r m (i + 1) c else ledD r m i c))) ∧ H' ri = some (.lst ((List.range i).map fun i => nV (ledA r m i n))) ∧ H' sg = some (.lst ((List.range i).map fun i => V.str (sgT r m n i))) ∧ H' me = some (.lst (rs.map V.ref)) ∧ MeOk H' r m n i rs ∧ (∃ zs : List ZP, H' mt = some (.lst (zs.map zV)) ∧ TP H' zs ∧ zs.map (·.2) = (List.range j).map fun j => (ledA r m i j, ledD r m i j)) ∧ ∃ a11 a12 a13 a14 a15, σ = [some (.int (m : Nat)), some (.int (n : Nat)), some (.ref fl), some (.ref d), some (.ref ri), some (.ref me), some (.ref sg), some (.int (i : Nat)), some (.int (ledA r m i j : Nat)), some (.ref mt), some (.str (tx ((List.range j).map fun j => if ledS r m i j = true then 120 else 111))), a11, a12, a13, a14, a15]) ⟨e06, c1', c2, c3, c4, c5, ⟨[], v6, (fun _ h => (by cases h)), rfl⟩, _, _, _, _, _, rfl⟩ (fun _ _ _ _ _ => trivial) ?_ ?_
      · rintro j x σ G G' hj ⟨e7, c1, c2, c3, c4, c5, ⟨zs, y1, y2, y3⟩, a11, a12, a13, a14, a15, rfl⟩ ⟨rfl, rfl⟩
        have g1 : atI ((List.range n).map fun c => nV (if c < j then ledD r m (i + 1) c else ledD r m i c)) (0 + (j : Int)) = some (nV (ledD r m i j)) := by
          rw [Int.zero_add, fn_at (f := fun c => nV (if c < j then ledD r m (i + 1) c else ledD r m i c)) hj, if_neg (Nat.lt_irrefl _)]
        walk_at "go"
        refine st_ixL c1 g1 ?_
        walk_at "go"
        rename_i T H7 n7 e8 v7
        have lz : zs.length = j := by have := congrArg List.length y3; simpa using this
        have k1 : (upd H7 mt (.lst (zs.map zV ++ [V.ref T]))) d = _ := (upd_ne w1).trans (e8.get c1)
        have k2 : (upd H7 mt (.lst (zs.map zV ++ [V.ref T]))) ri = _ := (upd_ne w2).trans (e8.get c2)
        have k3 : (upd H7 mt (.lst (zs.map zV ++ [V.ref T]))) sg = _ := (upd_ne w4).trans (e8.get c3)
        have k4 : (upd H7 mt (.lst (zs.map zV ++ [V.ref T]))) me = _ := (upd_ne w3).trans (e8.get c4)
        have y1' := e8.get y1
        have c5' : MeOk H7 r m n i rs := c5.fr (Fr.ex (M := fun _ => False) e8) (fun _ _ z => z) (fun _ _ _ z => z)
        have tp : TP H7 (zs ++ [(T, (ledA r m i j, ledD r m i j))]) := (y2.ex e8).app (TP.cons (z := (T, (ledA r m i j, ledD r m i j))) v7 fun _ h => (by cases h))
        refine st_app y1' (by rw [List.length_map, lz]; omega) ?_
        have k5 : MeOk (upd H7 mt (.lst (zs.map zV ++ [V.ref T]))) r m n i rs := c5'.fr (M := fun b => b = mt) FrP.at rm fun b q h => tup_nlst h y1'
        have tp2 : TP (upd H7 mt (.lst (zs.map zV ++ [V.ref T]))) _ := tp.up y1'
        have k6 : upd H7 mt (.lst (zs.map zV ++ [V.ref T])) mt = some (.lst ((zs ++ [(T, (ledA r m i j, ledD r m i j))]).map zV)) := by rw [upd_same, List.map_append]; rfl
        have k7 : Ex H (upd H7 mt (.lst (zs.map zV ++ [V.ref T]))) := (e7.trans e8).mut nm
        have k8 : (zs ++ [(T, (ledA r m i j, ledD r m i j))]).map (·.2) = (List.range (j + 1)).map fun j => (ledA r m i j, ledD r m i j) := by rw [List.map_append, y3, List.range_succ, List.map_append]; rfl
        generalize upd H7 mt (.lst (zs.map zV ++ [V.ref T])) = H8 at k1 k2 k3 k4 k5 k6 k7 tp2 ⊢
        clear c1 c2 c3 c4 c5 c5' y1 y1' y2 e7 e8 v7 tp e06 g1
        rw [Int.zero_add]
        walk_at "go"
        refine hr2 i j _ _ H8 _ hi hj (ledA_lt hi (by omega)) (ledE_lt (by omega) hj) k7 ?_
        rw [show r i j (ledA r m i j) (ledD r m i j) = ledS r m i j from rfl]
        have ew : (List.range n).map (fun c => nV (if c < j + 1 then ledD r m (i + 1) c else ledD r m i c)) = ((List.range n).map fun c => nV (if c < j then ledD r m (i + 1) c else ledD r m i c)).set j (nV (ledD r m (i + 1) j)) := by
          rw [fn_set]
          refine fn_congr fun c hc => ?_
          by_cases z : c = j
          · subst z
            rw [if_pos rfl, if_pos (by omega)]
          · rw [if_neg z]
            by_cases u : c < j
            · rw [if_pos u, if_pos (by omega)]
            · rw [if_neg u, if_neg (by omega)]
        have et : ∀ z : Nat, z = (if ledS r m i j = true then 120 else 111) → tx ((List.range j).map fun j => if ledS r m i j = true then 120 else 111) ++ tx [z] = tx ((List.range (j + 1)).map fun j => if ledS r m i j = true then 120 else 111) := fun z hz => by
          rw [tx_append, List.range_succ, List.map_append, hz]
          rfl
        cases hh : ledS r m i j with
        | true =>
          refine ⟨true, rfl, ?_⟩
          rw [if_pos rfl]
          walk_at "go"
          refine st_ipS (by rw [tx_length, List.length_map, List.length_range]; show j + 1 ≤ 16777216; omega) ?_
          have ea2 : ledA r m i (j + 1) = ledA r m i j := by rw [ledA_s, if_pos hh]
          rw [show Str.ofString "x" = tx [120] from by decide +kernel, et 120 (by rw [if_pos hh]), ea2]
          refine ⟨k7, ?_, k2, k3, k4, k5, ⟨_, k6, tp2, k8⟩, _, _, _, _, _, rfl⟩
          · rw [ew, k1, ledD_s, if_pos hh]
            congr 1
            rw [fn_set]
            exact congrArg HO.lst (fn_congr fun c hc => (by
              by_cases z : c = j
              · rw [if_pos z, if_neg (by omega), z]
              · rw [if_neg z]))
        | false =>
          have hx : ixN ((List.range n).map fun c => nV (if c < j then ledD r m (i + 1) c else ledD r m i c)).length (j : Nat) = some j := fn_ix hj
          refine ⟨false, rfl, ?_⟩
          rw [if_neg (by decide)]
          walk_at "go"
          refine st_ipS (by rw [tx_length, List.length_map, List.length_range]; show j + 1 ≤ 16777216; omega) ?_
          walk_at "go"
          refine st_setL k1 hx ?_
          walk_at "go"
          have ea2 : ledA r m i (j + 1) = ledD r m i j := by rw [ledA_s, if_neg (by rw [hh]; decide)]
          rw [show Str.ofString "o" = tx [111] from by decide +kernel, et 111 (by rw [if_neg (by rw [hh]; decide)]), ea2]
          have tf : ∀ b q, H8 b = some (tupO q) → ¬ b = d := fun b q h => tup_nlst h k1
          have fp : ∀ o, FrP d H8 (upd H8 d o) := fun _ => FrP.at
          refine ⟨k7.mut n1, ?_, (upd_ne q21).trans k2, (upd_ne q41).trans k3, (upd_ne q31).trans k4, k5.fr (fp _) (fun row hr => (b6 row hr).1) tf, ⟨_, (upd_ne m1).trans k6, fun z hz => (fp _).get (tf _ _ (tp2 z hz)) (tp2 z hz), k8⟩, _, _, _, _, _, rfl⟩
          · rw [upd_same, ew, ledD_s, if_neg (by rw [hh]; decide)]
            rfl
      · rintro σ G ⟨e7, c1, c2, c3, c4, c5, ⟨zs, y1, y2, y3⟩, a11, a12, a13, a14, a15, rfl⟩
        have c1'' : G d = some (.lst ((List.range n).map fun c => nV (ledD r m (i + 1) c))) := by
          rw [c1]
          congr 2
          exact fn_congr fun c hc => by rw [if_pos hc]
        clear c1 c1'
        walk_at "go"
        refine st_app c4 (by rw [List.length_map, c5.1]; omega) ?_
        have x3 : (upd G me (.lst (rs.map V.ref ++ [V.ref mt]))) sg = _ := (upd_ne q43).trans c3
        walk_at "go"
        refine st_app x3 (by rw [List.length_map, List.length_range]; omega) ?_
        have x2 : (upd (upd G me (.lst (rs.map V.ref ++ [V.ref mt]))) sg (.lst (((List.range i).map fun i => V.str (sgT r m n i)) ++ [V.str (tx ((List.range n).map fun j => if ledS r m i j = true then 120 else 111))]))) ri = _ := (upd_ne q24).trans ((upd_ne q23).trans c2)
        walk_at "go"
        refine st_app x2 (by rw [List.length_map, List.length_range]; omega) ?_
        have fr : Fr (fun b => b = me ∨ b = sg ∨ b = ri) G (upd (upd (upd G me (.lst (rs.map V.ref ++ [V.ref mt]))) sg (.lst (((List.range i).map fun i => V.str (sgT r m n i)) ++ [V.str (tx ((List.range n).map fun j => if ledS r m i j = true then 120 else 111))]))) ri (.lst (((List.range i).map fun i => nV (ledA r m i n)) ++ [V.int (ledA r m i n : Nat)]))) := ((Fr.at (.inl rfl)).trans (Fr.at (.inr (.inl rfl)))).trans (Fr.at (.inr (.inr rfl)))
        have nl : ∀ b q, G b = some (tupO q) → ¬ (b = me ∨ b = sg ∨ b = ri) := fun b q h z => by
          rcases z with z | z | z
          · exact tup_nlst h c4 z
          · exact tup_nlst h c3 z
          · exact tup_nlst h c2 z
        have nr : ∀ row ∈ rs, ¬ (row = me ∨ row = sg ∨ row = ri) := fun row hr z => by
          obtain ⟨h1, h2, h3, h4⟩ := b6 row hr
          rcases z with z | z | z
          · exact h3 z
          · exact h4 z
          · exact h2 z
        have nm' : ¬ (mt = me ∨ mt = sg ∨ mt = ri) := fun z => by
          rcases z with z | z | z
          · exact m3 z
          · exact m4 z
          · exact m2 z
        refine ⟨((e7.mut n03).mut n04).mut n02, (upd_ne q12).trans ((upd_ne q14).trans ((upd_ne q13).trans c1'')), ?_, ?_, ⟨rs ++ [mt], ?_, (c5.fr fr nr nl).snoc (fr.get nm' y1) (fun z hz => fr.get (nl _ _ (y2 z hz)) (y2 z hz)) y3, ?_⟩, _, _, _, _, _, _, _, _, _, rfl⟩
        · rw [upd_same, List.range_succ, List.map_append]; rfl
        · rw [upd_ne q42, upd_same, List.range_succ, List.map_append]; rfl
        · rw [upd_ne q32, upd_ne q34, upd_same, List.map_append]; rfl
        · intro row hr
          rcases List.mem_append.mp hr with z | z
          · exact b6 row z
          · rw [List.mem_singleton.mp z]
            exact ⟨m1, m2, m3, m4⟩
    · rintro σ G ⟨e7, b1, b2, b3, ⟨rs, b4, b5, b6⟩, a7, a8, a9, a10, a11, a12, a13, a14, a15, rfl⟩
      walk_at "go"
      rename_i p1 G5 n5 e5 v5 go G6 n6 e6 v6
      rw [show ((m : Int) + (n : Int)).toNat = m + n by omega, rep0] at v6
      have e56 := e5.trans e6
      refine st_revL (lstAt_sq (lst_of (e56.get b2))) fun q7 G7 n7 e7' v7 => ?_
      refine st_addL ((e56.trans e7').get b1) v7 (by rw [List.length_reverse, List.length_map, List.length_range, List.length_map, List.length_range]; omega) fun q8 G8 n8 e8 v8 => ?_
      have v8' : G8 q8 = some (.lst ((ledE r m n).map nV)) := by
        rw [v8]
        unfold ledE
        rw [List.map_append, List.map_map, List.map_reverse, List.map_map]
        rfl
      walk_at "go"
      have e0 : Ex H G8 := ((e7.trans e56).trans e7').trans e8
      have v6' := (e7'.trans e8).get v6
      have n0 : H go = none := Ex.free (e7.trans e5) n6
      have hq : q8 ≠ go := (ne_of_none (e7'.get v6) n8).symm
      have le := ledE_len r m n
      have hT := ledE_T r m n
      have B1 : G8 sg = _ := ((e56.trans e7').trans e8).get b3
      have B2 : G8 me = _ := ((e56.trans e7').trans e8).get b4
      have B3 : MeOk G8 r m n m rs := b5.fr (Fr.ex (M := fun _ => False) ((e56.trans e7').trans e8)) (fun _ _ z => z) (fun _ _ _ z => z)
      have B4 : go ≠ sg := (ne_of_none (e5.get b3) n6).symm
      have B5 : go ≠ me := (ne_of_none (e5.get b4) n6).symm
      have B6 : ∀ row ∈ rs, row ≠ go := fun row hr => (by
        obtain ⟨k, hk⟩ := List.getElem?_of_mem hr
        obtain ⟨zs, q, _⟩ := b5.2 k row hk
        exact ne_of_none (e5.get q) n6)
      clear e56 e7 e7' e8 e5 e6 b1 b2 b3 b4 b5 v5 v6 v7 v8
      refine for_runs (runs_enum _ q8 _) (fun i σ H' => FrP go G8 H' ∧ (∃ rs : List Nat, rs.length = m + n ∧ (∀ j, j < i → gT rs (gT (ledE r m n) j) = j) ∧ H' go = some (.lst (rs.map nV))) ∧ ∃ y z, σ = [some (.int (m : Nat)), some (.int (n : Nat)), some (.ref fl), some (.ref d), some (.ref ri), some (.ref me), some (.ref sg), a7, a8, a9, a10, a11, a12, some (.ref go), y, z]) ⟨Fr.refl _, ⟨_, List.length_replicate, fun j h => absurd h (Nat.not_lt_zero _), v6'⟩, _, _, rfl⟩ (fun i σ H' _ h => lst_of (h.1.get hq v8')) ?_ ?_
      · rintro i x σ H4 H5 hi ⟨f4, ⟨ws, h1, h2, h3⟩, y, z, rfl⟩ ⟨T, v, rfl, nT, eT, vT, hv⟩
        obtain ⟨hil, rfl⟩ := nV_at hv
        have h3' := eT.get h3
        walk_at "go"
        have hlt := hT.g_lt hil
        have hxl : ixN (List.map nV ws).length (((gT (ledE r m n) i : Nat) : Nat) : Int) = some (gT (ledE r m n) i) := by
          rw [List.length_map]
          exact Evl.ixN_nat (by omega)
        refine st_setL h3' hxl ?_
        refine ⟨(f4.trans (Fr.ex eT)).trans FrP.at, ⟨ws.set (gT (ledE r m n) i) i, by rw [List.length_set]; exact h1, fun j hj => ?_, ?_⟩, _, _, rfl⟩
        · rw [gT_set (by omega)]
          by_cases q : gT (ledE r m n) j = gT (ledE r m n) i
          · have : j = i := hT.inj (by omega) hil q
            subst this
            rw [if_pos rfl]
          · rw [if_neg q]
            refine h2 j ?_
            have : j ≠ i := fun e => q (by rw [e])
            omega
        · rw [upd_same, List.map_set]
          rfl
      · rintro σ H4 ⟨f4, ⟨ws, h1, h2, h3⟩, y, z, rfl⟩
        have this : ws = invT (ledE r m n) := gT_ext (by rw [invT_len, h1, le]) fun v hv => by
          rw [h1] at hv
          rw [invT_g (by omega)]
          have := h2 ((ledE r m n).idxOf v) (by rw [List.length_map]; exact hT.idx_lt (by omega))
          rwa [hT.g_idx (by omega)] at this
        subst this
        have eF := Ex.comp (M := fun b => b = go) e0 f4 fun b hb => by rw [hb]; exact n0
        walk_at "go"
        rename_i t G9 n9 e9 v9
        refine k t me sg go G9 (eF.trans e9) (Ex.free eF n9) v9 ?_ n0
        refine LedAt.ex ⟨h3, f4.get (fun z => B4 z.symm) B1, rs, f4.get (fun z => B5 z.symm) B2, B3.1, fun i row hr => ?_⟩ e9
        obtain ⟨zs, z1, z2, z3⟩ := B3.2 i row hr
        refine ⟨zs, f4.get (B6 _ (List.mem_of_getElem? hr)) z1, fun z hz => ?_, z3⟩
        exact f4.get (tup_nlst (z2 z hz) v6') (z2 z hz)
def bR (s t : List Nat) (i j a b : Nat) : Bool := decide (s[i]? ≠ t[j]?) && decide (a < b)
/-- a board that is made -/
structure BrdAt (K : PySem.W.Frag) (H : Hp) (p : Addr) (s t : Str) : Prop where
  ex : ∃ dx me sg go, H p = some (.ins (clsA K "Board") dx [("left_row", .str s), ("upper_row", .str t), ("meetings", .ref me), ("signs", .ref sg), ("goals", .ref go)]) ∧ LedAt H me sg go (bR s.cps.toList t.cps.toList) s.length t.length
theorem tabs_fr {T : List (Addr × Str)} {H H' : Hp} {p C dx : Addr} {fs : List (Str × V)} (t : LamX.Tabs T H) (e : FrP p H H') (hp : H p = some (.ins C dx fs)) : LamX.Tabs T H' := fun q hq => by
  obtain ⟨ps, h1, h2, h3⟩ := t q hq
  refine ⟨ps, e.get (fun z => by rw [z, hp] at h1; cases h1) h1, h2, fun pos cv hc => ?_⟩
  obtain ⟨c, e1, e2⟩ := h3 pos cv hc
  exact ⟨c, e1, e.get (fun z => by rw [z, hp] at e2; unfold CodeO at e2; cases e2) e2⟩
theorem LedAt.frp {H H' : Hp} {p C dx : Addr} {fs : List (Str × V)} {me sg go : Addr} {r : Nat → Nat → Nat → Nat → Bool} {m n : Nat} (h : LedAt H me sg go r m n) (e : FrP p H H') (hp : H p = some (.ins C dx fs)) : LedAt H' me sg go r m n := by
  have nl : ∀ {b : Addr} {xs : List V}, H b = some (.lst xs) → ¬ b = p := fun h z => by rw [z, hp] at h; cases h
  have nt : ∀ {b : Addr} {xs : List V}, H b = some (.tup xs) → ¬ b = p := fun h z => by rw [z, hp] at h; cases h
  obtain ⟨rs, h1, h2, h3⟩ := h.me
  refine ⟨e.get (nl h.go) h.go, e.get (nl h.sg) h.sg, rs, e.get (nl h1) h1, h2, fun i row hr => ?_⟩
  obtain ⟨zs, a, b, c⟩ := h3 i row hr
  exact ⟨zs, e.get (nl a) a, fun z hz => e.get (nt (b z hz)) (b z hz), c⟩
/-- a new list of new lists, all of them apart -/
structure TabAt (H0 H : Hp) (p : Addr) (rs : List Addr) (row : Nat → List V) : Prop where
  new : H0 p = none
  at_ : H p = some (.lst (rs.map V.ref))
  non : p ∉ rs
  nd : rs.Nodup
  news : ∀ r ∈ rs, H0 r = none
  rows : ∀ k r, rs[k]? = some r → H r = some (.lst (row k))
theorem TabAt.ex {H0 H H' : Hp} {p : Addr} {rs : List Addr} {row : Nat → List V} (T : TabAt H0 H p rs row) (e : Ex H H') : TabAt H0 H' p rs row :=
  ⟨T.new, e.get T.at_, T.non, T.nd, T.news, fun k r h => e.get (T.rows k r h)⟩
theorem bR_same {s t : List Nat} {i j a b : Nat} (h : s[i]? = t[j]?) : bR s t i j a b = false := by
  unfold bR
  rw [decide_eq_false (fun z => z h)]
  rfl
theorem bR_else {s t : List Nat} {i j a b : Nat} (h : ¬ s[i]? = t[j]?) : bR s t i j a b = decide (a < b) := by
  unfold bR
  rw [decide_eq_true (p := s[i]? ≠ t[j]?) h, Bool.true_and]
theorem ledE_dn {r : Nat → Nat → Nat → Nat → Bool} {m n e : Nat} (h : e < n) : gT (ledE r m n) e = ledD r m m e := by
  unfold ledE gT
  rw [List.getD_eq_getElem?_getD, List.getElem?_append_left (by rw [List.length_map, List.length_range]; exact h), List.getElem?_map, List.getElem?_range h]
  rfl
theorem RpA.zipped {H : Hp} : ∀ {xs : List V} {ds : List PyData}, RpA H xs ds → ∃ zs : List (V × PyData), xs = zs.map (·.1) ∧ ds = zs.map (·.2) ∧ ∀ z ∈ zs, Rp H z.1 z.2
  | _, _, .nil => ⟨[], rfl, rfl, fun _ h => nomatch h⟩
  | _, _, .cons (v := v) (d := d) a k => by
    obtain ⟨zs, rfl, rfl, h⟩ := RpA.zipped k
    refine ⟨(v, d) :: zs, rfl, rfl, fun z hz => ?_⟩
    rcases List.mem_cons.mp hz with e | e
    · rw [e]; exact a
    · exact h z e
theorem ledE_ri {r : Nat → Nat → Nat → Nat → Bool} {m n j : Nat} (h : j < m) : gT (ledE r m n) (n + j) = ledA r m (m - 1 - j) n := by
  unfold ledE gT
  rw [List.getD_eq_getElem?_getD, List.getElem?_append_right (by rw [List.length_map, List.length_range]; omega), List.length_map, List.length_range, Nat.add_sub_cancel_left, List.getElem?_reverse (by rw [List.length_map, List.length_range]; exact h), List.getElem?_map, List.length_map, List.length_range, List.getElem?_range (by omega)]
  rfl
/-- the signs of all cells -/
def brdC (s t : Str) : List Str := (List.range s.length).map fun i => sgT (bR s.cps.toList t.cps.toList) s.length t.length i
theorem within_nat {x : V} {m : Nat} (h : withinV x 0 m = true) : ∃ i : Nat, x = .int (i : Nat) ∧ i ≤ m := by
  cases x with
  | int z =>
    have : 0 ≤ z ∧ z ≤ (m : Int) := by simpa [withinV] using h
    exact ⟨z.toNat, by rw [show ((z.toNat : Nat) : Int) = z by omega], by omega⟩
  | _ => cases h
def GoodT (n : Nat) (z : Str) : Prop := z.length = n ∧ ∀ c ∈ z.cps.toList, c = 120 ∨ c = 111
def CelD (d : PyData) (m n : Nat) : Prop := ∃ cs : List Str, d = .list (cs.map PyData.str) ∧ cs.length = m ∧ ∀ z ∈ cs, GoodT n z
/-- texts are not too long -/
def ShortD (d : PyData) : Prop := ∀ ds z, d = .list ds → PyData.str z ∈ ds → z.length ≤ 1000
/-- the rule by which given cells are walked -/
def cR (cs : List Str) (i j _a _b : Nat) : Bool := decide (((cs[i]?).bind fun z => z.cps.toList[j]?) = some 120)
theorem strs_eqv : ∀ (ds : List PyData) (zs : List Str), PyData.eqv (.list ds) (.list (zs.map PyData.str)) = true → ds = zs.map PyData.str := by
  intro ds zs h
  have key : ∀ (ds : List PyData) (zs : List Str), PyData.eqvAll ds (zs.map PyData.str) = true → ds = zs.map PyData.str := by
    intro ds
    induction ds with
    | nil =>
      intro zs h
      cases zs with
      | nil => rfl
      | cons z zs => simp [PyData.eqvAll] at h
    | cons d ds ih =>
      intro zs h
      cases zs with
      | nil => simp [PyData.eqvAll] at h
      | cons z zs =>
        simp only [List.map_cons, PyData.eqvAll, Bool.and_eq_true] at h
        rw [ih zs h.2]
        cases d with
        | str y =>
          have := h.1
          simp only [PyData.eqv] at this
          rw [List.map_cons]
          congr 2
          simpa using this
        | _ => simp [PyData.eqv] at h
  simp only [PyData.eqv] at h
  exact key ds zs h
theorem goodT_at {n : Nat} {z : Str} (h : GoodT n z) {j : Nat} (hj : j < n) : ∃ c, z.cps.toList[j]? = some c ∧ (c = 120 ∨ c = 111) := by
  have hl : z.cps.toList.length = n := by rw [Array.length_toList]; exact h.1
  exact ⟨_, List.getElem?_eq_getElem (by omega), h.2 _ (List.getElem_mem _)⟩
theorem strs_of {G : Hp} : ∀ {xs : List V} {cs : List Str}, RnA G xs (cs.map PyData.str) → xs = cs.map V.str
  | _, [], h => by cases h; rfl
  | _, w :: r, h => by
    cases h with
    | cons t1 t2 =>
      rw [List.map_cons, ← strs_of t2]
      congr 1
      cases t1
      rfl
def sp_are_cells : Sp := fun vs H Q _ => ∃ (m n : Nat) (x : V) (d : PyData), vs = [.int (m : Nat), .int (n : Nat), x] ∧ Rn H x d ∧ ShortD d ∧ m ≤ 48 ∧ n ≤ 48 ∧ ∀ b H', Ex H H' → (b = true ↔ CelD d m n) → Q (.bl b) H'
theorem ok_are_cells (T : Tx K mg ad fd tk base tc) : FnOk P w K mg base CX0 1 (ad 6) (fd 6) ["many", "far", "thing"] sp_are_cells := by
  refine T.d_are_cells.F.ok sc_are_cells (fun vs H Q E h => ?_) (fun cdv A outer s H vs Q E hr h => ?_)
  · obtain ⟨m, n, x, d, rfl, _⟩ := h
    rfl
  · obtain ⟨m, n, x, d, rfl, hx, hsh, hm, hn, k⟩ := h
    refine ⟨_, (pss_cons (ps_if (PW.pt (pw_or (pt_not (pt_val (pe_callB c_is (by rfl) T.b_isinstance (by decide +kernel) (pa_cons (pv 2) (pa_cons (pe_bltn (v := .ty "list") rfl T.b_list (by decide +kernel) rfl) pa_nil))))) (pw_or1 (pt_cmpR (o_ne hr.units) (pe_callB (c_len (K := K)) (by rfl) T.b_len (by decide +kernel) (pa_cons (pv 2) pa_nil)) (pv 0) (nomark _))))) (pss_one (ps_ret pe_bl)) pss_nil)
      (pss_cons (ps_for PassesOwn.never rfl (pi_list (pv 2)) (pg_name (i := 3) sc_are_cells.nd rfl (Or.inl rfl)) (pss_cons (ps_if (PW.pt (pw_or (pt_not (pt_val (pe_callB c_is (by rfl) T.b_isinstance (by decide +kernel) (pa_cons (pv 3) (pa_cons (pe_bltn (v := .ty "str") rfl T.b_str (by decide +kernel) rfl) pa_nil))))) (pw_or1 (pt_cmpR (o_ne hr.units) (pe_callB (c_len (K := K)) (by rfl) T.b_len (by decide +kernel) (pa_cons (pv 3) pa_nil)) (pv 1) (nomark _))))) (pss_one (ps_ret pe_bl)) pss_nil)
      (pss_one (ps_if (pt_not (pt_val (pe_callB (c_all rfl) (by rfl) T.b_all (by decide +kernel) (pa_cons (pe_lc (own := [("sign", 4)]) (g := gName 4) rfl sc_are_cells.nd (pi_str (pv 3)) (blkOk_by (own := [("sign", 4)]) (N := N_are_cells) (sc := defScope s_are_cells) (by decide +kernel)) (fun _ _ _ _ _ => pg_name (i := 4) sc_are_cells.nd rfl (Or.inl rfl)) (fun _ _ _ _ _ => pts_nil) (fun _ _ _ _ _ => (pe_cmpR (o_in hr.units) (pv 4) pe_str rfl))) pa_nil)))) (pss_one (ps_ret pe_bl)) pss_nil))))
      (pss_one (ps_ret pe_bl)))), ?_⟩
    have no : ∀ H', Ex H H' → (¬ CelD d m n) → Q (.bl false) H' := fun H' e n => k false H' e ⟨(fun z => nomatch z), (fun z => (n z).elim)⟩
    walk_at "go"
    refine st_isListD hx.rq ?_
    refine ⟨_, rfl, ?_⟩
    cases hd : isListD d with
    | false =>
      refine st_T rfl ?_
      walk_at "go"
      refine no _ (Fr.refl _) (fun ⟨cs, h, _⟩ => ?_)
      rw [h] at hd; cases hd
    | true =>
    obtain ⟨ds, rfl⟩ : ∃ ds, d = .list ds := by
      cases d <;> first | exact ⟨_, rfl⟩ | cases hd
    obtain ⟨a, xs, rfl, ha, hr⟩ := hx.listAt
    have hl := hr.len
    refine st_F rfl ?_
    walk_at "go"
    by_cases c1 : xs.length = m
    rotate_left
    · refine st_T (by simp; omega) ?_
      walk_at "go"
      refine no _ (Fr.refl _) (fun ⟨cs, h, h1, _⟩ => ?_)
      injection h with h
      rw [h, List.length_map] at hl
      omega
    refine st_F (by rw [c1]; simp) ?_
    walk_at "go"
    obtain ⟨zs, rfl, rfl, hz⟩ := hr.zipped
    rw [List.length_map] at c1
    refine for_runs (rv_list K a zs fun z => z.1) (fun i σ H' => (Ex H H' ∧ ∃ cs : List Str, (zs.take i).map (·.2) = cs.map PyData.str ∧ ∀ z ∈ cs, GoodT n z) ∧ ∃ y, σ = [some (.int (m : Nat)), some (.int (n : Nat)), some (.ref a), y, none]) ⟨⟨Fr.refl _, [], rfl, by simp⟩, _, rfl⟩ (fun i σ H' _ h => lst_of (h.1.1.get ha)) ?_ ?_
    · rintro i x σ H0 H1 hi ⟨⟨e1, cs, m1, m2⟩, y, rfl⟩ ⟨rfl, z, hzi, rfl⟩
      have rz := (hz z (List.mem_of_getElem? hzi)).ex e1
      have bad : ¬ (∃ t : Str, z.2 = .str t ∧ GoodT n t) → ∀ H', Ex H H' → Q (.bl false) H' := fun hn H' e' => no _ e' fun ⟨ts, h1, _, h3⟩ => by
        injection h1 with h1
        have h5 := congrArg (fun l => l[i]?) h1
        simp only [List.getElem?_map, hzi, Option.map_some] at h5
        cases q : ts[i]? with
        | none => rw [q] at h5; cases h5
        | some r =>
          rw [q] at h5
          exact hn ⟨r, Option.some.inj h5, h3 r (List.mem_of_getElem? q)⟩
      walk_at "go"
      refine st_isStrT rz.rq.ty ?_
      walk_at "go"
      cases hsv : isStrV z.1 with
      | true =>
        obtain ⟨t, hv, ht⟩ : ∃ t, z.1 = .str t ∧ z.2 = .str t := by
          revert hsv rz
          generalize z.1 = v
          generalize z.2 = e
          intro rz hsv
          cases rz <;> first | exact ⟨_, rfl, rfl⟩ | cases hsv
        have hsl := hsh _ t rfl (by rw [← ht]; exact List.mem_map.mpr ⟨z, List.mem_of_getElem? hzi, rfl⟩)
        refine st_F (by simp [hsv]) ?_
        simp only [hv]
        walk_at "go"
        by_cases c2 : t.length = n
        rotate_left
        · refine st_T (by simp; omega) ?_
          walk_at "go"
          refine bad (fun ⟨r, h, h2⟩ => ?_) _ e1
          rw [ht] at h
          cases h
          exact c2 h2.1
        refine st_F (by rw [c2]; simp) ?_
        walk_at "go"
        refine lc_pure (rv_str t) (fun _ _ => trivial) (by show t.cps.toList.length < _; rw [Array.length_toList]; show t.length < _; omega) (fun _ => true) (fun c => .bl (decide (c ∈ (Str.ofString "xo").cps.toList))) ?_ ?_
        · intro c' H' hc e B A h1 h2
          refine ⟨rfl, ?_⟩
          have h1' := h1 rfl _ (Fr.refl _)
          walk_at "go"
          exact h1'
        · intro D H2 hD e2 hd2
          have mem : ∀ c : Nat, c ∈ (Str.ofString "xo").cps.toList ↔ (c = 120 ∨ c = 111) := fun c => by
            rw [show (Str.ofString "xo").cps.toList = [120, 111] from by decide +kernel]
            simp
          walk_at "go"
          refine st_all (bs := t.cps.toList.map fun c => decide (c ∈ (Str.ofString "xo").cps.toList)) hd2 (by rw [List.filter_eq_self.mpr (fun _ _ => rfl), List.map_map]; rfl) ?_
          walk_at "go"
          cases hall : (t.cps.toList.map fun c => decide (c ∈ (Str.ofString "xo").cps.toList)).all id with
          | false =>
            walk_at "go"
            refine bad (fun ⟨r, h, h2⟩ => ?_) _ (e1.trans e2)
            rw [ht] at h
            cases h
            rw [List.all_eq_false] at hall
            obtain ⟨w, hw, hw2⟩ := hall
            obtain ⟨c, hc, rfl⟩ := List.mem_map.mp hw
            exact hw2 (decide_eq_true ((mem c).mpr (h2.2 c hc)))
          | true =>
            walk_at "go"
            refine ⟨⟨e1.trans e2, cs ++ [t], ?_, fun q hq => ?_⟩, _, rfl⟩
            · rw [List.take_add_one, hzi, List.map_append, m1, List.map_append]
              show _ = _ ++ [PyData.str t]
              rw [← ht]
              rfl
            · rcases List.mem_append.mp hq with h | h
              · exact m2 q h
              · rw [List.mem_singleton.mp h]
                refine ⟨c2, fun c hc => ?_⟩
                rw [List.all_eq_true] at hall
                exact (mem c).mp (of_decide_eq_true (hall _ (List.mem_map.mpr ⟨c, hc, rfl⟩)))
      | false =>
        refine st_T (by simp [hsv]) ?_
        walk_at "go"
        refine bad (fun ⟨r, h, h2⟩ => ?_) _ e1
        revert hsv rz h
        generalize z.1 = v
        generalize z.2 = e
        intro rz hsv h
        subst h
        cases rz
        cases hsv
    · rintro σ H1 ⟨⟨e1, cs, m1, m2⟩, y, rfl⟩
      walk_at "go"
      rw [List.take_length] at m1
      have hml := congrArg List.length m1
      rw [List.length_map, List.length_map] at hml
      exact k true _ e1 ⟨fun _ => ⟨cs, by rw [m1], by omega, m2⟩, fun _ => rfl⟩
def sp_Board_init (K : PySem.W.Frag) (TL : List (Addr × Str)) : Sp := fun vs H Q E => ∃ (p dx : Addr) (x y : V), vs = [.ref p, x, y] ∧ H p = some (.ins (clsA K "Board") dx []) ∧ LamX.Tabs TL H ∧ Rows2 K E H x y fun s t => ∀ H', Fr (fun b => b = p) (noT H) H' → LamX.Tabs TL H' → BrdAt K H' p s t → Q .non H'
theorem keepL {H H' : Hp} {a : Addr} {xs : List V} (h : H a = some (.lst xs)) (e : Ex (noT H) H') : H' a = some (.lst xs) := e.get (noT_get h fun _ z => (by cases z))
/-- a board is made -/
theorem mk_brd {K : PySem.W.Frag} {TL : List (Addr × Str)} {H : Hp} {Q : VK} {E : XK} {s t : Str} (hs : RowS s) (ht : RowS t) (hT : LamX.Tabs TL H) (k : ∀ p H', Ex (noT H) H' → H p = none → LamX.Tabs TL H' → BrdAt K H' p s t → Q (.ref p) H') : MakeP (clsA K "Board") (sp_Board_init K TL) [] E Q [.str s, .str t] H := by
  refine st_makeP fun p dx H1 np e1 v1 => ?_
  refine ⟨p, dx, _, _, rfl, v1, hT.ext fun b o h => e1.get h, .inl ⟨s, t, rfl, rfl, hs, ht, fun H2 f2 hT2 hB => ?_⟩⟩
  refine ⟨rfl, k p H2 ?_ np hT2 hB⟩
  exact Ex.comp (M := fun b => b = p) (noT_mono e1) f2 fun b hb => by
    rw [hb]
    unfold Zb.noT
    rw [np]
mutual
theorem Rn.nt {H : Hp} : ∀ {v : V} {d : PyData}, Rn H v d → Rn (noT H) v d
  | _, _, .non => .non
  | _, _, .bl b => .bl b
  | _, _, .int i => .int i
  | _, _, .str x => .str x
  | _, _, .lst h k => .lst (noT_get h fun _ z => (by cases z)) (RnA.nt k)
  | _, _, .tup h k => .tup (noT_get h fun _ z => (by cases z)) (RnA.nt k)
  | _, _, .dk h => .dk (noT_get h fun _ z => (by cases z))
theorem RnA.nt {H : Hp} : ∀ {vs : List V} {ds : List PyData}, RnA H vs ds → RnA (noT H) vs ds
  | _, _, .nil => .nil
  | _, _, .cons h k => .cons (Rn.nt h) (RnA.nt k)
end
theorem mk_brdR {K : PySem.W.Frag} {TL : List (Addr × Str)} {H : Hp} {Q : VK} {E : XK} {x y : V} (hT : LamX.Tabs TL H) (hR : Rows2 K E H x y fun s t => ∀ p H', Ex (noT H) H' → H p = none → LamX.Tabs TL H' → BrdAt K H' p s t → Q (.ref p) H') : MakeP (clsA K "Board") (sp_Board_init K TL) [] E Q [x, y] H := by
  rcases hR with ⟨s, t, rfl, rfl, hs, ht, k⟩ | ⟨h1, h2, h⟩
  · exact mk_brd hs ht hT k
  · refine st_makeP fun p dx H1 np e1 v1 => ?_
    refine ⟨p, dx, _, _, rfl, v1, hT.ext fun b o h => e1.get h, .inr ⟨h1.ex e1, h2.ex e1, ?_⟩⟩
    rcases h with ⟨a, b⟩ | ⟨a, b, c⟩
    · exact .inl ⟨a, b.ex e1⟩
    · exact .inr ⟨a, b, c.ex e1⟩
def sp_walked (K : PySem.W.Frag) (TL : List (Addr × Str)) : Sp := fun vs H Q E => ∃ (x y z : V) (d : PyData), vs = [x, y, z] ∧ Ty H x ∧ Ty H y ∧ Rn H z d ∧ ShortD d ∧ LamX.Tabs TL H ∧ (withinV x 0 48 = false → RaF K E H "NoPlace" [("found", x)]) ∧ (withinV x 0 48 = true → withinV y 0 48 = false → RaF K E H "NoPlace" [("found", y)]) ∧
  ∀ m n : Nat, x = .int (m : Nat) → y = .int (n : Nat) → m ≤ 48 → n ≤ 48 → (¬ CelD d m n → RaF K E H "NoCells" [("found", z)]) ∧ ∀ cs, d = .list (cs.map PyData.str) → cs.length = m → (∀ z ∈ cs, GoodT n z) → ∀ go H', Ex (noT H) H' → LamX.Tabs TL H' → H go = none → H' go = some (.lst ((invT (ledE (cR cs) m n)).map nV)) → Q (.ref go) H'
theorem ok_walked (T : Tx K mg ad fd tk base tc) : FnOk P w K mg base (L2.CX P w) 3 (ad 7) (fd 7) ["many", "far", "cells"] (sp_walked K (tabsL tc)) := by
  refine T.fc_walked.okX sc_walked (fun vs H Q E h => ?_) (fun A outer s H vs Q E hr h => ?_)
  · obtain ⟨x, y, z, d, rfl, _⟩ := h
    rfl
  · obtain ⟨x, y, z, d, rfl, hx, hy, hz, hsh, hT, k0, k1, k2⟩ := h
    refine ⟨_, (pss_cons (ps_if (pt_not (pt_val (pe_call (ok_is_within T) (hr.mono (by decide)) rfl T.d_is_within.g T.d_is_within.F.kp T.d_is_within.b .nil pass0 (pa_cons (pv 0) (pa_cons pe_int (pa_cons (pe_glob (v := .int 48) rfl T.c_MOST_ROWS ⟨_, rfl⟩) pa_nil)))))) (pss_one (ps_raiseG rfl (ex_NoPlace T) (hr.mono (by decide)) (takes_of rfl rfl rfl rfl) rfl (pa_cons (pv 0) pa_nil))) pss_nil)
      (pss_cons (ps_if (pt_not (pt_val (pe_call (ok_is_within T) (hr.mono (by decide)) rfl T.d_is_within.g T.d_is_within.F.kp T.d_is_within.b .nil pass0 (pa_cons (pv 1) (pa_cons pe_int (pa_cons (pe_glob (v := .int 48) rfl T.c_MOST_ROWS ⟨_, rfl⟩) pa_nil)))))) (pss_one (ps_raiseG rfl (ex_NoPlace T) (hr.mono (by decide)) (takes_of rfl rfl rfl rfl) rfl (pa_cons (pv 1) pa_nil))) pss_nil)
      (pss_cons (ps_if (pt_not (pt_val (pe_call (ok_are_cells T) (hr.mono (by decide)) rfl T.d_are_cells.g T.d_are_cells.F.kp T.d_are_cells.b .nil pass0 (pa_cons (pv 0) (pa_cons (pv 1) (pa_cons (pv 2) pa_nil)))))) (pss_one (ps_raiseG rfl (ex_NoCells T) (hr.mono (by decide)) (takes_of rfl rfl rfl rfl) rfl (pa_cons (pv 2) pa_nil))) pss_nil)
      (pss_one (ps_ret (pe_ix (i_ix (K := K)) (pe_callCb (mk := fun c => ⟨q_walked, lamA L_walked, lamB L_walked, lamSc L_walked, cloFrom _ (lamSc L_walked).names [], c⟩) (js := [2]) (ok_led T) (fun _ _ => lok_t (k := 0) (N := ["row", "column", "across", "above", "cells"]) (ps := ["row", "column", "across", "above"]) (fr := ["cells"]) (nscope_by nsc_walked) (fun _ _ us hl => match us, hl with | [_, _, _, _], _ => rfl) (fun _ _ _ _ hr => (pe_cmpR (o_eq hr.units) (pe_ix (i_ix (K := K)) (pe_ix (i_ix (K := K)) (pv 4) (pv 0) (fun _ _ => rfl)) (pv 1) (fun _ _ => rfl)) pe_str (nomark _)))) (fun _ => rfl) (fun ok => Caps.made (scope := lamSc L_walked) ok (ndef_free (fr := ["cells"]) ndf_walked) (ndef_fr (fr := ["cells"]) ndf_walked) rfl) (hr.mono (by decide)) rfl T.d_led.g T.d_led.F.kp T.d_led.b (pa_cons (pv 0) (pa_cons (pv 1) (pa_cons (pe_lamb (T := tabsL tc) (params := lamA L_walked) (body := lamB L_walked) (scope := lamSc L_walked) T.tb_walked rfl tabs_m_walked (tabs_u_walked T) rfl (ndef_free (fr := ["cells"]) ndf_walked)) pa_nil)))) pe_int (fun _ _ => rfl))))))), ?_⟩
    walk_at "go"
    refine ⟨x, 0, 48, rfl, hx, ?_⟩
    cases hb : withinV x 0 48 with
    | false =>
      have k3 := k0 hb
      walk_at "go"
      rename_i d2 H2 hd2 e2 hv2
      exact k3 d2 H2 hd2 e2 hv2
    | true =>
    walk_at "go"
    refine ⟨y, 0, 48, rfl, hy, ?_⟩
    cases hb2 : withinV y 0 48 with
    | false =>
      have k3 := k1 hb hb2
      walk_at "go"
      rename_i d2 H2 hd2 e2 hv2
      exact k3 d2 H2 hd2 e2 hv2
    | true =>
    obtain ⟨m, rfl, hm⟩ := within_nat (m := 48) hb
    obtain ⟨n, rfl, hn⟩ := within_nat (m := 48) hb2
    obtain ⟨k3, k4⟩ := k2 m n rfl rfl hm hn
    walk_at "go"
    refine ⟨m, n, z, d, rfl, hz, hsh, hm, hn, fun b H1 e1 hb3 => ?_⟩
    cases b with
    | false =>
      have k5 := k3 fun h => Bool.false_ne_true (hb3.mpr h)
      walk_at "go"
      rename_i d2 H2 hd2 e2 hv2
      exact k5 d2 H2 (Ex.free e1 hd2) (e1.trans e2) hv2
    | true =>
    obtain ⟨cs, rfl, hcl, hcg⟩ := hb3.mp rfl
    have k5 := k4 cs rfl hcl hcg
    have hT1 : LamX.Tabs (tabsL tc) H1 := hT.ext fun b o h => e1.get h
    obtain ⟨C, xs, rfl, hC, hCr⟩ := (hz.ex e1).listAt
    walk_at "go"
    have hxs := strs_of hCr
    subst hxs
    refine st_lamb hT1 fun fl c' H3 e3 nn3 hT3 n3 l3 c3 => ?_
    have hC3 : H3 C = some (.lst (cs.map V.str)) := (ExT.ex e3).get (noT_get hC fun _ z => (by cases z))
    walk_at "go"
    refine ⟨fl, c', m, n, rfl, l3, c3, hm, hn, cR cs, ?_, ?_⟩
    · intro i j u v H' Q' hi hj _ _ e q
      refine ⟨rfl, ?_⟩
      have hC' := e.get hC3
      have g1 := List.getElem?_eq_getElem (l := cs) (i := i) (by omega)
      have gz := hcg (cs[i]'(by omega)) (List.getElem_mem _)
      obtain ⟨c, g2, _⟩ := goodT_at gz hj
      have gl := gz.1
      generalize cs[i]'(by omega) = z at g1 gz g2 gl
      rw [show (Str.ofString "x") = tx [120] from by decide +kernel]
      walk_at "go"
      refine st_ixL hC' (at_mapN g1) ?_
      walk_at "go"
      refine st_sign (by omega) (at_nat g2) ?_
      walk_at "go"
      have : cR cs i j u v = decide (tx [c] = tx [120]) := by
        unfold cR
        rw [g1, Option.bind_some, g2]
        simp [tx_inj]
      rw [← this]
      exact q
    intro t4 me sg go H4 e4 n4 v4 hL ngo
    walk_at "go"
    have hgo := hL.go
    refine k5 go H4 (fun b o n h => ?_) (hT3.ext fun b o h => e4.get h) ?_ hgo
    · exact e4.get ((ExT.ex e3).get (noT_get (e1.get (noT_of h).1) (noT_of h).2))
    · exact Ex.free e1 (nn3 go ngo)
def sp_Board_cells (K : PySem.W.Frag) : Sp := fun vs H Q E => ∃ (p : Addr) (s t : Str), vs = [.ref p] ∧ BrdAt K H p s t ∧ ∀ D H', Ex H H' → H D = none → H' D = some (.lst ((brdC s t).map V.str)) → Q (.ref D) H'
theorem ok_Board_cells (T : Tx K mg ad fd tk base tc) : FnOk P w K mg base CX0 1 (ad 8) (fd 8) ["self"] (sp_Board_cells K) := by
  refine T.d_Board_cells.F.ok sc_Board_cells (fun vs H Q E h => ?_) (fun cdv A outer s H vs Q E hr h => ?_)
  · obtain ⟨p, s, t, rfl, _⟩ := h
    rfl
  · obtain ⟨p, s, t, rfl, hp, k⟩ := h
    refine ⟨_, (pss_one (ps_ret (pe_callTy (c_list rfl (K := K)) (by rfl) T.b_list (by decide +kernel) (pa_cons (pe_fldK (K := K) (pv 0) rfl) pa_nil)))), ?_⟩
    obtain ⟨dx, me, sg, go, g1, g2⟩ := hp.ex
    have g3 := g2.sg
    walk_at "go"
    rename_i D H1 n1 e1 v1
    refine k D H1 e1 n1 ?_
    rw [v1]
    unfold brdC
    rw [List.map_map]
    rfl
theorem ok_Board_init (T : Tx K mg ad fd tk base tc) : FnOk P w K mg base (L2.CX P w) 5 (ad 9) (fd 9) ["self", "side", "top"] (sp_Board_init K (tabsL tc)) := by
  refine T.fc_Board_init.okX sc_Board_init (fun vs H Q E h => ?_) (fun A outer s H vs Q E hr h => ?_)
  · obtain ⟨p, dx, x, y, rfl, _⟩ := h
    rfl
  · obtain ⟨p, dx, x, y, rfl, hp, hT, hR⟩ := h
    refine ⟨_, (pss_cons (ps_expr (pe_call (ok_need_rows T) (hr.mono (by decide)) rfl T.d_need_rows.g T.d_need_rows.F.kp T.d_need_rows.b .nil (passes_call (takes_of rfl rfl rfl rfl) (fun _ _ _ _ h => h)) (pa_cons (pv 1) (pa_cons (pv 2) pa_nil))))
      (pss_cons (ps_fldK (K := K) (pv 0) (pv 1) rfl)
      (pss_cons (ps_fldK (K := K) (pv 0) (pv 2) rfl)
      (pss_cons (ps_set (i := 3) sc_Board_init.nd rfl (Or.inl rfl) (pe_lamb (T := tabsL tc) (params := lamA L_Board_init) (body := lamB L_Board_init) (scope := lamSc L_Board_init) T.tb_Board_init rfl tabs_m_Board_init (tabs_u_Board_init T) rfl (ndef_free (fr := ["side", "top"]) ndf_Board_init)))
      (pss_cons (ps_asg (pe_callCb (mk := fun c => ⟨q_Board_init, lamA L_Board_init, lamB L_Board_init, lamSc L_Board_init, cloFrom _ (lamSc L_Board_init).names [], c⟩) (js := [1, 2]) (ok_led T) (fun _ _ => lok_t (k := 0) (N := ["row", "column", "across", "above", "side", "top"]) (ps := ["row", "column", "across", "above"]) (fr := ["side", "top"]) (nscope_by nsc_Board_init) (fun _ _ us hl => match us, hl with | [_, _, _, _], _ => rfl) (fun _ _ _ _ hr => (pe_and (pe_cmpR (o_ne hr.units) (pe_ix (i_ix (K := K)) (pv 4) (pv 0) (fun _ _ => rfl)) (pe_ix (i_ix (K := K)) (pv 5) (pv 1) (fun _ _ => rfl)) (nomark _)) (pe_one (pe_cmpR o_lt (pv 2) (pv 3) (nomark _)))))) (fun _ => rfl) (fun ok => Caps.made (scope := lamSc L_Board_init) ok (ndef_free (fr := ["side", "top"]) ndf_Board_init) (ndef_fr (fr := ["side", "top"]) ndf_Board_init) rfl) (hr.mono (by decide)) rfl T.d_led.g T.d_led.F.kp T.d_led.b (pa_cons (pe_callB (c_len (K := K)) (by rfl) T.b_len (by decide +kernel) (pa_cons (pv 1) pa_nil)) (pa_cons (pe_callB (c_len (K := K)) (by rfl) T.b_len (by decide +kernel) (pa_cons (pv 2) pa_nil)) (pa_cons (pv 3) pa_nil)))) (pg_tup rfl (pgs_cons (pg_name (i := 4) sc_Board_init.nd rfl (Or.inl rfl)) (pgs_cons (pg_name (i := 5) sc_Board_init.nd rfl (Or.inl rfl)) (pgs_cons (pg_name (i := 6) sc_Board_init.nd rfl (Or.inl rfl)) pgs_nil)))))
      (pss_cons (ps_fldK (K := K) (pv 0) (pv 4) rfl)
      (pss_cons (ps_fldK (K := K) (pv 0) (pv 5) rfl)
      (pss_one (ps_fldK (K := K) (pv 0) (pv 6) rfl))))))))), ?_⟩
    walk_at "go"
    refine ⟨x, y, rfl, hR.imp fun s t ex ey hs ht k H1 e1 => ?_⟩
    subst ex ey
    have hs1 := hs.len
    have ht1 := ht.len
    have hsl : s.cps.toList.length = s.length := Array.length_toList
    have htl : t.cps.toList.length = t.length := Array.length_toList
    have hp1 := e1.get hp
    have hT1 : LamX.Tabs (tabsL tc) H1 := hT.ext fun b o h => e1.get h
    walk_at "go"
    rw [putF_nil, putF_ne (by decide +kernel), putF_nil]
    have v2 : upd (upd H1 p (.ins (clsA K "Board") dx [("left_row", .str s)])) p (.ins (clsA K "Board") dx [("left_row", .str s), ("upper_row", .str t)]) p = some (.ins (clsA K "Board") dx [("left_row", .str s), ("upper_row", .str t)]) := upd_same
    have f2 : FrP p H1 (upd (upd H1 p (.ins (clsA K "Board") dx [("left_row", .str s)])) p (.ins (clsA K "Board") dx [("left_row", .str s), ("upper_row", .str t)])) := FrP.at.trans FrP.at
    generalize upd (upd H1 p (.ins (clsA K "Board") dx [("left_row", .str s)])) p (.ins (clsA K "Board") dx [("left_row", .str s), ("upper_row", .str t)]) = H2 at v2 f2 ⊢
    have hT2 := tabs_fr hT1 f2 hp1
    refine st_lamb hT2 fun fl c' H3 e3 nn3 hT3 n3 l3 c3 => ?_
    have v3 := e3.get v2
    walk_at "go"
    have hc3 := hT3
    refine ⟨fl, c', s.length, t.length, rfl, l3, c3, by omega, by omega, bR s.cps.toList t.cps.toList, ?_, ?_⟩
    · intro i j a b H' Q' hi hj ha hb e q
      refine ⟨rfl, ?_⟩
      have g1 := List.getElem?_eq_getElem (l := s.cps.toList) (i := i) (by omega)
      have g2 := List.getElem?_eq_getElem (l := t.cps.toList) (i := j) (by omega)
      walk_at "go"
      refine st_sign (by omega) (at_nat g1) ?_
      walk_at "go"
      refine st_sign (by omega) (at_nat g2) ?_
      walk_at "go"
      by_cases hq : s.cps.toList[i]'(by omega) = t.cps.toList[j]'(by omega)
      · rw [if_neg (by rw [hq]; simp)]
        have : bR s.cps.toList t.cps.toList i j a b = false := by
          unfold bR
          rw [g1, g2, hq]
          simp
        rw [← this]
        exact q
      · rw [if_pos (by simp only [tx_inj, List.cons.injEq, and_true, hq, decide_false, Bool.not_false])]
        walk_at "go"
        have : bR s.cps.toList t.cps.toList i j a b = decide ((a : Int) < (b : Int)) := by
          unfold bR
          have z : ¬ (some (s.cps.toList[i]'(by omega)) = some (t.cps.toList[j]'(by omega))) := fun e => hq (Option.some.inj e)
          rw [g1, g2, decide_eq_true (p := _ ≠ _) z, Bool.true_and]
          simp
        rw [← this]
        exact q
    intro t4 me sg go H4 e4 n4 v4 hL _
    walk_at "go"
    rw [putF_ne (by decide +kernel), putF_ne (by decide +kernel), putF_nil, putF_ne (by decide +kernel), putF_ne (by decide +kernel), putF_ne (by decide +kernel), putF_nil, putF_ne (by decide +kernel), putF_ne (by decide +kernel), putF_ne (by decide +kernel), putF_ne (by decide +kernel), putF_nil]
    have v5 : H4 p = _ := e4.get v3
    have f3 : Fr (fun b => b = p) (noT H) H3 := fun b o n h => e3 b o (f2 b o n (e1 b o (fun z => z) (noT_of h).1)) (noT_of h).2
    refine k _ ((f3.trans (Fr.ex e4)).trans ((FrP.at.trans FrP.at).trans FrP.at)) (tabs_fr (hT3.ext fun b o h => e4.get h) ((FrP.at.trans FrP.at).trans FrP.at) v5) ⟨dx, me, sg, go, upd_same, hL.frp ((FrP.at.trans FrP.at).trans FrP.at) v5⟩
def sp_is_board (K : PySem.W.Frag) (TL : List (Addr × Str)) : Sp := fun vs H Q E => ∃ (x y z : V) (d : PyData), vs = [x, y, z] ∧ LamX.Tabs TL H ∧ Rn H z d ∧ (isListD d = true → d.hasDict = false ∧ d.depth ≤ 40) ∧ Rows2 K E H x y fun s t => ∀ H', Ex (noT H) H' → LamX.Tabs TL H' → Q (.bl (PyData.eqv d (.list ((brdC s t).map PyData.str)))) H'
theorem ok_is_board (T : Tx K mg ad fd tk base tc) : FnOk P w K mg base (L2.CX P w) 7 (ad 10) (fd 10) ["side", "top", "thing"] (sp_is_board K (tabsL tc)) := by
  refine T.d_is_board.F.okX sc_is_board (fun vs H Q E h => ?_) (fun cdv A outer s H vs Q E hr h => ?_)
  · obtain ⟨x, y, z, d, rfl, _⟩ := h
    rfl
  · obtain ⟨x, y, z, d, rfl, hT, hz, hd, hR⟩ := h
    refine ⟨_, (pss_cons (ps_set (i := 3) sc_is_board.nd rfl (Or.inl rfl) (pe_make T.m_Board (ok_Board_init T) (hr.mono (by decide)) rfl T.mg_Board T.d_Board_init.b .nil (passes_call (takes_of rfl rfl rfl rfl) (fun _ _ _ _ h => h)) (pa_cons (pv 0) (pa_cons (pv 1) pa_nil))))
      (pss_one (ps_ret (pe_and (pe_callB c_is (by rfl) T.b_isinstance (by decide +kernel) (pa_cons (pv 2) (pa_cons (pe_bltn (v := .ty "list") rfl T.b_list (by decide +kernel) rfl) pa_nil))) (pe_one (pe_cmpR (o_eq hr.units) (pv 2) (pe_meth0 (pv 3) T.cl_Board T.d_Board_cells.g (ok_Board_cells T) (hr.mono (by decide)) T.d_Board_cells.b .nil pass0) (nomark _))))))), ?_⟩
    walk_at "go"
    refine mk_brdR hT (hR.imp fun s t ex ey hs ht k p H1 e1 np hT1 hB => ?_)
    have hz1 := (Rn.nt hz).ex e1
    obtain ⟨dx, me, sg, go, gb, _⟩ := id hB.ex
    walk_at "go"
    refine st_isListD hz1.rq ?_
    walk_at "go"
    cases d with
    | list ds =>
      rw [show isListD (.list ds) = true from rfl, if_pos rfl]
      walk_at "go"
      refine ⟨p, s, t, rfl, hB, fun D H2 e2 nD vD => ?_⟩
      refine st_eqD ((hz1.ex e2).rp (hd rfl).1) (.lst (lst_of vD) (rpA_map (enc := PyData.str) fun x _ => .str x)) ?_ ?_
      · have := (hd rfl).2
        omega
      · exact k H2 (e1.trans e2) (hT1.ext fun b o h => e2.get h)
    | _ =>
      rw [show isListD _ = false from rfl, if_neg (by decide)]
      have k2 := k H1 e1 hT1
      simp only [PyData.eqv] at k2
      exact k2
def sp__law_at (K : PySem.W.Frag) : Sp := fun vs H Q _ => ∃ (a : Addr) (ns : List Int) (j : Int), vs = [.ref a, .int j] ∧ SqL K H a (ns.map V.int) ∧ (0 ≤ j ∧ j < 1000000) ∧ ns.length ≤ 63 ∧ ∀ z : Int, Q (.int z) H
theorem ok__law_at (T : Tx K mg ad fd tk base tc) : FnOk P w K mg base CX0 1 (ad 11) (fd 11) ["_law_script", "_law_k"] (sp__law_at K) := by
  refine T.d__law_at.F.ok sc__law_at (fun vs H Q E h => ?_) (fun cdv A outer s H vs Q E hr h => ?_)
  · obtain ⟨a, ns, j, rfl, _⟩ := h
    rfl
  · obtain ⟨a, ns, j, rfl, hs, hj, hl, k⟩ := h
    refine ⟨_, (pss_cons (ps_if (pt_cmpR o_lt (pv 1) (pe_callB (c_len (K := K)) (by rfl) T.b_len (by decide +kernel) (pa_cons (pv 0) pa_nil)) (nomark _)) (pss_one (ps_ret (pe_ix (i_ix (K := K)) (pv 0) (pv 1) (fun _ _ => rfl)))) pss_nil)
      (pss_one (ps_ret pe_int))), ?_⟩
    walk_at "go"
    refine st_lenK hs ?_
    walk_at "go"
    refine st_br2 (fun c => ?_) (fun c => ?_)
    · walk_at "go"
      rw [List.length_map] at c
      obtain ⟨v, h2, h3⟩ := at_in (xs := ns.map V.int) hj.1 (by rw [List.length_map]; exact c)
      rw [List.getElem?_map] at h3
      cases q : ns[j.toNat]? with
      | none => rw [q] at h3; cases h3
      | some z =>
        rw [q] at h3
        cases h3
        exact st_ixK hs h2 (k z)
    · walk_at "go"
      exact k _
def sp__law_mix : Sp := fun vs H Q _ => ∃ c j : Int, vs = [.int c, .int j] ∧ ∀ z : Int, Q (.int z) H
theorem ok__law_mix (T : Tx K mg ad fd tk base tc) : FnOk P w K mg base CX0 1 (ad 12) (fd 12) ["_law_cell", "_law_k"] sp__law_mix := by
  refine T.d__law_mix.F.ok sc__law_mix (fun vs H Q E h => ?_) (fun cdv A outer s H vs Q E hr h => ?_)
  · obtain ⟨c, j, rfl, _⟩ := h
    rfl
  · obtain ⟨c, j, rfl, k⟩ := h
    refine ⟨_, (pss_cons (ps_set (i := 2) sc__law_mix.nd rfl (Or.inl rfl) (pe_op o_mod (pe_op o_mul (pe_op o_add (pe_op o_add (pe_op o_mod (pv 0) pe_int) (pe_op o_mul pe_int (pv 1))) pe_int) pe_int) pe_int))
      (pss_cons (ps_set (i := 3) sc__law_mix.nd rfl (Or.inl rfl) (pe_op o_mod (pe_op o_mul (pe_op o_add (pe_op o_mod (pv 2) pe_int) pe_int) (pe_op o_add (pe_op o_add (pe_op o_div (pv 2) pe_int) (pe_op o_mod (pe_op o_div (pv 0) pe_int) pe_int)) pe_int)) pe_int))
      (pss_one (ps_ret (pe_op o_div (pv 3) pe_int))))), ?_⟩
    walk_at "go"
    exact k _
def sp__law_ints (K : PySem.W.Frag) : Sp := fun vs H Q _ => ∃ (D G : Addr) (l : List Int), vs = [.ref D, .ref G] ∧ H D = some (.lst (l.map V.int)) ∧ H G = some (.lst (l.map V.int)) ∧ l.length ≤ 4000 ∧ Q (.bl true) H
theorem ok__law_ints (T : Tx K mg ad fd tk base tc) : FnOk P w K mg base CX0 1 (ad 13) (fd 13) ["_law_found", "_law_due"] (sp__law_ints K) := by
  refine T.d__law_ints.F.ok sc__law_ints (fun vs H Q E h => ?_) (fun cdv A outer s H vs Q E hr h => ?_)
  · obtain ⟨D, G, l, rfl, _⟩ := h
    rfl
  · obtain ⟨D, G, l, rfl, hD, hG, hl, k⟩ := h
    refine ⟨_, (pss_cons (ps_if (PW.pt (pw_or (pt_not (pt_val (pe_callB c_is (by rfl) T.b_isinstance (by decide +kernel) (pa_cons (pv 0) (pa_cons (pe_bltn (v := .ty "list") rfl T.b_list (by decide +kernel) rfl) pa_nil))))) (pw_or1 (pt_cmpR (o_ne hr.units) (pe_callB (c_len (K := K)) (by rfl) T.b_len (by decide +kernel) (pa_cons (pv 0) pa_nil)) (pe_callB (c_len (K := K)) (by rfl) T.b_len (by decide +kernel) (pa_cons (pv 1) pa_nil)) (nomark _))))) (pss_one (ps_ret pe_bl)) pss_nil)
      (pss_cons (ps_for PassesOwn.never rfl (pi_range1 rfl T.b_range (pa_cons (pe_callB (c_len (K := K)) (by rfl) T.b_len (by decide +kernel) (pa_cons (pv 1) pa_nil)) pa_nil)) (pg_name (i := 2) sc__law_ints.nd rfl (Or.inl rfl)) (pss_one (ps_if (PW.pt (pw_or (pt_not (pt_val (pe_callB c_is (by rfl) T.b_isinstance (by decide +kernel) (pa_cons (pe_ix (i_ix (K := K)) (pv 0) (pv 2) (fun _ _ => rfl)) (pa_cons (pe_bltn (v := .ty "int") rfl T.b_int (by decide +kernel) rfl) pa_nil))))) (pw_or (pt_val (pe_callB c_is (by rfl) T.b_isinstance (by decide +kernel) (pa_cons (pe_ix (i_ix (K := K)) (pv 0) (pv 2) (fun _ _ => rfl)) (pa_cons (pe_bltn (v := .ty "bool") rfl T.b_bool (by decide +kernel) rfl) pa_nil)))) (pw_or1 (pt_cmpR (o_ne hr.units) (pe_ix (i_ix (K := K)) (pv 0) (pv 2) (fun _ _ => rfl)) (pe_ix (i_ix (K := K)) (pv 1) (pv 2) (fun _ _ => rfl)) (nomark _)))))) (pss_one (ps_ret pe_bl)) pss_nil)))
      (pss_one (ps_ret pe_bl)))), ?_⟩
    walk_at "go"
    rw [if_neg (by simp)]
    walk_at "go"
    refine for_runs (runs_range 0 _) (fun i σ H' => H' = H ∧ ∃ y, σ = [some (.ref D), some (.ref G), y]) ⟨rfl, _, rfl⟩ (fun _ _ _ _ _ => trivial) ?_ ?_
    · rintro i x σ H1 H2 hi ⟨rfl, y, rfl⟩ ⟨rfl, rfl⟩
      rw [Int.zero_add]
      rw [List.length_map] at hi
      have g1 : atI (l.map V.int) (i : Int) = some (.int (l[i]'(by omega))) := at_mapN (List.getElem?_eq_getElem (by omega))
      walk_at "go"
      refine st_ixL hD g1 ?_
      walk_at "go"
      refine st_ixL hD g1 ?_
      walk_at "go"
      refine st_ixL hD g1 ?_
      walk_at "go"
      refine st_ixL hG g1 ?_
      walk_at "go"
      rw [if_neg (by simp)]
      walk_at "go"
      exact ⟨rfl, _, rfl⟩
    · rintro σ H1 ⟨rfl, y, rfl⟩
      walk_at "go"
      exact k
def sp__law_bit (K : PySem.W.Frag) : Sp := fun vs H Q _ => ∃ (a : Addr) (ns : List Int) (t : Int), vs = [.ref a, .int t] ∧ SqL K H a (ns.map V.int) ∧ (0 ≤ t ∧ t ≤ 3000) ∧ ns.length ≤ 63 ∧ ((Q (.int 0) H) ∧ (Q (.int 1) H))
theorem ok__law_bit (T : Tx K mg ad fd tk base tc) : FnOk P w K mg base CX0 2 (ad 14) (fd 14) ["_law_script", "_law_t"] (sp__law_bit K) := by
  refine T.d__law_bit.F.ok sc__law_bit (fun vs H Q E h => ?_) (fun cdv A outer s H vs Q E hr h => ?_)
  · obtain ⟨a, ns, t, rfl, _⟩ := h
    rfl
  · obtain ⟨a, ns, t, rfl, hs, ht, hl, k⟩ := h
    refine ⟨_, (pss_cons (ps_if (pt_cmpR (o_eq hr.units) (pe_callB (c_len (K := K)) (by rfl) T.b_len (by decide +kernel) (pa_cons (pv 0) pa_nil)) pe_int (nomark _)) (pss_one (ps_ret pe_int)) pss_nil)
      (pss_cons (ps_set (i := 2) sc__law_bit.nd rfl (Or.inl rfl) (pe_ix (i_ix (K := K)) (pv 0) (pe_op o_mod (pv 1) (pe_callB (c_len (K := K)) (by rfl) T.b_len (by decide +kernel) (pa_cons (pv 0) pa_nil))) (fun _ _ => rfl)))
      (pss_cons (ps_if (pt_cmpR o_ge (pv 2) (pe_op o_pow pe_int pe_int) (nomark _)) (pss_one (ps_ret (pe_op o_mod (pe_op op_shr (pv 2) (pe_op o_mod (pe_op o_div (pv 1) (pe_callB (c_len (K := K)) (by rfl) T.b_len (by decide +kernel) (pa_cons (pv 0) pa_nil))) pe_int)) pe_int))) pss_nil)
      (pss_one (ps_ret (pe_op o_mod (pe_call (ok__law_mix T) (hr.mono (by decide)) rfl T.d__law_mix.g T.d__law_mix.F.kp T.d__law_mix.b .nil pass0 (pa_cons (pv 2) (pa_cons (pv 1) pa_nil))) pe_int)))))), ?_⟩
    obtain ⟨k0, k1⟩ := k
    have fin : ∀ z : Int, Q (.int (z % 2)) H := fun z => by
      rcases (by omega : z % 2 = 0 ∨ z % 2 = 1) with h | h
      · rw [h]; exact k0
      · rw [h]; exact k1
    walk_at "go"
    refine st_lenK hs ?_
    walk_at "go"
    rw [List.length_map]
    refine st_br2 (fun c => ?_) (fun c => ?_)
    · walk_at "go"
      exact k0
    walk_at "go"
    refine st_lenK hs ?_
    walk_at "go"
    rw [List.length_map]
    have hp : 0 < ns.length := by omega
    obtain ⟨v, g1, g2⟩ := at_in (xs := ns.map V.int) (i := t % (ns.length : Int)) (Int.emod_nonneg _ (by omega)) (by rw [List.length_map]; exact Int.emod_lt_of_pos _ (by omega))
    obtain ⟨c, _, rfl⟩ := by
      rw [List.getElem?_map] at g2
      exact Option.map_eq_some_iff.mp g2
    refine st_ixK hs g1 ?_
    walk_at "go"
    refine st_br2 (fun hc => ?_) (fun hc => ?_)
    · walk_at "go"
      refine st_lenK hs ?_
      walk_at "go"
      rw [List.length_map]
      walk_at "go"
      refine ⟨_, _, rfl, rfl, Int.emod_nonneg _ (by omega), ?_⟩
      walk_at "go"
      exact fin _
    · walk_at "go"
      refine ⟨_, _, rfl, fun u => ?_⟩
      walk_at "go"
      exact fin u
def sp__law_walked : Sp := fun vs H Q _ => ∃ (m n : Nat) (C : Addr) (cs : List Str), vs = [.int (m : Nat), .int (n : Nat), .ref C] ∧ H C = some (.lst (cs.map V.str)) ∧ m ≤ 48 ∧ n ≤ 48 ∧ cs.length = m ∧ (∀ z ∈ cs, GoodT n z) ∧ ∀ D H', Ex H H' → H D = none → H' D = some (.lst ((invT (ledE (cR cs) m n)).map nV)) → Q (.ref D) H'
/-- the numbers that go on, while the cells are walked column by column -/
def acT (r : Nat → Nat → Nat → Nat → Bool) (m t i : Nat) : Nat := ledA r m i (t / m + if i < t % m then 1 else 0)
def dwT (r : Nat → Nat → Nat → Nat → Bool) (m t j : Nat) : Nat := ledD r m (if j < t / m then m else if j = t / m then t % m else 0) j
theorem t_next {m t : Nat} (hm : 0 < m) : ((t + 1) / m = t / m ∧ (t + 1) % m = t % m + 1 ∧ t % m + 1 < m) ∨ ((t + 1) / m = t / m + 1 ∧ (t + 1) % m = 0 ∧ t % m + 1 = m) := by
  have h0 := Nat.mod_lt t hm
  have h1 := Nat.div_add_mod t m
  by_cases h : t % m + 1 < m
  · left
    have e : t + 1 = (t % m + 1) + m * (t / m) := by omega
    refine ⟨?_, ?_, h⟩
    · rw [e, Nat.add_mul_div_left _ _ hm, Nat.div_eq_of_lt h, Nat.zero_add]
    · rw [e, Nat.add_mul_mod_self_left, Nat.mod_eq_of_lt h]
  · right
    have h2 : t % m + 1 = m := by omega
    have e : t + 1 = 0 + m * (t / m + 1) := by rw [Nat.mul_add]; omega
    refine ⟨?_, ?_, h2⟩
    · rw [e, Nat.add_mul_div_left _ _ hm, Nat.zero_div, Nat.zero_add]
    · rw [e, Nat.add_mul_mod_self_left, Nat.zero_mod]
theorem acT_s {r : Nat → Nat → Nat → Nat → Bool} {m t i : Nat} (hi : i < m) : acT r m (t + 1) i = if i = t % m then ledA r m (t % m) (t / m + 1) else acT r m t i := by
  unfold acT
  rcases t_next (t := t) (show 0 < m by omega) with ⟨h1, h2, h3⟩ | ⟨h1, h2, h3⟩
  · rw [h1, h2]
    by_cases e : i = t % m
    · rw [if_pos e, if_pos (by omega), e]
    · rw [if_neg e]
      by_cases l : i < t % m
      · rw [if_pos l, if_pos (by omega)]
      · rw [if_neg l, if_neg (by omega)]
  · rw [h1, h2, if_neg (Nat.not_lt_zero _)]
    by_cases e : i = t % m
    · rw [if_pos e, e]
    · rw [if_neg e, if_pos (by omega)]
theorem dwT_s {r : Nat → Nat → Nat → Nat → Bool} {m t j : Nat} (hm : 0 < m) : dwT r m (t + 1) j = if j = t / m then ledD r m (t % m + 1) (t / m) else dwT r m t j := by
  unfold dwT
  rcases t_next (t := t) hm with ⟨h1, h2, h3⟩ | ⟨h1, h2, h3⟩
  · rw [h1, h2]
    by_cases e : j = t / m
    · rw [if_pos e, if_neg (by omega), if_pos e, e]
    · rw [if_neg e, if_neg e]
      rw [if_neg e]
  · rw [h1, h2]
    by_cases e : j = t / m
    · rw [if_pos e, if_pos (by omega), h3, e]
    · rw [if_neg e]
      by_cases l : j < t / m
      · rw [if_pos l, if_pos (by omega)]
      · rw [if_neg l, if_neg (by omega), if_neg e, ite_self]
theorem acT_at (r : Nat → Nat → Nat → Nat → Bool) (m t : Nat) : acT r m t (t % m) = ledA r m (t % m) (t / m) := by
  unfold acT
  rw [if_neg (Nat.lt_irrefl _)]; rfl
theorem dwT_at (r : Nat → Nat → Nat → Nat → Bool) (m t : Nat) : dwT r m t (t / m) = ledD r m (t % m) (t / m) := by
  unfold dwT
  rw [if_neg (Nat.lt_irrefl _), if_pos rfl]
theorem ok__law_walked (T : Tx K mg ad fd tk base tc) : FnOk P w K mg base CX0 1 (ad 15) (fd 15) ["_law_many", "_law_far", "_law_cells"] sp__law_walked := by
  refine T.d__law_walked.F.ok sc__law_walked (fun vs H Q E h => ?_) (fun cdv A outer s H vs Q E hr h => ?_)
  · obtain ⟨m, n, C, cs, rfl, _⟩ := h
    rfl
  · obtain ⟨m, n, C, cs, rfl, hC, hm, hn, hl, hg, k⟩ := h
    refine ⟨_, (pss_cons (ps_setLc (i := 3) (own := [("_law_i", 6)]) (g := gName 6) rfl sc__law_walked.nd rfl rfl (sw_true rfl rfl rfl (by decide +kernel)) (pi_range1 rfl T.b_range (pa_cons (pv 0) pa_nil)) (blkOk_by (own := [("_law_i", 6)]) (N := N__law_walked) (sc := defScope s__law_walked) (by decide +kernel)) (fun _ _ _ _ _ => pg_name (i := 6) sc__law_walked.nd rfl (Or.inl rfl)) (fun _ _ _ _ _ => pts_nil) (fun _ _ _ _ _ => (pe_op o_sub (pe_op o_sub (pv 0) pe_int) (pv 6))))
      (pss_cons (ps_setLc (i := 4) (own := [("_law_j", 7)]) (g := gName 7) rfl sc__law_walked.nd rfl rfl (sw_true rfl rfl rfl (by decide +kernel)) (pi_range1 rfl T.b_range (pa_cons (pv 1) pa_nil)) (blkOk_by (own := [("_law_j", 7)]) (N := N__law_walked) (sc := defScope s__law_walked) (by decide +kernel)) (fun _ _ _ _ _ => pg_name (i := 7) sc__law_walked.nd rfl (Or.inl rfl)) (fun _ _ _ _ _ => pts_nil) (fun _ _ _ _ _ => (pe_op o_add (pv 0) (pv 7))))
      (pss_cons (ps_for PassesOwn.never rfl (pi_range1 rfl T.b_range (pa_cons (pe_op o_mul (pv 0) (pv 1)) pa_nil)) (pg_name (i := 5) sc__law_walked.nd rfl (Or.inl rfl)) (pss_cons (ps_set (i := 6) sc__law_walked.nd rfl (Or.inl rfl) (pe_op o_mod (pv 5) (pv 0)))
      (pss_cons (ps_set (i := 7) sc__law_walked.nd rfl (Or.inl rfl) (pe_op o_div (pv 5) (pv 0)))
      (pss_one (ps_if (pt_cmpR (o_eq hr.units) (pe_ix (i_ix (K := K)) (pe_ix (i_ix (K := K)) (pv 2) (pv 6) (fun _ _ => rfl)) (pv 7) (fun _ _ => rfl)) pe_str (nomark _)) (pss_cons (ps_set (i := 8) sc__law_walked.nd rfl (Or.inl rfl) (pe_ix (i_ix (K := K)) (pv 3) (pv 6) (fun _ _ => rfl)))
      (pss_cons (ps_asg (pe_ix (i_ix (K := K)) (pv 4) (pv 7) (fun _ _ => rfl)) (pg_sub (pv 3) (pv 6) set_list))
      (pss_one (ps_asg (pv 8) (pg_sub (pv 4) (pv 7) set_list))))) pss_nil)))))
      (pss_cons (ps_setLc (i := 9) (own := [("_law_k", 10)]) (g := gName 10) rfl sc__law_walked.nd rfl rfl (sw_true rfl rfl rfl (by decide +kernel)) (pi_range1 rfl T.b_range (pa_cons (pe_op o_add (pv 0) (pv 1)) pa_nil)) (blkOk_by (own := [("_law_k", 10)]) (N := N__law_walked) (sc := defScope s__law_walked) (by decide +kernel)) (fun _ _ _ _ _ => pg_name (i := 10) sc__law_walked.nd rfl (Or.inl rfl)) (fun _ _ _ _ _ => pts_nil) (fun _ _ _ _ _ => pe_int))
      (pss_cons (ps_for PassesOwn.never rfl (pi_range1 rfl T.b_range (pa_cons (pv 1) pa_nil)) (pg_name (i := 7) sc__law_walked.nd rfl (Or.inl rfl)) (pss_one (ps_asg (pv 7) (pg_sub (pv 9) (pe_ix (i_ix (K := K)) (pv 4) (pv 7) (fun _ _ => rfl)) set_list))))
      (pss_cons (ps_for PassesOwn.never rfl (pi_range1 rfl T.b_range (pa_cons (pv 0) pa_nil)) (pg_name (i := 6) sc__law_walked.nd rfl (Or.inl rfl)) (pss_one (ps_asg (pe_op o_sub (pe_op o_sub (pe_op o_add (pv 1) (pv 0)) pe_int) (pv 6)) (pg_sub (pv 9) (pe_ix (i_ix (K := K)) (pv 3) (pv 6) (fun _ _ => rfl)) set_list))))
      (pss_one (ps_ret (pv 9))))))))), ?_⟩
    walk_at "go"
    rw [Int.toNat_natCast]
    refine lc_map (rv_range 0 m) (fun _ _ => trivial) (by rw [List.length_range]; omega) (fun i => nV (m - 1 - i)) ?_ ?_
    · intro i H' hi e B h2
      have hi := List.mem_range.mp hi
      refine ⟨rfl, ?_⟩
      walk_at "go"
      rw [show ((m : Nat) : Int) - 1 - (0 + ((i : Nat) : Int)) = ((m - 1 - i : Nat) : Int) by omega]
      exact h2 _ (Fr.refl _)
    intro A1 H1 nA e1 vA
    walk_at "go"
    rw [Int.toNat_natCast]
    refine lc_map (rv_range 0 n) (fun _ _ => trivial) (by rw [List.length_range]; omega) (fun j => nV (m + j)) ?_ ?_
    · intro i H' hi e B h2
      refine ⟨rfl, ?_⟩
      walk_at "go"
      rw [show ((m : Nat) : Int) + (0 + ((i : Nat) : Int)) = ((m + i : Nat) : Int) by omega]
      exact h2 _ (Fr.refl _)
    intro B1 H2 nB e2 vB
    have e02 := e1.trans e2
    have hC2 := e02.get hC
    have vA2 := e2.get vA
    walk_at "go"
    have qAB : A1 ≠ B1 := ne_of_none vA nB
    have qBA := qAB.symm
    have qCA : C ≠ A1 := ne_of_none hC nA
    have qCB : C ≠ B1 := ne_of_none (e1.get hC) nB
    have nB0 := Ex.free e1 nB
    obtain ⟨r, hr⟩ : ∃ r, r = cR cs := ⟨_, rfl⟩
    rw [← hr] at k
    have vA0 : H2 A1 = some (.lst ((List.range m).map fun i => nV (acT r m 0 i))) := by
      rw [vA2]
      refine congrArg (fun x => some (HO.lst x)) (fn_congr fun i hi => ?_)
      unfold acT
      rw [Nat.zero_div, Nat.zero_mod, if_neg (Nat.not_lt_zero _)]
      rfl
    have vB0 : H2 B1 = some (.lst ((List.range n).map fun j => nV (dwT r m 0 j))) := by
      rw [vB]
      refine congrArg (fun x => some (HO.lst x)) (fn_congr fun j hj => ?_)
      unfold dwT
      rw [Nat.zero_div, Nat.zero_mod, if_neg (Nat.not_lt_zero _), ite_self]
      rfl
    have hmn : m * n ≤ 2304 := Nat.mul_le_mul hm hn
    refine ⟨_, rfl, by omega, by omega, ?_⟩
    rw [show ((m : Int) * (n : Int)).toNat = m * n by rw [← Int.natCast_mul]; exact Int.toNat_natCast _]
    refine for_runs (runs_range 0 (m * n)) (fun t σ H' => Ex H H' ∧ H' A1 = some (.lst ((List.range m).map fun i => nV (acT r m t i))) ∧ H' B1 = some (.lst ((List.range n).map fun j => nV (dwT r m t j))) ∧ ∃ a5 a6 a7 a8 a9 a10, σ = [some (.int (m : Nat)), some (.int (n : Nat)), some (.ref C), some (.ref A1), some (.ref B1), a5, a6, a7, a8, a9, a10]) ⟨e02, vA0, vB0, _, _, _, _, _, _, rfl⟩ (fun _ _ _ _ _ => trivial) ?_ ?_
    · rintro t x σ H3 H4 ht ⟨e3, b1, b2, a5, a6, a7, a8, a9, a10, rfl⟩ ⟨rfl, rfl⟩
      have hm0 : 0 < m := Nat.pos_of_ne_zero fun z => by rw [z, Nat.zero_mul] at ht; omega
      have hi : t % m < m := Nat.mod_lt _ hm0
      have hj : t / m < n := Nat.div_lt_of_lt_mul ht
      have hC4 := e3.get hC
      have g1 := List.getElem?_eq_getElem (l := cs) (i := t % m) (by omega)
      have gz := hg (cs[t % m]'(by omega)) (List.getElem_mem _)
      obtain ⟨c, g2, g3⟩ := goodT_at gz hj
      have gl := gz.1
      generalize cs[t % m]'(by omega) = z at g1 gz g2 gl
      have f1 : atI ((List.range m).map fun i => nV (acT r m t i)) ((t % m : Nat) : Int) = some (nV (acT r m t (t % m))) := fn_at (f := fun i => nV (acT r m t i)) hi
      have f2 : atI ((List.range n).map fun j => nV (dwT r m t j)) ((t / m : Nat) : Int) = some (nV (dwT r m t (t / m))) := fn_at (f := fun j => nV (dwT r m t j)) hj
      have hS : ledS r m (t % m) (t / m) = decide (c = 120) := by
        unfold ledS
        rw [hr]
        unfold cR
        rw [g1, Option.bind_some, g2]
        simp
      have x1 : ixN ((List.range m).map fun i => nV (acT r m t i)).length ((t % m : Nat) : Int) = some (t % m) := fn_ix hi
      have x2 : ixN ((List.range n).map fun j => nV (dwT r m t j)).length ((t / m : Nat) : Int) = some (t / m) := fn_ix hj
      rw [show (Str.ofString "o") = tx [111] from by decide +kernel, Int.zero_add]
      walk_at "go"
      rw [show (t : Int) % (m : Int) = ((t % m : Nat) : Int) from rfl]
      walk_at "go"
      rw [show (t : Int) / (m : Int) = ((t / m : Nat) : Int) from rfl]
      walk_at "go"
      refine st_ixL hC4 (at_mapN g1) ?_
      walk_at "go"
      refine st_sign (by omega) (at_nat g2) ?_
      walk_at "go"
      rcases g3 with rfl | rfl
      · rw [if_neg (by simp [tx_inj])]
        have hh : ledS r m (t % m) (t / m) = true := by rw [hS]; rfl
        walk_at "go"
        refine ⟨e3, ?_, ?_, _, _, _, _, _, _, rfl⟩
        · rw [b1]
          refine congrArg (fun x => some (HO.lst x)) (fn_congr fun i hi => ?_)
          rw [acT_s hi]
          by_cases e : i = t % m
          · rw [if_pos e, ledA_s, if_pos hh, e, acT_at]
          · rw [if_neg e]
        · rw [b2]
          refine congrArg (fun x => some (HO.lst x)) (fn_congr fun j hj => ?_)
          rw [dwT_s hm0]
          by_cases e : j = t / m
          · rw [if_pos e, ledD_s, if_pos hh, e, dwT_at]
          · rw [if_neg e]
      · rw [if_pos (by simp)]
        have hh : ledS r m (t % m) (t / m) = false := by rw [hS]; rfl
        walk_at "go"
        refine st_ixL b1 f1 ?_
        walk_at "go"
        refine st_ixL b2 f2 ?_
        walk_at "go"
        refine st_setL b1 x1 ?_
        walk_at "go"
        have b2' : (upd H4 A1 (.lst (((List.range m).map fun i => nV (acT r m t i)).set (t % m) (nV (dwT r m t (t / m)))))) B1 = _ := (upd_ne qBA).trans b2
        refine st_setL b2' x2 ?_
        refine ⟨(e3.mut nA).mut nB0, ?_, ?_, _, _, _, _, _, _, rfl⟩
        · rw [upd_ne qAB, upd_same, fn_set]
          refine congrArg (fun x => some (HO.lst x)) (fn_congr fun i hi => ?_)
          rw [acT_s hi]
          by_cases e : i = t % m
          · rw [if_pos e, if_pos e, ledA_s, if_neg (by rw [hh]; decide), dwT_at]
          · rw [if_neg e, if_neg e]
        · rw [upd_same, fn_set]
          refine congrArg (fun x => some (HO.lst x)) (fn_congr fun j hj => ?_)
          rw [dwT_s hm0]
          by_cases e : j = t / m
          · rw [if_pos e, if_pos e, ledD_s, if_neg (by rw [hh]; decide), acT_at]
          · rw [if_neg e, if_neg e]
    · rintro σ H3 ⟨e3, b1, b2, a5, a6, a7, a8, a9, a10, rfl⟩
      have b1' : m = 0 ∨ H3 A1 = some (.lst ((List.range m).map fun i => nV (ledA r m i n))) := by
        by_cases z : m = 0
        · exact .inl z
        · right
          rw [b1]
          refine congrArg (fun x => some (HO.lst x)) (fn_congr fun i hi => ?_)
          unfold acT
          rw [Nat.mul_div_cancel_left _ (by omega), Nat.mul_mod_right, if_neg (Nat.not_lt_zero _)]
          rfl
      have c1 : H3 A1 = some (.lst ((List.range m).map fun i => nV (ledA r m i n))) := by
        rcases b1' with z | z
        · rw [b1, z]; rfl
        · exact z
      have c2 : H3 B1 = some (.lst ((List.range n).map fun j => nV (ledD r m m j))) := by
        rw [b2]
        refine congrArg (fun x => some (HO.lst x)) (fn_congr fun j hj => ?_)
        unfold dwT
        by_cases z : m = 0
        · subst z
          rw [Nat.zero_mul, Nat.zero_div, Nat.zero_mod, if_neg (Nat.not_lt_zero _), ite_self]
        · rw [Nat.mul_div_cancel_left _ (by omega), if_pos hj]
      clear b1 b2 b1' vA vA2 vA0 vB0 vB
      walk_at "go"
      rw [show ((m : Int) + (n : Int)).toNat = m + n by omega]
      refine lc_map (rv_range 0 (m + n)) (fun _ _ => trivial) (by rw [List.length_range]; omega) (fun (_ : Nat) => V.int 0) ?_ ?_
      · intro i H' hi e B h1
        refine ⟨rfl, ?_⟩
        have h1' := h1 _ (Fr.refl _)
        walk_at "go"
        exact h1'
      intro q H6 nq e6 v6
      have v6' : H6 q = some (.lst ((List.replicate (m + n) 0).map nV)) := by
        rw [v6, List.map_const', List.length_range, List.map_replicate]
        rfl
      have le := ledE_len r m n
      have hT := ledE_T r m n
      have qd : q ≠ B1 := (ne_of_none c2 nq).symm
      have qr : q ≠ A1 := (ne_of_none c1 nq).symm
      have d6 := e6.get c2
      have r6 := e6.get c1
      have nq0 := Ex.free e3 nq
      have e06 := e3.trans e6
      clear v6 c1 c2 e6
      walk_at "go"
      rw [Int.toNat_natCast]
      have step : ∀ (ws : List Nat) (P : Nat → Prop) (e : Nat), ws.length = m + n → e < m + n → (∀ x, P x → x < m + n) → (∀ x, P x → gT ws (gT (ledE r m n) x) = x) → ∀ x, (P x ∨ x = e) → gT (ws.set (gT (ledE r m n) e) e) (gT (ledE r m n) x) = x := by
        intro ws P e hw he hP h x hx
        have hlt := hT.g_lt (i := e) (by omega)
        rw [gT_set (by omega)]
        by_cases z : gT (ledE r m n) x = gT (ledE r m n) e
        · rw [if_pos z]
          refine (hT.inj ?_ (by omega) z).symm
          rcases hx with hx | hx
          · have := hP x hx; omega
          · omega
        · rw [if_neg z]
          rcases hx with hx | hx
          · exact h x hx
          · exact absurd (by rw [hx]) z
      refine for_runs (runs_range 0 n) (fun e σ H' => FrP q H6 H' ∧ (∃ ws : List Nat, ws.length = m + n ∧ (∀ x, x < e → gT ws (gT (ledE r m n) x) = x) ∧ H' q = some (.lst (ws.map nV))) ∧ ∃ y, σ = [some (.int (m : Nat)), some (.int (n : Nat)), some (.ref C), some (.ref A1), some (.ref B1), a5, a6, y, a8, some (.ref q), a10]) ⟨Fr.refl _, ⟨_, List.length_replicate, fun x h => absurd h (Nat.not_lt_zero _), v6'⟩, _, rfl⟩ (fun _ _ _ _ _ => trivial) ?_ ?_
      · rintro e x σ H7 H8 he ⟨f7, ⟨us, h1, h2, h3⟩, y, rfl⟩ ⟨rfl, rfl⟩
        have d8 := f7.get (fun z => qd z.symm) d6
        have g1 : atI ((List.range n).map fun j => nV (ledD r m m j)) (e : Int) = some (nV (ledD r m m e)) := fn_at he
        have hE : gT (ledE r m n) e = ledD r m m e := ledE_dn he
        have hlt := hT.g_lt (i := e) (by omega)
        rw [Int.zero_add]
        walk_at "go"
        refine st_ixL d8 g1 ?_
        walk_at "go"
        refine st_setL (j := ledD r m m e) h3 (Evl.ixN_nat (by rw [List.length_map]; omega)) ?_
        refine ⟨f7.trans FrP.at, ⟨us.set (ledD r m m e) e, by rw [List.length_set]; exact h1, fun x hx => ?_, ?_⟩, _, rfl⟩
        · rw [← hE]
          exact step us (fun x => x < e) e h1 (by omega) (fun x h => by omega) h2 x (by omega)
        · rw [upd_same, List.map_set]
          rfl
      · rintro σ H7 ⟨f7, ⟨us, h1, h2, h3⟩, y, rfl⟩
        walk_at "go"
        rw [Int.toNat_natCast]
        refine for_runs (runs_range 0 m) (fun i σ H' => FrP q H6 H' ∧ (∃ ws : List Nat, ws.length = m + n ∧ (∀ x, (x < n ∨ (n + m ≤ x + i ∧ x < n + m)) → gT ws (gT (ledE r m n) x) = x) ∧ H' q = some (.lst (ws.map nV))) ∧ ∃ y8 y, σ = [some (.int (m : Nat)), some (.int (n : Nat)), some (.ref C), some (.ref A1), some (.ref B1), a5, y8, y, a8, some (.ref q), a10]) ⟨f7, ⟨us, h1, fun x h => h2 x (by omega), h3⟩, _, _, rfl⟩ (fun _ _ _ _ _ => trivial) ?_ ?_
        · rintro i x σ H8 H9 hi ⟨f8, ⟨us, h1, h2, h3⟩, y8, y, rfl⟩ ⟨rfl, rfl⟩
          have r8 := f8.get (fun z => qr z.symm) r6
          have g1 : atI ((List.range m).map fun i => nV (ledA r m i n)) (i : Int) = some (nV (ledA r m i n)) := fn_at hi
          have hE : gT (ledE r m n) (n + (m - 1 - i)) = ledA r m i n := by
            rw [ledE_ri (by omega), show m - 1 - (m - 1 - i) = i by omega]
          have hlt := hT.g_lt (i := n + (m - 1 - i)) (by omega)
          rw [Int.zero_add]
          walk_at "go"
          rw [show (n : Int) + (m : Int) - 1 - (i : Int) = ((n + (m - 1 - i) : Nat) : Int) by omega]
          refine st_ixL r8 g1 ?_
          walk_at "go"
          refine st_setL (j := ledA r m i n) h3 (Evl.ixN_nat (by rw [List.length_map]; omega)) ?_
          refine ⟨f8.trans FrP.at, ⟨us.set (ledA r m i n) (n + (m - 1 - i)), by rw [List.length_set]; exact h1, fun x hx => ?_, ?_⟩, _, _, rfl⟩
          · rw [← hE]
            exact step us (fun x => x < n ∨ (n + m ≤ x + i ∧ x < n + m)) (n + (m - 1 - i)) h1 (by omega) (fun x h => by omega) h2 x (by omega)
          · rw [upd_same, List.map_set]
            rfl
        · rintro σ H8 ⟨f8, ⟨us, h1, h2, h3⟩, y8, y, rfl⟩
          have this : us = invT (ledE r m n) := gT_ext (by rw [invT_len, h1, le]) fun v hv => by
            rw [h1] at hv
            rw [invT_g (by omega)]
            have := h2 ((ledE r m n).idxOf v) (by have := hT.idx_lt (v := v) (by omega); omega)
            rwa [hT.g_idx (by omega)] at this
          have eF : Ex H H8 := Ex.comp (M := fun b => b = q) e06 f8 fun b hb => by rw [hb]; exact nq0
          walk_at "go"
          exact k q H8 eF nq0 (by rw [h3, this])
/-- the lines at the cut ahead of the cell (i, j) -/
def cutB (r : Nat → Nat → Nat → Nat → Bool) (m n i j : Nat) : List Nat := ((List.range j).map (ledD r m (i + 1)) ++ [ledA r m i j]) ++ ((List.range (n - j)).map (fun c => ledD r m i (j + c)) ++ ((List.range i).map (fun i => ledA r m i n) ++ List.range (m - 1 - i)))
theorem cutB_perm (r : Nat → Nat → Nat → Nat → Bool) {m n i j : Nat} (hi : i < m) (hj : j ≤ n) : (cutB r m n i j).Perm (List.range (m + n)) := by
  refine List.Perm.trans ?_ (led_perm r m n i (by omega))
  unfold cutB
  refine ((led_row r m i j).append_right _).trans ?_
  have e1 : (List.range n).map (ledD r m i) = (List.range j).map (ledD r m i) ++ (List.range (n - j)).map (fun c => ledD r m i (j + c)) := by
    rw [show n = j + (n - j) by omega, List.range_add, List.map_append, List.map_map, Nat.add_sub_cancel_left]
    rfl
  have e2 : List.range (m - i) = List.range (m - 1 - i) ++ [m - 1 - i] := by rw [show m - i = (m - 1 - i) + 1 by omega, List.range_succ]
  rw [e1, e2]
  have h1 : ((m - 1 - i) :: (List.range j).map (ledD r m i) ++ ((List.range (n - j)).map (fun c => ledD r m i (j + c)) ++ ((List.range i).map (fun i => ledA r m i n) ++ List.range (m - 1 - i)))).Perm (((List.range j).map (ledD r m i) ++ ((List.range (n - j)).map (fun c => ledD r m i (j + c)) ++ ((List.range i).map (fun i => ledA r m i n) ++ List.range (m - 1 - i)))) ++ [m - 1 - i]) := by
    rw [List.cons_append]
    exact (List.perm_append_singleton _ _).symm
  refine h1.trans (.of_eq ?_)
  simp only [List.append_assoc]
theorem cutB_nodup (r : Nat → Nat → Nat → Nat → Bool) {m n i j : Nat} (hi : i < m) (hj : j ≤ n) : (cutB r m n i j).Nodup := (cutB_perm r hi hj).symm.nodup List.nodup_range
section
variable {r : Nat → Nat → Nat → Nat → Bool} {m n i j : Nat}
theorem cut_here (hi : i < m) (hj : j ≤ n) : ∀ d, j ≤ d → d < n → ledA r m i j ≠ ledD r m i d := by
  have h := cutB_nodup r hi hj
  unfold cutB at h
  obtain ⟨h1, h2, h3⟩ := List.nodup_append.mp h
  intro d hd hdn
  exact h3 _ (List.mem_append_right _ (List.mem_singleton.mpr rfl)) _ (List.mem_append_left _ (List.mem_map.mpr ⟨d - j, List.mem_range.mpr (by omega), by rw [show j + (d - j) = d by omega]⟩))
end
def sp__law_of_rows : Sp := fun vs H Q _ => ∃ (s t : Str), vs = [.str s, .str t] ∧ s.length ≤ 48 ∧ t.length ≤ 48 ∧ ∀ C H', Ex H H' → H C = none → H' C = some (.lst ((brdC s t).map V.str)) → Q (.ref C) H'
theorem bR_two34 {s t : List Nat} {i j a b : Nat} (h : a ≠ b) : (decide (s[i]? = t[j]?) || decide ((b : Int) < (a : Int))) = !bR s t i j a b := by
  by_cases e : s[i]? = t[j]?
  · rw [bR_same e, decide_eq_true e]
    rfl
  · rw [bR_else e, decide_eq_false e, Bool.false_or]
    by_cases l : a < b
    · rw [decide_eq_true l, decide_eq_false (by omega)]
      rfl
    · rw [decide_eq_false l, decide_eq_true (by omega)]
      rfl
theorem ok__law_of_rows (T : Tx K mg ad fd tk base tc) : FnOk P w K mg base CX0 1 (ad 16) (fd 16) ["_law_side", "_law_top"] sp__law_of_rows := by
  refine T.d__law_of_rows.F.ok sc__law_of_rows (fun vs H Q E h => ?_) (fun cdv A outer s H vs Q E hr h => ?_)
  · obtain ⟨s, t, rfl, _⟩ := h
    rfl
  · obtain ⟨s, t, rfl, hs, ht, k⟩ := h
    refine ⟨_, (pss_cons (ps_setLc (i := 2) (own := [("_law_i", 5)]) (g := gName 5) rfl sc__law_of_rows.nd rfl rfl (sw_true rfl rfl rfl (by decide +kernel)) (pi_range1 rfl T.b_range (pa_cons (pe_callB (c_len (K := K)) (by rfl) T.b_len (by decide +kernel) (pa_cons (pv 0) pa_nil)) pa_nil)) (blkOk_by (own := [("_law_i", 5)]) (N := N__law_of_rows) (sc := defScope s__law_of_rows) (by decide +kernel)) (fun _ _ _ _ _ => pg_name (i := 5) sc__law_of_rows.nd rfl (Or.inl rfl)) (fun _ _ _ _ _ => pts_nil) (fun _ _ _ _ _ => (pe_op o_sub (pe_op o_sub (pe_callB (c_len (K := K)) (by rfl) T.b_len (by decide +kernel) (pa_cons (pv 0) pa_nil)) pe_int) (pv 5))))
      (pss_cons (ps_setLc (i := 3) (own := [("_law_j", 7)]) (g := gName 7) rfl sc__law_of_rows.nd rfl rfl (sw_true rfl rfl rfl (by decide +kernel)) (pi_range1 rfl T.b_range (pa_cons (pe_callB (c_len (K := K)) (by rfl) T.b_len (by decide +kernel) (pa_cons (pv 1) pa_nil)) pa_nil)) (blkOk_by (own := [("_law_j", 7)]) (N := N__law_of_rows) (sc := defScope s__law_of_rows) (by decide +kernel)) (fun _ _ _ _ _ => pg_name (i := 7) sc__law_of_rows.nd rfl (Or.inl rfl)) (fun _ _ _ _ _ => pts_nil) (fun _ _ _ _ _ => (pe_op o_add (pe_callB (c_len (K := K)) (by rfl) T.b_len (by decide +kernel) (pa_cons (pv 0) pa_nil)) (pv 7))))
      (pss_cons (ps_set (i := 4) sc__law_of_rows.nd rfl (Or.inl rfl) (pe_lst pa_nil))
      (pss_cons (ps_for PassesOwn.never rfl (pi_range1 rfl T.b_range (pa_cons (pe_callB (c_len (K := K)) (by rfl) T.b_len (by decide +kernel) (pa_cons (pv 0) pa_nil)) pa_nil)) (pg_name (i := 5) sc__law_of_rows.nd rfl (Or.inl rfl)) (pss_cons (ps_set (i := 6) sc__law_of_rows.nd rfl (Or.inl rfl) pe_str)
      (pss_cons (ps_for PassesOwn.never rfl (pi_range1 rfl T.b_range (pa_cons (pe_callB (c_len (K := K)) (by rfl) T.b_len (by decide +kernel) (pa_cons (pv 1) pa_nil)) pa_nil)) (pg_name (i := 7) sc__law_of_rows.nd rfl (Or.inl rfl)) (pss_one (ps_if (PW.pt (pw_or (pt_cmpR (o_eq hr.units) (pe_ix (i_ix (K := K)) (pv 0) (pv 5) (fun _ _ => rfl)) (pe_ix (i_ix (K := K)) (pv 1) (pv 7) (fun _ _ => rfl)) (nomark _)) (pw_or1 (pt_cmpR o_gt (pe_ix (i_ix (K := K)) (pv 2) (pv 5) (fun _ _ => rfl)) (pe_ix (i_ix (K := K)) (pv 3) (pv 7) (fun _ _ => rfl)) (nomark _))))) (pss_cons (ps_set (i := 6) sc__law_of_rows.nd rfl (Or.inl rfl) (pe_op o_add (pv 6) pe_str))
      (pss_cons (ps_set (i := 8) sc__law_of_rows.nd rfl (Or.inl rfl) (pe_ix (i_ix (K := K)) (pv 2) (pv 5) (fun _ _ => rfl)))
      (pss_cons (ps_asg (pe_ix (i_ix (K := K)) (pv 3) (pv 7) (fun _ _ => rfl)) (pg_sub (pv 2) (pv 5) set_list))
      (pss_one (ps_asg (pv 8) (pg_sub (pv 3) (pv 7) set_list)))))) (pss_one (ps_set (i := 6) sc__law_of_rows.nd rfl (Or.inl rfl) (pe_op o_add (pv 6) pe_str))))))
      (pss_one (ps_expr (pe_bm PySem.F.plainAttrs_list PySem.F.slot_list_append PySem.F.type_list_append mt_append (pv 4) (pa_cons (pv 6) pa_nil)))))))
      (pss_one (ps_ret (pv 4))))))), ?_⟩
    have hsl : s.cps.toList.length = s.length := Array.length_toList
    have htl : t.cps.toList.length = t.length := Array.length_toList
    obtain ⟨r, hr2⟩ : ∃ r, r = bR s.cps.toList t.cps.toList := ⟨_, rfl⟩
    obtain ⟨m, hm⟩ : ∃ m, m = s.length := ⟨_, rfl⟩
    obtain ⟨n, hn⟩ : ∃ n, n = t.length := ⟨_, rfl⟩
    walk_at "go"
    rw [← hm, Int.toNat_natCast]
    refine lc_map (rv_range 0 m) (fun _ _ => trivial) (by rw [List.length_range]; omega) (fun i => nV (m - 1 - i)) ?_ ?_
    · intro i H' hi e B h2
      have hi := List.mem_range.mp hi
      refine ⟨rfl, ?_⟩
      have h2' := h2 _ (Fr.refl _)
      walk_at "go"
      rw [← hm, show ((m : Nat) : Int) - 1 - (0 + ((i : Nat) : Int)) = ((m - 1 - i : Nat) : Int) by omega]
      exact h2'
    intro A1 H1 nA e1 vA
    walk_at "go"
    rw [← hn, Int.toNat_natCast]
    refine lc_map (rv_range 0 n) (fun _ _ => trivial) (by rw [List.length_range]; omega) (fun j => nV (m + j)) ?_ ?_
    · intro i H' hi e B h2
      refine ⟨rfl, ?_⟩
      have h2' := h2 _ (Fr.refl _)
      walk_at "go"
      rw [← hm, show ((m : Nat) : Int) + (0 + ((i : Nat) : Int)) = ((m + i : Nat) : Int) by omega]
      exact h2'
    intro B1 H2 nB e2 vB
    walk_at "go"
    rename_i ce G3 n3 e3 v3
    have qAB : A1 ≠ B1 := ne_of_none vA nB
    have qBA := qAB.symm
    have qAc : A1 ≠ ce := ne_of_none (e2.get vA) n3
    have qBc : B1 ≠ ce := ne_of_none vB n3
    have qcA := qAc.symm
    have qcB := qBc.symm
    have nB0 := Ex.free e1 nB
    have nc0 := Ex.free (e1.trans e2) n3
    have e03 := (e1.trans e2).trans e3
    have vA0 : G3 A1 = some (.lst ((List.range m).map fun c => nV (if c < 0 then ledA r m c n else ledA r m c 0))) := (e2.trans e3).get vA
    have vB0 : G3 B1 = some (.lst ((List.range n).map fun j => nV (ledD r m 0 j))) := e3.get vB
    clear vA vB e1 e2 e3 nB n3
    rw [← hm, Int.toNat_natCast]
    refine for_runs (runs_range 0 m) (fun i σ H' => Ex H H' ∧ H' A1 = some (.lst ((List.range m).map fun c => nV (if c < i then ledA r m c n else ledA r m c 0))) ∧ H' B1 = some (.lst ((List.range n).map fun j => nV (ledD r m i j))) ∧ H' ce = some (.lst ((List.range i).map fun i => V.str (sgT r m n i))) ∧ ∃ a5 a6 a7 a8, σ = [some (.str s), some (.str t), some (.ref A1), some (.ref B1), some (.ref ce), a5, a6, a7, a8]) ⟨e03, vA0, vB0, v3, _, _, _, _, rfl⟩ (fun _ _ _ _ _ => trivial) ?_ ?_
    · rintro i x σ H5 H6 hi ⟨e5, b1, b2, b3, a5, a6, a7, a8, rfl⟩ ⟨rfl, rfl⟩
      walk_at "go"
      have b1' : H6 A1 = some (.lst ((List.range m).map fun c => nV (if c = i then ledA r m i 0 else if c < i then ledA r m c n else ledA r m c 0))) := by
        rw [b1]
        refine congrArg (fun x => some (HO.lst x)) (fn_congr fun c hc => ?_)
        by_cases e : c = i
        · rw [if_pos e, e, if_neg (Nat.lt_irrefl _)]
        · rw [if_neg e]
      have b2' : H6 B1 = some (.lst ((List.range n).map fun c => nV (if c < 0 then ledD r m (i + 1) c else ledD r m i c))) := b2
      rw [Int.zero_add, show (Str.ofString "") = tx [] from tx_nil, ← hn, Int.toNat_natCast]
      refine for_runs (runs_range 0 n) (fun j σ H' => Ex H H' ∧ H' A1 = some (.lst ((List.range m).map fun c => nV (if c = i then ledA r m i j else if c < i then ledA r m c n else ledA r m c 0))) ∧ H' B1 = some (.lst ((List.range n).map fun c => nV (if c < j then ledD r m (i + 1) c else ledD r m i c))) ∧ H' ce = some (.lst ((List.range i).map fun i => V.str (sgT r m n i))) ∧ ∃ a7 a8, σ = [some (.str s), some (.str t), some (.ref A1), some (.ref B1), some (.ref ce), some (.int (i : Nat)), some (.str (tx ((List.range j).map fun j => if ledS r m i j = true then 120 else 111))), a7, a8]) ⟨e5, b1', b2', b3, _, _, rfl⟩ (fun _ _ _ _ _ => trivial) ?_ ?_
      · rintro j x σ H7 H8 hj ⟨e8, d1, d2, d3, a7, a8, rfl⟩ ⟨rfl, rfl⟩
        have g1 : atI ((List.range m).map fun c => nV (if c = i then ledA r m i j else if c < i then ledA r m c n else ledA r m c 0)) (i : Int) = some (nV (ledA r m i j)) := by
          rw [fn_at (f := fun c => nV (if c = i then ledA r m i j else if c < i then ledA r m c n else ledA r m c 0)) hi, if_pos rfl]
        have g2 : atI ((List.range n).map fun c => nV (if c < j then ledD r m (i + 1) c else ledD r m i c)) (j : Int) = some (nV (ledD r m i j)) := by
          rw [fn_at (f := fun c => nV (if c < j then ledD r m (i + 1) c else ledD r m i c)) hj, if_neg (Nat.lt_irrefl _)]
        have y1 : ixN ((List.range m).map fun c => nV (if c = i then ledA r m i j else if c < i then ledA r m c n else ledA r m c 0)).length (i : Nat) = some i := fn_ix hi
        have y2 : ixN ((List.range n).map fun c => nV (if c < j then ledD r m (i + 1) c else ledD r m i c)).length (j : Nat) = some j := fn_ix hj
        have g3 := List.getElem?_eq_getElem (l := s.cps.toList) (i := i) (by omega)
        have g4 := List.getElem?_eq_getElem (l := t.cps.toList) (i := j) (by omega)
        have hlr : (List.range j).length = j := List.length_range
        have et : ∀ z : Nat, z = (if ledS r m i j = true then 120 else 111) → tx ((List.range j).map fun j => if ledS r m i j = true then 120 else 111) ++ tx [z] = tx ((List.range (j + 1)).map fun j => if ledS r m i j = true then 120 else 111) := fun z hz => by
          rw [tx_append, List.range_succ, List.map_append, hz]
          rfl
        have eu : (List.range m).map (fun c => nV (if c = i then ledA r m i (j + 1) else if c < i then ledA r m c n else ledA r m c 0)) = ((List.range m).map fun c => nV (if c = i then ledA r m i j else if c < i then ledA r m c n else ledA r m c 0)).set i (nV (ledA r m i (j + 1))) := by
          rw [fn_set]
          refine fn_congr fun c hc => ?_
          by_cases z : c = i
          · rw [if_pos z, if_pos z]
          · rw [if_neg z, if_neg z, if_neg z]
        have ew : (List.range n).map (fun c => nV (if c < j + 1 then ledD r m (i + 1) c else ledD r m i c)) = ((List.range n).map fun c => nV (if c < j then ledD r m (i + 1) c else ledD r m i c)).set j (nV (ledD r m (i + 1) j)) := by
          rw [fn_set]
          refine fn_congr fun c hc => ?_
          by_cases z : c = j
          · subst z
            rw [if_pos rfl, if_pos (by omega)]
          · rw [if_neg z]
            by_cases u : c < j
            · rw [if_pos u, if_pos (by omega)]
            · rw [if_neg u, if_neg (by omega)]
        have hab : ledA r m i j ≠ ledD r m i j := cut_here (r := r) (m := m) (n := n) hi (j := j) (by omega) j (Nat.le_refl _) hj
        have two := bR_two34 (s := s.cps.toList) (t := t.cps.toList) (i := i) (j := j) hab
        rw [g3, g4] at two
        have tl : ∀ z, (tx ((List.range j).map fun j => if ledS r m i j = true then 120 else 111) ++ tx [z]).length ≤ 16777216 := fun z => by
          rw [tx_append, tx_length, List.length_append, List.length_map, List.length_range]
          show j + 1 ≤ 16777216
          omega
        have turn : ledS r m i j = false → ∀ (Q2 : Hp → Prop), (∀ H', Ex H H' → H' A1 = some (.lst ((List.range m).map fun c => nV (if c = i then ledA r m i (j + 1) else if c < i then ledA r m c n else ledA r m c 0))) → H' B1 = some (.lst ((List.range n).map fun c => nV (if c < j + 1 then ledD r m (i + 1) c else ledD r m i c))) → H' ce = some (.lst ((List.range i).map fun i => V.str (sgT r m n i))) → Q2 H') → Q2 (upd (upd H8 A1 (.lst (((List.range m).map fun c => nV (if c = i then ledA r m i j else if c < i then ledA r m c n else ledA r m c 0)).set i (nV (ledD r m i j))))) B1 (.lst (((List.range n).map fun c => nV (if c < j then ledD r m (i + 1) c else ledD r m i c)).set j (nV (ledA r m i j))))) := by
          intro hh Q2 q
          have ea2 : ledA r m i (j + 1) = ledD r m i j := by rw [ledA_s, if_neg (by rw [hh]; decide)]
          have ed2 : ledD r m (i + 1) j = ledA r m i j := by rw [ledD_s, if_neg (by rw [hh]; decide)]
          refine q _ ((e8.mut nA).mut nB0) ?_ ?_ ?_
          · rw [upd_ne qAB, upd_same, eu, ea2]
          · rw [upd_same, ew, ed2]
          · rw [upd_ne qcB, upd_ne qcA, d3]
        rw [show (Str.ofString "o") = tx [111] from by decide +kernel, show (Str.ofString "x") = tx [120] from by decide +kernel, Int.zero_add]
        walk_at "go"
        refine st_sign (by omega) (at_nat g3) ?_
        walk_at "go"
        refine st_sign (by omega) (at_nat g4) ?_
        walk_at "go"
        by_cases he : s.cps.toList[i]'(by omega) = t.cps.toList[j]'(by omega)
        · rw [if_pos (by rw [he]; simp), if_pos rfl]
          rw [he, decide_eq_true rfl, Bool.true_or] at two
          have hh : ledS r m i j = false := by
            unfold ledS; rw [hr2] at two ⊢; simpa using two.symm
          walk_at "go"
          refine st_ixL d1 g1 ?_
          walk_at "go"
          refine st_ixL d2 g2 ?_
          walk_at "go"
          refine st_setL d1 y1 ?_
          walk_at "go"
          refine st_setL ((upd_ne qBA).trans d2) y2 ?_
          rw [et 111 (by rw [if_neg (by rw [hh]; decide)])]
          exact turn hh _ fun H' p1 p2 p3 p4 => ⟨p1, p2, p3, p4, _, _, rfl⟩
        · rw [if_neg (by simpa [tx_inj] using he)]
          rw [decide_eq_false (fun z => he (Option.some.inj z)), Bool.false_or] at two
          walk_at "go"
          refine st_ixL d1 g1 ?_
          walk_at "go"
          refine st_ixL d2 g2 ?_
          rw [show nV (ledA r m i j) = V.int ((ledA r m i j : Nat) : Int) from rfl, show nV (ledD r m i j) = V.int ((ledD r m i j : Nat) : Int) from rfl]
          walk_at "go"
          by_cases hl : ((ledD r m i j : Nat) : Int) < ((ledA r m i j : Nat) : Int)
          · rw [if_pos (by simpa using hl)]
            rw [decide_eq_true hl] at two
            have hh : ledS r m i j = false := by
              unfold ledS; rw [hr2] at two ⊢; simpa using two.symm
            walk_at "go"
            refine st_ixL d1 g1 ?_
            walk_at "go"
            refine st_ixL d2 g2 ?_
            walk_at "go"
            refine st_setL d1 y1 ?_
            walk_at "go"
            refine st_setL ((upd_ne qBA).trans d2) y2 ?_
            rw [et 111 (by rw [if_neg (by rw [hh]; decide)])]
            exact turn hh _ fun H' p1 p2 p3 p4 => ⟨p1, p2, p3, p4, _, _, rfl⟩
          · rw [if_neg (by simpa using hl)]
            rw [decide_eq_false hl] at two
            have hh : ledS r m i j = true := by
              unfold ledS
              rw [hr2] at two ⊢
              simpa using two.symm
            have ea2 : ledA r m i (j + 1) = ledA r m i j := by rw [ledA_s, if_pos hh]
            walk_at "go"
            rw [et 120 (by rw [if_pos hh])]
            refine ⟨e8, ?_, ?_, d3, _, _, rfl⟩
            · rw [d1, ea2]
            · rw [ew, d2, ledD_s, if_pos hh]
              congr 1
              rw [fn_set]
              exact congrArg HO.lst (fn_congr fun c hc => (by
                by_cases z : c = j
                · rw [if_pos z, if_neg (by omega), z]
                · rw [if_neg z]))
      · rintro σ H7 ⟨e7, d1, d2, d3, a7, a8, rfl⟩
        walk_at "go"
        refine st_app d3 (by rw [List.length_map, List.length_range]; omega) ?_
        refine ⟨e7.mut nc0, ?_, ?_, ?_, _, _, _, _, rfl⟩
        · rw [upd_ne qAc, d1]
          refine congrArg (fun x => some (HO.lst x)) (fn_congr fun c hc => ?_)
          by_cases e : c = i
          · rw [if_pos e, if_pos (by omega), e]
          · rw [if_neg e]
            by_cases l : c < i
            · rw [if_pos l, if_pos (by omega)]
            · rw [if_neg l, if_neg (by omega)]
        · rw [upd_ne qBc, d2]
          exact congrArg (fun x => some (HO.lst x)) (fn_congr fun c hc => by rw [if_pos hc])
        · rw [upd_same, List.range_succ, List.map_append]; rfl
    · rintro σ H5 ⟨e5, b1, b2, b3, a5, a6, a7, a8, rfl⟩
      walk_at "go"
      refine k ce H5 e5 nc0 ?_
      rw [b3]
      unfold brdC
      rw [List.map_map, hr2, hm, hn]
      rfl
def DOk (d : PyData) : Prop := (d.hasDict = true → d = .dict []) ∧ d.depth ≤ 40
/-- what is no cells -/
def BadC (d : PyData) (m n : Nat) : Prop := ¬ CelD d m n ∧ ShortD d ∧ DOk d
/-- what may stand within -/
def ElC (d : PyData) : Prop := d.hasDict = false ∧ d.depth ≤ 9 ∧ ∀ z, d = .str z → z.length ≤ 1000
theorem elS {z : Str} (h : z.length ≤ 1000) : ElC (.str z) := ⟨rfl, by simp [PyData.depth], fun y e => by cases e; exact h⟩
theorem elS_all {cs : List Str} (h : ∀ z ∈ cs, z.length ≤ 1000) : ∀ d ∈ cs.map PyData.str, ElC d := fun d hd => by
  obtain ⟨z, hz, rfl⟩ := List.mem_map.mp hd
  exact elS (h z hz)
theorem rnStrs {H : Hp} : ∀ cs : List Str, RnA H (cs.map V.str) (cs.map PyData.str)
  | [] => .nil
  | _ :: r => .cons (.str _) (rnStrs r)
theorem rnA_app {H : Hp} : ∀ {a b : List V} {x y : List PyData}, RnA H a x → RnA H b y → RnA H (a ++ b) (x ++ y)
  | _, _, _, _, .nil, h => h
  | _, _, _, _, .cons h1 h2, h => .cons h1 (rnA_app h2 h)
theorem el_depth {ds : List PyData} (h : ∀ d ∈ ds, ElC d) : PyData.depthAll ds ≤ 9 := by
  have := depth_map (enc := fun d : PyData => d) (xs := ds) (n := 9) fun d hd => (h d hd).2.1
  rwa [List.map_id'] at this
theorem el_nd {ds : List PyData} (h : ∀ d ∈ ds, ElC d) : PyData.hasDictAll ds = false := hasDictA_of fun d hd => (h d hd).1
theorem dok_list {ds : List PyData} (h : ∀ d ∈ ds, ElC d) : DOk (.list ds) := by
  have h1 := el_nd h
  have h2 := el_depth h
  refine ⟨fun q => ?_, ?_⟩
  · simp only [PyData.hasDict] at q
    rw [h1] at q
    cases q
  · simp only [PyData.depth]
    omega
theorem dok_tup {ds : List PyData} (h : ∀ d ∈ ds, ElC d) : DOk (.tuple ds) := by
  have h1 := el_nd h
  have h2 := el_depth h
  refine ⟨fun q => ?_, ?_⟩
  · simp only [PyData.hasDict] at q
    rw [h1] at q
    cases q
  · simp only [PyData.depth]
    omega
theorem sh_list {ds : List PyData} (h : ∀ d ∈ ds, ElC d) : ShortD (.list ds) := fun es z e hz => by
  injection e with e
  subst e
  exact (h _ hz).2.2 z rfl
theorem bad_len {ds : List PyData} {m n : Nat} (h : ∀ d ∈ ds, ElC d) (hl : ds.length ≠ m) : BadC (.list ds) m n := ⟨fun ⟨cs, h1, h2, _⟩ => by
  injection h1 with h1
  rw [h1, List.length_map] at hl
  exact (hl h2).elim, sh_list h, dok_list h⟩
theorem bad_at {ds : List PyData} {m n i : Nat} {d : PyData} (h : ∀ d ∈ ds, ElC d) (hi : ds[i]? = some d) (hd : ∀ z, d = .str z → ¬ GoodT n z) : BadC (.list ds) m n := ⟨fun ⟨cs, h1, _, h3⟩ => by
  injection h1 with h1
  subst h1
  rw [List.getElem?_map] at hi
  obtain ⟨z, hz, rfl⟩ := Option.map_eq_some_iff.mp hi
  exact hd z rfl (h3 z (List.mem_of_getElem? hz)), sh_list h, dok_list h⟩
theorem bad_no {d : PyData} {m n : Nat} (h : isListD d = false) (hd : DOk d) : BadC d m n := by
  refine ⟨?_, ?_, hd⟩
  · rintro ⟨cs, h1, _⟩
    rw [h1] at h; cases h
  · intro ds z e _
    rw [e] at h; cases h
/-- what is no list is not like one -/
theorem eqv_cel {d : PyData} {cs : List Str} {m n : Nat} (h : PyData.eqv d (.list (cs.map PyData.str)) = true) (hl : cs.length = m) (hg : ∀ z ∈ cs, GoodT n z) : CelD d m n := by
  cases d with
  | list ds => exact ⟨cs, by rw [strs_eqv ds cs h], hl, hg⟩
  | _ => simp [PyData.eqv] at h
theorem sl_app (a b : Str) : (a ++ b).length = a.length + b.length := Array.size_append
theorem cps_app (a b : Str) : (a ++ b).cps.toList = a.cps.toList ++ b.cps.toList := Array.toList_append
theorem not_good {y : Str} {n j c : Nat} (h : y.cps.toList[j]? = some c) (h1 : c ≠ 120) (h2 : c ≠ 111) : ¬ GoodT n y := fun g => by
  rcases g.2 c (List.mem_of_getElem? h) with e | e
  · exact h1 e
  · exact h2 e
theorem cut_m1 (z : Str) (h : 0 < z.length) : (cutS z none (some (-1))).length = z.length - 1 := by
  rw [← lenStr, cutS_list, show HT.sIx z.length 0 none = 0 from rfl, show HT.sIx z.length z.length (some (-1)) = z.length - 1 from ?_, List.length_take, List.length_drop, lenStr]
  · omega
  · show (if (-1 : Int) < 0 then ((-1 : Int) + (z.length : Int)).toNat else min (-1 : Int).toNat z.length) = z.length - 1
    rw [if_pos (by decide)]
    omega
def sp__law_spoiled : Sp := fun vs H Q _ => ∃ (C : Addr) (n w : Nat) (at_ : Int) (cs : List Str), vs = [.ref C, .int (n : Nat), .int (w : Nat), .int at_] ∧ H C = some (.lst (cs.map V.str)) ∧ n ≤ 48 ∧ cs.length ≤ 48 ∧ w < 8 ∧ (∀ z ∈ cs, GoodT n z) ∧ ∀ x d H', Ex H H' → Rn H' x d → BadC d cs.length n → Q x H'
theorem ok__law_spoiled (T : Tx K mg ad fd tk base tc) : FnOk P w K mg base CX0 1 (ad 17) (fd 17) ["_law_cells", "_law_far", "_law_way", "_law_at_here"] sp__law_spoiled := by
  refine T.d__law_spoiled.F.ok sc__law_spoiled (fun vs H Q E h => ?_) (fun cdv A outer s H vs Q E hr h => ?_)
  · obtain ⟨C, n, w, at_, cs, rfl, _⟩ := h
    rfl
  · obtain ⟨C, n, w, at_, cs, rfl, hC, hn, hm, hw, hg, k⟩ := h
    refine ⟨_, (pss_cons (ps_set (i := 4) sc__law_spoiled.nd rfl (Or.inl rfl) (pe_callB (c_len (K := K)) (by rfl) T.b_len (by decide +kernel) (pa_cons (pv 0) pa_nil)))
      (pss_cons (ps_if (pt_cmpR (o_eq hr.units) (pv 2) pe_int (nomark _)) (pss_one (ps_ret (pe_callTy (c_tuple rfl (K := K)) (by rfl) T.b_tuple (by decide +kernel) (pa_cons (pv 0) pa_nil)))) pss_nil)
      (pss_cons (ps_if (pt_cmpR (o_eq hr.units) (pv 2) pe_int (nomark _)) (pss_one (ps_ret (pe_op o_add (pv 0) (pe_lst (pa_cons (pe_op o_mul pe_str (pv 1)) pa_nil))))) pss_nil)
      (pss_cons (ps_if (pt_cmpR (o_eq hr.units) (pv 2) pe_int (nomark _)) (pss_one (ps_ret (pe_ix (i_ix (K := K)) (pe_lst (pa_cons pe_non (pa_cons pe_int (pa_cons pe_str (pa_cons pe_dnewK (pa_cons pe_bl (pa_cons pe_int pa_nil))))))) (pe_op o_mod (pv 3) pe_int) (fun _ _ => rfl)))) pss_nil)
      (pss_cons (ps_if (pt_cmpR (o_eq hr.units) (pv 4) pe_int (nomark _)) (pss_one (ps_ret (pe_lst (pa_cons (pe_lst pa_nil) pa_nil)))) pss_nil)
      (pss_cons (ps_set (i := 5) sc__law_spoiled.nd rfl (Or.inl rfl) (pe_op o_mod (pv 3) (pv 4)))
      (pss_cons (ps_set (i := 6) sc__law_spoiled.nd rfl (Or.inl rfl) (pe_ix (i_ix (K := K)) (pv 0) (pv 5) (fun _ _ => rfl)))
      (pss_cons (ps_if (pt_cmpR (o_eq hr.units) (pv 2) pe_int (nomark _)) (pss_one (ps_ret (pe_op o_add (pe_slice (s_sl (K := K)) (pv 0) po_none (po_some (pv 5))) (pe_slice (s_sl (K := K)) (pv 0) (po_some (pe_op o_add (pv 5) pe_int)) po_none)))) pss_nil)
      (pss_cut (ps_if (pt_cmpR (o_eq hr.units) (pv 2) pe_int (nomark _)) (pss_one (ps_set (i := 6) sc__law_spoiled.nd rfl (Or.inl rfl) (pe_op o_add (pv 6) pe_str))) (pss_one (ps_if (pt_cmpR (o_eq hr.units) (pv 2) pe_int (nomark _)) (pss_one (ps_set (i := 6) sc__law_spoiled.nd rfl (Or.inl rfl) (pe_ix (i_ix (K := K)) (pe_lst (pa_cons (pe_lc (own := [("_law_sign", 8)]) (g := gName 8) rfl sc__law_spoiled.nd (pi_str (pv 6)) (blkOk_by (own := [("_law_sign", 8)]) (N := N__law_spoiled) (sc := defScope s__law_spoiled) (by decide +kernel)) (fun _ _ _ _ _ => pg_name (i := 8) sc__law_spoiled.nd rfl (Or.inl rfl)) (fun _ _ _ _ _ => pts_nil) (fun _ _ _ _ _ => (pv 8))) (pa_cons pe_non (pa_cons (pe_callB (c_len (K := K)) (by rfl) T.b_len (by decide +kernel) (pa_cons (pv 6) pa_nil)) (pa_cons (pe_tup (pa_cons (pv 6) pa_nil)) (pa_cons pe_bl pa_nil)))))) (pe_op o_mod (pe_op o_div (pv 3) (pv 4)) pe_int) (fun _ _ => rfl)))) (pss_one (ps_if (pt_cmpR (o_eq hr.units) (pv 1) pe_int (nomark _)) (pss_one (ps_set (i := 6) sc__law_spoiled.nd rfl (Or.inl rfl) pe_str)) (pss_one (ps_if (pt_cmpR (o_eq hr.units) (pv 2) pe_int (nomark _)) (pss_one (ps_set (i := 6) sc__law_spoiled.nd rfl (Or.inl rfl) (pe_slice (s_sl (K := K)) (pv 6) po_none (po_some (pe_un un_neg pe_int))))) (pss_cons (ps_set (i := 7) sc__law_spoiled.nd rfl (Or.inl rfl) (pe_op o_mod (pe_op o_div (pv 3) (pv 4)) (pv 1)))
      (pss_one (ps_set (i := 6) sc__law_spoiled.nd rfl (Or.inl rfl) (pe_op o_add (pe_op o_add (pe_slice (s_sl (K := K)) (pv 6) po_none (po_some (pv 7))) (pe_ix (i_ix (K := K)) pe_str (pe_op o_mod (pe_op o_div (pv 3) pe_int) pe_int) (fun _ _ => rfl))) (pe_slice (s_sl (K := K)) (pv 6) (po_some (pe_op o_add (pv 7) pe_int)) po_none))))))))))))
      (pss_one (ps_ret (pe_op o_add (pe_op o_add (pe_slice (s_sl (K := K)) (pv 0) po_none (po_some (pv 5))) (pe_lst (pa_cons (pv 6) pa_nil))) (pe_slice (s_sl (K := K)) (pv 0) (po_some (pe_op o_add (pv 5) pe_int)) po_none))))))))))))), ?_⟩
    obtain ⟨m, hml⟩ : ∃ m, m = cs.length := ⟨_, rfl⟩
    rw [← hml] at hm k
    walk_at "go"
    have hll : (cs.map V.str).length = m := by rw [List.length_map, hml]
    rw [hll]
    have hz : ∀ z ∈ cs, z.length ≤ 1000 := fun z h => by rw [(hg z h).1]; omega
    have el := elS_all hz
    refine st_br2 (fun c0 => ?_) (fun c0 => ?_)
    · walk_at "go"
      rename_i q H1 nq e1 v1
      exact k _ (.tuple (cs.map PyData.str)) H1 e1 (.tup v1 (rnStrs cs)) (bad_no rfl (dok_tup el))
    walk_at "go"
    refine st_br2 (fun c1 => ?_) (fun c1 => ?_)
    · walk_at "go"
      have ml := mulS_len (Str.ofString "x") (n : Int)
      rw [show (Str.ofString "x").length = 1 from by decide +kernel, Int.toNat_natCast] at ml
      refine st_mulS (by omega) (by omega) (by rw [show (Str.ofString "x").length = 1 from by decide +kernel, Int.toNat_natCast]; omega) ?_
      generalize Txt.mul (Str.ofString "x") (n : Int) = zz at ml ⊢
      walk_at "go"
      rename_i q H1 nq e1 v1 q2 H2 n2 e2 v2
      refine k _ (.list (cs.map PyData.str ++ [.str zz])) H2 (e1.trans e2) (.lst v2 (rnA_app (rnStrs cs) (.cons (.str _) .nil))) (bad_len (fun d hd => ?_) ?_)
      · rcases List.mem_append.mp hd with h | h
        · exact el d h
        · rw [List.mem_singleton.mp h]
          exact elS (by omega)
      · rw [List.length_append, List.length_map, List.length_singleton, hml]
        omega
    walk_at "go"
    refine st_br2 (fun c2 => ?_) (fun c2 => ?_)
    · walk_at "go"
      rename_i q1 H1 n1 e1 v1 q2 H2 n2 e2 v2
      have e12 := e1.trans e2
      have d0 : ∀ d : PyData, d.hasDict = false → d.depth ≤ 40 → DOk d := fun d h h2 => ⟨fun z => absurd (h.symm.trans z) Bool.false_ne_true, h2⟩
      rcases (by omega : at_ % 6 = 0 ∨ at_ % 6 = 1 ∨ at_ % 6 = 2 ∨ at_ % 6 = 3 ∨ at_ % 6 = 4 ∨ at_ % 6 = 5) with h | h | h | h | h | h
      all_goals rw [h]
      · exact st_ixL v2 rfl (k _ .none H2 e12 .non (bad_no rfl (d0 _ rfl (by simp [PyData.depth]))))
      · exact st_ixL v2 rfl (k _ (.int 7) H2 e12 (.int _) (bad_no rfl (d0 _ rfl (by simp [PyData.depth]))))
      · exact st_ixL v2 rfl (k _ (.str _) H2 e12 (.str _) (bad_no rfl (d0 _ rfl (by simp [PyData.depth]))))
      · exact st_ixL v2 rfl (k _ (.dict []) H2 e12 (.dk (e2.get v1)) (bad_no rfl ⟨fun _ => rfl, by simp [PyData.depth, PyData.depthKv]⟩))
      · exact st_ixL v2 rfl (k _ (.bool true) H2 e12 (.bl _) (bad_no rfl (d0 _ rfl (by simp [PyData.depth]))))
      · exact st_ixL v2 rfl (k _ (.int 0) H2 e12 (.int _) (bad_no rfl (d0 _ rfl (by simp [PyData.depth]))))
    walk_at "go"
    refine st_br2 (fun c3 => ?_) (fun c3 => ?_)
    · walk_at "go"
      rename_i q1 H1 n1 e1 v1 q2 H2 n2 e2 v2
      refine k _ (.list [.list []]) H2 (e1.trans e2) (.lst v2 (.cons (.lst (e2.get v1) .nil) .nil)) (bad_len (fun d hd => ?_) ?_)
      · rw [List.mem_singleton.mp hd]
        exact ⟨rfl, by simp [PyData.depth, PyData.depthAll], fun z e => by cases e⟩
      · have : m = 0 := by omega
        rw [this]
        exact Nat.one_ne_zero
    have hm0 : 0 < m := by omega
    have y0 := Int.emod_nonneg at_ (b := (m : Int)) (by omega)
    have y1 := Int.emod_lt_of_pos at_ (b := (m : Int)) (by omega)
    obtain ⟨i, hai⟩ := Int.eq_ofNat_of_zero_le y0
    rw [hai] at y1
    have hi : i < m := by omega
    have g1 := List.getElem?_eq_getElem (l := cs) (i := i) (by omega)
    have gz := hg (cs[i]'(by omega)) (List.getElem_mem _)
    have gl := hz (cs[i]'(by omega)) (List.getElem_mem _)
    generalize cs[i]'(by omega) = z at g1 gz gl
    walk_at "go"
    rw [hai]
    walk_at "go"
    refine st_ixL hC (at_mapN g1) ?_
    walk_at "go"
    refine st_br2 (fun c4 => ?_) (fun c4 => ?_)
    · walk_at "go"
      rename_i q1 H1 n1 e1 v1 q2 H2 n2 e2 v2
      rw [cutV_map, cutL_to] at v1
      rw [show (i : Int) + 1 = ((i + 1 : Nat) : Int) by omega, cutV_map, cutL_from] at v2
      refine st_addL (e2.get v1) v2 (by simp; omega) fun q3 H3 n3 e3 v3 => ?_
      rw [← List.map_append] at v3
      refine k _ (.list ((cs.take i ++ cs.drop (i + 1)).map PyData.str)) H3 ((e1.trans e2).trans e3) (.lst v3 (rnStrs _)) (bad_len (elS_all fun z h => hz z ?_) ?_)
      · rcases List.mem_append.mp h with h | h
        · exact List.mem_of_mem_take h
        · exact List.mem_of_mem_drop h
      · rw [List.length_map, List.length_append, List.length_take, List.length_drop]
        omega
    walk_at "go"
    refine ⟨fun σ H' => Ex H H' ∧ (∃ v d, Rn H' v d ∧ ElC d ∧ (∀ z, d = .str z → ¬ GoodT n z) ∧ ∃ a7 a8, σ = [some (.ref C), some (.int (n : Nat)), some (.int (w : Nat)), some (.int at_), some (.int (m : Nat)), some (.int (i : Nat)), some v, a7, a8]), ?_, ?_⟩
    · have tl : ∀ (y : Str), y.length ≠ n → ∀ z, PyData.str y = .str z → ¬ GoodT n z := fun y h z e g => by
        cases e
        exact h g.1
      walk_at "go"
      refine st_br2 (fun c5 => ?_) (fun c5 => ?_)
      · walk_at "go"
        have lo : (Str.ofString "o").length = 1 := by decide +kernel
        have gn := gz.1
        refine st_addS (by omega) ?_
        walk_at "go"
        have la := sl_app z (Str.ofString "o")
        refine ⟨Fr.refl _, _, .str _, .str _, elS (by omega), tl _ (by omega), _, _, rfl⟩
      walk_at "go"
      refine st_br2 (fun c6 => ?_) (fun c6 => ?_)
      · walk_at "go"
        refine lc_map (rv_str z) (fun _ _ => trivial) (by rw [lenStr]; omega) (fun c => V.str (tx [c])) ?_ ?_
        · intro c H' hc e B h1
          refine ⟨rfl, ?_⟩
          have h1' := h1 _ (Fr.refl _)
          walk_at "go"
          exact h1'
        intro q1 H1 n1 e1 v1
        walk_at "go"
        rename_i q2 H2 n2 e2 v2 q3 H3 n3 e3 v3
        have e13 := (e1.trans e2).trans e3
        have nt : ∀ d : PyData, (∀ z, d ≠ .str z) → ∀ z, d = .str z → ¬ GoodT n z := fun d h z e => absurd e (h z)
        rcases (by omega : at_ / (m : Int) % 5 = 0 ∨ at_ / (m : Int) % 5 = 1 ∨ at_ / (m : Int) % 5 = 2 ∨ at_ / (m : Int) % 5 = 3 ∨ at_ / (m : Int) % 5 = 4) with h | h | h | h | h
        all_goals rw [h]
        · refine st_ixL v3 rfl ?_
          walk_at "go"
          refine ⟨e13, _, .list (z.cps.toList.map fun c => PyData.str (tx [c])), .lst ((e2.trans e3).get v1) (rnA_map fun c _ => .str _), ⟨?_, ?_, fun z e => by cases e⟩, nt _ (fun z e => by cases e), _, _, rfl⟩
          · exact hasDictA_of fun d hd => (by
              obtain ⟨c, _, rfl⟩ := List.mem_map.mp hd
              rfl)
          · have := depth_map (enc := fun c => PyData.str (tx [c])) (xs := z.cps.toList) (n := 0) fun c _ => by simp [PyData.depth]
            simp only [PyData.depth]
            omega
        · refine st_ixL v3 rfl ?_
          walk_at "go"
          exact ⟨e13, _, .none, .non, ⟨rfl, by simp [PyData.depth], fun z e => by cases e⟩, nt _ (fun z e => by cases e), _, _, rfl⟩
        · refine st_ixL v3 rfl ?_
          walk_at "go"
          exact ⟨e13, _, .int _, .int _, ⟨rfl, by simp [PyData.depth], fun z e => by cases e⟩, nt _ (fun z e => by cases e), _, _, rfl⟩
        · refine st_ixL v3 rfl ?_
          walk_at "go"
          exact ⟨e13, _, .tuple [.str z], .tup (e3.get v2) (.cons (.str _) .nil), ⟨rfl, by simp [PyData.depth, PyData.depthAll], fun z e => by cases e⟩, nt _ (fun z e => by cases e), _, _, rfl⟩
        · refine st_ixL v3 rfl ?_
          walk_at "go"
          exact ⟨e13, _, .bool true, .bl _, ⟨rfl, by simp [PyData.depth], fun z e => by cases e⟩, nt _ (fun z e => by cases e), _, _, rfl⟩
      walk_at "go"
      refine st_br2 (fun c7 => ?_) (fun c7 => ?_)
      · walk_at "go"
        have lx : (Str.ofString "x").length = 1 := by decide +kernel
        refine ⟨Fr.refl _, _, .str _, .str _, elS (by omega), tl _ (by omega), _, _, rfl⟩
      walk_at "go"
      refine st_br2 (fun c8 => ?_) (fun c8 => ?_)
      · walk_at "go"
        have lc := cut_m1 z (by rw [gz.1]; omega)
        have gn := gz.1
        exact ⟨Fr.refl _, _, .str _, .str _, elS (by omega), tl _ (by omega), _, _, rfl⟩
      walk_at "go"
      have u0 := Int.emod_nonneg (at_ / (m : Int)) (b := (n : Int)) (by omega)
      have u1 := Int.emod_lt_of_pos (at_ / (m : Int)) (b := (n : Int)) (by omega)
      obtain ⟨j, hj⟩ := Int.eq_ofNat_of_zero_le u0
      rw [hj] at u1
      have hjn : j < n := by omega
      have gn := gz.1
      have l8 : ∃ c, atI (Str.ofString "XO.0 -qy").cps.toList (at_ / 3 % 8) = some c ∧ c ≠ 120 ∧ c ≠ 111 := by
        rcases (by omega : at_ / 3 % 8 = 0 ∨ at_ / 3 % 8 = 1 ∨ at_ / 3 % 8 = 2 ∨ at_ / 3 % 8 = 3 ∨ at_ / 3 % 8 = 4 ∨ at_ / 3 % 8 = 5 ∨ at_ / 3 % 8 = 6 ∨ at_ / 3 % 8 = 7) with h | h | h | h | h | h | h | h
        all_goals rw [h]
        · exact ⟨88, by decide +kernel, by decide, by decide⟩
        · exact ⟨79, by decide +kernel, by decide, by decide⟩
        · exact ⟨46, by decide +kernel, by decide, by decide⟩
        · exact ⟨48, by decide +kernel, by decide, by decide⟩
        · exact ⟨32, by decide +kernel, by decide, by decide⟩
        · exact ⟨45, by decide +kernel, by decide, by decide⟩
        · exact ⟨113, by decide +kernel, by decide, by decide⟩
        · exact ⟨121, by decide +kernel, by decide, by decide⟩
      obtain ⟨c, g8, ne1, ne2⟩ := l8
      have t1 := cutS_toN z j
      have t1l := cutS_toN_len z j
      have t2l := cutS_from_len z (j + 1) (by omega)
      have tcl : (tx [c]).length = 1 := by rw [tx_length]; rfl
      refine st_sign (by decide +kernel) g8 ?_
      rw [hj]
      refine st_addS (by omega) ?_
      have a1 := sl_app (cutS z none (some (j : Int))) (tx [c])
      have a3 := cps_app (cutS z none (some (j : Int))) (tx [c])
      walk_at "go"
      rw [show (j : Int) + 1 = ((j + 1 : Nat) : Int) by omega]
      refine st_addS (by omega) ?_
      have a2 := sl_app (cutS z none (some (j : Int)) ++ tx [c]) (cutS z (some ((j + 1 : Nat) : Int)) none)
      have a4 := cps_app (cutS z none (some (j : Int)) ++ tx [c]) (cutS z (some ((j + 1 : Nat) : Int)) none)
      walk_at "go"
      refine ⟨Fr.refl _, _, .str _, .str _, elS (by omega), fun y e => ?_, _, _, rfl⟩
      cases e
      refine not_good (j := j) (c := c) ?_ ne1 ne2
      rw [a4, a3, t1, List.append_assoc, List.getElem?_append_right (by rw [List.length_take, lenStr]; omega), List.length_take, lenStr, show j - min j z.length = 0 by omega]
      rfl
    · rintro σ H1 ⟨e1, v, d, hv, he, hng, a7, a8, rfl⟩
      have hC1 := e1.get hC
      walk_at "go"
      rename_i q1 H2 n1 e2 v1 q2 H3 n2 e3 v2
      rw [cutV_map, cutL_to] at v1
      refine st_addL (e3.get v1) v2 (by simp; omega) fun q3 H4 n3 e4 v3 => ?_
      have e24 := (e2.trans e3).trans e4
      have hC4 := e24.get hC1
      walk_at "go"
      rename_i q4 H5 n4 e5 v4
      rw [show (i : Int) + 1 = ((i + 1 : Nat) : Int) by omega, cutV_map, cutL_from] at v4
      refine st_addL (e5.get v3) v4 (by simp; omega) fun q6 H6 n6 e6 v6 => ?_
      have e16 := (e24.trans e5).trans e6
      refine k _ (.list ((cs.take i).map PyData.str ++ [d] ++ (cs.drop (i + 1)).map PyData.str)) H6 (e1.trans e16) (.lst v6 (rnA_app (rnA_app (rnStrs _) (.cons (hv.ex e16) .nil)) (rnStrs _))) (bad_at (i := i) (d := d) ?_ ?_ hng)
      · intro d2 h2
        rcases List.mem_append.mp h2 with h2 | h2
        · rcases List.mem_append.mp h2 with h2 | h2
          · exact elS_all (fun z h => hz z (List.mem_of_mem_take h)) d2 h2
          · rw [List.mem_singleton.mp h2]; exact he
        · exact elS_all (fun z h => hz z (List.mem_of_mem_drop h)) d2 h2
      · rw [List.append_assoc, List.getElem?_append_right (by simp; omega), List.length_map, List.length_take, show i - min i cs.length = 0 by omega]
        rfl
def sp__law_no (K : PySem.W.Frag) (TL : List (Addr × Str)) : Sp := fun vs H Q _ => ∃ (x y z u : V) (b : Bool) (d dd : PyData), vs = [x, y, z, u, .bl b] ∧ LamX.Tabs TL H ∧ Ty H x ∧ Ty H y ∧ Rn H z d ∧ ShortD d ∧ Rn H u dd ∧ DOk dd ∧
  ((b = true ∧ withinV x 0 48 = false ∧ u = x) ∨ (b = true ∧ withinV x 0 48 = true ∧ withinV y 0 48 = false ∧ u = y) ∨ (b = false ∧ u = z ∧ ∃ m n : Nat, x = .int (m : Nat) ∧ y = .int (n : Nat) ∧ m ≤ 48 ∧ n ≤ 48 ∧ ¬ CelD d m n)) ∧ ∀ H', Ex H H' → Q (.bl true) H'
theorem ok__law_no (T : Tx K mg ad fd tk base tc) : FnOk P w K mg base CX0 4 (ad 18) (fd 18) ["_law_many", "_law_far", "_law_cells", "_law_due", "_law_place"] (sp__law_no K (tabsL tc)) := by
  refine T.d__law_no.F.ok sc__law_no (fun vs H Q E h => ?_) (fun cdv A outer s H vs Q E hr h => ?_)
  · obtain ⟨x, y, z, u, b, d, dd, rfl, _⟩ := h
    rfl
  · obtain ⟨x, y, z, u, b, d, dd, rfl, hT, hx, hy, hz, hsh, hu, hdd, hc, k⟩ := h
    refine ⟨_, (pss_cons (ps_tryG rfl rfl L2.takes0 (fun W pn xe tk hp => (pss_one (ps_expr (pe_callS (E := WE W) (ok_walked T) (hr.mono (by decide)) rfl T.d_walked.g T.d_walked.F.kp T.d_walked.b (fun σ => passAt tk σ) (pa_cons (pv 0) (pa_cons (pv 1) (pa_cons (pv 2) pa_nil)))))))
      (.named (i := 5) sc__law_no.nd rfl rfl ⟨rfl, by decide, Or.inl T.e_NoPlace.g⟩ (fun a oe cls d pn hz hf => (pss_cons (ps_if (PW.pt (pw_or (pt_not (pt_tru (pv 4) (by intro _; rfl) (K := K))) (pw_or (pt_val (pe_callB (call_isX hz hf) (by rfl) T.b_isinstance (by decide +kernel) (pa_cons (pv 5) (pa_cons (pe_glob (v := .ref (clsA K "NoCells")) rfl T.e_NoCells.g rfl) pa_nil)))) (pw_or1 (pt_not (pt_val (pe_callB (call_isX hz hf) (by rfl) T.b_isinstance (by decide +kernel) (pa_cons (pv 5) (pa_cons (pe_glob (v := .ref (clsA K "PaneError")) rfl T.e_PaneError.g rfl) pa_nil))))))))) (pss_one (ps_ret pe_bl)) pss_nil)
      (pss_one (ps_ret (pe_and (pe_cmpR (o_eqA (K := K) hr.units) (pe_xe hz hf (pv 5)) (pv 3) (nomark _)) (pe_one (pe_cmpR (o_eq hr.units) (pe_callB c_is (by rfl) T.b_isinstance (by decide +kernel) (pa_cons (pe_xe hz hf (pv 5)) (pa_cons (pe_bltn (v := .ty "bool") rfl T.b_bool (by decide +kernel) rfl) pa_nil))) (pe_callB c_is (by rfl) T.b_isinstance (by decide +kernel) (pa_cons (pv 3) (pa_cons (pe_bltn (v := .ty "bool") rfl T.b_bool (by decide +kernel) rfl) pa_nil))) (nomark _)))))))) (.named (i := 5) sc__law_no.nd rfl rfl ⟨rfl, by decide, Or.inl T.e_NoCells.g⟩ (fun a oe cls d pn hz hf => (pss_one (ps_ret (pe_and (pe_not (pv 4)) (pe_and (pe_callB (call_isX hz hf) (by rfl) T.b_isinstance (by decide +kernel) (pa_cons (pv 5) (pa_cons (pe_glob (v := .ref (clsA K "PaneError")) rfl T.e_PaneError.g rfl) pa_nil))) (pe_and (pe_callB (call_isX hz hf) (by rfl) T.b_isinstance (by decide +kernel) (pa_cons (pv 5) (pa_cons (pe_bltn (v := .ty "ValueError") rfl T.b_ValueError (by decide +kernel) rfl) pa_nil))) (pe_one (pe_cmpR (o_eqA (K := K) hr.units) (pe_xe hz hf (pv 5)) (pv 3) (nomark _))))))))) .nil)) pss_nil)
      (pss_one (ps_ret pe_bl))), ?_⟩
    walk_at "go"
    have wi : ∀ m : Nat, m ≤ 48 → withinV (.int (m : Nat)) 0 48 = true := fun m h => by simp [withinV]; omega
    have no : ∀ (m : Nat) {C : Prop}, x = .int (m : Nat) → m ≤ 48 → withinV x 0 48 = false → C := fun m C h1 h2 h3 => by
      rw [h1, wi m h2] at h3; cases h3
    have no2 : ∀ (m : Nat) {C : Prop}, y = .int (m : Nat) → m ≤ 48 → withinV y 0 48 = false → C := fun m C h1 h2 h3 => by
      rw [h1, wi m h2] at h3; cases h3
    rcases hc with ⟨rfl, hw, rfl⟩ | ⟨rfl, hw, hw2, rfl⟩ | ⟨rfl, rfl, m, n, rfl, rfl, hm, hn, hb⟩
    · refine ⟨u, y, z, d, rfl, hx, hy, hz, hsh, hT, fun _ => ?_, fun h => by (rw [hw] at h; cases h), fun m n h1 h2 h3 h4 => no m h1 h3 hw⟩
      intro xd H1 hxd e1 hvx
      have hu1 := hu.ex e1
      walk_at "go"
      refine st_eqSelf hu1 hdd.1 (by have := hdd.2; omega) ?_
      walk_at "go"
      refine st_isBoolT hu1.rq.ty ?_
      walk_at "go"
      refine st_isBoolT hu1.rq.ty ?_
      walk_at "go"
      rw [beq_self_eq_true]
      exact k H1 e1
    · refine ⟨x, u, z, d, rfl, hx, hy, hz, hsh, hT, fun h => by (rw [hw] at h; cases h), fun _ _ => ?_, fun m n h1 h2 h3 h4 => no2 n h2 h4 hw2⟩
      intro xd H1 hxd e1 hvx
      have hu1 := hu.ex e1
      walk_at "go"
      refine st_eqSelf hu1 hdd.1 (by have := hdd.2; omega) ?_
      walk_at "go"
      refine st_isBoolT hu1.rq.ty ?_
      walk_at "go"
      refine st_isBoolT hu1.rq.ty ?_
      walk_at "go"
      rw [beq_self_eq_true]
      exact k H1 e1
    · refine ⟨_, _, u, d, rfl, hx, hy, hz, hsh, hT, fun h => by (rw [wi m hm] at h; cases h), fun _ h => by (rw [wi n hn] at h; cases h), fun m' n' h1 h2 h3 h4 => ⟨fun _ => ?_, fun cs hd hl hg => ?_⟩⟩
      · intro xd H1 hxd e1 hvx
        have hu1 := hu.ex e1
        walk_at "go"
        refine st_eqSelf hu1 hdd.1 (by have := hdd.2; omega) ?_
        exact k H1 e1
      · refine absurd ⟨cs, hd, ?_, ?_⟩ hb
        · have := V.int.inj h1
          omega
        · have := V.int.inj h2
          have : n = n' := by omega
          rw [this]
          exact hg
/-- a text of signs, of at most n -/
def RG (z : Str) (n : Int) : Prop := (z.length : Int) ≤ n ∧ ∀ c ∈ z.cps.toList, rowSign c = true
theorem RG.nil : RG (tx []) 0 := ⟨by decide, fun c h => by cases h⟩
theorem RG.app {y z : Str} {m n : Int} (h : RG y m) (k : RG z n) : RG (y ++ z) (m + n) := ⟨by rw [Str.length_append]; have := h.1; have := k.1; omega, fun c hc => by
  have : (y ++ z).cps.toList = y.cps.toList ++ z.cps.toList := by
    show (y.cps ++ z.cps).toList = _
    simp
  rw [this] at hc
  exact (List.mem_append.mp hc).elim (h.2 c) (k.2 c)⟩
theorem RG.up {z : Str} {m n : Int} (h : RG z m) (e : m ≤ n) : RG z n := ⟨by have := h.1; omega, h.2⟩
theorem RG.len {z : Str} {n : Int} (h : RG z n) : (z.length : Int) ≤ n := h.1
theorem sqL_to {K : PySem.W.Frag} {H H' : Hp} {a : Addr} {xs : List V} (h : SqL K H a xs) (e : Ex (noT H) H') : SqL K H' a xs := by
  rcases h with (h | ⟨o, h⟩) | h
  · exact .inl (.inl (e.get (noT_get h fun _ z => by cases z)))
  · exact .inl (.inr ⟨o, e.get (noT_get h fun _ z => by cases z)⟩)
  · exact .inr h
theorem sqL_ex {K : PySem.W.Frag} {H H' : Hp} {a : Addr} {xs : List V} (h : SqL K H a xs) (e : Ex H H') : SqL K H' a xs := sqL_to h ((noT_ex H).trans e)
def OutX (H : Hp) (v : V) : Prop := (∃ d, Rn H v d ∧ DOk d) ∧ Ty H v ∧ withinV v 0 48 = false
theorem OutX.ex {H H' : Hp} {v : V} (h : OutX H v) (e : Ex H H') : OutX H' v := by
  obtain ⟨⟨d, h1, h2⟩, h4, h5⟩ := h
  exact ⟨⟨d, h1.ex e, h2⟩, h4.ex e, h5⟩
theorem w_int {i : Int} (h : i < 0 ∨ 48 < i) : withinV (.int i) 0 48 = false := decide_eq_false (by omega)
theorem w_in {m : Nat} (h : m ≤ 48) : withinV (.int (m : Nat)) 0 48 = true := decide_eq_true (by omega)
theorem dok0 (d : PyData) (h : d.hasDict = false) (h2 : d.depth ≤ 40) : DOk d := ⟨fun z => absurd (h.symm.trans z) Bool.false_ne_true, h2⟩
theorem rnI {H : Hp} (i : Int) : ∃ d, Rn H (.int i) d ∧ DOk d := ⟨_, .int i, dok0 _ rfl (by simp [PyData.depth])⟩
theorem rnB {H : Hp} (i : Bool) : ∃ d, Rn H (.bl i) d ∧ DOk d := ⟨_, .bl i, dok0 _ rfl (by simp [PyData.depth])⟩
theorem rnS {H : Hp} (i : Str) : ∃ d, Rn H (.str i) d ∧ DOk d := ⟨_, .str i, dok0 _ rfl (by simp [PyData.depth])⟩
theorem rnN {H : Hp} : ∃ d, Rn H .non d ∧ DOk d := ⟨_, .non, dok0 _ rfl (by simp [PyData.depth])⟩
theorem rnL3 {H : Hp} {q : Addr} {i : Int} (h : H q = some (.lst [.int i])) : ∃ d, Rn H (.ref q) d ∧ DOk d := ⟨_, .lst h (.cons (.int _) .nil), dok0 _ rfl (by simp [PyData.depth, PyData.depthAll])⟩
theorem tabs_lst {T : List (Addr × Str)} {H : Hp} {p : Addr} {xs : List V} {u : HO} (t : LamX.Tabs T H) (hp : H p = some (.lst xs)) : LamX.Tabs T (upd H p u) := fun q hq => by
  obtain ⟨ps, h1, h2, h3⟩ := t q hq
  refine ⟨ps, (upd_ne fun z => by rw [z, hp] at h1; cases h1).trans h1, h2, fun pos cv hc => ?_⟩
  obtain ⟨c, e1, e2⟩ := h3 pos cv hc
  exact ⟨c, e1, (upd_ne fun z => by rw [z, hp] at e2; unfold CodeO at e2; cases e2).trans e2⟩
theorem exN_tr {H H1 H2 : Hp} (a : Ex (noT H) H1) (b : Ex (noT H1) H2) : Ex (noT H) H2 := fun c o n h => b c o n (noT_get (a c o n h) (noT_of h).2)
theorem rp_strs {H : Hp} {D : Addr} {cs : List Str} (h : H D = some (.lst (cs.map V.str))) : Rp H (.ref D) (.list (cs.map PyData.str)) := .lst (lst_of h) (rpA_map (enc := PyData.str) fun x _ => .str x)
theorem strs_dp (cs : List Str) : (PyData.list (cs.map PyData.str)).depth ≤ 10 := by
  have := depth_map (enc := PyData.str) (xs := cs) (n := 0) fun c _ => by simp [PyData.depth]
  simp only [PyData.depth]
  omega
theorem strs_nd (cs : List Str) : (PyData.list (cs.map PyData.str)).hasDict = false := hasDictA_of fun d hd => by
  obtain ⟨c, _, rfl⟩ := List.mem_map.mp hd
  rfl
theorem picks_ox {acc : List V} (h : ∀ (i : Nat) (v : V), acc[i]? = some v → ∃ e : Nat, (e = 120 ∨ e = 111) ∧ v = .str (tx [e])) : ∃ cs : List Nat, acc = (cs.map fun c => tx [c]).map V.str ∧ (∀ c ∈ cs, c = 120 ∨ c = 111) ∧ cs.length = acc.length := by
  induction acc with
  | nil => exact ⟨[], rfl, by simp, rfl⟩
  | cons a r ih =>
    obtain ⟨cs, e1, e2, e3⟩ := ih fun i v hv => h (i + 1) v (by simpa using hv)
    obtain ⟨e, he, rfl⟩ := h 0 a rfl
    refine ⟨e :: cs, by rw [e1]; rfl, fun c hc => ?_, by simp [e3]⟩
    rcases List.mem_cons.mp hc with rfl | hc
    · exact he
    · exact e2 c hc
def sp__law_any (K : PySem.W.Frag) (TL : List (Addr × Str)) : Sp := fun vs H Q _ => ∃ (S : Addr) (ns : List Int) (m n : Nat) (o : Int), vs = [.ref S, .int (m : Nat), .int (n : Nat), .int o] ∧ SqL K H S (ns.map V.int) ∧ LamX.Tabs TL H ∧ ns.length ≤ 63 ∧ m ≤ 48 ∧ n ≤ 48 ∧ 0 ≤ o ∧ ∀ H', Ex (noT H) H' → LamX.Tabs TL H' → Q (.bl true) H'
theorem ok__law_any (T : Tx K mg ad fd tk base tc) : FnOk P w K mg base CX0 5 (ad 19) (fd 19) ["_law_script", "_law_many", "_law_far", "_law_at_here"] (sp__law_any K (tabsL tc)) := by
  refine T.d__law_any.F.ok sc__law_any (fun vs H Q E h => ?_) (fun cdv A outer s H vs Q E hr h => ?_)
  · obtain ⟨S, ns, m, n, o, rfl, _⟩ := h
    rfl
  · obtain ⟨S, ns, m, n, o, rfl, hs, hT, hl, hm, hn, ho, k⟩ := h
    refine ⟨_, (pss_cons (ps_set (i := 4) sc__law_any.nd rfl (Or.inl rfl) (pe_lst pa_nil))
      (pss_cons (ps_for PassesOwn.never rfl (pi_range1 rfl T.b_range (pa_cons (pv 1) pa_nil)) (pg_name (i := 5) sc__law_any.nd rfl (Or.inr rfl)) (pss_one (ps_expr (pe_bm PySem.F.plainAttrs_list PySem.F.slot_list_append PySem.F.type_list_append mt_append (pv 4) (pa_cons (pe_join pe_str (pe_lc (own := [("_law_j", 12)]) (g := gName 12) rfl sc__law_any.nd (pi_range1 rfl T.b_range (pa_cons (pv 2) pa_nil)) (blkOk_by (own := [("_law_j", 12)]) (N := N__law_any) (sc := defScope s__law_any) (by decide +kernel)) (fun _ _ _ _ _ => pg_name (i := 12) sc__law_any.nd rfl (Or.inl rfl)) (fun _ _ _ _ _ => pts_nil) (fun _ _ _ _ _ => (pe_ix (i_ix (K := K)) pe_str (pe_call (ok__law_bit T) (hr.mono (by decide)) rfl T.d__law_bit.g T.d__law_bit.F.kp T.d__law_bit.b .nil pass0 (pa_cons (pv 0) (pa_cons (pe_op o_add (pe_op o_mul (pv 5) (pv 2)) (pv 12)) pa_nil))) (fun _ _ => rfl))))) pa_nil)))))
      (pss_cons (ps_set (i := 6) sc__law_any.nd rfl (Or.inl rfl) (pe_call (ok__law_walked T) (hr.mono (by decide)) rfl T.d__law_walked.g T.d__law_walked.F.kp T.d__law_walked.b .nil pass0 (pa_cons (pv 1) (pa_cons (pv 2) (pa_cons (pv 4) pa_nil)))))
      (pss_cons (ps_set (i := 7) sc__law_any.nd rfl (Or.inl rfl) (pe_callTy (c_list rfl (K := K)) (by rfl) T.b_list (by decide +kernel) (pa_cons (pv 4) pa_nil)))
      (pss_cons (ps_for PassesOwn.never rfl (pi_range1 rfl T.b_range (pa_cons pe_int pa_nil)) (pg_name (i := 8) sc__law_any.nd rfl (Or.inl rfl)) (pss_cons (ps_set (i := 9) sc__law_any.nd rfl (Or.inl rfl) (pe_call (ok_walked T) (hr.mono (by decide)) rfl T.d_walked.g T.d_walked.F.kp T.d_walked.b .nil passL (pa_cons (pv 1) (pa_cons (pv 2) (pa_cons (pv 7) pa_nil)))))
      (pss_cons (ps_if (PW.pt (pw_or (pt_not (pt_val (pe_call (ok__law_ints T) (hr.mono (by decide)) rfl T.d__law_ints.g T.d__law_ints.F.kp T.d__law_ints.b .nil pass0 (pa_cons (pv 9) (pa_cons (pv 6) pa_nil))))) (pw_or1 (pt_cmpR (o_ne hr.units) (pv 7) (pv 4) (nomark _))))) (pss_one (ps_ret pe_bl)) pss_nil)
      (pss_one (ps_expr (pe_bm PySem.F.plainAttrs_list PySem.F.slot_list_append PySem.F.type_list_append mt_append (pv 9) (pa_cons (pv 8) pa_nil)))))))
      (pss_cons (ps_for PassesOwn.never rfl (pi_range1 rfl T.b_range (pa_cons pe_int pa_nil)) (pg_name (i := 10) sc__law_any.nd rfl (Or.inl rfl)) (pss_cons (ps_set (i := 11) sc__law_any.nd rfl (Or.inl rfl) (pe_call (ok__law_spoiled T) (hr.mono (by decide)) rfl T.d__law_spoiled.g T.d__law_spoiled.F.kp T.d__law_spoiled.b .nil pass0 (pa_cons (pv 4) (pa_cons (pv 2) (pa_cons (pv 10) (pa_cons (pv 3) pa_nil))))))
      (pss_one (ps_if (pt_not (pt_val (pe_call (ok__law_no T) (hr.mono (by decide)) rfl T.d__law_no.g T.d__law_no.F.kp T.d__law_no.b .nil pass0 (pa_cons (pv 1) (pa_cons (pv 2) (pa_cons (pv 11) (pa_cons (pv 11) (pa_cons pe_bl pa_nil)))))))) (pss_one (ps_ret pe_bl)) pss_nil))))
      (pss_cons (ps_for PassesOwn.never rfl (pi_list (pe_lst (pa_cons (pe_op o_add pe_int (pv 3)) (pa_cons (pe_op o_sub (pe_un un_neg pe_int) (pv 3)) (pa_cons pe_bl (pa_cons pe_bl (pa_cons pe_non (pa_cons pe_str (pa_cons (pe_lst (pa_cons pe_int pa_nil)) pa_nil))))))))) (pg_name (i := 11) sc__law_any.nd rfl (Or.inl rfl)) (pss_cons (ps_if (pt_not (pt_val (pe_call (ok__law_no T) (hr.mono (by decide)) rfl T.d__law_no.g T.d__law_no.F.kp T.d__law_no.b .nil pass0 (pa_cons (pv 11) (pa_cons (pv 11) (pa_cons (pv 4) (pa_cons (pv 11) (pa_cons pe_bl pa_nil)))))))) (pss_one (ps_ret pe_bl)) pss_nil)
      (pss_cons (ps_if (pt_not (pt_val (pe_call (ok__law_no T) (hr.mono (by decide)) rfl T.d__law_no.g T.d__law_no.F.kp T.d__law_no.b .nil pass0 (pa_cons (pv 1) (pa_cons (pv 11) (pa_cons pe_non (pa_cons (pv 11) (pa_cons pe_bl pa_nil)))))))) (pss_one (ps_ret pe_bl)) pss_nil)
      (pss_one (ps_if (pt_not (pt_val (pe_call (ok__law_no T) (hr.mono (by decide)) rfl T.d__law_no.g T.d__law_no.F.kp T.d__law_no.b .nil pass0 (pa_cons (pv 11) (pa_cons (pv 2) (pa_cons (pe_lst pa_nil) (pa_cons (pv 11) (pa_cons pe_bl pa_nil)))))))) (pss_one (ps_ret pe_bl)) pss_nil)))))
      (pss_one (ps_ret (pe_call (ok__law_no T) (hr.mono (by decide)) rfl T.d__law_no.g T.d__law_no.F.kp T.d__law_no.b .nil pass0 (pa_cons pe_int (pa_cons (pe_un un_neg pe_int) (pa_cons (pv 4) (pa_cons pe_int (pa_cons pe_bl pa_nil))))))))))))))), ?_⟩
    walk_at "go"
    rename_i C H1 n1 e1 v1
    rw [Int.toNat_natCast]
    refine for_runs (runs_range 0 m) (fun i σ H' => Ex H H' ∧ (∃ cs : List Str, cs.length = i ∧ (∀ z ∈ cs, GoodT n z) ∧ H' C = some (.lst (cs.map V.str))) ∧ ∃ a5 a6 a7 a8 a9 a10 a11 a12, σ = [some (.ref S), some (.int (m : Nat)), some (.int (n : Nat)), some (.int o), some (.ref C), a5, a6, a7, a8, a9, a10, a11, a12]) ⟨e1, ⟨[], rfl, fun _ h => (by cases h), v1⟩, _, _, _, _, _, _, _, _, rfl⟩ (fun _ _ _ _ _ => trivial) ?_ ?_
    · rintro i x σ H2 H3 hi ⟨e2, ⟨cs, c1, c2, c3⟩, a5, a6, a7, a8, a9, a10, a11, a12, rfl⟩ ⟨rfl, rfl⟩
      walk_at "go"
      rw [Int.toNat_natCast]
      have hin : i * n ≤ 2256 := Nat.mul_le_mul (show i ≤ 47 by omega) hn
      refine lc_rel (runs_range 0 n) (fun i x H H' h => by rw [h.1]; exact Fr.refl _) (fun _ _ => trivial) (by omega) (fun _ v => ∃ e : Nat, (e = 120 ∨ e = 111) ∧ v = .str (tx [e])) ?_ ?_
      · rintro j x1 H4 H5 hj e4 ⟨rfl, rfl⟩ B hB
        refine ⟨rfl, ?_⟩
        walk_at "go"
        rw [show (0 + (i : Int)) * (n : Int) + (0 + (j : Int)) = ((i * n + j : Nat) : Int) by rw [Int.zero_add, Int.zero_add]; simp]
        have ij : i * n + j ≤ 3000 := by omega
        refine ⟨S, ns, _, rfl, sqL_ex hs (e2.trans e4), ⟨Int.natCast_nonneg _, by omega⟩, hl, ?_, ?_⟩
        · walk_at "go"
          exact st_sign (by decide +kernel) (show atI (Str.ofString "ox").cps.toList 0 = some 111 by decide +kernel) (hB _ _ ⟨111, .inr rfl, rfl⟩ (Fr.refl _))
        · walk_at "go"
          exact st_sign (by decide +kernel) (show atI (Str.ofString "ox").cps.toList 1 = some 120 by decide +kernel) (hB _ _ ⟨120, .inl rfl, rfl⟩ (Fr.refl _))
      intro A H4 acc nA e4 vA hlen hacc
      obtain ⟨ds, rfl, hds, hdl⟩ := picks_ox hacc
      rw [hlen] at hdl
      refine ⟨"", A, _, rfl, rfl, .inl (lstAt_sq (lst_of vA)), by rw [sum_signs, List.length_map]; show ds.length + ds.length * 0 ≤ _; omega, ?_⟩
      rw [join_signs]
      walk_at "go"
      refine st_app (e4.get c3) (by rw [List.length_map]; omega) ?_
      refine ⟨(e2.trans e4).mut n1, ⟨cs ++ [tx ds], by rw [List.length_append, c1]; rfl, fun z hz => ?_, by rw [upd_same, List.map_append]; rfl⟩, _, _, _, _, _, _, _, _, rfl⟩
      rcases List.mem_append.mp hz with h | h
      · exact c2 z h
      · rw [List.mem_singleton.mp h]
        exact ⟨by rw [tx_length]; exact hdl, hds⟩
    · rintro σ H2 ⟨e2, ⟨cs, c1, c2, c3⟩, a5, a6, a7, a8, a9, a10, a11, a12, rfl⟩
      have hT2 := hT.ext fun b o h => e2.get h
      clear hs e1 v1
      walk_at "go"
      refine ⟨m, n, C, cs, rfl, c3, hm, hn, c1, c2, fun D H3 e3 nD vD => ?_⟩
      walk_at "go"
      rename_i G H4 nG e4 vG
      have hT4 := hT2.ext fun b o h => (e3.trans e4).get h
      have vC4 := (e3.trans e4).get c3
      have vD4 := e4.get vD
      have e04 := (e2.trans e3).trans e4
      clear e2 e3 e4 c3 vD hT2 hT nD nG n1
      rw [show (invT (ledE (cR cs) m n)).map nV = ((invT (ledE (cR cs) m n)).map fun j : Nat => (j : Int)).map V.int by rw [List.map_map]; rfl] at vD4
      have lE : ((invT (ledE (cR cs) m n)).map fun j : Nat => (j : Int)).length ≤ 4000 := by
        rw [List.length_map, invT_len, ledE_len]
        omega
      refine for_runs (runs_range 0 _) (fun i σ H' => (Ex (noT H4) H' ∧ LamX.Tabs (tabsL tc) H') ∧ ∃ a5 a8 a9 a10 a11 a12, σ = [some (.ref S), some (.int (m : Nat)), some (.int (n : Nat)), some (.int o), some (.ref C), a5, some (.ref D), some (.ref G), a8, a9, a10, a11, a12]) ⟨⟨noT_ex _, hT4⟩, _, _, _, _, _, _, rfl⟩ (fun _ _ _ _ _ => trivial) ?_ ?_
      · rintro i x σ H5 H6 hi ⟨⟨e5, hT5⟩, a5, a8, a9, a10, a11, a12, rfl⟩ ⟨rfl, rfl⟩
        have vG5 := keepL vG e5
        walk_at "go"
        refine ⟨_, _, _, _, rfl, ty_int _, ty_int _, .lst vG5 (rnStrs cs), sh_list (elS_all fun z hz => by rw [(c2 z hz).1]; omega), hT5, fun h => by (rw [w_in hm] at h; cases h), fun _ h => by (rw [w_in hn] at h; cases h), fun m' n' h1 h2 _ _ => ?_⟩
        obtain rfl : m = m' := by have := V.int.inj h1; omega
        obtain rfl : n = n' := by have := V.int.inj h2; omega
        refine ⟨fun h => absurd ⟨cs, rfl, c1, c2⟩ h, fun cs' hd' hl' hg' go H7 e7 hT7 ngo vgo => ?_⟩
        obtain rfl : cs = cs' := by
          injection hd' with h
          exact (List.map_inj_right (fun a b h => by injection h)).mp h
        have e47 := exN_tr e5 e7
        have vG7 := keepL vG e47
        have vC7 := keepL vC4 e47
        have vD7 := keepL vD4 e47
        rw [show (invT (ledE (cR cs) m n)).map nV = ((invT (ledE (cR cs) m n)).map fun j : Nat => (j : Int)).map V.int by rw [List.map_map]; rfl] at vgo
        walk_at "go"
        refine ⟨go, D, _, rfl, vgo, vD7, lE, ?_⟩
        walk_at "go"
        refine st_neD (rp_strs vG7) (rp_strs vC7) (by have := strs_dp cs; omega) ?_
        rw [eqv_self _ (strs_nd cs)]
        walk_at "go"
        refine st_app vgo (by rw [List.length_map]; omega) ?_
        exact ⟨⟨e47.mut (Ex.free e5 ngo), tabs_lst hT7 vgo⟩, _, _, _, _, _, _, rfl⟩
      · rintro σ H5 ⟨⟨e5, hT5⟩, a5, a8, a9, a10, a11, a12, rfl⟩
        have vC5 := keepL vC4 e5
        have e05 : Ex (noT H) H5 := exN_tr ((noT_ex H).trans e04) e5
        clear e5 vC4 vD4 vG hT4 e04
        walk_at "go"
        refine for_runs (runs_range 0 _) (fun i σ H' => Ex H5 H' ∧ ∃ a5 a8 a9 a10 a11 a12, σ = [some (.ref S), some (.int (m : Nat)), some (.int (n : Nat)), some (.int o), some (.ref C), a5, some (.ref D), some (.ref G), a8, a9, a10, a11, a12]) ⟨Fr.refl _, _, _, _, _, _, _, rfl⟩ (fun _ _ _ _ _ => trivial) ?_ ?_
        · rintro i x σ H6 H7 hi ⟨e6, a5, a8, a9, a10, a11, a12, rfl⟩ ⟨rfl, rfl⟩
          have hi8 : i < 8 := hi
          have vC6 := e6.get vC5
          walk_at "go"
          rw [Int.zero_add]
          refine ⟨C, n, i, o, cs, rfl, vC6, hn, by omega, hi8, c2, fun x d H8 e8 hx hb => ?_⟩
          rw [c1] at hb
          walk_at "go"
          refine ⟨_, _, x, x, _, d, d, rfl, hT5.ext fun b o h => (e6.trans e8).get h, ty_int _, ty_int _, hx, hb.2.1, hx, hb.2.2, .inr (.inr ⟨rfl, rfl, m, n, rfl, rfl, hm, hn, hb.1⟩), fun H9 e9 => ?_⟩
          walk_at "go"
          exact ⟨(e6.trans e8).trans e9, _, _, _, _, _, _, rfl⟩
        · rintro σ H6 ⟨e6, a5, a8, a9, a10, a11, a12, rfl⟩
          have vC6 := e6.get vC5
          have hT6 := hT5.ext fun b o h => e6.get h
          have e06 : Ex (noT H) H6 := e05.trans e6
          clear vC5 hT5 e05 e6
          walk_at "go"
          rename_i u H7 n7 e7 v7 L H8 n8 e8 v8
          have vC8 := (e7.trans e8).get vC6
          have hT8 := hT6.ext fun b o h => (e7.trans e8).get h
          have e08 := e06.trans (e7.trans e8)
          have hA : ∀ x ∈ [V.int (49 + o), V.int (-1 - o), V.bl true, V.bl false, V.non, V.str "3", V.ref u], OutX H8 x := by
            refine allE_cons ⟨rnI _, ty_int _, w_int (by omega)⟩ ?_
            refine allE_cons ⟨rnI _, ty_int _, w_int (by omega)⟩ ?_
            refine allE_cons ⟨rnB _, ty_bl _, rfl⟩ ?_
            refine allE_cons ⟨rnB _, ty_bl _, rfl⟩ ?_
            refine allE_cons ⟨rnN, ty_non, rfl⟩ ?_
            refine allE_cons ⟨rnS _, ty_str _, rfl⟩ ?_
            exact allE_cons ⟨rnL3 (e8.get v7), ty_lst (e8.get v7), rfl⟩ allE_nil
          have shC : ShortD (.list (cs.map PyData.str)) := sh_list (elS_all fun z hz => by rw [(c2 z hz).1]; omega)
          clear v7 vC6 hT6 e06 e7 e8
          refine for_runs (runs_list K L _) (fun i σ H' => Ex H8 H' ∧ ∃ a5 a8 a9 a10 a11 a12, σ = [some (.ref S), some (.int (m : Nat)), some (.int (n : Nat)), some (.int o), some (.ref C), a5, some (.ref D), some (.ref G), a8, a9, a10, a11, a12]) ⟨Fr.refl _, _, _, _, _, _, _, rfl⟩ (fun i σ H' _ h => lst_of (h.1.get v8)) ?_ ?_
          · rintro i x σ H9 H10 hi ⟨e9, a5, a8, a9, a10, a11, a12, rfl⟩ ⟨rfl, hx⟩
            have ox := (hA _ (List.mem_of_getElem? hx)).ex e9
            obtain ⟨⟨d, h1, h2⟩, h3, h4⟩ := ox
            have hT9 := hT8.ext fun b o h => e9.get h
            walk_at "go"
            refine ⟨x, x, _, x, _, _, d, rfl, hT9, h3, h3, .lst (e9.get vC8) (rnStrs cs), shC, h1, h2, .inl ⟨rfl, h4, rfl⟩, fun H11 e11 => ?_⟩
            walk_at "go"
            refine ⟨_, x, _, x, _, .none, d, rfl, hT9.ext fun b o h => e11.get h, ty_int _, h3.ex e11, .non, (fun ds z e _ => by cases e), h1.ex e11, h2, .inr (.inl ⟨rfl, w_in hm, h4, rfl⟩), fun H12 e12 => ?_⟩
            walk_at "go"
            rename_i q H13 n13 e13 v13
            have e1113 := (e11.trans e12).trans e13
            refine ⟨x, _, _, x, _, .list [], d, rfl, hT9.ext fun b o h => e1113.get h, h3.ex e1113, ty_int _, .lst v13 .nil, (fun ds z e h => by cases e; cases h), h1.ex e1113, h2, .inl ⟨rfl, h4, rfl⟩, fun H14 e14 => ?_⟩
            walk_at "go"
            exact ⟨(e9.trans e1113).trans e14, _, _, _, _, _, _, rfl⟩
          · rintro σ H9 ⟨e9, a5, a8, a9, a10, a11, a12, rfl⟩
            have hT9 := hT8.ext fun b o h => e9.get h
            walk_at "go"
            refine ⟨_, _, _, _, _, _, .int 49, rfl, hT9, ty_int _, ty_int _, .lst (e9.get vC8) (rnStrs cs), shC, .int _, dok0 _ rfl (by simp [PyData.depth]), .inl ⟨rfl, w_int (by omega), rfl⟩, fun H11 e11 => ?_⟩
            walk_at "go"
            exact k _ ((e08.trans e9).trans e11) (hT9.ext fun b o h => e11.get h)
def sp__law_is (K : PySem.W.Frag) (TL : List (Addr × Str)) : Sp := fun vs H Q _ => ∃ (s t : Str) (o : Int), vs = [.str s, .str t, .int o] ∧ RowS s ∧ RowS t ∧ LamX.Tabs TL H ∧ ∀ H', Ex (noT H) H' → LamX.Tabs TL H' → Q (.bl true) H'
theorem brdC_len (s t : Str) : (brdC s t).length = s.length := by unfold brdC; rw [List.length_map, List.length_range]
theorem brdC_good (s t : Str) : ∀ z ∈ brdC s t, GoodT t.length z := fun z hz => by
  obtain ⟨i, _, rfl⟩ := List.mem_map.mp hz
  unfold sgT
  refine ⟨by rw [tx_length, List.length_map, List.length_range], fun c hc => ?_⟩
  rw [tx_toList] at hc
  obtain ⟨j, _, rfl⟩ := List.mem_map.mp hc
  by_cases h : ledS (bR s.cps.toList t.cps.toList) s.length i j = true
  · rw [if_pos h]; exact .inl rfl
  · rw [if_neg h]; exact .inr rfl
theorem dok_nd {d : PyData} (h : DOk d) : isListD d = true → d.hasDict = false ∧ d.depth ≤ 40 := by
  intro hl
  refine ⟨?_, h.2⟩
  cases hh : d.hasDict with
  | false => rfl
  | true =>
    rw [h.1 hh] at hl
    cases hl
theorem bad_eqv {d : PyData} {s t : Str} (h : BadC d s.length t.length) : PyData.eqv d (.list ((brdC s t).map PyData.str)) = false := by
  cases hh : PyData.eqv d (.list ((brdC s t).map PyData.str)) with
  | false => rfl
  | true => exact absurd (eqv_cel hh (brdC_len s t) (brdC_good s t)) h.1
theorem ok__law_is (T : Tx K mg ad fd tk base tc) : FnOk P w K mg base CX0 8 (ad 20) (fd 20) ["_law_side", "_law_top", "_law_at_here"] (sp__law_is K (tabsL tc)) := by
  refine T.d__law_is.F.ok sc__law_is (fun vs H Q E h => ?_) (fun cdv A outer s H vs Q E hr h => ?_)
  · obtain ⟨s, t, o, rfl, _⟩ := h
    rfl
  · obtain ⟨s, t, o, rfl, hs, ht, hT, k⟩ := h
    refine ⟨_, (pss_cons (ps_set (i := 3) sc__law_is.nd rfl (Or.inl rfl) (pe_call (ok__law_of_rows T) (hr.mono (by decide)) rfl T.d__law_of_rows.g T.d__law_of_rows.F.kp T.d__law_of_rows.b .nil pass0 (pa_cons (pv 0) (pa_cons (pv 1) pa_nil))))
      (pss_cons (ps_set (i := 4) sc__law_is.nd rfl (Or.inl rfl) (pe_callTy (c_list rfl (K := K)) (by rfl) T.b_list (by decide +kernel) (pa_cons (pv 3) pa_nil)))
      (pss_cons (ps_if (PW.pt (pw_or (pt_cmpR o_notB (pe_call (ok_is_board T) (hr.mono (by decide)) rfl T.d_is_board.g T.d_is_board.F.kp T.d_is_board.b .nil passL (pa_cons (pv 0) (pa_cons (pv 1) (pa_cons (pv 4) pa_nil)))) pe_bl (nomark _)) (pw_or1 (pt_cmpR (o_ne hr.units) (pv 4) (pv 3) (nomark _))))) (pss_one (ps_ret pe_bl)) pss_nil)
      (pss_cons (ps_for PassesOwn.never rfl (pi_range1 rfl T.b_range (pa_cons pe_int pa_nil)) (pg_name (i := 5) sc__law_is.nd rfl (Or.inl rfl)) (pss_one (ps_if (pt_cmpR o_notB (pe_call (ok_is_board T) (hr.mono (by decide)) rfl T.d_is_board.g T.d_is_board.F.kp T.d_is_board.b .nil passL (pa_cons (pv 0) (pa_cons (pv 1) (pa_cons (pe_call (ok__law_spoiled T) (hr.mono (by decide)) rfl T.d__law_spoiled.g T.d__law_spoiled.F.kp T.d__law_spoiled.b .nil pass0 (pa_cons (pv 3) (pa_cons (pe_callB (c_len (K := K)) (by rfl) T.b_len (by decide +kernel) (pa_cons (pv 1) pa_nil)) (pa_cons (pv 5) (pa_cons (pv 2) pa_nil))))) pa_nil)))) pe_bl (nomark _)) (pss_one (ps_ret pe_bl)) pss_nil)))
      (pss_cons (ps_set (i := 6) sc__law_is.nd rfl (Or.inl rfl) (pe_call (ok__law_of_rows T) (hr.mono (by decide)) rfl T.d__law_of_rows.g T.d__law_of_rows.F.kp T.d__law_of_rows.b .nil pass0 (pa_cons (pv 1) (pa_cons (pv 0) pa_nil))))
      (pss_cons (ps_set (i := 7) sc__law_is.nd rfl (Or.inl rfl) (pe_call (ok_is_board T) (hr.mono (by decide)) rfl T.d_is_board.g T.d_is_board.F.kp T.d_is_board.b .nil passL (pa_cons (pv 0) (pa_cons (pv 1) (pa_cons (pv 6) pa_nil)))))
      (pss_cons (ps_if (PW.pt (pw_or (pt_not (pt_val (pe_callB c_is (by rfl) T.b_isinstance (by decide +kernel) (pa_cons (pv 7) (pa_cons (pe_bltn (v := .ty "bool") rfl T.b_bool (by decide +kernel) rfl) pa_nil))))) (pw_or (pt_cmpR (o_ne hr.units) (pv 7) (pe_cmpR (o_eq hr.units) (pv 6) (pv 3) (nomark _)) (nomark _)) (pw_or1 (pt_cmpR o_notB (pe_call (ok_is_board T) (hr.mono (by decide)) rfl T.d_is_board.g T.d_is_board.F.kp T.d_is_board.b .nil passL (pa_cons (pv 1) (pa_cons (pv 0) (pa_cons (pv 6) pa_nil)))) pe_bl (nomark _)))))) (pss_one (ps_ret pe_bl)) pss_nil)
      (pss_cons (ps_for PassesOwn.never rfl (pi_range1 rfl T.b_range (pa_cons (pe_callB (c_len (K := K)) (by rfl) T.b_len (by decide +kernel) (pa_cons (pv 0) pa_nil)) pa_nil)) (pg_name (i := 8) sc__law_is.nd rfl (Or.inl rfl)) (pss_one (ps_for PassesOwn.never rfl (pi_range1 rfl T.b_range (pa_cons (pe_callB (c_len (K := K)) (by rfl) T.b_len (by decide +kernel) (pa_cons (pv 1) pa_nil)) pa_nil)) (pg_name (i := 9) sc__law_is.nd rfl (Or.inl rfl)) (pss_cons (ps_if (PW.pt (pw_and (pt_cmpR o_gt (pe_callB (c_len (K := K)) (by rfl) T.b_len (by decide +kernel) (pa_cons (pv 0) pa_nil)) pe_int (nomark _)) (pw_and1 (pt_cmpR o_gt (pe_op o_mod (pe_op o_add (pe_op o_add (pe_op o_mul (pv 8) pe_int) (pv 9)) (pv 2)) pe_int) pe_int (nomark _))))) (pss_one ps_continue) pss_nil)
      (pss_cons (ps_set (i := 10) sc__law_is.nd rfl (Or.inl rfl) (pe_ix (i_ix (K := K)) pe_str (pe_callTy c_int (by rfl) T.b_int (by decide +kernel) (pa_cons (pe_cmpR (o_eq hr.units) (pe_ix (i_ix (K := K)) (pe_ix (i_ix (K := K)) (pv 3) (pv 8) (fun _ _ => rfl)) (pv 9) (fun _ _ => rfl)) pe_str (nomark _)) pa_nil)) (fun _ _ => rfl)))
      (pss_cons (ps_set (i := 11) sc__law_is.nd rfl (Or.inl rfl) (pe_op o_add (pe_op o_add (pe_slice (s_sl (K := K)) (pe_ix (i_ix (K := K)) (pv 3) (pv 8) (fun _ _ => rfl)) po_none (po_some (pv 9))) (pv 10)) (pe_slice (s_sl (K := K)) (pe_ix (i_ix (K := K)) (pv 3) (pv 8) (fun _ _ => rfl)) (po_some (pe_op o_add (pv 9) pe_int)) po_none)))
      (pss_one (ps_if (pt_cmpR o_notB (pe_call (ok_is_board T) (hr.mono (by decide)) rfl T.d_is_board.g T.d_is_board.F.kp T.d_is_board.b .nil passL (pa_cons (pv 0) (pa_cons (pv 1) (pa_cons (pe_op o_add (pe_op o_add (pe_slice (s_sl (K := K)) (pv 3) po_none (po_some (pv 8))) (pe_lst (pa_cons (pv 11) pa_nil))) (pe_slice (s_sl (K := K)) (pv 3) (po_some (pe_op o_add (pv 8) pe_int)) po_none)) pa_nil)))) pe_bl (nomark _)) (pss_one (ps_ret pe_bl)) pss_nil))))))))
      (pss_one (ps_ret (pe_cmpR o_isB (pe_call (ok_is_board T) (hr.mono (by decide)) rfl T.d_is_board.g T.d_is_board.F.kp T.d_is_board.b .nil passL (pa_cons (pv 0) (pa_cons (pv 1) (pa_cons (pv 4) pa_nil)))) pe_bl (nomark _)))))))))))), ?_⟩
    have hs48 : s.length ≤ 48 := hs.len
    have ht48 : t.length ≤ 48 := ht.len
    walk_at "go"
    refine ⟨s, t, rfl, hs48, ht48, fun C H1 e1 n1 v1 => ?_⟩
    walk_at "go"
    rename_i G H2 n2 e2 v2
    have v12 := e2.get v1
    obtain ⟨cs, hcs⟩ : ∃ cs, cs = brdC s t := ⟨_, rfl⟩
    have cl : cs.length = s.length := by rw [hcs, brdC_len]
    have cg : ∀ z ∈ cs, GoodT t.length z := by rw [hcs]; exact brdC_good s t
    have kb : ∀ (d : PyData) (b : Bool), PyData.eqv d (.list (cs.map PyData.str)) = b → PyData.eqv d (.list ((brdC s t).map PyData.str)) = b := fun d b h => by rw [← hcs]; exact h
    rw [← hcs] at v12 v2
    have hT2 := hT.ext fun b o h => (e1.trans e2).get h
    have self := eqv_self _ (strs_nd cs)
    have dp := strs_dp cs
    refine ⟨_, _, _, .list (cs.map PyData.str), rfl, hT2, .lst v2 (rnStrs cs), fun _ => ⟨strs_nd cs, by omega⟩, .inl ⟨s, t, rfl, rfl, hs, ht, fun H3 e3 hT3 => ?_⟩⟩
    rw [← hcs, self]
    have vC3 := keepL v12 e3
    have vG3 := keepL v2 e3
    have e03 := exN_tr ((noT_ex H).trans (e1.trans e2)) e3
    clear e1 e2 e3 v1 v12 v2 hT2 hT
    walk_at "go"
    refine st_neD (rp_strs vG3) (rp_strs vC3) (by omega) ?_
    rw [self]
    walk_at "go"
    refine for_runs (runs_range 0 _) (fun i σ H' => (Ex (noT H3) H' ∧ LamX.Tabs (tabsL tc) H') ∧ ∃ a5 a6 a7 a8 a9 a10 a11, σ = [some (.str s), some (.str t), some (.int o), some (.ref C), some (.ref G), a5, a6, a7, a8, a9, a10, a11]) ⟨⟨noT_ex _, hT3⟩, _, _, _, _, _, _, _, rfl⟩ (fun _ _ _ _ _ => trivial) ?_ ?_
    · rintro i x σ H5 H6 hi ⟨⟨e5, hT5⟩, a5, a6, a7, a8, a9, a10, a11, rfl⟩ ⟨rfl, rfl⟩
      have hi8 : i < 8 := hi
      have vC5 := keepL vC3 e5
      walk_at "go"
      rw [Int.zero_add]
      refine ⟨C, t.length, i, o, cs, rfl, vC5, ht48, by omega, hi8, cg, fun x d H7 e7 hx hb => ?_⟩
      rw [cl] at hb
      walk_at "go"
      refine ⟨_, _, x, d, rfl, hT5.ext fun b o h => e7.get h, hx, dok_nd hb.2.2, .inl ⟨s, t, rfl, rfl, hs, ht, fun H8 e8 hT8 => ?_⟩⟩
      rw [bad_eqv hb]
      walk_at "go"
      exact ⟨⟨exN_tr (e5.trans e7) e8, hT8⟩, _, _, _, _, _, _, _, rfl⟩
    · rintro σ H5 ⟨⟨e5, hT5⟩, a5, a6, a7, a8, a9, a10, a11, rfl⟩
      have vC5 := keepL vC3 e5
      have vG5 := keepL vG3 e5
      have e05 := exN_tr e03 e5
      clear vC3 vG3 e03 hT3 e5
      walk_at "go"
      refine ⟨t, s, rfl, ht48, hs48, fun O H6 e6 n6 v6 => ?_⟩
      have vC6 := e6.get vC5
      have vG6 := e6.get vG5
      have e06 := e05.trans e6
      have hT6 := hT5.ext fun b o h => e6.get h
      obtain ⟨os, hos⟩ : ∃ os, os = brdC t s := ⟨_, rfl⟩
      rw [← hos] at v6
      have selfo := eqv_self _ (strs_nd os)
      have dpo := strs_dp os
      walk_at "go"
      refine ⟨_, _, _, .list (os.map PyData.str), rfl, hT6, .lst v6 (rnStrs os), fun _ => ⟨strs_nd os, by omega⟩, .inl ⟨s, t, rfl, rfl, hs, ht, fun H7 e7 hT7 => ?_⟩⟩
      rw [← hcs]
      have vC7 := keepL vC6 e7
      have vG7 := keepL vG6 e7
      have v7 := keepL v6 e7
      have e07 := exN_tr e06 e7
      clear vC5 vG5 e05 hT5 e6 vC6 vG6 e06 hT6 v6 e7
      obtain ⟨eb, heb⟩ : ∃ eb, eb = PyData.eqv (.list (os.map PyData.str)) (.list (cs.map PyData.str)) := ⟨_, rfl⟩
      rw [← heb]
      walk_at "go"
      refine st_eqD (rp_strs v7) (rp_strs vC7) (by omega) ?_
      rw [← heb]
      refine st_neD (d := .bool eb) (e := .bool eb) (.bl _) (.bl _) (by simp [PyData.depth]) ?_
      rw [eqv_self _ rfl]
      walk_at "go"
      refine ⟨_, _, _, .list (os.map PyData.str), rfl, hT7, .lst v7 (rnStrs os), fun _ => ⟨strs_nd os, by omega⟩, .inl ⟨t, s, rfl, rfl, ht, hs, fun H8 e8 hT8 => ?_⟩⟩
      rw [← hos, selfo]
      have vC8 := keepL vC7 e8
      have vG8 := keepL vG7 e8
      have e08 := exN_tr e07 e8
      clear vC7 vG7 e07 hT7 e8 v7
      walk_at "go"
      refine for_runs (runs_range 0 _) (fun i σ H' => (Ex (noT H8) H' ∧ LamX.Tabs (tabsL tc) H') ∧ ∃ a5 a6 a7 a8 a9 a10 a11, σ = [some (.str s), some (.str t), some (.int o), some (.ref C), some (.ref G), a5, a6, a7, a8, a9, a10, a11]) ⟨⟨noT_ex _, hT8⟩, _, _, _, _, _, _, _, rfl⟩ (fun _ _ _ _ _ => trivial) ?_ ?_
      · rintro i x σ H9 H10 hi ⟨⟨e9, hT9⟩, a5, a6, a7, a8, a9, a10, a11, rfl⟩ ⟨rfl, rfl⟩
        rw [Int.toNat_natCast] at hi
        walk_at "go"
        refine for_runs (runs_range 0 _) (fun j σ H' => (Ex (noT H8) H' ∧ LamX.Tabs (tabsL tc) H') ∧ ∃ a5 a6 a7 a9 a10 a11, σ = [some (.str s), some (.str t), some (.int o), some (.ref C), some (.ref G), a5, a6, a7, some (.int (i : Nat)), a9, a10, a11]) ⟨⟨e9, hT9⟩, _, _, _, _, _, _, by rw [Int.zero_add]; rfl⟩ (fun _ _ _ _ _ => trivial) ?_ ?_
        · rintro j x σ H11 H12 hj ⟨⟨e11, hT11⟩, a5, a6, a7, a9, a10, a11, rfl⟩ ⟨rfl, rfl⟩
          rw [Int.toNat_natCast] at hj
          have vC11 := keepL vC8 e11
          walk_at "go"
          rw [Int.zero_add]
          have g1 := List.getElem?_eq_getElem (l := cs) (i := i) (by omega)
          have gz := cg (cs[i]'(by omega)) (List.getElem_mem _)
          obtain ⟨c, g2, g3⟩ := goodT_at gz hj
          have gl := gz.1
          generalize cs[i]'(by omega) = z at g1 gz g2 gl
          have key : ∃ c', atI (Str.ofString "xo").cps.toList (if decide (tx [c] = Str.ofString "x") = true then (1 : Int) else 0) = some c' ∧ c' ≠ c := by
            rw [show (Str.ofString "x") = tx [120] from by decide +kernel]
            rcases g3 with rfl | rfl
            · rw [if_pos (by simp)]
              exact ⟨111, by decide +kernel, by decide⟩
            · rw [if_neg (by simp [tx_inj])]
              exact ⟨120, by decide +kernel, by decide⟩
          refine st_br2 (fun c1 => ?_) (fun c1 => ?_)
          · walk_at "go"
            refine st_br2 (fun c2 => ?_) (fun c2 => ?_)
            · walk_at "go"
              exact ⟨⟨e11, hT11⟩, _, _, _, _, _, _, rfl⟩
            walk_at "go"
            refine st_ixL vC11 (at_mapN g1) ?_
            walk_at "go"
            refine st_sign (by omega) (at_nat g2) ?_
            walk_at "go"
            obtain ⟨c', k1, k2⟩ := key
            refine st_sign (by decide +kernel) k1 ?_
            walk_at "go"
            refine st_ixL vC11 (at_mapN g1) ?_
            walk_at "go"
            have t1 := cutS_toN z j
            have t1l := cutS_toN_len z j
            have t2l := cutS_from_len z (j + 1) (by omega)
            have tcl : (tx [c']).length = 1 := by rw [tx_length]; rfl
            refine st_addS (by omega) ?_
            have w1 := sl_app (cutS z none (some (j : Int))) (tx [c'])
            have w3 := cps_app (cutS z none (some (j : Int))) (tx [c'])
            walk_at "go"
            refine st_ixL vC11 (at_mapN g1) ?_
            walk_at "go"
            rw [show (j : Int) + 1 = ((j + 1 : Nat) : Int) by omega]
            refine st_addS (by omega) ?_
            have w4 := cps_app (cutS z none (some (j : Int)) ++ tx [c']) (cutS z (some ((j + 1 : Nat) : Int)) none)
            have hrow : (cutS z none (some (j : Int)) ++ tx [c'] ++ cutS z (some ((j + 1 : Nat) : Int)) none).cps.toList[j]? = some c' := by
              rw [w4, w3, t1, List.append_assoc, List.getElem?_append_right (by rw [List.length_take, lenStr]; omega), List.length_take, lenStr, show j - min j z.length = 0 by omega]
              rfl
            generalize cutS z none (some (j : Int)) ++ tx [c'] ++ cutS z (some ((j + 1 : Nat) : Int)) none = y at hrow ⊢
            walk_at "go"
            rename_i q1 H13 n1 e13 v1 q2 H14 n2 e14 v2
            rw [cutV_map, cutL_to] at v1
            refine st_addL (e14.get v1) v2 (by simp; omega) fun q3 H15 n3 e15 v3 => ?_
            have e1215 := (e13.trans e14).trans e15
            have vC15 := e1215.get vC11
            walk_at "go"
            rename_i q4 H16 n4 e16 v4
            rw [show (i : Int) + 1 = ((i + 1 : Nat) : Int) by omega, cutV_map, cutL_from] at v4
            refine st_addL (e16.get v3) v4 (by simp; omega) fun q6 H17 n6 e17 v6 => ?_
            have e1217 := (e1215.trans e16).trans e17
            rw [show ((cs.take i).map V.str ++ [V.str y] ++ (cs.drop (i + 1)).map V.str) = (cs.take i ++ [y] ++ cs.drop (i + 1)).map V.str by simp] at v6
            walk_at "go"
            have dpy := strs_dp (cs.take i ++ [y] ++ cs.drop (i + 1))
            refine ⟨_, _, _, .list ((cs.take i ++ [y] ++ cs.drop (i + 1)).map PyData.str), rfl, hT11.ext fun b o h => e1217.get h, .lst v6 (rnStrs _), fun _ => ⟨strs_nd _, by omega⟩, .inl ⟨s, t, rfl, rfl, hs, ht, fun H18 e18 hT18 => ?_⟩⟩
            have hne : PyData.eqv (.list ((cs.take i ++ [y] ++ cs.drop (i + 1)).map PyData.str)) (.list ((brdC s t).map PyData.str)) = false := by
              rw [← hcs]
              cases hh : PyData.eqv (.list ((cs.take i ++ [y] ++ cs.drop (i + 1)).map PyData.str)) (.list (cs.map PyData.str)) with
              | false => rfl
              | true =>
                have h1 := strs_eqv _ cs hh
                have h2 : cs.take i ++ [y] ++ cs.drop (i + 1) = cs := (List.map_inj_right (fun a b h => by injection h)).mp h1
                have h3 : (cs.take i ++ [y] ++ cs.drop (i + 1))[i]? = some y := by
                  rw [List.append_assoc, List.getElem?_append_right (by simp; omega), List.length_take, show i - min i cs.length = 0 by omega]
                  rfl
                rw [h2, g1] at h3
                cases h3
                rw [g2] at hrow
                cases hrow
                exact absurd rfl k2
            rw [hne]
            walk_at "go"
            exact ⟨⟨exN_tr (e11.trans e1217) e18, hT18⟩, _, _, _, _, _, _, rfl⟩
          · walk_at "go"
            refine st_ixL vC11 (at_mapN g1) ?_
            walk_at "go"
            refine st_sign (by omega) (at_nat g2) ?_
            walk_at "go"
            obtain ⟨c', k1, k2⟩ := key
            refine st_sign (by decide +kernel) k1 ?_
            walk_at "go"
            refine st_ixL vC11 (at_mapN g1) ?_
            walk_at "go"
            have t1 := cutS_toN z j
            have t1l := cutS_toN_len z j
            have t2l := cutS_from_len z (j + 1) (by omega)
            have tcl : (tx [c']).length = 1 := by rw [tx_length]; rfl
            refine st_addS (by omega) ?_
            have w1 := sl_app (cutS z none (some (j : Int))) (tx [c'])
            have w3 := cps_app (cutS z none (some (j : Int))) (tx [c'])
            walk_at "go"
            refine st_ixL vC11 (at_mapN g1) ?_
            walk_at "go"
            rw [show (j : Int) + 1 = ((j + 1 : Nat) : Int) by omega]
            refine st_addS (by omega) ?_
            have w4 := cps_app (cutS z none (some (j : Int)) ++ tx [c']) (cutS z (some ((j + 1 : Nat) : Int)) none)
            have hrow : (cutS z none (some (j : Int)) ++ tx [c'] ++ cutS z (some ((j + 1 : Nat) : Int)) none).cps.toList[j]? = some c' := by
              rw [w4, w3, t1, List.append_assoc, List.getElem?_append_right (by rw [List.length_take, lenStr]; omega), List.length_take, lenStr, show j - min j z.length = 0 by omega]
              rfl
            generalize cutS z none (some (j : Int)) ++ tx [c'] ++ cutS z (some ((j + 1 : Nat) : Int)) none = y at hrow ⊢
            walk_at "go"
            rename_i q1 H13 n1 e13 v1 q2 H14 n2 e14 v2
            rw [cutV_map, cutL_to] at v1
            refine st_addL (e14.get v1) v2 (by simp; omega) fun q3 H15 n3 e15 v3 => ?_
            have e1215 := (e13.trans e14).trans e15
            have vC15 := e1215.get vC11
            walk_at "go"
            rename_i q4 H16 n4 e16 v4
            rw [show (i : Int) + 1 = ((i + 1 : Nat) : Int) by omega, cutV_map, cutL_from] at v4
            refine st_addL (e16.get v3) v4 (by simp; omega) fun q6 H17 n6 e17 v6 => ?_
            have e1217 := (e1215.trans e16).trans e17
            rw [show ((cs.take i).map V.str ++ [V.str y] ++ (cs.drop (i + 1)).map V.str) = (cs.take i ++ [y] ++ cs.drop (i + 1)).map V.str by simp] at v6
            walk_at "go"
            have dpy := strs_dp (cs.take i ++ [y] ++ cs.drop (i + 1))
            refine ⟨_, _, _, .list ((cs.take i ++ [y] ++ cs.drop (i + 1)).map PyData.str), rfl, hT11.ext fun b o h => e1217.get h, .lst v6 (rnStrs _), fun _ => ⟨strs_nd _, by omega⟩, .inl ⟨s, t, rfl, rfl, hs, ht, fun H18 e18 hT18 => ?_⟩⟩
            have hne : PyData.eqv (.list ((cs.take i ++ [y] ++ cs.drop (i + 1)).map PyData.str)) (.list ((brdC s t).map PyData.str)) = false := by
              rw [← hcs]
              cases hh : PyData.eqv (.list ((cs.take i ++ [y] ++ cs.drop (i + 1)).map PyData.str)) (.list (cs.map PyData.str)) with
              | false => rfl
              | true =>
                have h1 := strs_eqv _ cs hh
                have h2 : cs.take i ++ [y] ++ cs.drop (i + 1) = cs := (List.map_inj_right (fun a b h => by injection h)).mp h1
                have h3 : (cs.take i ++ [y] ++ cs.drop (i + 1))[i]? = some y := by
                  rw [List.append_assoc, List.getElem?_append_right (by simp; omega), List.length_take, show i - min i cs.length = 0 by omega]
                  rfl
                rw [h2, g1] at h3
                cases h3
                rw [g2] at hrow
                cases hrow
                exact absurd rfl k2
            rw [hne]
            walk_at "go"
            exact ⟨⟨exN_tr (e11.trans e1217) e18, hT18⟩, _, _, _, _, _, _, rfl⟩
        · rintro σ H11 ⟨⟨e11, hT11⟩, a5, a6, a7, a9, a10, a11, rfl⟩
          walk_at "go"
          exact ⟨⟨e11, hT11⟩, _, _, _, _, _, _, _, rfl⟩
      · rintro σ H9 ⟨⟨e9, hT9⟩, a5, a6, a7, a8, a9, a10, a11, rfl⟩
        have vG9 := keepL vG8 e9
        walk_at "go"
        refine ⟨_, _, _, .list (cs.map PyData.str), rfl, hT9, .lst vG9 (rnStrs cs), fun _ => ⟨strs_nd cs, by omega⟩, .inl ⟨s, t, rfl, rfl, hs, ht, fun H10 e10 hT10 => ?_⟩⟩
        rw [← hcs, self]
        walk_at "go"
        exact k _ (exN_tr (exN_tr e08 e9) e10) hT10
def sp_law (K : PySem.W.Frag) (TL : List (Addr × Str)) : Sp := fun vs H Q _ => ∃ (a : Addr) (ns : List Int), vs = [.ref a] ∧ SqL K H a (ns.map V.int) ∧ LamX.Tabs TL H ∧ ns.length ≤ 63 ∧ ∀ H', Q (.bl true) H'
theorem row_step {y : Str} {e : Nat} {cap : Nat} (hy : RowS y) (hl : y.length ≤ 30) (he : rowSign e = true) (hc : cap ≤ 30) : RowS (cutS (tx [e] ++ y) none (some (cap : Int))) ∧ (cutS (tx [e] ++ y) none (some (cap : Int))).length ≤ 30 := by
  have h1 := cutS_toN_len (tx [e] ++ y) cap
  have h2 := cutS_toN (tx [e] ++ y) cap
  have hy' : (decide (y.length ≤ 48) && y.cps.toList.all rowSign) = true := hy
  rw [Bool.and_eq_true] at hy'
  refine ⟨?_, by omega⟩
  show (decide ((cutS (tx [e] ++ y) none (some (cap : Int))).length ≤ 48) && (cutS (tx [e] ++ y) none (some (cap : Int))).cps.toList.all rowSign) = true
  rw [Bool.and_eq_true]
  refine ⟨decide_eq_true (by omega), ?_⟩
  rw [h2, List.all_eq_true]
  intro x hx
  have hx := List.mem_of_mem_take hx
  rw [cps_app] at hx
  rcases List.mem_append.mp hx with h | h
  · rw [tx_toList] at h
    rw [List.mem_singleton.mp h]
    exact he
  · exact List.all_eq_true.mp hy'.2 x h
theorem ok_law (T : Tx K mg ad fd tk base tc) : FnOk P w K mg base CX0 9 (ad 21) (fd 21) ["_law_script"] (sp_law K (tabsL tc)) := by
  refine T.d_law.F.ok sc_law (fun vs H Q E h => ?_) (fun cdv A outer s H vs Q E hr h => ?_)
  · obtain ⟨a, ns, rfl, _⟩ := h
    rfl
  · obtain ⟨a, ns, rfl, hs, hT, hl, k⟩ := h
    refine ⟨_, (pss_cons (ps_set (i := 1) sc_law.nd rfl (Or.inl rfl) (pe_call (ok__law_at T) (hr.mono (by decide)) rfl T.d__law_at.g T.d__law_at.F.kp T.d__law_at.b .nil pass0 (pa_cons (pv 0) (pa_cons pe_int pa_nil))))
      (pss_cons (ps_set (i := 2) sc_law.nd rfl (Or.inl rfl) (pe_op o_mod (pv 1) pe_int))
      (pss_cons (ps_set (i := 3) sc_law.nd rfl (Or.inl rfl) (pe_op o_mod (pe_op o_div (pv 1) pe_int) pe_int))
      (pss_cut (ps_if (pt_cmpR (o_eq hr.units) (pe_op o_mod (pe_op o_div (pv 1) pe_int) pe_int) pe_int (nomark _)) (pss_cons (ps_set (i := 2) sc_law.nd rfl (Or.inl rfl) (pe_op o_mod (pe_op o_div (pv 1) pe_int) pe_int))
      (pss_one (ps_set (i := 3) sc_law.nd rfl (Or.inl rfl) (pe_op o_mod (pe_op o_div (pv 1) pe_int) pe_int)))) pss_nil)
      (pss_cons (ps_set (i := 4) sc_law.nd rfl (Or.inl rfl) (pe_op o_mod (pe_call (ok__law_at T) (hr.mono (by decide)) rfl T.d__law_at.g T.d__law_at.F.kp T.d__law_at.b .nil pass0 (pa_cons (pv 0) (pa_cons pe_int pa_nil))) (pe_op o_pow pe_int pe_int)))
      (pss_cons (ps_if (pt_not (pt_val (pe_call (ok__law_any T) (hr.mono (by decide)) rfl T.d__law_any.g T.d__law_any.F.kp T.d__law_any.b .nil pass0 (pa_cons (pv 0) (pa_cons (pv 2) (pa_cons (pv 3) (pa_cons (pv 4) pa_nil))))))) (pss_one (ps_ret pe_bl)) pss_nil)
      (pss_cons (ps_set (i := 5) sc_law.nd rfl (Or.inl rfl) pe_str)
      (pss_cons (ps_set (i := 6) sc_law.nd rfl (Or.inl rfl) (pe_ix (i_ix (K := K)) (pe_lst (pa_cons pe_int (pa_cons pe_int (pa_cons pe_int (pa_cons pe_int pa_nil))))) (pe_op o_mod (pe_call (ok__law_at T) (hr.mono (by decide)) rfl T.d__law_at.g T.d__law_at.F.kp T.d__law_at.b .nil pass0 (pa_cons (pv 0) (pa_cons pe_int pa_nil))) pe_int) (fun _ _ => rfl)))
      (pss_cons (ps_set (i := 7) sc_law.nd rfl (Or.inl rfl) (pe_ix (i_ix (K := K)) (pe_lst (pa_cons pe_int (pa_cons pe_int (pa_cons pe_int (pa_cons pe_int (pa_cons pe_int pa_nil)))))) (pe_op o_mod (pe_op o_div (pe_call (ok__law_at T) (hr.mono (by decide)) rfl T.d__law_at.g T.d__law_at.F.kp T.d__law_at.b .nil pass0 (pa_cons (pv 0) (pa_cons pe_int pa_nil))) pe_int) pe_int) (fun _ _ => rfl)))
      (pss_cons (ps_set (i := 8) sc_law.nd rfl (Or.inl rfl) (pe_lst (pa_cons pe_str (pa_cons pe_str pa_nil))))
      (pss_cons (ps_for PassesOwn.never rfl (pi_list (pe_slice (s_sl (K := K)) (pv 0) (po_some pe_int) (po_some pe_int))) (pg_name (i := 9) sc_law.nd rfl (Or.inl rfl)) (pss_cons (ps_set (i := 10) sc_law.nd rfl (Or.inl rfl) (pe_ix (i_ix (K := K)) (pv 5) (pe_op o_mod (pe_op o_add (pe_op o_div (pe_call (ok__law_at T) (hr.mono (by decide)) rfl T.d__law_at.g T.d__law_at.F.kp T.d__law_at.b .nil pass0 (pa_cons (pv 0) (pa_cons pe_int pa_nil))) pe_int) (pe_op o_mul pe_int (pe_op o_mod (pe_op o_div (pv 9) pe_int) (pv 6)))) pe_int) (fun _ _ => rfl)))
      (pss_one (ps_asg (pe_slice (s_sl (K := K)) (pe_op o_add (pv 10) (pe_ix (i_ix (K := K)) (pv 8) (pe_op o_mod (pv 9) pe_int) (fun _ _ => rfl))) po_none (po_some (pv 7))) (pg_sub (pv 8) (pe_op o_mod (pv 9) pe_int) set_list)))))
      (pss_one (ps_ret (pe_call (ok__law_is T) (hr.mono (by decide)) rfl T.d__law_is.g T.d__law_is.F.kp T.d__law_is.b .nil pass0 (pa_cons (pe_ix (i_ix (K := K)) (pv 8) pe_int (fun _ _ => rfl)) (pa_cons (pe_ix (i_ix (K := K)) (pv 8) pe_int (fun _ _ => rfl)) (pa_cons (pv 4) pa_nil))))))))))))))))), ?_⟩
    walk_at "go"
    refine ⟨a, ns, 0, rfl, hs, by decide, hl, fun c0 => ?_⟩
    walk_at "go"
    refine ⟨fun σ H' => H' = H ∧ ∃ m n : Nat, m ≤ 48 ∧ n ≤ 48 ∧ σ = [some (.ref a), some (.int c0), some (.int (m : Nat)), some (.int (n : Nat)), none, none, none, none, none, none, none], ?_, ?_⟩
    · walk_at "go"
      refine st_br2 (fun d => ?_) (fun d => ?_)
      · walk_at "go"
        obtain ⟨m, hm⟩ := Int.eq_ofNat_of_zero_le (Int.emod_nonneg (c0 / 648) (b := 49) (by decide))
        obtain ⟨n, hn⟩ := Int.eq_ofNat_of_zero_le (Int.emod_nonneg (c0 / 31752) (b := 49) (by decide))
        exact ⟨rfl, m, n, by omega, by omega, by rw [hm, hn]; rfl⟩
      · walk_at "go"
        obtain ⟨m, hm⟩ := Int.eq_ofNat_of_zero_le (Int.emod_nonneg c0 (b := 9) (by decide))
        obtain ⟨n, hn⟩ := Int.eq_ofNat_of_zero_le (Int.emod_nonneg (c0 / 9) (b := 9) (by decide))
        exact ⟨rfl, m, n, by omega, by omega, by rw [hm, hn]; rfl⟩
    · rintro σ H1 ⟨rfl, m, n, hm, hn, rfl⟩
      walk_at "go"
      refine ⟨a, ns, 1, rfl, hs, by decide, hl, fun c1 => ?_⟩
      walk_at "go"
      have o0 : 0 ≤ c1 % 10 ^ Int.toNat 30 := Int.emod_nonneg _ (by decide)
      generalize c1 % 10 ^ Int.toNat 30 = o at o0 ⊢
      walk_at "go"
      refine ⟨a, ns, m, n, o, rfl, hs, hT, hl, hm, hn, o0, fun H2 e2 hT2 => ?_⟩
      have hs2 := sqL_to hs e2
      clear hs hT e2
      walk_at "go"
      rename_i q3 H3 n3 e3 v3
      have hs3 := sqL_ex hs2 e3
      have hT3 := hT2.ext fun b o h => e3.get h
      clear hs2 hT2
      refine ⟨a, ns, 2, rfl, hs3, by decide, hl, fun c2 => ?_⟩
      walk_at "go"
      refine st_ixI [2, 3, 1, 27] v3 rfl (Int.emod_nonneg _ (by decide)) (Int.emod_lt_of_pos _ (by decide)) (fun w _ hw => ?_)
      have hw : 1 ≤ w ∧ w ≤ 27 := by simp at hw; omega
      walk_at "go"
      rename_i q4 H4 n4 e4 v4
      have hs4 := sqL_ex hs3 e4
      have hT4 := hT3.ext fun b o h => e4.get h
      clear hs3 hT3 e3 v3 e4
      refine ⟨a, ns, 2, rfl, hs4, by decide, hl, fun c3 => ?_⟩
      walk_at "go"
      refine st_ixI [6, 6, 6, 6, 30] v4 rfl (Int.emod_nonneg _ (by decide)) (Int.emod_lt_of_pos _ (by decide)) (fun cp _ hcp => ?_)
      have hcp : 6 ≤ cp ∧ cp ≤ 30 := by simp at hcp; omega
      obtain ⟨cap, rfl⟩ := Int.eq_ofNat_of_zero_le (show 0 ≤ cp by omega)
      clear v4 n4 n3
      walk_at "go"
      rename_i R H5 n5 e5 v5
      have hs5 := sqL_ex hs4 e5
      refine st_slK hs5 fun q6 H6 n6 e6 v6 => ?_
      rw [cutV_map] at v6
      generalize hcut : cutL ns (some 3) (some 63) = ms at v6
      have hml : ms.length ≤ 63 := by rw [← hcut]; exact Nat.le_trans (cutL_len _ _ _) hl
      have qR : q6 ≠ R := (ne_of_none v5 n6).symm
      have v56 := e6.get v5
      have e46 := e5.trans e6
      have hsg : (Str.ofString "abcdefghijklmnopqrstuvwxyz.").cps.toList.all rowSign = true := by decide +kernel
      have hsl : (Str.ofString "abcdefghijklmnopqrstuvwxyz.").cps.toList.length = 27 := by decide +kernel
      have hsl2 : (Str.ofString "abcdefghijklmnopqrstuvwxyz.").length = 27 := by decide +kernel
      generalize (Str.ofString "abcdefghijklmnopqrstuvwxyz.") = sg at hsg hsl hsl2 ⊢
      have r0 : RowS (Str.ofString "") := by show isRow (.str (Str.ofString "")) = true; decide +kernel
      have l0 : (Str.ofString "").length ≤ 30 := by decide +kernel
      clear hs5 v5 hcut e5 e6
      refine ⟨q6, rfl, ⟨_, lstAt_sq (lst_of v6)⟩, ?_⟩
      refine for_runs (runs_list K q6 _) (fun i σ H' => (Ex H4 H' ∧ H' q6 = some (.lst (ms.map V.int)) ∧ ∃ y z, RowS y ∧ y.length ≤ 30 ∧ RowS z ∧ z.length ≤ 30 ∧ H' R = some (.lst [.str y, .str z])) ∧ ∃ a9 a10, σ = [some (.ref a), some (.int c0), some (.int (m : Nat)), some (.int (n : Nat)), some (.int o), some (.str sg), some (.int w), some (.int (cap : Nat)), some (.ref R), a9, a10]) ⟨⟨e46, v6, _, _, r0, l0, r0, l0, v56⟩, _, _, rfl⟩ (fun i σ H' _ h => lst_of h.1.2.1) ?_ ?_
      · rintro i x σ H7 H8 hi ⟨⟨e7, p7, y, z, ry, ly, rz, lz, v7⟩, a9, a10, rfl⟩ ⟨rfl, hx⟩
        obtain ⟨c, _, rfl⟩ := by
          rw [List.getElem?_map] at hx
          exact Option.map_eq_some_iff.mp hx
        walk_at "go"
        refine ⟨a, ns, 2, rfl, sqL_ex hs4 e7, by decide, hl, fun c4 => ?_⟩
        walk_at "go"
        obtain ⟨e, g1, g2⟩ := at_in (xs := sg.cps.toList) (i := (c4 / 4 + 5 * (c / 2 % w)) % 27) (Int.emod_nonneg _ (by decide)) (by rw [hsl]; exact Int.emod_lt_of_pos _ (by decide))
        have he : rowSign e = true := List.all_eq_true.mp hsg e (List.mem_of_getElem? g2)
        have le : (tx [e]).length = 1 := by rw [tx_length]; rfl
        refine st_sign (by omega) g1 ?_
        walk_at "go"
        rcases (by omega : c % 2 = 0 ∨ c % 2 = 1) with h | h
        · rw [h]
          refine st_ixL (i := 0) (v := .str y) v7 rfl ?_
          have la := sl_app (tx [e]) y
          have st := row_step (cap := cap) ry ly he (by omega)
          refine st_addS (by omega) ?_
          walk_at "go"
          rw [h]
          refine st_setL (j := 0) v7 rfl ?_
          refine ⟨⟨e7.mut n5, (upd_ne qR).trans p7, _, z, st.1, st.2, rz, lz, by rw [upd_same]; rfl⟩, _, _, rfl⟩
        · rw [h]
          refine st_ixL (i := 1) (v := .str z) v7 rfl ?_
          have la := sl_app (tx [e]) z
          have st := row_step (cap := cap) rz lz he (by omega)
          refine st_addS (by omega) ?_
          walk_at "go"
          rw [h]
          refine st_setL (j := 1) v7 rfl ?_
          refine ⟨⟨e7.mut n5, (upd_ne qR).trans p7, y, _, ry, ly, st.1, st.2, by rw [upd_same]; rfl⟩, _, _, rfl⟩
      · rintro σ H7 ⟨⟨e7, p7, y, z, ry, ly, rz, lz, v7⟩, a9, a10, rfl⟩
        walk_at "go"
        refine ⟨y, z, o, rfl, ry, rz, hT4.ext fun b o h => e7.get h, fun H8 _ _ => ?_⟩
        exact k H8
end
theorem all_mk {l : PySem.W.OpenLaw} {w : World} {K : PySem.W.Frag} {h : Heap} {mg : Str → Option Value} {fa f0 f1 f2 f3 f4 f5 f6 f7 f8 f9 f10 f11 f12 f13 f14 f15 f16 f17 f18 f19 f20 f21 : Addr} (X : K.In h) (G : h.Ns mainGlobals mg) (hfa : mg "law" = some (.ref fa))
    {od0 od1 od2 od3 od4 od5 od6 od7 od8 od9 od10 od11 od12 od13 od14 od15 od16 od17 od18 od19 od20 od21 an0 an1 an2 an3 an4 an5 an6 an7 an8 an9 an10 an11 an12 an13 an14 an15 an16 an17 an18 an19 an20 an21 : Option Addr} {sl0 sl1 sl2 sl3 sl4 sl5 sl6 sl7 sl8 sl9 sl10 sl11 sl12 sl13 sl14 sl15 sl16 sl17 sl18 sl19 sl20 sl21 : Array (Option Value)} {oc0 oc1 oc2 oc3 oc4 oc5 oc6 oc7 oc8 oc9 oc10 oc11 oc12 oc13 oc14 oc15 oc16 oc17 oc18 oc19 oc20 oc21 kV0 kV1 kV2 kV3 kV4 kV5 kV6 kV7 kV8 kV9 kV10 kV11 kV12 kV13 kV14 kV15 kV16 kV17 kV18 kV19 kV20 kV21 dc0 dc1 dc2 dc3 dc4 dc5 dc6 dc7 dc8 dc9 dc10 dc11 dc12 dc13 dc14 dc15 dc16 dc17 dc18 dc19 dc20 dc21 pm0 pm1 pm2 pm3 pm4 pm5 pm6 pm7 pm8 pm9 pm10 pm11 pm12 pm13 pm14 pm15 pm16 pm17 pm18 pm19 pm20 pm21 cd0 cd1 cd2 cd3 cd4 cd5 cd6 cd8 cd10 cd11 cd12 cd13 cd14 cd15 cd16 cd17 cd18 cd19 cd20 cd21 ct0 ct1 ct2 ct3 ct4 ct5 ct6 ct7 ct8 ct9 ct10 ct11 ct12 ct13 ct14 ct15 ct16 ct17 ct18 ct19 ct20 ct21 : Value} {cc7 cc9 PT7 PT9 : Addr} {hc7 hc9 : Value} {hd7 hd9 : Option Addr} {hv7 hv9 : Array Value} {hs7 hs9 : Array (Option Value)} {t_0 t_1 t_2 : Tok}{C_NoRow C_NoPlace C_NoCells C_PaneError C_Board I_NoRow I_NoPlace I_NoCells : Addr} {xn_NoRow xn_NoPlace xn_NoCells xq_NoRow xq_NoPlace xq_NoCells : Str} {xN_NoRow xN_NoPlace xN_NoCells : Addr} {xb_NoRow xb_NoPlace xb_NoCells xu_NoRow xu_NoPlace xu_NoCells : List Value} {xs_NoRow xs_NoPlace xs_NoCells : List Str} {xa_NoRow xa_NoPlace xa_NoCells : Bool} {xc_NoRow xc_NoPlace xc_NoCells : Option Bool} {xd_NoRow xd_NoPlace xd_NoCells Iod_NoRow Iod_NoPlace Iod_NoCells Ian_NoRow Ian_NoPlace Ian_NoCells : Option Addr} {xk0_NoRow xk0_NoPlace xk0_NoCells xk1_NoRow xk1_NoPlace xk1_NoCells xk2_NoRow xk2_NoPlace xk2_NoCells xk3_NoRow xk3_NoPlace xk3_NoCells xk5_NoRow xk5_NoPlace xk5_NoCells : Option Value} {Ioc_NoRow Ioc_NoPlace Ioc_NoCells IkV_NoRow IkV_NoPlace IkV_NoCells Idc_NoRow Idc_NoPlace Idc_NoCells Ipm_NoRow Ipm_NoPlace Ipm_NoCells Icd_NoRow Icd_NoPlace Icd_NoCells Ict_NoRow Ict_NoPlace Ict_NoCells : Value} {Isl_NoRow Isl_NoPlace Isl_NoCells : Array (Option Value)} 
    (a0 : PySem.W.nsIn K mainGlobals "is_whole" = some (some (.ref f0)))
    (l0 : K.lookup f0 = some ⟨oc0, od0, .func (PySem.W.fnOf "is_whole" "is_whole" (defArgs s_is_whole) (defBody s_is_whole) (defScope s_is_whole) .none kV0 dc0 pm0 an0 cd0 ct0), sl0⟩)
    (c0 : PySem.W.codeIn K cd0 "is_whole" = true) (k0 : PySem.W.keepIn K (.ref f0) = true)
    (a1 : PySem.W.nsIn K mainGlobals "is_within" = some (some (.ref f1)))
    (l1 : K.lookup f1 = some ⟨oc1, od1, .func (PySem.W.fnOf "is_within" "is_within" (defArgs s_is_within) (defBody s_is_within) (defScope s_is_within) .none kV1 dc1 pm1 an1 cd1 ct1), sl1⟩)
    (c1 : PySem.W.codeIn K cd1 "is_within" = true) (k1 : PySem.W.keepIn K (.ref f1) = true)
    (a2 : PySem.W.nsIn K mainGlobals "is_row" = some (some (.ref f2)))
    (l2 : K.lookup f2 = some ⟨oc2, od2, .func (PySem.W.fnOf "is_row" "is_row" (defArgs s_is_row) (defBody s_is_row) (defScope s_is_row) .none kV2 dc2 pm2 an2 cd2 ct2), sl2⟩)
    (c2 : PySem.W.codeIn K cd2 "is_row" = true) (k2 : PySem.W.keepIn K (.ref f2) = true)
    (a3 : PySem.W.nsIn K mainGlobals "need_row" = some (some (.ref f3)))
    (l3 : K.lookup f3 = some ⟨oc3, od3, .func (PySem.W.fnOf "need_row" "need_row" (defArgs s_need_row) (defBody s_need_row) (defScope s_need_row) .none kV3 dc3 pm3 an3 cd3 ct3), sl3⟩)
    (c3 : PySem.W.codeIn K cd3 "need_row" = true) (k3 : PySem.W.keepIn K (.ref f3) = true)
    (a4 : PySem.W.nsIn K mainGlobals "need_rows" = some (some (.ref f4)))
    (l4 : K.lookup f4 = some ⟨oc4, od4, .func (PySem.W.fnOf "need_rows" "need_rows" (defArgs s_need_rows) (defBody s_need_rows) (defScope s_need_rows) .none kV4 dc4 pm4 an4 cd4 ct4), sl4⟩)
    (c4 : PySem.W.codeIn K cd4 "need_rows" = true) (k4 : PySem.W.keepIn K (.ref f4) = true)
    (a5 : PySem.W.nsIn K mainGlobals "led" = some (some (.ref f5)))
    (l5 : K.lookup f5 = some ⟨oc5, od5, .func (PySem.W.fnOf "led" "led" (defArgs s_led) (defBody s_led) (defScope s_led) .none kV5 dc5 pm5 an5 cd5 ct5), sl5⟩)
    (c5 : PySem.W.codeIn K cd5 "led" = true) (k5 : PySem.W.keepIn K (.ref f5) = true)
    (a6 : PySem.W.nsIn K mainGlobals "are_cells" = some (some (.ref f6)))
    (l6 : K.lookup f6 = some ⟨oc6, od6, .func (PySem.W.fnOf "are_cells" "are_cells" (defArgs s_are_cells) (defBody s_are_cells) (defScope s_are_cells) .none kV6 dc6 pm6 an6 cd6 ct6), sl6⟩)
    (c6 : PySem.W.codeIn K cd6 "are_cells" = true) (k6 : PySem.W.keepIn K (.ref f6) = true)
    (a7 : PySem.W.nsIn K mainGlobals "walked" = some (some (.ref f7)))
    (l7 : K.lookup f7 = some ⟨oc7, od7, .func (PySem.W.fnOf "walked" "walked" (defArgs s_walked) (defBody s_walked) (defScope s_walked) .none kV7 dc7 pm7 an7 (.ref cc7) ct7), sl7⟩)
    (c7 : PySem.W.codeIn K (.ref cc7) "walked" = true) (k7 : PySem.W.keepIn K (.ref f7) = true)
    (h7 : K.lookup cc7 = some ⟨hc7, hd7, .fields hv7, hs7⟩) (p7 : (hv7[11]? : Option Value) = some (.ref PT7)) (g7 : PySem.W.codeHdIn K cc7 PT7 = true) (n7 : K.lookup PT7 = none) (t7 : h.get? PT7 = some { cls := .none, data := .fields #[] })
    (a8 : PySem.W.findIn K (.ref C_Board) "cells" = some (some (.ref f8))) (i8 : PySem.W.isFn K (.ref f8) = true)
    (l8 : K.lookup f8 = some ⟨oc8, od8, .func (PySem.W.fnOf "cells" "Board.cells" (defArgs s_Board_cells) (defBody s_Board_cells) (defScope s_Board_cells) .none kV8 dc8 pm8 an8 cd8 ct8), sl8⟩)
    (c8 : PySem.W.codeIn K cd8 "Board.cells" = true) (k8 : PySem.W.keepIn K (.ref f8) = true)
    (a9 : PySem.W.findIn K (.ref C_Board) "__init__" = some (some (.ref f9))) (i9 : PySem.W.isFn K (.ref f9) = true)
    (l9 : K.lookup f9 = some ⟨oc9, od9, .func (PySem.W.fnOf "__init__" "Board.__init__" (defArgs s_Board_init) (defBody s_Board_init) (defScope s_Board_init) .none kV9 dc9 pm9 an9 (.ref cc9) ct9), sl9⟩)
    (c9 : PySem.W.codeIn K (.ref cc9) "Board.__init__" = true) (k9 : PySem.W.keepIn K (.ref f9) = true)
    (h9 : K.lookup cc9 = some ⟨hc9, hd9, .fields hv9, hs9⟩) (p9 : (hv9[11]? : Option Value) = some (.ref PT9)) (g9 : PySem.W.codeHdIn K cc9 PT9 = true) (n9 : K.lookup PT9 = none) (t9 : h.get? PT9 = some { cls := .none, data := .fields #[] })
    (a10 : PySem.W.nsIn K mainGlobals "is_board" = some (some (.ref f10)))
    (l10 : K.lookup f10 = some ⟨oc10, od10, .func (PySem.W.fnOf "is_board" "is_board" (defArgs s_is_board) (defBody s_is_board) (defScope s_is_board) .none kV10 dc10 pm10 an10 cd10 ct10), sl10⟩)
    (c10 : PySem.W.codeIn K cd10 "is_board" = true) (k10 : PySem.W.keepIn K (.ref f10) = true)
    (a11 : PySem.W.nsIn K mainGlobals "_law_at" = some (some (.ref f11)))
    (l11 : K.lookup f11 = some ⟨oc11, od11, .func (PySem.W.fnOf "_law_at" "_law_at" (defArgs s__law_at) (defBody s__law_at) (defScope s__law_at) .none kV11 dc11 pm11 an11 cd11 ct11), sl11⟩)
    (c11 : PySem.W.codeIn K cd11 "_law_at" = true) (k11 : PySem.W.keepIn K (.ref f11) = true)
    (a12 : PySem.W.nsIn K mainGlobals "_law_mix" = some (some (.ref f12)))
    (l12 : K.lookup f12 = some ⟨oc12, od12, .func (PySem.W.fnOf "_law_mix" "_law_mix" (defArgs s__law_mix) (defBody s__law_mix) (defScope s__law_mix) .none kV12 dc12 pm12 an12 cd12 ct12), sl12⟩)
    (c12 : PySem.W.codeIn K cd12 "_law_mix" = true) (k12 : PySem.W.keepIn K (.ref f12) = true)
    (a13 : PySem.W.nsIn K mainGlobals "_law_ints" = some (some (.ref f13)))
    (l13 : K.lookup f13 = some ⟨oc13, od13, .func (PySem.W.fnOf "_law_ints" "_law_ints" (defArgs s__law_ints) (defBody s__law_ints) (defScope s__law_ints) .none kV13 dc13 pm13 an13 cd13 ct13), sl13⟩)
    (c13 : PySem.W.codeIn K cd13 "_law_ints" = true) (k13 : PySem.W.keepIn K (.ref f13) = true)
    (a14 : PySem.W.nsIn K mainGlobals "_law_bit" = some (some (.ref f14)))
    (l14 : K.lookup f14 = some ⟨oc14, od14, .func (PySem.W.fnOf "_law_bit" "_law_bit" (defArgs s__law_bit) (defBody s__law_bit) (defScope s__law_bit) .none kV14 dc14 pm14 an14 cd14 ct14), sl14⟩)
    (c14 : PySem.W.codeIn K cd14 "_law_bit" = true) (k14 : PySem.W.keepIn K (.ref f14) = true)
    (a15 : PySem.W.nsIn K mainGlobals "_law_walked" = some (some (.ref f15)))
    (l15 : K.lookup f15 = some ⟨oc15, od15, .func (PySem.W.fnOf "_law_walked" "_law_walked" (defArgs s__law_walked) (defBody s__law_walked) (defScope s__law_walked) .none kV15 dc15 pm15 an15 cd15 ct15), sl15⟩)
    (c15 : PySem.W.codeIn K cd15 "_law_walked" = true) (k15 : PySem.W.keepIn K (.ref f15) = true)
    (a16 : PySem.W.nsIn K mainGlobals "_law_of_rows" = some (some (.ref f16)))
    (l16 : K.lookup f16 = some ⟨oc16, od16, .func (PySem.W.fnOf "_law_of_rows" "_law_of_rows" (defArgs s__law_of_rows) (defBody s__law_of_rows) (defScope s__law_of_rows) .none kV16 dc16 pm16 an16 cd16 ct16), sl16⟩)
    (c16 : PySem.W.codeIn K cd16 "_law_of_rows" = true) (k16 : PySem.W.keepIn K (.ref f16) = true)
    (a17 : PySem.W.nsIn K mainGlobals "_law_spoiled" = some (some (.ref f17)))
    (l17 : K.lookup f17 = some ⟨oc17, od17, .func (PySem.W.fnOf "_law_spoiled" "_law_spoiled" (defArgs s__law_spoiled) (defBody s__law_spoiled) (defScope s__law_spoiled) .none kV17 dc17 pm17 an17 cd17 ct17), sl17⟩)
    (c17 : PySem.W.codeIn K cd17 "_law_spoiled" = true) (k17 : PySem.W.keepIn K (.ref f17) = true)
    (a18 : PySem.W.nsIn K mainGlobals "_law_no" = some (some (.ref f18)))
    (l18 : K.lookup f18 = some ⟨oc18, od18, .func (PySem.W.fnOf "_law_no" "_law_no" (defArgs s__law_no) (defBody s__law_no) (defScope s__law_no) .none kV18 dc18 pm18 an18 cd18 ct18), sl18⟩)
    (c18 : PySem.W.codeIn K cd18 "_law_no" = true) (k18 : PySem.W.keepIn K (.ref f18) = true)
    (a19 : PySem.W.nsIn K mainGlobals "_law_any" = some (some (.ref f19)))
    (l19 : K.lookup f19 = some ⟨oc19, od19, .func (PySem.W.fnOf "_law_any" "_law_any" (defArgs s__law_any) (defBody s__law_any) (defScope s__law_any) .none kV19 dc19 pm19 an19 cd19 ct19), sl19⟩)
    (c19 : PySem.W.codeIn K cd19 "_law_any" = true) (k19 : PySem.W.keepIn K (.ref f19) = true)
    (a20 : PySem.W.nsIn K mainGlobals "_law_is" = some (some (.ref f20)))
    (l20 : K.lookup f20 = some ⟨oc20, od20, .func (PySem.W.fnOf "_law_is" "_law_is" (defArgs s__law_is) (defBody s__law_is) (defScope s__law_is) .none kV20 dc20 pm20 an20 cd20 ct20), sl20⟩)
    (c20 : PySem.W.codeIn K cd20 "_law_is" = true) (k20 : PySem.W.keepIn K (.ref f20) = true)
    (a21 : PySem.W.nsIn K mainGlobals "law" = some (some (.ref f21)))
    (l21 : K.lookup f21 = some ⟨oc21, od21, .func (PySem.W.fnOf "law" "law" (defArgs s_law) (defBody s_law) (defScope s_law) .none kV21 dc21 pm21 an21 cd21 ct21), sl21⟩)
    (c21 : PySem.W.codeIn K cd21 "law" = true) (k21 : PySem.W.keepIn K (.ref f21) = true)
    (ne0_1 : PT7 ≠ PT9)
    (cn0 : PySem.W.nsIn K mainGlobals "MOST_SIGNS" = some (some (.int 48 t_0)))
    (cn1 : PySem.W.nsIn K mainGlobals "LETTERS" = some (some (.str "abcdefghijklmnopqrstuvwxyz" t_1)))
    (cn2 : PySem.W.nsIn K mainGlobals "MOST_ROWS" = some (some (.int 48 t_2)))
    (z0 : PySem.W.nsIn K mainGlobals "isinstance" = some none)
    (z1 : PySem.W.nsIn K mainGlobals "int" = some none)
    (z2 : PySem.W.nsIn K mainGlobals "bool" = some none)
    (z3 : PySem.W.nsIn K mainGlobals "all" = some none)
    (z4 : PySem.W.nsIn K mainGlobals "str" = some none)
    (z5 : PySem.W.nsIn K mainGlobals "len" = some none)
    (z6 : PySem.W.nsIn K mainGlobals "list" = some none)
    (z7 : PySem.W.nsIn K mainGlobals "range" = some none)
    (z8 : PySem.W.nsIn K mainGlobals "enumerate" = some none)
    (z9 : PySem.W.nsIn K mainGlobals "tuple" = some none)
    (z10 : PySem.W.nsIn K mainGlobals "ValueError" = some none)
    (g_NoRow : PySem.W.nsIn K mainGlobals "NoRow" = some (some (.ref C_NoRow)))
    (g_NoPlace : PySem.W.nsIn K mainGlobals "NoPlace" = some (some (.ref C_NoPlace)))
    (g_NoCells : PySem.W.nsIn K mainGlobals "NoCells" = some (some (.ref C_NoCells)))
    (g_PaneError : PySem.W.nsIn K mainGlobals "PaneError" = some (some (.ref C_PaneError)))
    (sb_NoPlace : PySem.W.subIn K (.ref C_NoPlace) (.type "BaseException") = some true)
    (hd_NoPlace : PySem.W.hasDictIn K C_NoPlace = true)
    (ty_NoPlace : PySem.W.typeIn K (.ref C_NoPlace) = some (.type "type"))
    (sb_NoCells : PySem.W.subIn K (.ref C_NoCells) (.type "BaseException") = some true)
    (hd_NoCells : PySem.W.hasDictIn K C_NoCells = true)
    (ty_NoCells : PySem.W.typeIn K (.ref C_NoCells) = some (.type "type"))
    (sb_PaneError : PySem.W.subIn K (.ref C_PaneError) (.type "BaseException") = some true)
    (hd_PaneError : PySem.W.hasDictIn K C_PaneError = true)
    (ty_PaneError : PySem.W.typeIn K (.ref C_PaneError) = some (.type "type"))
    (lk_NoRow : K.lookup C_NoRow = some (excClassObj xn_NoRow xq_NoRow C_NoRow xN_NoRow xb_NoRow [.ref C_PaneError, .type "ValueError", .type "Exception", .type "BaseException", .type "object"] true xs_NoRow xu_NoRow xa_NoRow xc_NoRow xd_NoRow xk0_NoRow xk1_NoRow xk2_NoRow xk3_NoRow xk5_NoRow "ValueError.__new__"))
    (f_setattr_NoRow : PySem.W.findIn K (.ref C_NoRow) "__setattr__" = some (some (.builtin "object.__setattr__")))
    (sb_NoRow : PySem.W.subIn K (.ref C_NoRow) (.type "BaseException") = some true)
    (ty_NoRow : PySem.W.typeIn K (.ref C_NoRow) = some (.type "type"))
    (k_NoRow : PySem.W.keepIn K (.ref C_NoRow) = true)
    (f_found_NoRow : PySem.W.findIn K (.ref C_NoRow) "found" = some none)
    (ini_NoRow : PySem.W.findIn K (.ref C_NoRow) "__init__" = some (some (.ref I_NoRow)))
    (int_NoRow : PySem.W.typeIn K (.ref I_NoRow) = some (.type "function"))
    (il_NoRow : K.lookup I_NoRow = some ⟨Ioc_NoRow, Iod_NoRow, .func (PySem.W.fnOf "__init__" "NoRow.__init__" (defArgs si_NoRow) (defBody si_NoRow) (defScope si_NoRow) .none IkV_NoRow Idc_NoRow Ipm_NoRow Ian_NoRow Icd_NoRow Ict_NoRow), Isl_NoRow⟩)
    (ic_NoRow : PySem.W.codeIn K Icd_NoRow "NoRow.__init__" = true)
    (ik_NoRow : PySem.W.keepIn K (.ref I_NoRow) = true)
    (ct_ : PySem.W.specialIn K (.builtin "object.__class__") "__get__" = some (some (.builtin "getset_descriptor.__get__")))
    (cu_ : PySem.W.takesIn K (.builtin "object.__class__") = some true)
    (f_getattribute_NoRow : PySem.W.findIn K (.ref C_NoRow) "__getattribute__" = some (some (.builtin "BaseException.__getattribute__")))
    (f_getattr_NoRow : PySem.W.findIn K (.ref C_NoRow) "__getattr__" = some none)
    (hd_NoRow : PySem.W.hasDictIn K C_NoRow = true)
    (f_class_NoRow : PySem.W.findIn K (.ref C_NoRow) "__class__" = some (some (.builtin "object.__class__")))
    (cm_NoRow : PySem.W.mroIn K C_NoRow (.type "object") = some true)
    (s_NoRow_NoPlace : PySem.W.subIn K (.ref C_NoRow) (.ref C_NoPlace) = some false)
    (s_NoRow_NoCells : PySem.W.subIn K (.ref C_NoRow) (.ref C_NoCells) = some false)
    (s_NoRow_PaneError : PySem.W.subIn K (.ref C_NoRow) (.ref C_PaneError) = some true)
    (v_NoRow : PySem.W.subIn K (.ref C_NoRow) (.type "ValueError") = some true)
    (lk_NoPlace : K.lookup C_NoPlace = some (excClassObj xn_NoPlace xq_NoPlace C_NoPlace xN_NoPlace xb_NoPlace [.ref C_PaneError, .type "ValueError", .type "Exception", .type "BaseException", .type "object"] true xs_NoPlace xu_NoPlace xa_NoPlace xc_NoPlace xd_NoPlace xk0_NoPlace xk1_NoPlace xk2_NoPlace xk3_NoPlace xk5_NoPlace "ValueError.__new__"))
    (f_setattr_NoPlace : PySem.W.findIn K (.ref C_NoPlace) "__setattr__" = some (some (.builtin "object.__setattr__")))
    (k_NoPlace : PySem.W.keepIn K (.ref C_NoPlace) = true)
    (f_found_NoPlace : PySem.W.findIn K (.ref C_NoPlace) "found" = some none)
    (ini_NoPlace : PySem.W.findIn K (.ref C_NoPlace) "__init__" = some (some (.ref I_NoPlace)))
    (int_NoPlace : PySem.W.typeIn K (.ref I_NoPlace) = some (.type "function"))
    (il_NoPlace : K.lookup I_NoPlace = some ⟨Ioc_NoPlace, Iod_NoPlace, .func (PySem.W.fnOf "__init__" "NoPlace.__init__" (defArgs si_NoPlace) (defBody si_NoPlace) (defScope si_NoPlace) .none IkV_NoPlace Idc_NoPlace Ipm_NoPlace Ian_NoPlace Icd_NoPlace Ict_NoPlace), Isl_NoPlace⟩)
    (ic_NoPlace : PySem.W.codeIn K Icd_NoPlace "NoPlace.__init__" = true)
    (ik_NoPlace : PySem.W.keepIn K (.ref I_NoPlace) = true)
    (f_getattribute_NoPlace : PySem.W.findIn K (.ref C_NoPlace) "__getattribute__" = some (some (.builtin "BaseException.__getattribute__")))
    (f_getattr_NoPlace : PySem.W.findIn K (.ref C_NoPlace) "__getattr__" = some none)
    (f_class_NoPlace : PySem.W.findIn K (.ref C_NoPlace) "__class__" = some (some (.builtin "object.__class__")))
    (cm_NoPlace : PySem.W.mroIn K C_NoPlace (.type "object") = some true)
    (s_NoPlace_NoPlace : PySem.W.subIn K (.ref C_NoPlace) (.ref C_NoPlace) = some true)
    (s_NoPlace_NoCells : PySem.W.subIn K (.ref C_NoPlace) (.ref C_NoCells) = some false)
    (s_NoPlace_PaneError : PySem.W.subIn K (.ref C_NoPlace) (.ref C_PaneError) = some true)
    (v_NoPlace : PySem.W.subIn K (.ref C_NoPlace) (.type "ValueError") = some true)
    (lk_NoCells : K.lookup C_NoCells = some (excClassObj xn_NoCells xq_NoCells C_NoCells xN_NoCells xb_NoCells [.ref C_PaneError, .type "ValueError", .type "Exception", .type "BaseException", .type "object"] true xs_NoCells xu_NoCells xa_NoCells xc_NoCells xd_NoCells xk0_NoCells xk1_NoCells xk2_NoCells xk3_NoCells xk5_NoCells "ValueError.__new__"))
    (f_setattr_NoCells : PySem.W.findIn K (.ref C_NoCells) "__setattr__" = some (some (.builtin "object.__setattr__")))
    (k_NoCells : PySem.W.keepIn K (.ref C_NoCells) = true)
    (f_found_NoCells : PySem.W.findIn K (.ref C_NoCells) "found" = some none)
    (ini_NoCells : PySem.W.findIn K (.ref C_NoCells) "__init__" = some (some (.ref I_NoCells)))
    (int_NoCells : PySem.W.typeIn K (.ref I_NoCells) = some (.type "function"))
    (il_NoCells : K.lookup I_NoCells = some ⟨Ioc_NoCells, Iod_NoCells, .func (PySem.W.fnOf "__init__" "NoCells.__init__" (defArgs si_NoCells) (defBody si_NoCells) (defScope si_NoCells) .none IkV_NoCells Idc_NoCells Ipm_NoCells Ian_NoCells Icd_NoCells Ict_NoCells), Isl_NoCells⟩)
    (ic_NoCells : PySem.W.codeIn K Icd_NoCells "NoCells.__init__" = true)
    (ik_NoCells : PySem.W.keepIn K (.ref I_NoCells) = true)
    (f_getattribute_NoCells : PySem.W.findIn K (.ref C_NoCells) "__getattribute__" = some (some (.builtin "BaseException.__getattribute__")))
    (f_getattr_NoCells : PySem.W.findIn K (.ref C_NoCells) "__getattr__" = some none)
    (f_class_NoCells : PySem.W.findIn K (.ref C_NoCells) "__class__" = some (some (.builtin "object.__class__")))
    (cm_NoCells : PySem.W.mroIn K C_NoCells (.type "object") = some true)
    (s_NoCells_NoPlace : PySem.W.subIn K (.ref C_NoCells) (.ref C_NoPlace) = some false)
    (s_NoCells_NoCells : PySem.W.subIn K (.ref C_NoCells) (.ref C_NoCells) = some true)
    (s_NoCells_PaneError : PySem.W.subIn K (.ref C_NoCells) (.ref C_PaneError) = some true)
    (v_NoCells : PySem.W.subIn K (.ref C_NoCells) (.type "ValueError") = some true)
    (s_PaneError_PaneError : PySem.W.subIn K (.ref C_PaneError) (.ref C_PaneError) = some true)
    (ba_PaneError : PySem.W.specialIn K (.ref C_PaneError) "__getattribute__" = some (some (.builtin "type.__getattribute__")))
    (br_PaneError : PySem.W.readsIn K C_PaneError (.type "type") = true)
    (bf_PaneError : PySem.W.findCls K (.ref C_PaneError) (.type "type") "__init__" = some (.val (.builtin "ValueError.__init__")))
    (g_Board : PySem.W.nsIn K mainGlobals "Board" = some (some (.ref C_Board)))
    (pg_Board : PySem.W.plainGet K C_Board Str.empty = true)
    (hd_Board : PySem.W.hasDictIn K C_Board = true)
    (po_Board : PySem.W.plainOver K C_Board = true)
    (sa_Board : PySem.W.findIn K (.ref C_Board) "__setattr__" = some (some (.builtin "object.__setattr__")))
    (na_Board_left_row : PySem.W.findIn K (.ref C_Board) "left_row" = some none)
    (na_Board_upper_row : PySem.W.findIn K (.ref C_Board) "upper_row" = some none)
    (na_Board_meetings : PySem.W.findIn K (.ref C_Board) "meetings" = some none)
    (na_Board_signs : PySem.W.findIn K (.ref C_Board) "signs" = some none)
    (na_Board_goals : PySem.W.findIn K (.ref C_Board) "goals" = some none)
    (mk_Board : PySem.W.makesIn K C_Board = true)
    (kc_Board : PySem.W.keepIn K (.ref C_Board) = true)
    : LamX.LawAtS l w K CX0 9 63 "_law_script" mg fa h := by
  have e := hfa.symm.trans (PySem.W.mg_of X G a21)
  cases e
  have q_NoRow := clsA_of g_NoRow
  subst q_NoRow
  have q_NoPlace := clsA_of g_NoPlace
  subst q_NoPlace
  have q_NoCells := clsA_of g_NoCells
  subst q_NoCells
  have q_PaneError := clsA_of g_PaneError
  subst q_PaneError
  have q_Board := clsA_of g_Board
  subst q_Board
  refine ⟨PySem.W.fnOf "law" "law" (defArgs s_law) (defBody s_law) (defScope s_law) .none kV21 dc21 pm21 an21 cd21 ct21, [(cc7, PT7), (cc9, PT9)], sp_law K (tabsL (fun i => match i with | 0 => (cc7, PT7) | 1 => (cc9, PT9) | _ => (cc7, PT7))), (fun p hp => by
    simp only [List.mem_cons, List.not_mem_nil, or_false] at hp
    rcases hp with rfl | rfl
    · exact t7
    · exact t9), (fun p hp => by
    simp only [List.mem_cons, List.not_mem_nil, or_false] at hp
    rcases hp with rfl | rfl
    · exact n7
    · exact n9), (fun p hp => by
    simp only [List.mem_cons, List.not_mem_nil, or_false] at hp
    rcases hp with rfl | rfl
    · exact PySem.W.codeHd_of_K X g7
    · exact PySem.W.codeHd_of_K X g9), fun s v => .of_eq rfl, fun H a ns hl _ hTt hS => ⟨a, ns, rfl, hS, fun p hp => ?_, hl, fun _ => rfl⟩, fun base _ _ hTB => ?_⟩
  · simp only [tabsL, List.mem_cons, List.not_mem_nil, or_false] at hp
    rcases hp with rfl | rfl
    · exact LamX.TabS.nil (hTt (cc7, PT7) (by simp))
    · exact LamX.TabS.nil (hTt (cc9, PT9) (by simp))
  have T : Tx K mg (fun i => match i with | 0 => f0 | 1 => f1 | 2 => f2 | 3 => f3 | 4 => f4 | 5 => f5 | 6 => f6 | 7 => f7 | 8 => f8 | 9 => f9 | 10 => f10 | 11 => f11 | 12 => f12 | 13 => f13 | 14 => f14 | 15 => f15 | 16 => f16 | 17 => f17 | 18 => f18 | 19 => f19 | 20 => f20 | 21 => fa | _ => f0) (fun i => match i with | 0 => PySem.W.fnOf "is_whole" "is_whole" (defArgs s_is_whole) (defBody s_is_whole) (defScope s_is_whole) .none kV0 dc0 pm0 an0 cd0 ct0 | 1 => PySem.W.fnOf "is_within" "is_within" (defArgs s_is_within) (defBody s_is_within) (defScope s_is_within) .none kV1 dc1 pm1 an1 cd1 ct1 | 2 => PySem.W.fnOf "is_row" "is_row" (defArgs s_is_row) (defBody s_is_row) (defScope s_is_row) .none kV2 dc2 pm2 an2 cd2 ct2 | 3 => PySem.W.fnOf "need_row" "need_row" (defArgs s_need_row) (defBody s_need_row) (defScope s_need_row) .none kV3 dc3 pm3 an3 cd3 ct3 | 4 => PySem.W.fnOf "need_rows" "need_rows" (defArgs s_need_rows) (defBody s_need_rows) (defScope s_need_rows) .none kV4 dc4 pm4 an4 cd4 ct4 | 5 => PySem.W.fnOf "led" "led" (defArgs s_led) (defBody s_led) (defScope s_led) .none kV5 dc5 pm5 an5 cd5 ct5 | 6 => PySem.W.fnOf "are_cells" "are_cells" (defArgs s_are_cells) (defBody s_are_cells) (defScope s_are_cells) .none kV6 dc6 pm6 an6 cd6 ct6 | 7 => PySem.W.fnOf "walked" "walked" (defArgs s_walked) (defBody s_walked) (defScope s_walked) .none kV7 dc7 pm7 an7 (.ref cc7) ct7 | 8 => PySem.W.fnOf "cells" "Board.cells" (defArgs s_Board_cells) (defBody s_Board_cells) (defScope s_Board_cells) .none kV8 dc8 pm8 an8 cd8 ct8 | 9 => PySem.W.fnOf "__init__" "Board.__init__" (defArgs s_Board_init) (defBody s_Board_init) (defScope s_Board_init) .none kV9 dc9 pm9 an9 (.ref cc9) ct9 | 10 => PySem.W.fnOf "is_board" "is_board" (defArgs s_is_board) (defBody s_is_board) (defScope s_is_board) .none kV10 dc10 pm10 an10 cd10 ct10 | 11 => PySem.W.fnOf "_law_at" "_law_at" (defArgs s__law_at) (defBody s__law_at) (defScope s__law_at) .none kV11 dc11 pm11 an11 cd11 ct11 | 12 => PySem.W.fnOf "_law_mix" "_law_mix" (defArgs s__law_mix) (defBody s__law_mix) (defScope s__law_mix) .none kV12 dc12 pm12 an12 cd12 ct12 | 13 => PySem.W.fnOf "_law_ints" "_law_ints" (defArgs s__law_ints) (defBody s__law_ints) (defScope s__law_ints) .none kV13 dc13 pm13 an13 cd13 ct13 | 14 => PySem.W.fnOf "_law_bit" "_law_bit" (defArgs s__law_bit) (defBody s__law_bit) (defScope s__law_bit) .none kV14 dc14 pm14 an14 cd14 ct14 | 15 => PySem.W.fnOf "_law_walked" "_law_walked" (defArgs s__law_walked) (defBody s__law_walked) (defScope s__law_walked) .none kV15 dc15 pm15 an15 cd15 ct15 | 16 => PySem.W.fnOf "_law_of_rows" "_law_of_rows" (defArgs s__law_of_rows) (defBody s__law_of_rows) (defScope s__law_of_rows) .none kV16 dc16 pm16 an16 cd16 ct16 | 17 => PySem.W.fnOf "_law_spoiled" "_law_spoiled" (defArgs s__law_spoiled) (defBody s__law_spoiled) (defScope s__law_spoiled) .none kV17 dc17 pm17 an17 cd17 ct17 | 18 => PySem.W.fnOf "_law_no" "_law_no" (defArgs s__law_no) (defBody s__law_no) (defScope s__law_no) .none kV18 dc18 pm18 an18 cd18 ct18 | 19 => PySem.W.fnOf "_law_any" "_law_any" (defArgs s__law_any) (defBody s__law_any) (defScope s__law_any) .none kV19 dc19 pm19 an19 cd19 ct19 | 20 => PySem.W.fnOf "_law_is" "_law_is" (defArgs s__law_is) (defBody s__law_is) (defScope s__law_is) .none kV20 dc20 pm20 an20 cd20 ct20 | 21 => PySem.W.fnOf "law" "law" (defArgs s_law) (defBody s_law) (defScope s_law) .none kV21 dc21 pm21 an21 cd21 ct21 | _ => PySem.W.fnOf "is_whole" "is_whole" (defArgs s_is_whole) (defBody s_is_whole) (defScope s_is_whole) .none kV0 dc0 pm0 an0 cd0 ct0) (fun i => match i with | 0 => t_0 | 1 => t_1 | 2 => t_2 | _ => t_0) base (fun i => match i with | 0 => (cc7, PT7) | 1 => (cc9, PT9) | _ => (cc7, PT7)) := {
    d_is_whole := df_mk X G a0 l0 c0 k0 (fun _ _ _ _ _ _ us hl => match us, hl with | [_], _ => rfl)
    d_is_within := df_mk X G a1 l1 c1 k1 (fun _ _ _ _ _ _ us hl => match us, hl with | [_, _, _], _ => rfl)
    d_is_row := df_mk X G a2 l2 c2 k2 (fun _ _ _ _ _ _ us hl => match us, hl with | [_], _ => rfl)
    d_need_row := df_mk X G a3 l3 c3 k3 (fun _ _ _ _ _ _ us hl => match us, hl with | [_], _ => rfl)
    d_need_rows := df_mk X G a4 l4 c4 k4 (fun _ _ _ _ _ _ us hl => match us, hl with | [_, _], _ => rfl)
    d_led := df_mk X G a5 l5 c5 k5 (fun _ _ _ _ _ _ us hl => match us, hl with | [_, _, _], _ => rfl)
    d_are_cells := df_mk X G a6 l6 c6 k6 (fun _ _ _ _ _ _ us hl => match us, hl with | [_, _, _], _ => rfl)
    d_walked := df_mk X G a7 l7 c7 k7 (fun _ _ _ _ _ _ us hl => match us, hl with | [_, _, _], _ => rfl)
    fc_walked := ⟨⟨_, _, _, _, _, _, _, _, rfl, l7, c7⟩⟩
    tb_walked := hTB (cc7, PT7) (by simp)
    d_Board_cells := dm_mk a8 i8 l8 c8 k8 (fun _ _ _ _ _ _ us hl => match us, hl with | [_], _ => rfl)
    d_Board_init := dm_mk a9 i9 l9 c9 k9 (fun _ _ _ _ _ _ us hl => match us, hl with | [_, _, _], _ => rfl)
    fc_Board_init := ⟨⟨_, _, _, _, _, _, _, _, rfl, l9, c9⟩⟩
    tb_Board_init := hTB (cc9, PT9) (by simp)
    d_is_board := df_mk X G a10 l10 c10 k10 (fun _ _ _ _ _ _ us hl => match us, hl with | [_, _, _], _ => rfl)
    d__law_at := df_mk X G a11 l11 c11 k11 (fun _ _ _ _ _ _ us hl => match us, hl with | [_, _], _ => rfl)
    d__law_mix := df_mk X G a12 l12 c12 k12 (fun _ _ _ _ _ _ us hl => match us, hl with | [_, _], _ => rfl)
    d__law_ints := df_mk X G a13 l13 c13 k13 (fun _ _ _ _ _ _ us hl => match us, hl with | [_, _], _ => rfl)
    d__law_bit := df_mk X G a14 l14 c14 k14 (fun _ _ _ _ _ _ us hl => match us, hl with | [_, _], _ => rfl)
    d__law_walked := df_mk X G a15 l15 c15 k15 (fun _ _ _ _ _ _ us hl => match us, hl with | [_, _, _], _ => rfl)
    d__law_of_rows := df_mk X G a16 l16 c16 k16 (fun _ _ _ _ _ _ us hl => match us, hl with | [_, _], _ => rfl)
    d__law_spoiled := df_mk X G a17 l17 c17 k17 (fun _ _ _ _ _ _ us hl => match us, hl with | [_, _, _, _], _ => rfl)
    d__law_no := df_mk X G a18 l18 c18 k18 (fun _ _ _ _ _ _ us hl => match us, hl with | [_, _, _, _, _], _ => rfl)
    d__law_any := df_mk X G a19 l19 c19 k19 (fun _ _ _ _ _ _ us hl => match us, hl with | [_, _, _, _], _ => rfl)
    d__law_is := df_mk X G a20 l20 c20 k20 (fun _ _ _ _ _ _ us hl => match us, hl with | [_, _, _], _ => rfl)
    d_law := df_mk X G a21 l21 c21 k21 (fun _ _ _ _ _ _ us hl => match us, hl with | [_], _ => rfl)
    nt_0_1 := ne0_1
    c_MOST_SIGNS := PySem.W.mg_of X G cn0
    c_LETTERS := PySem.W.mg_of X G cn1
    c_MOST_ROWS := PySem.W.mg_of X G cn2
    b_isinstance := PySem.W.mg_none_of X G z0
    b_int := PySem.W.mg_none_of X G z1
    b_bool := PySem.W.mg_none_of X G z2
    b_all := PySem.W.mg_none_of X G z3
    b_str := PySem.W.mg_none_of X G z4
    b_len := PySem.W.mg_none_of X G z5
    b_list := PySem.W.mg_none_of X G z6
    b_range := PySem.W.mg_none_of X G z7
    b_enumerate := PySem.W.mg_none_of X G z8
    b_tuple := PySem.W.mg_none_of X G z9
    b_ValueError := PySem.W.mg_none_of X G z10
    e_NoPlace := ⟨PySem.W.mg_of X G g_NoPlace, sb_NoPlace, hd_NoPlace, ty_NoPlace⟩
    e_NoCells := ⟨PySem.W.mg_of X G g_NoCells, sb_NoCells, hd_NoCells, ty_NoCells⟩
    e_PaneError := ⟨PySem.W.mg_of X G g_PaneError, sb_PaneError, hd_PaneError, ty_PaneError⟩
    g_NoRow := PySem.W.mg_of X G g_NoRow
    o_NoRow := ⟨⟨_, _, _, _, _, _, _, _, _, _, _, _, _, _, _, lk_NoRow, rfl⟩, f_setattr_NoRow, sb_NoRow, ty_NoRow, k_NoRow⟩
    n_NoRow_found := f_found_NoRow
    i_NoRow := ini_mk ini_NoRow int_NoRow il_NoRow ic_NoRow ik_NoRow (fun _ _ _ _ _ _ us hl => match us, hl with | [_, _], _ => rfl)
    x_NoRow := xi_mk f_getattribute_NoRow f_getattr_NoRow sb_NoRow hd_NoRow f_class_NoRow ct_ cu_ cm_NoRow
    s_NoRow_NoPlace := s_NoRow_NoPlace
    s_NoRow_NoCells := s_NoRow_NoCells
    s_NoRow_PaneError := s_NoRow_PaneError
    v_NoRow := v_NoRow
    g_NoPlace := PySem.W.mg_of X G g_NoPlace
    o_NoPlace := ⟨⟨_, _, _, _, _, _, _, _, _, _, _, _, _, _, _, lk_NoPlace, rfl⟩, f_setattr_NoPlace, sb_NoPlace, ty_NoPlace, k_NoPlace⟩
    n_NoPlace_found := f_found_NoPlace
    i_NoPlace := ini_mk ini_NoPlace int_NoPlace il_NoPlace ic_NoPlace ik_NoPlace (fun _ _ _ _ _ _ us hl => match us, hl with | [_, _], _ => rfl)
    x_NoPlace := xi_mk f_getattribute_NoPlace f_getattr_NoPlace sb_NoPlace hd_NoPlace f_class_NoPlace ct_ cu_ cm_NoPlace
    s_NoPlace_NoPlace := s_NoPlace_NoPlace
    s_NoPlace_NoCells := s_NoPlace_NoCells
    s_NoPlace_PaneError := s_NoPlace_PaneError
    v_NoPlace := v_NoPlace
    g_NoCells := PySem.W.mg_of X G g_NoCells
    o_NoCells := ⟨⟨_, _, _, _, _, _, _, _, _, _, _, _, _, _, _, lk_NoCells, rfl⟩, f_setattr_NoCells, sb_NoCells, ty_NoCells, k_NoCells⟩
    n_NoCells_found := f_found_NoCells
    i_NoCells := ini_mk ini_NoCells int_NoCells il_NoCells ic_NoCells ik_NoCells (fun _ _ _ _ _ _ us hl => match us, hl with | [_, _], _ => rfl)
    x_NoCells := xi_mk f_getattribute_NoCells f_getattr_NoCells sb_NoCells hd_NoCells f_class_NoCells ct_ cu_ cm_NoCells
    s_NoCells_NoPlace := s_NoCells_NoPlace
    s_NoCells_NoCells := s_NoCells_NoCells
    s_NoCells_PaneError := s_NoCells_PaneError
    v_NoCells := v_NoCells
    s_PaneError_PaneError := s_PaneError_PaneError
    bi_PaneError := ⟨PySem.W.mg_of X G g_PaneError, ba_PaneError, br_PaneError, bf_PaneError⟩
    mg_Board := PySem.W.mg_of X G g_Board
    cl_Board := ⟨pg_Board, hd_Board, po_Board, sa_Board⟩
    na_Board_left_row := na_Board_left_row
    na_Board_upper_row := na_Board_upper_row
    na_Board_meetings := na_Board_meetings
    na_Board_signs := na_Board_signs
    na_Board_goals := na_Board_goals
    m_Board := ⟨mk_Board, a9, i9, kc_Board⟩
  }
  exact ok_law T
end My
open PySem PySem.W PyProof.Rows in
set_option maxRecDepth 100000 in
set_option maxHeartbeats 0 in
theorem PySem.Challenge.cw_panethread_k34_any_cells_walked_holds : PySem.Challenge.rw_panethread_k34_any_cells_walked.Holds := by
  w_on; o_law; k_head; (case hw => w_witness2)
  k_fill
  refine LamX.walk_ofTs (l := PySem.Challenge.rw_panethread_k34_any_cells_walked) (n := 63) (k := 9) (x := "_law_script") (CX := fun _ => L2.CX0) rfl (by decide) rfl ⟨rfl, by decide, by decide⟩ (fun w h Y => PySem.W.km_in_of Y) ?F (fun _ _ _ _ _ z => z)
  case F =>
    intro w mg fa h Y KX G hmg
    refine' My.all_mk KX G hmg ?a0 ?l0 ?c0 ?k0 ?a1 ?l1 ?c1 ?k1 ?a2 ?l2 ?c2 ?k2 ?a3 ?l3 ?c3 ?k3 ?a4 ?l4 ?c4 ?k4 ?a5 ?l5 ?c5 ?k5 ?a6 ?l6 ?c6 ?k6 ?a7 ?l7 ?c7 ?k7 ?h7 ?p7 ?g7 ?n7 ?t7 ?a8 ?i8 ?l8 ?c8 ?k8 ?a9 ?i9 ?l9 ?c9 ?k9 ?h9 ?p9 ?g9 ?n9 ?t9 ?a10 ?l10 ?c10 ?k10 ?a11 ?l11 ?c11 ?k11 ?a12 ?l12 ?c12 ?k12 ?a13 ?l13 ?c13 ?k13 ?a14 ?l14 ?c14 ?k14 ?a15 ?l15 ?c15 ?k15 ?a16 ?l16 ?c16 ?k16 ?a17 ?l17 ?c17 ?k17 ?a18 ?l18 ?c18 ?k18 ?a19 ?l19 ?c19 ?k19 ?a20 ?l20 ?c20 ?k20 ?a21 ?l21 ?c21 ?k21 ?ne0_1 ?cn0 ?cn1 ?cn2 ?z0 ?z1 ?z2 ?z3 ?z4 ?z5 ?z6 ?z7 ?z8 ?z9 ?z10 ?g_NoRow ?g_NoPlace ?g_NoCells ?g_PaneError ?sb_NoPlace ?hd_NoPlace ?ty_NoPlace ?sb_NoCells ?hd_NoCells ?ty_NoCells ?sb_PaneError ?hd_PaneError ?ty_PaneError ?lk_NoRow ?f_setattr_NoRow ?sb_NoRow ?ty_NoRow ?k_NoRow ?f_found_NoRow ?ini_NoRow ?int_NoRow ?il_NoRow ?ic_NoRow ?ik_NoRow ?ct_ ?cu_ ?f_getattribute_NoRow ?f_getattr_NoRow ?hd_NoRow ?f_class_NoRow ?cm_NoRow ?s_NoRow_NoPlace ?s_NoRow_NoCells ?s_NoRow_PaneError ?v_NoRow ?lk_NoPlace ?f_setattr_NoPlace ?k_NoPlace ?f_found_NoPlace ?ini_NoPlace ?int_NoPlace ?il_NoPlace ?ic_NoPlace ?ik_NoPlace ?f_getattribute_NoPlace ?f_getattr_NoPlace ?f_class_NoPlace ?cm_NoPlace ?s_NoPlace_NoPlace ?s_NoPlace_NoCells ?s_NoPlace_PaneError ?v_NoPlace ?lk_NoCells ?f_setattr_NoCells ?k_NoCells ?f_found_NoCells ?ini_NoCells ?int_NoCells ?il_NoCells ?ic_NoCells ?ik_NoCells ?f_getattribute_NoCells ?f_getattr_NoCells ?f_class_NoCells ?cm_NoCells ?s_NoCells_NoPlace ?s_NoCells_NoCells ?s_NoCells_PaneError ?v_NoCells ?s_PaneError_PaneError ?ba_PaneError ?br_PaneError ?bf_PaneError ?g_Board ?pg_Board ?hd_Board ?po_Board ?sa_Board ?na_Board_left_row ?na_Board_upper_row ?na_Board_meetings ?na_Board_signs ?na_Board_goals ?mk_Board ?kc_Board
    (case g_NoRow => k_is)
    (case g_NoPlace => k_is)
    (case g_NoCells => k_is)
    (case g_PaneError => k_is)
    (case g_Board => k_is)
    (case a0 => k_is)
    (case l0 => k_is)
    (case c0 => k_is)
    (case k0 => k_is)
    (case a1 => k_is)
    (case l1 => k_is)
    (case c1 => k_is)
    (case k1 => k_is)
    (case a2 => k_is)
    (case l2 => k_is)
    (case c2 => k_is)
    (case k2 => k_is)
    (case a3 => k_is)
    (case l3 => k_is)
    (case c3 => k_is)
    (case k3 => k_is)
    (case a4 => k_is)
    (case l4 => k_is)
    (case c4 => k_is)
    (case k4 => k_is)
    (case a5 => k_is)
    (case l5 => k_is)
    (case c5 => k_is)
    (case k5 => k_is)
    (case a6 => k_is)
    (case l6 => k_is)
    (case c6 => k_is)
    (case k6 => k_is)
    (case a7 => k_is)
    (case l7 => k_is)
    (case c7 => k_is)
    (case k7 => k_is)
    (case h7 => k_is)
    (case p7 => exact rfl)
    (case g7 => kernel_rfl)
    (case n7 => kernel_rfl)
    (case t7 => exact PySem.W.km_tabs_of Y _ (by decide))
    (case a8 => k_is)
    (case i8 => k_is)
    (case l8 => k_is)
    (case c8 => k_is)
    (case k8 => k_is)
    (case a9 => k_is)
    (case i9 => k_is)
    (case l9 => k_is)
    (case c9 => k_is)
    (case k9 => k_is)
    (case h9 => k_is)
    (case p9 => exact rfl)
    (case g9 => kernel_rfl)
    (case n9 => kernel_rfl)
    (case t9 => exact PySem.W.km_tabs_of Y _ (by decide))
    (case a10 => k_is)
    (case l10 => k_is)
    (case c10 => k_is)
    (case k10 => k_is)
    (case a11 => k_is)
    (case l11 => k_is)
    (case c11 => k_is)
    (case k11 => k_is)
    (case a12 => k_is)
    (case l12 => k_is)
    (case c12 => k_is)
    (case k12 => k_is)
    (case a13 => k_is)
    (case l13 => k_is)
    (case c13 => k_is)
    (case k13 => k_is)
    (case a14 => k_is)
    (case l14 => k_is)
    (case c14 => k_is)
    (case k14 => k_is)
    (case a15 => k_is)
    (case l15 => k_is)
    (case c15 => k_is)
    (case k15 => k_is)
    (case a16 => k_is)
    (case l16 => k_is)
    (case c16 => k_is)
    (case k16 => k_is)
    (case a17 => k_is)
    (case l17 => k_is)
    (case c17 => k_is)
    (case k17 => k_is)
    (case a18 => k_is)
    (case l18 => k_is)
    (case c18 => k_is)
    (case k18 => k_is)
    (case a19 => k_is)
    (case l19 => k_is)
    (case c19 => k_is)
    (case k19 => k_is)
    (case a20 => k_is)
    (case l20 => k_is)
    (case c20 => k_is)
    (case k20 => k_is)
    (case a21 => k_is)
    (case l21 => k_is)
    (case c21 => k_is)
    (case k21 => k_is)
    (case ne0_1 => decide)
    (case cn0 => k_is)
    (case cn1 => k_is)
    (case cn2 => k_is)
    (case z0 => k_is)
    (case z1 => k_is)
    (case z2 => k_is)
    (case z3 => k_is)
    (case z4 => k_is)
    (case z5 => k_is)
    (case z6 => k_is)
    (case z7 => k_is)
    (case z8 => k_is)
    (case z9 => k_is)
    (case z10 => k_is)
    (case sb_NoPlace => k_is)
    (case hd_NoPlace => k_is)
    (case ty_NoPlace => k_is)
    (case sb_NoCells => k_is)
    (case hd_NoCells => k_is)
    (case ty_NoCells => k_is)
    (case sb_PaneError => k_is)
    (case hd_PaneError => k_is)
    (case ty_PaneError => k_is)
    (case lk_NoRow => k_is)
    (case f_setattr_NoRow => k_is)
    (case sb_NoRow => k_is)
    (case ty_NoRow => k_is)
    (case k_NoRow => k_is)
    (case f_found_NoRow => k_is)
    (case ini_NoRow => k_is)
    (case int_NoRow => k_is)
    (case il_NoRow => k_is)
    (case ic_NoRow => k_is)
    (case ik_NoRow => k_is)
    (case ct_ => k_is)
    (case cu_ => k_is)
    (case f_getattribute_NoRow => k_is)
    (case f_getattr_NoRow => k_is)
    (case hd_NoRow => k_is)
    (case f_class_NoRow => k_is)
    (case cm_NoRow => k_is)
    (case s_NoRow_NoPlace => k_is)
    (case s_NoRow_NoCells => k_is)
    (case s_NoRow_PaneError => k_is)
    (case v_NoRow => k_is)
    (case lk_NoPlace => k_is)
    (case f_setattr_NoPlace => k_is)
    (case k_NoPlace => k_is)
    (case f_found_NoPlace => k_is)
    (case ini_NoPlace => k_is)
    (case int_NoPlace => k_is)
    (case il_NoPlace => k_is)
    (case ic_NoPlace => k_is)
    (case ik_NoPlace => k_is)
    (case f_getattribute_NoPlace => k_is)
    (case f_getattr_NoPlace => k_is)
    (case f_class_NoPlace => k_is)
    (case cm_NoPlace => k_is)
    (case s_NoPlace_NoPlace => k_is)
    (case s_NoPlace_NoCells => k_is)
    (case s_NoPlace_PaneError => k_is)
    (case v_NoPlace => k_is)
    (case lk_NoCells => k_is)
    (case f_setattr_NoCells => k_is)
    (case k_NoCells => k_is)
    (case f_found_NoCells => k_is)
    (case ini_NoCells => k_is)
    (case int_NoCells => k_is)
    (case il_NoCells => k_is)
    (case ic_NoCells => k_is)
    (case ik_NoCells => k_is)
    (case f_getattribute_NoCells => k_is)
    (case f_getattr_NoCells => k_is)
    (case f_class_NoCells => k_is)
    (case cm_NoCells => k_is)
    (case s_NoCells_NoPlace => k_is)
    (case s_NoCells_NoCells => k_is)
    (case s_NoCells_PaneError => k_is)
    (case v_NoCells => k_is)
    (case s_PaneError_PaneError => k_is)
    (case ba_PaneError => k_is)
    (case br_PaneError => k_is)
    (case bf_PaneError => k_is)
    (case pg_Board => k_is)
    (case hd_Board => k_is)
    (case po_Board => k_is)
    (case sa_Board => k_is)
    (case na_Board_left_row => k_is)
    (case na_Board_upper_row => k_is)
    (case na_Board_meetings => k_is)
    (case na_Board_signs => k_is)
    (case na_Board_goals => k_is)
    (case mk_Board => k_is)
    (case kc_Board => k_is)
#print axioms PySem.Challenge.cw_panethread_k34_any_cells_walked_holds
