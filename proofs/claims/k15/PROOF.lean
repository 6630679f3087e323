import PyProof.Rows.All
import Wide.All
import OpenK.AllK
import Wide.FinOn
import HandS.ForMost
import HandS.ForExc
import HandS.IsInst
import HandS.Codes
import HandS.Evl
import KE.DataEq
import KE.GoesEnum
import HandS.ExcInit
import HandS.WordsExc
import HandS.ExcOwn
import HandS.TryElse
import HandS.ExcField
import HandS.ExcIs
import KE.KExcIs
import HandS.SetKeys
import HandS.SortRule
import HandS.SortInts
import HandS.TupLe
import PyProof.ReprRoads
import HandS.Ends
import PyProof.ReprLen
import PySem.Challenge.RW_panethread_k15_no_rows_for_heaps
set_option Elab.async false
set_option linter.all false
set_option maxRecDepth 100000
set_option maxHeartbeats 4000000
namespace Zb
open PySem PySem.Spec PyProof.Rows L2

/-! ### slots -/
def slot : L2.St → Nat → Option V
  | [], _ => none
  | a :: _, 0 => a
  | _ :: r, n + 1 => slot r n
theorem slot_get : ∀ {σ : L2.St} {i : Nat} {v : V}, slot σ i = some v → σ[i]? = some (some v)
  | [], _, _, h => by cases h
  | a :: r, 0, v, h => by have h : a = some v := h; simp [h]
  | a :: r, n + 1, v, h => by have h : slot r n = some v := h; simpa using slot_get h

/-! ### what is read as a row of items -/
def seqAt (H : Hp) (p : Addr) : Option (List V) := match H p with
  | some (.lst xs) => some xs
  | some (.tup xs) => some xs
  | some (.frz _ (.lst xs)) => some xs
  | some (.frz _ (.tup xs)) => some xs
  | _ => none
theorem seqAt_sq {K : PySem.W.Frag} {H : Hp} {p : Addr} {xs : List V} (h : seqAt H p = some xs) : SqL K H p xs ∨ SqT K H p xs := by
  unfold seqAt at h
  split at h
  · rename_i e; cases h; exact .inl (.inl (.inl e))
  · rename_i e; cases h; exact .inr (.inl (.inl e))
  · rename_i e; cases h; exact .inl (.inl (.inr ⟨_, e⟩))
  · rename_i e; cases h; exact .inr (.inl (.inr ⟨_, e⟩))
  · cases h

def lstAt (H : Hp) (p : Addr) : Option (List V) := match H p with
  | some (.lst xs) => some xs
  | some (.frz _ (.lst xs)) => some xs
  | _ => none
theorem lstAt_sq {K : PySem.W.Frag} {H : Hp} {p : Addr} {xs : List V} (h : lstAt H p = some xs) : SqL K H p xs := by
  unfold lstAt at h
  split at h
  · rename_i e; cases h; exact .inl (.inl e)
  · rename_i e; cases h; exact .inl (.inr ⟨_, e⟩)
  · cases h
def tupAt (H : Hp) (p : Addr) : Option (List V) := match H p with
  | some (.tup xs) => some xs
  | some (.frz _ (.tup xs)) => some xs
  | _ => none
theorem tupAt_sq {K : PySem.W.Frag} {H : Hp} {p : Addr} {xs : List V} (h : tupAt H p = some xs) : SqT K H p xs := by
  unfold tupAt at h
  split at h
  · rename_i e; cases h; exact .inl (.inl e)
  · rename_i e; cases h; exact .inl (.inr ⟨_, e⟩)
  · cases h
/-! ### data at any depth -/
mutual
inductive Rp (H : Hp) : V → PyData → Prop
  | non : Rp H .non .none
  | bl (b : Bool) : Rp H (.bl b) (.bool b)
  | int (i : Int) : Rp H (.int i) (.int i)
  | str (x : Str) : Rp H (.str x) (.str x)
  | lst {a : Addr} {xs : List V} {ds : List PyData} : lstAt H a = some xs → RpA H xs ds → Rp H (.ref a) (.list ds)
  | tup {a : Addr} {xs : List V} {ds : List PyData} : tupAt H a = some xs → RpA H xs ds → Rp H (.ref a) (.tuple ds)
inductive RpA (H : Hp) : List V → List PyData → Prop
  | nil : RpA H [] []
  | cons {v : V} {vs : List V} {d : PyData} {ds : List PyData} : Rp H v d → RpA H vs ds → RpA H (v :: vs) (d :: ds)
end
mutual
theorem Rp.dp {K : PySem.W.Frag} {H : Hp} : ∀ {v : V} {d : PyData}, Rp H v d → Dp K H v d
  | _, _, .non => .non
  | _, _, .bl b => .bl b
  | _, _, .int i => .int i
  | _, _, .str x => .str x
  | _, _, .lst h k => .lst (lstAt_sq h) (RpA.dp k)
  | _, _, .tup h k => .tup (tupAt_sq h) (RpA.dp k)
theorem RpA.dp {K : PySem.W.Frag} {H : Hp} : ∀ {vs : List V} {ds : List PyData}, RpA H vs ds → DpAll K H vs ds
  | _, _, .nil => .nil
  | _, _, .cons h k => .cons (Rp.dp h) (RpA.dp k)
end
/-! ### operators by values -/
def rAdd : R2 := fun x y H Q => match x, y with
  | .int i, .int j => Q (.int (i + j)) H
  | .str a, .str b => a.length + b.length ≤ 16777216 ∧ Q (.str (a ++ b)) H
  | .ref p, .ref q => ∃ xs ys, H p = some (.lst xs) ∧ H q = some (.lst ys) ∧ xs.length + ys.length ≤ 16777216 ∧ ∀ r, H r = none → Q (.ref r) (upd H r (.lst (xs ++ ys)))
  | _, _ => False
def rSub : R2 := fun x y H Q => match x, y with
  | .int i, .int j => Q (.int (i - j)) H
  | _, _ => False
def rMul : R2 := fun x y H Q => match x, y with
  | .int i, .int j => CMul i j ∧ Q (.int (i * j)) H
  | .ref p, .int k => ∃ xs, H p = some (.lst xs) ∧ -1000000 ≤ k ∧ k ≤ 1000000 ∧ xs.length * k.toNat ≤ 16777216 ∧ ∀ r, H r = none → Q (.ref r) (upd H r (.lst (List.replicate k.toNat xs).flatten))
  | .str a, .int k => -1000000 ≤ k ∧ k ≤ 1000000 ∧ a.length * k.toNat ≤ 16777216 ∧ Q (.str (Txt.mul a k)) H
  | _, _ => False
def rMod : R2 := fun x y H Q => match x, y with
  | .int i, .int j => 0 < j ∧ Q (.int (i % j)) H
  | _, _ => False
def rDiv : R2 := fun x y H Q => match x, y with
  | .int i, .int j => 0 < j ∧ j < 1073741824 ∧ Q (.int (i / j)) H
  | _, _ => False
def rPow : R2 := fun x y H Q => match x, y with
  | .int i, .int j => 0 ≤ j ∧ j ≤ 1000000 ∧ i.natAbs < 2 ^ 64 ∧ Q (.int (i ^ j.toNat)) H
  | _, _ => False
def rCmpI (f : Int → Int → Bool) : R2 := fun x y H Q => match x, y with
  | .int i, .int j => Q (.bl (f i j)) H
  | _, _ => False
mutual
theorem Rp.plain {H : Hp} : ∀ {v : V} {d : PyData}, Rp H v d → d.plain = true
  | _, _, .non => rfl
  | _, _, .bl b => rfl
  | _, _, .int i => rfl
  | _, _, .str x => rfl
  | _, _, .lst h k => by simp only [PyData.plain]; exact RpA.plain k
  | _, _, .tup h k => by simp only [PyData.plain]; exact RpA.plain k
theorem RpA.plain {H : Hp} : ∀ {vs : List V} {ds : List PyData}, RpA H vs ds → PyData.plainAll ds = true
  | _, _, .nil => rfl
  | _, _, .cons h k => by simp only [PyData.plainAll, Rp.plain h, RpA.plain k, Bool.and_self]
end
/-- == of data at any depth -/
def rEqU : R2 := fun x y H Q => ∃ d e, Rp H x d ∧ Rp H y e ∧ min d.depth e.depth ≤ 64 ∧ Q (.bl (PyData.eqv d e)) H
def rNeU : R2 := fun x y H Q => ∃ d e, Rp H x d ∧ Rp H y e ∧ min d.depth e.depth ≤ 64 ∧ Q (.bl (!PyData.eqv d e)) H
def strIn (a b : Str) : Bool := !(Builtin.Str.occurrences b a 0 a.length 1).isEmpty
section
variable {X : Cx}
theorem sl16 : sizeLine = 16777216 := sizeLine_eq
theorem o_add : OpR X (binaryOp .Add) rAdd := by
  intro pins s σ H x y v u Q I rx ry h
  unfold rAdd at h
  split at h
  · exact op_add pins s σ H _ _ v u Q I rx ry ⟨_, _, rfl, rfl, h⟩
  · exact op_add_str pins s σ H _ _ v u Q I rx ry ⟨_, _, rfl, rfl, by rw [sl16]; exact h.1, h.2⟩
  · obtain ⟨xs, ys, h1, h2, h3, h4⟩ := h
    exact op_cat pins s σ H _ _ v u Q I rx ry ⟨_, _, _, _, rfl, rfl, h1, h2, by rw [sl16]; exact h3, h4⟩
  · exact h.elim
theorem o_sub : OpR X (binaryOp .Sub) rSub := by
  intro pins s σ H x y v u Q I rx ry h
  unfold rSub at h
  split at h
  · exact op_sub pins s σ H _ _ v u Q I rx ry ⟨_, _, rfl, rfl, h⟩
  · exact h.elim
/-- a text by its codes -/
def tx (l : List Nat) : Str := ⟨l.toArray⟩
theorem tx_toList (l : List Nat) : (tx l).cps.toList = l := by simp [tx]
theorem tx_length (l : List Nat) : (tx l).length = l.length := by simp [tx, Str.length]
theorem tx_eta (s : Str) : tx s.cps.toList = s := by cases s; simp [tx]
theorem tx_inj {a b : List Nat} : tx a = tx b ↔ a = b := ⟨fun h => by have := congrArg (fun s => s.cps.toList) h; simpa [tx] using this, fun h => by rw [h]⟩
theorem tx_append (a b : List Nat) : tx a ++ tx b = tx (a ++ b) := by
  show Str.mk _ = _
  simp [tx]
theorem txt_mul_ok {a : Str} {k : Int} (h1 : -1000000 ≤ k) (h2 : k ≤ 1000000) (h3 : a.length * k.toNat ≤ 16777216) : MulOk a k := by
  refine ⟨?_, fun h4 _ => ?_, fun _ _ => ?_⟩
  · have h5 : ¬ k < -(2 ^ 63 : Int) := by omega
    have h6 : ¬ k ≥ (2 ^ 63 : Int) := by omega
    rw [decide_eq_false h5, decide_eq_false h6]
    rfl
  · have e : (a.length : Int) * k ≤ 16777216 := by
      have e1 : ((a.length * k.toNat : Nat) : Int) ≤ ((16777216 : Nat) : Int) := Int.ofNat_le.mpr h3
      have e2 : ((k.toNat : Nat) : Int) = k := by omega
      rw [Int.natCast_mul, e2] at e1
      exact e1
    have : (a.length : Int) ≤ (2 ^ 63 - 1) / k := by
      rw [Int.le_ediv_iff_mul_le (by omega)]
      omega
    omega
  · unfold Builtin.Str.tooLong
    have : ¬ (a.length * k.toNat > sizeLine) := by rw [sl16]; omega
    exact decide_eq_false this
theorem o_mul : OpR X (binaryOp .Mult) rMul := by
  intro pins s σ H x y v u Q I rx ry h
  unfold rMul at h
  split at h
  · exact op_mul pins s σ H _ _ v u Q I rx ry ⟨_, _, rfl, rfl, h.1, h.2⟩
  · obtain ⟨xs, h1, h2, h3, h4, h5⟩ := h
    exact op_rep pins s σ H _ _ v u Q I rx ry ⟨_, _, _, rfl, rfl, h1, by omega, by omega, by rw [sl16]; exact h4, h5⟩
  · obtain ⟨h1, h2, h3, h4⟩ := h
    obtain ⟨t, rfl⟩ := rx
    obtain ⟨t', rfl⟩ := ry
    exact SB.mul (txt_mul_ok h1 h2 h3) fun t' k => ⟨.str _, H, I.tok k, ⟨_, rfl⟩, h4⟩
  · exact h.elim
theorem o_mod : OpR X (binaryOp .Mod) rMod := by
  intro pins s σ H x y v u Q I rx ry h
  unfold rMod at h
  split at h
  · exact op_mod pins s σ H _ _ v u Q I rx ry ⟨_, _, rfl, rfl, h.1, h.2⟩
  · exact h.elim
theorem o_div : OpR X (binaryOp .FloorDiv) rDiv := by
  intro pins s σ H x y v u Q I rx ry h
  unfold rDiv at h
  split at h
  · exact op_fdiv pins s σ H _ _ v u Q I rx ry ⟨_, _, rfl, rfl, ⟨h.1, h.2.1⟩, h.2.2⟩
  · exact h.elim
theorem o_pow : OpR X (binaryOp .Pow) rPow := by
  intro pins s σ H x y v u Q I rx ry h
  unfold rPow at h
  split at h
  · exact op_pow pins s σ H _ _ v u Q I rx ry ⟨_, _, rfl, rfl, ⟨h.1, h.2.1, h.2.2.1⟩, h.2.2.2⟩
  · exact h.elim
theorem cmpI_of {f : Int → Int → Bool} {op : Value → Value → Sem Value} (ho : OpR X op (rI0 fun i j => .bl (f i j))) : OpR X op (rCmpI f) := by
  intro pins s σ H x y v u Q I rx ry h
  unfold rCmpI at h
  split at h
  · exact ho pins s σ H _ _ v u Q I rx ry ⟨_, _, rfl, rfl, h⟩
  · exact h.elim
theorem o_lt : OpR X (compareOp .Lt) (rCmpI fun i j => decide (i < j)) := cmpI_of op_lt
theorem o_le : OpR X (compareOp .LtE) (rCmpI fun i j => decide (i ≤ j)) := cmpI_of op_le
theorem o_gt : OpR X (compareOp .Gt) (rCmpI fun i j => decide (j < i)) := cmpI_of op_gt
theorem o_ge : OpR X (compareOp .GtE) (rCmpI fun i j => decide (j ≤ i)) := cmpI_of op_ge
theorem o_eq (hu : X.A.units + 64 < cLine) : OpR X (compareOp .Eq) rEqU := by
  intro pins s σ H x y v u Q I rx ry h
  obtain ⟨d, e, h1, h2, h3, q⟩ := h
  obtain ⟨as, r1⟩ := Dp.reads I d x v h1.dp rx
  obtain ⟨bs, r2⟩ := Dp.reads I e y u h2.dp ry
  exact SeqAt.eq_plain r1 r2 h1.plain h2.plain (by omega) ⟨.bl _, H, I, rfl, q⟩
theorem o_ne (hu : X.A.units + 64 < cLine) : OpR X (compareOp .NotEq) rNeU := by
  intro pins s σ H x y v u Q I rx ry h
  obtain ⟨d, e, h1, h2, h3, q⟩ := h
  obtain ⟨as, r1⟩ := Dp.reads I d x v h1.dp rx
  obtain ⟨bs, r2⟩ := Dp.reads I e y u h2.dp ry
  exact SeqAt.ne_plain r1 r2 h1.plain h2.plain (by omega) ⟨.bl _, H, I, rfl, q⟩

/-! ### subscripts, slices, len, in -/
def rIxU (K : PySem.W.Frag) : R2 := fun x y H Q => match x, y with
  | .str z, .int i => z.length ≤ 16777216 ∧ ∃ c, atI z.cps.toList i = some c ∧ Q (.str (tx [c])) H
  | .ref p, .int i => ∃ xs, (SqL K H p xs ∨ SqT K H p xs) ∧ ∃ v, atI xs i = some v ∧ Q v H
  | _, _ => False
theorem i_ix {K : PySem.W.Frag} (hK : X.K = K := by rfl) : IxR X (rIxU K) := by
  subst hK
  intro value slice pins s σ H x y v u Q I rx ry h hs
  unfold rIxU at h
  split at h
  · obtain ⟨h1, c, h2, h3⟩ := h
    exact ix_str value slice pins s σ H _ _ v u Q I rx ry ⟨_, _, _, rfl, rfl, by rw [sl16]; exact h1, h2, h3⟩ hs
  · obtain ⟨xs, h1, v, h2, h3⟩ := h
    rcases h1 with h1 | h1
    · exact ix_list value slice pins s σ H _ _ _ u Q I rx ry ⟨_, _, _, _, rfl, rfl, h1, h2, h3⟩ hs
    · exact ix_tup value slice pins s σ H _ _ _ u Q I rx ry ⟨_, _, _, _, rfl, rfl, h1, h2, h3⟩ hs
  · exact h.elim
/-- a[lo:hi] of a text or a list -/
def rSlU (K : PySem.W.Frag) : V → Option Int → Option Int → Hp → VK → Prop := fun x lo hi H Q => match x with
  | .str z => z.length ≤ 16777216 ∧ Q (.str (cutS z lo hi)) H
  | .ref p => ∃ xs, SqL K H p xs ∧ ∀ q, H q = none → Q (.ref q) (upd H q (.lst (cutV xs lo hi)))
  | _ => False
theorem s_sl {K : PySem.W.Frag} (hK : X.K = K := by rfl) : SlR X (rSlU K) := by
  subst hK
  intro pins s σ H x v vl vu lo hi sl Q I rx hs pl pu h
  unfold rSlU at h
  split at h
  · exact sl_str pins s σ H _ v vl vu lo hi sl Q I rx hs pl pu ⟨_, rfl, by rw [sl16]; exact h.1, h.2⟩
  · obtain ⟨xs, h1, h2⟩ := h
    exact sl_list pins s σ H _ v vl vu lo hi sl Q I rx hs pl pu ⟨_, _, rfl, h1, h2⟩
  · exact h.elim
def rLen (K : PySem.W.Frag) : List V → Hp → VK → Prop := fun vs H Q => match vs with
  | [.str z] => z.length ≤ 16777216 ∧ Q (.int z.length) H
  | [.ref p] => (∃ xs, (SqL K H p xs ∨ SqT K H p xs) ∧ Q (.int xs.length) H)
  | _ => False
theorem c_len {K : PySem.W.Frag} (hK : X.K = K := by rfl) : CallR X (.builtin "len") (rLen K) := by
  subst hK
  intro pins s σ H xs us Q I r h
  unfold rLen at h
  split at h
  · exact call_len pins s σ H _ us Q I r ⟨_, _, rfl, ⟨by rw [sl16]; exact h.1, rfl⟩, h.2⟩
  · obtain ⟨ys, h1, h2⟩ := h
    rcases h1 with h1 | h1
    · exact call_len pins s σ H _ us Q I r ⟨_, _, rfl, .inl ⟨_, h1, rfl⟩, h2⟩
    · exact call_len pins s σ H _ us Q I r ⟨_, _, rfl, .inr ⟨_, h1, rfl⟩, h2⟩
  · exact h.elim
def rInU (neg : Bool) : R2 := fun x y H Q => match y with
  | .str b => ∃ a, x = .str a ∧ Q (.bl (if neg then !(!(Builtin.Str.occurrences b a 0 b.length 1).isEmpty) else !(Builtin.Str.occurrences b a 0 b.length 1).isEmpty)) H
  | .ref p => ∃ xs ds d, seqAt H p = some xs ∧ RpA H xs ds ∧ Rp H x d ∧ min (PyData.depthAll ds) d.depth ≤ 60 ∧ Q (.bl (if neg then !(ds.any fun y => PyData.eqv y d) else ds.any fun y => PyData.eqv y d)) H
  | _ => False
theorem seqAt_cases {H : Hp} {p : Addr} {xs : List V} (h : seqAt H p = some xs) : lstAt H p = some xs ∨ tupAt H p = some xs := by
  unfold seqAt at h
  unfold lstAt tupAt
  split at h <;> rename_i e <;> first | (cases h; rw [e]; first | exact .inl rfl | exact .inr rfl) | cases h
theorem o_in (hu : X.A.units + 64 < cLine) : OpR X (compareOp .In) (rInU false) := by
  intro pins s σ H x y v u Q I rx ry h
  unfold rInU at h
  split at h
  · obtain ⟨a, rfl, h⟩ := h
    exact op_in_str pins s σ H _ _ v u Q I rx ry ⟨_, _, rfl, rfl, h⟩
  · obtain ⟨xs, ds, d, h1, h2, h3, h4, q⟩ := h
    obtain ⟨bs, r2⟩ := Dp.reads I d x v h3.dp rx
    rcases seqAt_cases h1 with h1 | h1
    · obtain ⟨as, r1⟩ := Dp.reads I (.list ds) _ u (Rp.lst h1 h2).dp ry
      exact SeqAt.in_list_data r1 r2 h2.plain h3.plain (by omega) ⟨.bl _, H, I, rfl, q⟩
    · obtain ⟨as, r1⟩ := Dp.reads I (.tuple ds) _ u (Rp.tup h1 h2).dp ry
      exact SeqAt.in_tuple_data r1 r2 h2.plain h3.plain (by omega) ⟨.bl _, H, I, rfl, q⟩
  · exact h.elim
theorem o_nin (hu : X.A.units + 64 < cLine) : OpR X (compareOp .NotIn) (rInU true) := by
  intro pins s σ H x y v u Q I rx ry h
  unfold rInU at h
  split at h
  · obtain ⟨a, rfl, h⟩ := h
    exact op_notIn_str pins s σ H _ _ v u Q I rx ry ⟨_, _, rfl, rfl, h⟩
  · obtain ⟨xs, ds, d, h1, h2, h3, h4, q⟩ := h
    obtain ⟨bs, r2⟩ := Dp.reads I d x v h3.dp rx
    rcases seqAt_cases h1 with h1 | h1
    · obtain ⟨as, r1⟩ := Dp.reads I (.list ds) _ u (Rp.lst h1 h2).dp ry
      exact SeqAt.notIn_list_data r1 r2 h2.plain h3.plain (by omega) ⟨.bl _, H, I, rfl, q⟩
    · obtain ⟨as, r1⟩ := Dp.reads I (.tuple ds) _ u (Rp.tup h1 h2).dp ry
      exact SeqAt.notIn_tuple_data r1 r2 h2.plain h3.plain (by omega) ⟨.bl _, H, I, rfl, q⟩
  · exact h.elim
/-! ### isinstance -/
def tyO : Option HO → Option String
  | some (.lst _) => some "list"
  | some (.tup _) => some "tuple"
  | some (.dK _) => some "dict"
  | some (.dT _) => some "dict"
  | some (.frz _ (.lst _)) => some "list"
  | some (.frz _ (.tup _)) => some "tuple"
  | some (.frz _ (.dK _)) => some "dict"
  | _ => none
def tyN (H : Hp) : V → Option String
  | .non => some "NoneType"
  | .bl _ => some "bool"
  | .int _ => some "int"
  | .str _ => some "str"
  | .ref p => tyO (H p)
  | _ => none
theorem tyN_ok {K : PySem.W.Frag} {H : Hp} {v : V} {n : String} (h : tyN H v = some n) : TyX K H v (.type n) := by
  cases v with
  | non => cases h; exact .base .non
  | bl b => cases h; exact .base (.bl _)
  | int i => cases h; exact .base (.int _)
  | str x => cases h; exact .base (.str _)
  | ref p =>
    have h : tyO (H p) = some n := h
    unfold tyO at h
    split at h <;> rename_i e
    · cases h; exact .base (.lst e)
    · cases h; exact .base (.tup e)
    · cases h; exact .base (.dK e)
    · cases h; exact .base (.dT e)
    · cases h; exact .base (.frz e)
    · cases h; exact .fTuple e
    · cases h; exact .fDict e
    · cases h
  | _ => cases h
def rIs : List V → Hp → VK → Prop := fun vs H Q => match vs with
  | [x, .ty n] => ∃ t, tyN H x = some t ∧ ∃ b, kitB t n = some b ∧ Q (.bl b) H
  | _ => False
theorem c_is : CallR X (.builtin "isinstance") rIs := by
  intro pins s σ H xs us Q I r h
  unfold rIs at h
  split at h
  · obtain ⟨t, h1, b, h2, h3⟩ := h
    exact call_isi pins s σ H _ us Q I r ⟨_, _, _, _, _, rfl, .ty _, tyN_ok h1, kit_ty h2, h3⟩
  · exact h.elim
def rMax2 : List V → Hp → VK → Prop := fun vs H Q => match vs with
  | [.int i, .int j] => Q (.int (if j > i then j else i)) H
  | _ => False
def rMin2 : List V → Hp → VK → Prop := fun vs H Q => match vs with
  | [.int i, .int j] => Q (.int (if j < i then j else i)) H
  | _ => False
theorem c_max (hc : X.calm = true) : CallR X (.builtin "max") rMax2 := by
  intro pins s σ H xs us Q I r h
  unfold rMax2 at h
  split at h
  · exact call_max2 hc pins s σ H _ us Q I r ⟨_, _, rfl, h⟩
  · exact h.elim
theorem c_min (hc : X.calm = true) : CallR X (.builtin "min") rMin2 := by
  intro pins s σ H xs us Q I r h
  unfold rMin2 at h
  split at h
  · exact call_min2 hc pins s σ H _ us Q I r ⟨_, _, rfl, h⟩
  · exact h.elim
def rAllU : List V → Hp → VK → Prop := fun vs H Q => match vs with
  | [.ref p] => ∃ bs : List Bool, lstAt H p = some (bs.map V.bl) ∧ Q (.bl (bs.all id)) H
  | _ => False
theorem c_all (hc : X.calm = true) : CallR X (.builtin "all") rAllU := by
  intro pins s σ H xs us Q I r h
  unfold rAllU at h
  split at h
  · obtain ⟨bs, h1, h2⟩ := h
    exact cr_all hc pins s σ H _ us Q I r ⟨_, _, rfl, lstAt_sq h1, h2⟩
  · exact h.elim
theorem vals_of : ∀ {xs : List V} {us : List Value}, xs.length = us.length → (∀ (j : Nat) x u, xs[j]? = some x → us[j]? = some u → RelV x u) → Vals xs us
  | [], [], _, _ => .nil
  | [], _ :: _, h, _ => by simp at h
  | _ :: _, [], h, _ => by simp at h
  | a :: r, b :: s, h, k => .cons (k 0 a b rfl rfl) (vals_of (by simpa using h) fun j x u h1 h2 => k (j + 1) x u (by simpa using h1) (by simpa using h2))
theorem vals_signs {x : Str} {acc : Array Value} (h : ItemsOf (SignAt x) acc x.cps.size) : Vals (x.cps.toList.map fun c => V.str (tx [c])) acc.toList := by
  refine vals_of (by rw [List.length_map]; simp [h.1]) fun j v u h1 h2 => ?_
  obtain ⟨c, t, hc, rfl⟩ := h.2 j u (by simpa using h2)
  rw [List.getElem?_map, Array.getElem?_toList, hc] at h1
  cases h1
  exact ⟨t, rfl⟩
def rListU (K : PySem.W.Frag) : List V → Hp → VK → Prop := fun vs H Q => match vs with
  | [.str z] => z.length ≤ 16777216 ∧ ∀ p, H p = none → Q (.ref p) (upd H p (.lst (z.cps.toList.map fun c => V.str (tx [c]))))
  | [.ref p] => ∃ ys, (SqL K H p ys ∨ SqT K H p ys) ∧ ∀ l, H l = none → Q (.ref l) (upd H l (.lst ys))
  | _ => False
theorem c_list (hc : X.calm = true) {K : PySem.W.Frag} (hK : X.K = K := by rfl) : CallR X (.type "list") (rListU K) := by
  subst hK
  intro pins s σ H xs us Q I r h
  unfold rListU at h
  split at h
  · rename_i z
    obtain ⟨hz, q⟩ := h
    obtain ⟨u, rfl, t, rfl⟩ := vals1 r
    refine call_list_str (I.ok.hd hc) z t (fun h' tk acc c' kp e hacc => ?_) (by rw [sl16]; exact hz)
    have hl : (z.cps.toList.map fun c => V.str (tx [c])).length ≤ sizeLine := by rw [List.length_map, Array.length_toList, sl16]; exact hz
    exact ⟨.ref s.heap.objs.size, _, I.laid (t' := tk) kp (Nat.le_refl _) (show ObjOk X.prog X.w _ h' _ (.lst _) from ⟨hl, acc.toList, c', vals_signs hacc, by simpa using e⟩), rfl, q _ (I.hok.fresh (Nat.le_refl _))⟩
  · obtain ⟨ys, h1, h2⟩ := h
    exact call_list_of pins s σ H _ us Q I r ⟨_, _, rfl, h1, h2⟩
  · exact h.elim
def rTupU (K : PySem.W.Frag) : List V → Hp → VK → Prop := fun vs H Q => match vs with
  | [.str z] => z.length ≤ 16777216 ∧ ∀ p, H p = none → Q (.ref p) (upd H p (.tup (z.cps.toList.map fun c => V.str (tx [c]))))
  | [.ref p] => ∃ ys, (SqL K H p ys ∧ ∀ l, H l = none → Q (.ref l) (upd H l (.tup ys))) ∨ (SqT K H p ys ∧ Q (.ref p) H)
  | _ => False
theorem c_tuple (hc : X.calm = true) {K : PySem.W.Frag} (hK : X.K = K := by rfl) : CallR X (.type "tuple") (rTupU K) := by
  subst hK
  intro pins s σ H xs us Q I r h
  unfold rTupU at h
  split at h
  · rename_i z
    obtain ⟨hz, q⟩ := h
    obtain ⟨u, rfl, t, rfl⟩ := vals1 r
    refine call_tuple_str (I.ok.hd hc) z t (fun h' tk acc kp hacc => ?_) (by rw [sl16]; exact hz)
    have hl : (z.cps.toList.map fun c => V.str (tx [c])).length ≤ sizeLine := by rw [List.length_map, Array.length_toList, sl16]; exact hz
    have I1 : Inv X pins σ H { s with heap := h' } := I.kept (t' := s.toks) kp
    have ob : ObjOk X.prog X.w (upd H h'.objs.size (.tup (z.cps.toList.map fun c => V.str (tx [c])))) (h'.push { cls := .type "tuple", data := .seq acc }) h'.objs.size (.tup (z.cps.toList.map fun c => V.str (tx [c]))) := by
      have e : acc.toList.toArray = acc := by simp
      exact ⟨hl, acc.toList, vals_signs hacc, by rw [e]; exact IsTup.new _ _⟩
    exact ⟨.ref h'.objs.size, _, I1.laid (t' := tk) (fun b o e => Heap.get?_push_of_some _ e) (Nat.le_refl _) ob, rfl, q _ (I1.hok.fresh (Nat.le_refl _))⟩
  · obtain ⟨ys, h1⟩ := h
    exact call_tuple_of pins s σ H _ us Q I r ⟨_, _, rfl, h1⟩
  · exact h.elim
end
end Zb

namespace Zb
open PySem PySem.Spec PyProof.Rows L2
open Evl (tCut pss_cut)
/-! ### frames: all but M stands -/
def Fr (M : Addr → Prop) (H H' : Hp) : Prop := ∀ b o, ¬ M b → H b = some o → H' b = some o
abbrev Ex (H H' : Hp) : Prop := Fr (fun _ => False) H H'
theorem Fr.refl {M : Addr → Prop} (H : Hp) : Fr M H H := fun _ _ _ e => e
theorem Fr.trans {M : Addr → Prop} {H H1 H2 : Hp} (a : Fr M H H1) (b : Fr M H1 H2) : Fr M H H2 := fun x o n e => b x o n (a x o n e)
theorem Fr.new {M : Addr → Prop} {H : Hp} {p : Addr} {o : HO} (h : H p = none) : Fr M H (upd H p o) := fun b u _ e => by
  rw [upd_ne (ne_of_none e h)]
  exact e
theorem Fr.at {M : Addr → Prop} {H : Hp} {p : Addr} {o : HO} (h : M p) : Fr M H (upd H p o) := fun b u n e => by
  rw [upd_ne fun z => n (by rw [z]; exact h)]
  exact e
theorem Fr.up {M M' : Addr → Prop} {H H' : Hp} (e : Fr M' H H') (h : ∀ b, M' b → M b) : Fr M H H' := fun b o n q => e b o (fun m => n (h b m)) q
theorem Fr.ex {M : Addr → Prop} {H H' : Hp} (e : Ex H H') : Fr M H H' := e.up fun _ z => z.elim
/-- an object that was not there at H may change -/
theorem Fr.mut {M : Addr → Prop} {H H' : Hp} {p : Addr} {o : HO} (e : Fr M H H') (h : H p = none) : Fr M H (upd H' p o) := fun b u n q => by
  rw [upd_ne (ne_of_none q h)]
  exact e b u n q
theorem Fr.get {M : Addr → Prop} {H H' : Hp} {a : Addr} {o : HO} (e : Fr M H H') (n : ¬ M a) (h : H a = some o) : H' a = some o := e a o n h
theorem Ex.get {H H' : Hp} {a : Addr} {o : HO} (e : Ex H H') (h : H a = some o) : H' a = some o := e a o (fun z => z) h
theorem Ex.free {H H' : Hp} (e : Ex H H') {p : Addr} (h : H' p = none) : H p = none := by
  cases q : H p with
  | none => rfl
  | some o =>
    rw [e p o (fun z => z) q] at h
    cases h
theorem Fr.free {M : Addr → Prop} {H H' : Hp} (e : Fr M H H') {p : Addr} (n : ¬ M p) (h : H' p = none) : H p = none := by
  cases q : H p with
  | none => rfl
  | some o =>
    rw [e p o n q] at h
    cases h
theorem upd_old {H : Hp} {p a : Addr} {o u : HO} (hp : H p = none) (ha : H a = some u) : upd H p o a = some u := by
  rw [upd_ne (ne_of_none ha hp)]
  exact ha
theorem upd_free {H : Hp} {p q : Addr} {o : HO} (h : upd H p o q = none) : H q = none := by
  by_cases e : q = p
  · rw [e, upd_same] at h
    cases h
  · rwa [upd_ne e] at h
theorem lst_of {H : Hp} {p : Addr} {xs : List V} (h : H p = some (.lst xs)) : lstAt H p = some xs := by unfold lstAt; rw [h]
theorem tup_of {H : Hp} {p : Addr} {xs : List V} (h : H p = some (.tup xs)) : tupAt H p = some xs := by unfold tupAt; rw [h]
theorem seq_l {H : Hp} {p : Addr} {xs : List V} (h : H p = some (.lst xs)) : seqAt H p = some xs := by unfold seqAt; rw [h]
theorem seq_t {H : Hp} {p : Addr} {xs : List V} (h : H p = some (.tup xs)) : seqAt H p = some xs := by unfold seqAt; rw [h]
/-! ### one step of a reading -/
section
variable {D : Ends} {σ : L2.St} {H : Hp} {Q : VK} {K : PySem.W.Frag} {R : L2.St → Hp → Prop} {B : Bool → Hp → Prop}
theorem st_seq {t u : TS} (h : t { D with nx := u D } σ H) : tSeq t u D σ H := h
theorem st_next (h : D.nx σ H) : tNext D σ H := h
theorem st_brk (h : D.bk σ H) : tBreak D σ H := h
theorem st_cont (h : D.ct σ H) : tCont D σ H := h
theorem st_drop {te : TE} (h : te σ H (fun _ H1 => D.nx σ H1)) : tDrop te D σ H := h
theorem st_ret {te : TE} (h : te σ H D.rt) : tRet te D σ H := h
theorem st_retN (h : D.rt .non H) : tRetN D σ H := h
theorem st_ifS {c : TT} {t u : TS} (h : c σ H (fun b H1 => if b = true then t D σ H1 else u D σ H1)) : tIfS c t u D σ H := h
theorem st_asg {te : TE} {g : TG} (h : te σ H (fun x H1 => g x σ H1 D.nx)) : tAsg te g D σ H := h
theorem st_name {i : Nat} {v : V} (h : R (σ.set i (some v)) H) : gName i v σ H R := h
theorem st_sub {to ti : TE} {t : TSet} {v : V} (h : to σ H (fun o H1 => ti σ H1 fun i H2 => t o i v H2 fun H3 => R σ H3)) : gSub to ti t v σ H R := h
theorem st_augI {i : Nat} {te : TE} {f : Int → Int → Int} {z : Int} (hx : σ[i]? = some (some (.int z))) (h : te σ H (fun y H1 => ipI f (.int z) y H1 fun z H2 => D.nx (σ.set i (some z)) H2)) : tAug i te (ipI f) D σ H := ⟨_, hx, h⟩
theorem st_ipI {f : Int → Int → Int} {x y : Int} (h : Q (.int (f x y)) H) : ipI f (.int x) (.int y) H Q := ⟨_, _, rfl, rfl, h⟩
theorem st_par {i j : Nat} {ta : TA} (h : ta σ H (fun vs H1 => ∃ v w, vs = [v, w] ∧ D.nx ((σ.set i (some v)).set j (some w)) H1)) : tPar i j ta D σ H := h
theorem st_par2 {v w : V} {P : V → V → Prop} (h : P v w) : ∃ v' w', [v, w] = [v', w'] ∧ P v' w' := ⟨v, w, rfl, h⟩
theorem st_var {i : Nat} {v : V} (hv : σ[i]? = some (some v)) (h : Q v H) : tVar i σ H Q := ⟨v, hv, h⟩
theorem st_c {v : V} (h : Q v H) : tC v σ H Q := h
theorem st_op {r : R2} {ta tb : TE} (h : ta σ H (fun x H1 => tb σ H1 fun y H2 => r x y H2 Q)) : tOp r ta tb σ H Q := h
theorem st_un {r : V → Hp → VK → Prop} {ta : TE} (h : ta σ H (fun x H1 => r x H1 Q)) : tUn r ta σ H Q := h
theorem st_rU {g : Int → V} {i : Int} (h : Q (g i) H) : rU g (.int i) H Q := ⟨i, rfl, h⟩
theorem st_B {t : TE} (h : t σ H (fun x H1 => ∃ c, x = .bl c ∧ B c H1)) : tB t σ H B := h
theorem st_test {t : TE} (h : t σ H (fun x H1 => ∃ c, x = .bl c ∧ B c H1)) : tTest t σ H B := h
theorem st_isb {b : Bool} {P : Bool → Prop} (h : P b) : ∃ c, V.bl b = .bl c ∧ P c := ⟨b, rfl, h⟩
theorem st_and {t u : TT} (h : t σ H (fun c H1 => if c = true then u σ H1 B else B false H1)) : tAnd t u σ H B := h
theorem st_or {t u : TT} (h : t σ H (fun c H1 => if c = true then B true H1 else u σ H1 B)) : tOr t u σ H B := h
theorem st_not {t : TT} (h : t σ H (fun c H1 => B (!c) H1)) : tNot t σ H B := h
theorem st_andV {ta tb : TE} (h : ta σ H (fun x H1 => ∃ c, x = .bl c ∧ if c = true then tb σ H1 Q else Q (.bl false) H1)) : tAndV ta tb σ H Q := h
theorem st_orV {ta tb : TE} (h : ta σ H (fun x H1 => ∃ c, x = .bl c ∧ if c = true then Q (.bl true) H1 else tb σ H1 Q)) : tOrV ta tb σ H Q := h
theorem st_notV {ta : TE} (h : ta σ H (fun x H1 => ∃ c, x = .bl c ∧ Q (.bl (!c)) H1)) : tNotV ta σ H Q := h
theorem st_if {t : TT} {ta tb : TE} (h : t σ H (fun c H1 => if c = true then ta σ H1 Q else tb σ H1 Q)) : tIf t ta tb σ H Q := h
theorem st_nil {P : List V → Hp → Prop} (h : P [] H) : tNil σ H P := h
theorem st_cons {ta : TE} {tr : TA} {P : List V → Hp → Prop} (h : ta σ H (fun x H1 => tr σ H1 fun xs H2 => P (x :: xs) H2)) : tCons ta tr σ H P := h
def NewO (o : List V → HO) (xs : List V) (Q : VK) (H : Hp) : Prop := xs.length ≤ sizeLine ∧ ∀ p, H p = none → Q (.ref p) (upd H p (o xs))
theorem st_tup {t : TA} (h : t σ H (fun xs H1 => NewO .tup xs Q H1)) : tTup t σ H Q := h
theorem st_lst {t : TA} (h : t σ H (fun xs H1 => NewO .lst xs Q H1)) : tLst t σ H Q := h
/-- a new object: from then on the heap is a letter -/
theorem st_new {xs : List V} {o : List V → HO} (hz : xs.length ≤ 16777216) (h : ∀ p H', H p = none → Ex H H' → H' p = some (o xs) → Q (.ref p) H') : NewO o xs Q H :=
  ⟨by rw [sl16]; exact hz, fun p hp => h p _ hp (Fr.new hp) upd_same⟩
theorem st_cb {r : List V → Hp → VK → Prop} {t : TA} (h : t σ H (fun vs H1 => r vs H1 Q)) : tCB r t σ H Q := h
theorem st_call {sp : Sp} {dvs : List V} {E : XK} {t : TA} (h : t σ H (fun vs H1 => sp (vs ++ dvs) H1 Q E)) : tCall sp dvs E t σ H Q := h
theorem st_sl {r : V → Option Int → Option Int → Hp → VK → Prop} {te : TE} {tl th : TO} (h : te σ H (fun x H1 => tl σ H1 fun l H2 => th σ H2 fun u H3 => r x l u H3 Q)) : tSl r te tl th σ H Q := h
theorem st_part {te : TE} {P : Option Int → Hp → Prop} (h : te σ H (fun x H1 => ∃ i, x = .int i ∧ P (some i) H1)) : tPart te σ H P := h
theorem st_isi {i : Int} {P : Int → Prop} (h : P i) : ∃ j, V.int i = .int j ∧ P j := ⟨i, rfl, h⟩
theorem st_nopart {P : Option Int → Hp → Prop} (h : P none H) : tNoPart σ H P := h
/-! values -/
theorem st_addI {i j : Int} (h : Q (.int (i + j)) H) : rAdd (.int i) (.int j) H Q := h
theorem st_addS {a b : Str} (hz : a.length + b.length ≤ 16777216) (h : Q (.str (a ++ b)) H) : rAdd (.str a) (.str b) H Q := ⟨hz, h⟩
theorem st_addL {p q : Addr} {xs ys : List V} (h1 : H p = some (.lst xs)) (h2 : H q = some (.lst ys)) (hz : xs.length + ys.length ≤ 16777216) (h : ∀ r H', H r = none → Ex H H' → H' r = some (.lst (xs ++ ys)) → Q (.ref r) H') : rAdd (.ref p) (.ref q) H Q :=
  ⟨xs, ys, h1, h2, hz, fun r hr => h r _ hr (Fr.new hr) upd_same⟩
theorem st_subI {i j : Int} (h : Q (.int (i - j)) H) : rSub (.int i) (.int j) H Q := h
theorem st_mulI {i j : Int} (hc : (-(2 ^ 64) < i ∧ i < 2 ^ 64) ∨ (-(2 ^ 64) < j ∧ j < 2 ^ 64)) (h : Q (.int (i * j)) H) : rMul (.int i) (.int j) H Q := ⟨hc, h⟩
theorem st_mulL {p : Addr} {k : Int} {xs : List V} (h1 : H p = some (.lst xs)) (h2 : -1000000 ≤ k) (h3 : k ≤ 1000000) (hz : xs.length * k.toNat ≤ 16777216) (h : ∀ r H', H r = none → Ex H H' → H' r = some (.lst (List.replicate k.toNat xs).flatten) → Q (.ref r) H') : rMul (.ref p) (.int k) H Q :=
  ⟨xs, h1, h2, h3, hz, fun r hr => h r _ hr (Fr.new hr) upd_same⟩
theorem st_mulS {a : Str} {k : Int} (h2 : -1000000 ≤ k) (h3 : k ≤ 1000000) (hz : a.length * k.toNat ≤ 16777216) (h : Q (.str (Txt.mul a k)) H) : rMul (.str a) (.int k) H Q := ⟨h2, h3, hz, h⟩
theorem st_modI {i j : Int} (hc : 0 < j) (h : Q (.int (i % j)) H) : rMod (.int i) (.int j) H Q := ⟨hc, h⟩
theorem st_divI {i j : Int} (hc : 0 < j ∧ j < 1073741824) (h : Q (.int (i / j)) H) : rDiv (.int i) (.int j) H Q := ⟨hc.1, hc.2, h⟩
theorem st_powI {i j : Int} (hc : 0 ≤ j ∧ j ≤ 1000000 ∧ i.natAbs < 2 ^ 64) (h : Q (.int (i ^ j.toNat)) H) : rPow (.int i) (.int j) H Q := ⟨hc.1, hc.2.1, hc.2.2, h⟩
theorem st_cmpI {f : Int → Int → Bool} {i j : Int} (h : Q (.bl (f i j)) H) : rCmpI f (.int i) (.int j) H Q := h
theorem st_eqI {i j : Int} (h : Q (.bl (decide (i = j))) H) : rEqU (.int i) (.int j) H Q := ⟨_, _, .int i, .int j, by simp [PyData.depth], by
  have e : PyData.eqv (.int i) (.int j) = decide (i = j) := by simp only [PyData.eqv]; rfl
  rw [e]; exact h⟩
theorem st_neI {i j : Int} (h : Q (.bl (!decide (i = j))) H) : rNeU (.int i) (.int j) H Q := ⟨_, _, .int i, .int j, by simp [PyData.depth], by
  have e : PyData.eqv (.int i) (.int j) = decide (i = j) := by simp only [PyData.eqv]; rfl
  rw [e]; exact h⟩
theorem st_eqS {i j : Str} (h : Q (.bl (decide (i = j))) H) : rEqU (.str i) (.str j) H Q := ⟨_, _, .str i, .str j, by simp [PyData.depth], by
  have e : PyData.eqv (.str i) (.str j) = decide (i = j) := by simp only [PyData.eqv]; rfl
  rw [e]; exact h⟩
theorem st_neS {i j : Str} (h : Q (.bl (!decide (i = j))) H) : rNeU (.str i) (.str j) H Q := ⟨_, _, .str i, .str j, by simp [PyData.depth], by
  have e : PyData.eqv (.str i) (.str j) = decide (i = j) := by simp only [PyData.eqv]; rfl
  rw [e]; exact h⟩
theorem st_eqB {i j : Bool} (h : Q (.bl (i == j)) H) : rEqU (.bl i) (.bl j) H Q := ⟨_, _, .bl i, .bl j, by simp [PyData.depth], by
  have e : PyData.eqv (.bool i) (.bool j) = (i == j) := by simp only [PyData.eqv]
  rw [e]; exact h⟩
theorem st_neB {i j : Bool} (h : Q (.bl (!(i == j))) H) : rNeU (.bl i) (.bl j) H Q := ⟨_, _, .bl i, .bl j, by simp [PyData.depth], by
  have e : PyData.eqv (.bool i) (.bool j) = (i == j) := by simp only [PyData.eqv]
  rw [e]; exact h⟩
theorem st_eqD {x y : V} {d e : PyData} (h1 : Rp H x d) (h2 : Rp H y e) (hd : min d.depth e.depth ≤ 64) (h : Q (.bl (PyData.eqv d e)) H) : rEqU x y H Q := ⟨d, e, h1, h2, hd, h⟩
theorem st_neD {x y : V} {d e : PyData} (h1 : Rp H x d) (h2 : Rp H y e) (hd : min d.depth e.depth ≤ 64) (h : Q (.bl (!PyData.eqv d e)) H) : rNeU x y H Q := ⟨d, e, h1, h2, hd, h⟩
theorem st_ixL {p : Addr} {i : Int} {v : V} {xs : List V} (h1 : H p = some (.lst xs)) (h2 : atI xs i = some v) (h : Q v H) : rIxU K (.ref p) (.int i) H Q := ⟨xs, seqAt_sq (seq_l h1), v, h2, h⟩
theorem st_ixT {p : Addr} {i : Int} {v : V} {xs : List V} (h1 : H p = some (.tup xs)) (h2 : atI xs i = some v) (h : Q v H) : rIxU K (.ref p) (.int i) H Q := ⟨xs, seqAt_sq (seq_t h1), v, h2, h⟩
theorem st_ixQ {p : Addr} {i : Int} {v : V} {xs : List V} (h1 : seqAt H p = some xs) (h2 : atI xs i = some v) (h : Q v H) : rIxU K (.ref p) (.int i) H Q := ⟨xs, seqAt_sq h1, v, h2, h⟩
theorem st_ixK {p : Addr} {i : Int} {v : V} {xs : List V} (h1 : SqL K H p xs) (h2 : atI xs i = some v) (h : Q v H) : rIxU K (.ref p) (.int i) H Q := ⟨xs, .inl h1, v, h2, h⟩
theorem at_in {α : Type} {xs : List α} {i : Int} (h0 : 0 ≤ i) (h1 : i < xs.length) : ∃ v, atI xs i = some v ∧ xs[i.toNat]? = some v := by
  have hj : i.toNat < xs.length := by omega
  refine ⟨xs[i.toNat], ?_, List.getElem?_eq_getElem hj⟩
  unfold atI ixN
  rw [if_pos h0, if_pos h1]
  exact List.getElem?_eq_getElem hj
/-- an item of a row of numbers, of texts, at some place -/
theorem st_ixI {p : Addr} {i : Int} {xs : List V} (ns : List Int) (h1 : H p = some (.lst xs)) (e : xs = ns.map V.int) (h0 : 0 ≤ i) (hi : i < ns.length) (h : ∀ z, ns[i.toNat]? = some z → z ∈ ns → Q (.int z) H) : rIxU K (.ref p) (.int i) H Q := by
  subst e
  obtain ⟨v, h2, h3⟩ := at_in (xs := ns.map V.int) h0 (by rw [List.length_map]; exact hi)
  rw [List.getElem?_map] at h3
  cases q : ns[i.toNat]? with
  | none => rw [q] at h3; cases h3
  | some z =>
    rw [q] at h3
    cases h3
    exact st_ixL h1 h2 (h z q (List.mem_of_getElem? q))
theorem st_ixS {p : Addr} {i : Int} {xs : List V} (ns : List Str) (h1 : H p = some (.lst xs)) (e : xs = ns.map V.str) (h0 : 0 ≤ i) (hi : i < ns.length) (h : ∀ z, ns[i.toNat]? = some z → z ∈ ns → Q (.str z) H) : rIxU K (.ref p) (.int i) H Q := by
  subst e
  obtain ⟨v, h2, h3⟩ := at_in (xs := ns.map V.str) h0 (by rw [List.length_map]; exact hi)
  rw [List.getElem?_map] at h3
  cases q : ns[i.toNat]? with
  | none => rw [q] at h3; cases h3
  | some z =>
    rw [q] at h3
    cases h3
    exact st_ixL h1 h2 (h z q (List.mem_of_getElem? q))
/-- a sign of a text -/
theorem st_sign {z : Str} {i : Int} {c : Nat} (hz : z.length ≤ 16777216) (h2 : atI z.cps.toList i = some c) (h : Q (.str (tx [c])) H) : rIxU K (.str z) (.int i) H Q := ⟨hz, c, h2, h⟩
theorem st_slS {z : Str} {lo hi : Option Int} (hz : z.length ≤ 16777216) (h : Q (.str (cutS z lo hi)) H) : rSlU K (.str z) lo hi H Q := ⟨hz, h⟩
theorem st_slL {p : Addr} {xs : List V} {lo hi : Option Int} (h1 : lstAt H p = some xs) (h : ∀ q H', H q = none → Ex H H' → H' q = some (.lst (cutV xs lo hi)) → Q (.ref q) H') : rSlU K (.ref p) lo hi H Q := ⟨xs, lstAt_sq h1, fun q hq => h q _ hq (Fr.new hq) upd_same⟩
theorem st_slK {p : Addr} {xs : List V} {lo hi : Option Int} (h1 : SqL K H p xs) (h : ∀ q H', H q = none → Ex H H' → H' q = some (.lst (cutV xs lo hi)) → Q (.ref q) H') : rSlU K (.ref p) lo hi H Q := ⟨xs, h1, fun q hq => h q _ hq (Fr.new hq) upd_same⟩
theorem st_lenS {z : Str} (hz : z.length ≤ 16777216) (h : Q (.int z.length) H) : rLen K [.str z] H Q := ⟨hz, h⟩
theorem st_lenL {p : Addr} {xs : List V} (h1 : H p = some (.lst xs)) (h : Q (.int xs.length) H) : rLen K [.ref p] H Q := ⟨xs, seqAt_sq (seq_l h1), h⟩
theorem st_lenT {p : Addr} {xs : List V} (h1 : H p = some (.tup xs)) (h : Q (.int xs.length) H) : rLen K [.ref p] H Q := ⟨xs, seqAt_sq (seq_t h1), h⟩
theorem st_lenQ {p : Addr} {xs : List V} (h1 : seqAt H p = some xs) (h : Q (.int xs.length) H) : rLen K [.ref p] H Q := ⟨xs, seqAt_sq h1, h⟩
theorem st_lenK {p : Addr} {xs : List V} (h1 : SqL K H p xs) (h : Q (.int xs.length) H) : rLen K [.ref p] H Q := ⟨xs, .inl h1, h⟩
theorem st_max2 {i j : Int} (h : Q (.int (if j > i then j else i)) H) : Zb.rMax2 [.int i, .int j] H Q := h
theorem st_min2 {i j : Int} (h : Q (.int (if j < i then j else i)) H) : Zb.rMin2 [.int i, .int j] H Q := h
theorem st_is {x : V} {n t : String} {b : Bool} (h1 : tyN H x = some t) (h2 : kitB t n = some b) (h : Q (.bl b) H) : rIs [x, .ty n] H Q := ⟨t, h1, b, h2, h⟩
/-- xs[i] = e -/
theorem st_setL {p : Addr} {k : Int} {v : V} {xs : List V} {j : Nat} {R : Hp → Prop} (h1 : H p = some (.lst xs)) (h2 : ixN xs.length k = some j) (h : R (upd H p (.lst (xs.set j v)))) : rSetL (.ref p) (.int k) v H R := ⟨p, xs, k, j, rfl, rfl, h1, h2, h⟩
theorem st_T {A B : Prop} {b : Bool} (hb : b = true) (h : A) : if b = true then A else B := by rw [if_pos hb]; exact h
theorem st_F {A B : Prop} {b : Bool} (hb : b = false) (h : B) : if b = true then A else B := by rw [hb, if_neg Bool.false_ne_true]; exact h
theorem st_br {A B : Prop} {b : Bool} (h1 : b = true → A) (h2 : b = false → B) : if b = true then A else B := by
  cases b with
  | true => exact h1 rfl
  | false => exact h2 rfl
theorem st_br2 {A B : Prop} {p : Prop} [Decidable p] (h1 : p → A) (h2 : ¬ p → B) : if decide p = true then A else B := by
  by_cases q : p
  · rw [decide_eq_true q]; exact h1 q
  · rw [decide_eq_false q, if_neg Bool.false_ne_true]; exact h2 q
theorem st_brn {A B : Prop} {p : Prop} [Decidable p] (h1 : ¬ p → A) (h2 : p → B) : if (!decide p) = true then A else B := by
  by_cases q : p
  · rw [decide_eq_true q]; exact h2 q
  · rw [decide_eq_false q]; exact h1 q
end
/-! ### a law's purse: three numbers that each drawing changes -/
def Purse (H : Hp) (a : Addr) : Prop := ∃ x y z : Int, H a = some (.lst [.int x, .int y, .int z])
abbrev FrP (p : Addr) (H H' : Hp) : Prop := Fr (fun b => b = p) H H'
theorem FrP.at {H : Hp} {p : Addr} {o : HO} : FrP p H (upd H p o) := Fr.at (M := fun b => b = p) rfl
theorem Purse.ne {H : Hp} {p q : Addr} (h : Purse H p) (hq : H q = none) : q ≠ p := fun e => by
  obtain ⟨x, y, z, h⟩ := h
  rw [e, h] at hq
  cases hq
theorem Purse.ex {H H' : Hp} {p : Addr} (h : Purse H p) (e : Ex H H') : Purse H' p := by
  obtain ⟨x, y, z, h⟩ := h
  exact ⟨x, y, z, e.get h⟩
end Zb

namespace Zb
open PySem PySem.Spec PyProof.Rows L2
open Evl (tCut pss_cut)
/-! ### what is walked: n turns, while S stands -/
structure Runs (J : It) (n : Nat) (S : Hp → Prop) (item : Nat → V → Hp → Hp → Prop) : Prop where
  go : ∀ i H, i < n → S H → J.go i H
  stop : ∀ H, S H → J.stop n H
  yld : ∀ i H x H', i < n → S H → J.yld i H x H' → item i x H H'
theorem runs_range (lo : Int) (n : Nat) : Runs (Itr lo n) n (fun _ => True) (fun i x H H' => H' = H ∧ x = .int (lo + i)) :=
  ⟨fun _ _ h _ => h, fun _ _ => Nat.le_refl _, fun _ _ _ _ _ _ y => y⟩
theorem runs_str (z : Str) : Runs (Its z) z.length (fun _ => True) (fun i x H H' => H' = H ∧ ∃ c, z.cps.toList[i]? = some c ∧ x = .str (tx [c])) :=
  ⟨fun _ _ h _ => h, fun _ _ => Nat.le_refl _, fun _ _ _ _ _ _ y => by
    obtain ⟨h, c, e1, e2⟩ := y
    exact ⟨h, c, by rw [Array.getElem?_toList]; exact e1, e2⟩⟩
theorem runs_list (K : PySem.W.Frag) (a : Addr) (xs : List V) : Runs (Itl K a) xs.length (fun H => lstAt H a = some xs) (fun i x H H' => H' = H ∧ xs[i]? = some x) :=
  ⟨fun i H h s => ⟨xs, xs[i], lstAt_sq s, by simp [h]⟩, fun _ s => ⟨xs, lstAt_sq s, Nat.le_refl _⟩, fun _ _ _ _ _ s y => ⟨y.1, y.2 xs (lstAt_sq s)⟩⟩
theorem runs_tup (K : PySem.W.Frag) (a : Addr) (xs : List V) : Runs (Itt K a) xs.length (fun H => tupAt H a = some xs) (fun i x H H' => H' = H ∧ xs[i]? = some x) :=
  ⟨fun i H h s => ⟨xs, xs[i], tupAt_sq s, by simp [h]⟩, fun _ s => ⟨xs, tupAt_sq s, Nat.le_refl _⟩, fun _ _ _ _ _ s y => ⟨y.1, y.2 xs (tupAt_sq s)⟩⟩
theorem runs_enum (K : PySem.W.Frag) (a : Addr) (xs : List V) : Runs (Ite K a) xs.length (fun H => lstAt H a = some xs) (fun i x H H' => ∃ T v, x = .ref T ∧ H T = none ∧ Ex H H' ∧ H' T = some (.tup [.int (i : Nat), v]) ∧ xs[i]? = some v) :=
  ⟨fun i H h s => ⟨xs, xs[i], lstAt_sq s, by simp [h]⟩, fun _ s => ⟨xs, lstAt_sq s, Nat.le_refl _⟩, fun i H x H' _ s y => by
    obtain ⟨T, v, e1, e2, e3, e4⟩ := y
    subst e3
    exact ⟨T, v, e1, e2, Fr.new e2, upd_same, e4 xs (lstAt_sq s)⟩⟩
theorem runs_zip (K : PySem.W.Frag) (a b : Addr) (xs ys : List V) : Runs (Itz K a b) (min xs.length ys.length) (fun H => lstAt H a = some xs ∧ lstAt H b = some ys) (fun i x H H' => ∃ T v u, x = .ref T ∧ H T = none ∧ Ex H H' ∧ H' T = some (.tup [v, u]) ∧ xs[i]? = some v ∧ ys[i]? = some u) :=
  ⟨fun i H h s => ⟨xs, ys, xs[i]'(by omega), ys[i]'(by omega), lstAt_sq s.1, lstAt_sq s.2, by rw [List.getElem?_eq_getElem], by rw [List.getElem?_eq_getElem]⟩, fun _ s => ⟨xs, ys, lstAt_sq s.1, lstAt_sq s.2, by omega⟩, fun i H x H' _ s y => by
    obtain ⟨T, v, u, e1, e2, e3, e4, e5⟩ := y
    subst e3
    exact ⟨T, v, u, e1, e2, Fr.new e2, upd_same, e4 xs (lstAt_sq s.1), e5 ys (lstAt_sq s.2)⟩⟩
def LcGoal (J : It) (g : TG) (tt : TT) (te : TE) (vs : List Nat) (σ : L2.St) (Q : VK) (H1 : Hp) : Prop := ∀ D, H1 D = none → ∃ W : Nat → Nat → Hp → Prop, (∃ m, W 0 m (upd H1 D (.lst []))) ∧ ∀ i m H, W i m H →
      (J.stop i H ∧ Q (.ref D) H) ∨ (J.go i H ∧ ∃ Nx : Hp → Prop, (∀ H', Nx H' → ∃ m', m' < m ∧ W (i + 1) m' H') ∧ ∀ x H', J.yld i H x H' → g x (wipe σ vs) H' fun σ2 H2 => wipe σ2 vs = wipe σ vs ∧ tt σ2 H2 fun b H3 =>
        if b = true then te σ2 H3 fun y H4 => ∃ acc, H4 D = some (.lst acc) ∧ acc.length < sizeLine ∧ Nx (upd H4 D (.lst (acc ++ [y]))) else Nx H3)
def ForGoal (J : It) (g : TG) (tb : TS) (D : Ends) (σ : L2.St) (H : Hp) : Prop := ∃ W : Nat → Nat → L2.St → Hp → Prop, (∃ m, W 0 m σ H) ∧ ∀ i m σ H, W i m σ H →
      (J.stop i H ∧ D.nx σ H) ∨ (J.go i H ∧ ∃ N : L2.St → Hp → Prop, (∀ σ' H', N σ' H' → ∃ m', m' < m ∧ W (i + 1) m' σ' H') ∧ ∀ x H', J.yld i H x H' → g x σ H' fun σ2 H2 => tb { D with nx := N, ct := N, bk := D.nx } σ2 H2)
section
variable {J : It} {n : Nat} {S : Hp → Prop} {item : Nat → V → Hp → Hp → Prop} {g : TG} {σ : L2.St} {H H1 : Hp} {K : PySem.W.Frag}
/-- a for loop by its word Pv -/
theorem for_runs {tb : TS} {D : Ends} (hR : Runs J n S item) (Pv : Nat → L2.St → Hp → Prop) (h0 : Pv 0 σ H) (hS : ∀ i σ H, i ≤ n → Pv i σ H → S H)
    (hs : ∀ i x σ H H', i < n → Pv i σ H → item i x H H' → g x σ H' fun σ2 H2 => tb { D with nx := Pv (i + 1), ct := Pv (i + 1), bk := D.nx } σ2 H2) (hd : ∀ σ H, Pv n σ H → D.nx σ H) :
    ForGoal J g tb D σ H := by
  refine ⟨fun i m σ H => m = n - i ∧ i ≤ n ∧ Pv i σ H, ⟨n, by simp, Nat.zero_le _, h0⟩, ?_⟩
  rintro i m σ H ⟨rfl, hi, p⟩
  by_cases hlt : i < n
  · refine .inr ⟨hR.go i H hlt (hS i σ H hi p), Pv (i + 1), fun σ' H' p' => ⟨n - (i + 1), by omega, rfl, hlt, p'⟩, fun x H' y => ?_⟩
    exact hs i x σ H H' hlt p (hR.yld i H x H' hlt (hS i σ H hi p) y)
  · have e : i = n := by omega
    subst e
    exact .inl ⟨hR.stop H (hS i σ H hi p), hd σ H p⟩
/-- the list of a comprehension on its way -/
structure LcAt (M : Addr → Prop) (H1 : Hp) (D : Addr) (acc : List V) (H : Hp) : Prop where
  new : H1 D = none
  non : ¬ M D
  at_ : H D = some (.lst acc)
  fr : Fr M H1 H
def LcW (M : Addr → Prop) (H1 : Hp) (Pv : Nat → List V → Hp → Prop) (D : Addr) (i : Nat) (H : Hp) : Prop := ∃ acc, LcAt M H1 D acc H ∧ Pv i acc H
/-- Pv does not look at the list itself -/
def LcSt (M : Addr → Prop) (H1 : Hp) (Pv : Nat → List V → Hp → Prop) : Prop := ∀ i acc H' D o, H1 D = none → Fr M H1 H' → Pv i acc H' → Pv i acc (upd H' D o)
theorem lc_yes {M : Addr → Prop} {Pv : Nat → List V → Hp → Prop} {D : Addr} {i : Nat} {acc : List V} {H' H4 : Hp} {y : V} (L : LcAt M H1 D acc H') (hst : LcSt M H1 Pv) (e : Fr M H' H4) (hz : acc.length < 1000000) (p : Pv (i + 1) (acc ++ [y]) H4) :
    ∃ acc, H4 D = some (.lst acc) ∧ acc.length < sizeLine ∧ LcW M H1 Pv D (i + 1) (upd H4 D (.lst (acc ++ [y]))) :=
  ⟨acc, e D _ L.non L.at_, by rw [sl16]; omega, acc ++ [y], ⟨L.new, L.non, upd_same, (L.fr.trans e).mut L.new⟩, hst _ _ _ _ _ L.new (L.fr.trans e) p⟩
theorem lc_no {M : Addr → Prop} {Pv : Nat → List V → Hp → Prop} {D : Addr} {i : Nat} {acc : List V} {H' H4 : Hp} (L : LcAt M H1 D acc H') (e : Fr M H' H4) (p : Pv (i + 1) acc H4) : LcW M H1 Pv D (i + 1) H4 :=
  ⟨acc, ⟨L.new, L.non, e D _ L.non L.at_, L.fr.trans e⟩, p⟩
theorem lc_runs {tt : TT} {te : TE} {vs : List Nat} {Q : VK} (hR : Runs J n S item) (M : Addr → Prop) (Pv : Nat → List V → Hp → Prop) (hM : ∀ b, M b → H1 b ≠ none) (h0 : Pv 0 [] H1) (hst : LcSt M H1 Pv) (hS : ∀ i acc H', Fr M H1 H' → Pv i acc H' → S H')
    (hs : ∀ D i acc x H' H'', i < n → LcAt M H1 D acc H' → Pv i acc H' → item i x H' H'' → g x (wipe σ vs) H'' fun σ2 H2 => wipe σ2 vs = wipe σ vs ∧ tt σ2 H2 fun b H3 => if b = true then te σ2 H3 fun y H4 => ∃ acc, H4 D = some (.lst acc) ∧ acc.length < sizeLine ∧ LcW M H1 Pv D (i + 1) (upd H4 D (.lst (acc ++ [y]))) else LcW M H1 Pv D (i + 1) H3)
    (hd : ∀ D acc H', H1 D = none → Fr M H1 H' → H' D = some (.lst acc) → Pv n acc H' → Q (.ref D) H') :
    LcGoal J g tt te vs σ Q H1 := by
  intro D hD
  refine ⟨fun i m H => m = n - i ∧ i ≤ n ∧ LcW M H1 Pv D i H, ⟨n, by simp, Nat.zero_le _, [], ⟨hD, fun m => hM D m hD, upd_same, Fr.new hD⟩, hst _ _ _ _ _ hD (Fr.refl _) h0⟩, ?_⟩
  rintro i m H ⟨rfl, hi, acc, L, p⟩
  by_cases hlt : i < n
  · refine .inr ⟨hR.go i H hlt (hS i acc H L.fr p), LcW M H1 Pv D (i + 1), fun H' p' => ⟨n - (i + 1), by omega, rfl, hlt, p'⟩, fun x H' y => ?_⟩
    exact hs D i acc x H H' hlt L p (hR.yld i H x H' hlt (hS i acc H L.fr p) y)
  · have e : i = n := by omega
    subst e
    exact .inl ⟨hR.stop H (hS i acc H L.fr p), hd D acc H hD L.fr L.at_ p⟩
/-! a comprehension whose turns make nothing that lasts but values -/
abbrev RunsV {α : Type} (J : It) (ys : List α) (val : α → V) (S : Hp → Prop) : Prop := Runs J ys.length S (fun i x H H' => H' = H ∧ ∃ y, ys[i]? = some y ∧ x = val y)
theorem rv_str (z : Str) : RunsV (Its z) z.cps.toList (fun c => .str (tx [c])) (fun _ => True) :=
  ⟨fun i _ h _ => by show i < z.cps.size; simpa using h, fun _ _ => by show z.cps.size ≤ z.cps.toList.length; simp, fun _ _ _ _ _ _ y => by
    obtain ⟨h, c, e1, e2⟩ := y
    exact ⟨h, c, by rw [Array.getElem?_toList]; exact e1, e2⟩⟩
theorem rv_list (K : PySem.W.Frag) (a : Addr) {α : Type} (ys : List α) (val : α → V) : RunsV (Itl K a) ys val (fun H => lstAt H a = some (ys.map val)) :=
  ⟨fun i H h s => ⟨ys.map val, val ys[i], lstAt_sq s, by simp [h]⟩, fun _ s => ⟨ys.map val, lstAt_sq s, by simp⟩, fun i H x H' h s y => by
    have e := y.2 _ (lstAt_sq s)
    rw [List.getElem?_map, List.getElem?_eq_getElem h] at e
    exact ⟨y.1, ys[i], List.getElem?_eq_getElem h, (Option.some.inj e).symm⟩⟩
theorem rv_tup (K : PySem.W.Frag) (a : Addr) {α : Type} (ys : List α) (val : α → V) : RunsV (Itt K a) ys val (fun H => tupAt H a = some (ys.map val)) :=
  ⟨fun i H h s => ⟨ys.map val, val ys[i], tupAt_sq s, by simp [h]⟩, fun _ s => ⟨ys.map val, tupAt_sq s, by simp⟩, fun i H x H' h s y => by
    have e := y.2 _ (tupAt_sq s)
    rw [List.getElem?_map, List.getElem?_eq_getElem h] at e
    exact ⟨y.1, ys[i], List.getElem?_eq_getElem h, (Option.some.inj e).symm⟩⟩
theorem rv_range (lo : Int) (n : Nat) : RunsV (Itr lo n) (List.range n) (fun i => .int (lo + i)) (fun _ => True) :=
  ⟨fun _ _ h _ => by rw [List.length_range] at h; exact h, fun _ _ => by rw [List.length_range]; exact Nat.le_refl _, fun i _ _ _ h _ y => by
    rw [List.length_range] at h
    exact ⟨y.1, i, by rw [List.getElem?_range h], y.2⟩⟩
theorem lc_pure {α : Type} {ys : List α} {val : α → V} {tt : TT} {te : TE} {vs : List Nat} {Q : VK} (hR : RunsV J ys val S) (hS : ∀ H', Ex H1 H' → S H') (hz : ys.length < 1000000) (p : α → Bool) (f : α → V)
    (hs : ∀ y H', y ∈ ys → Ex H1 H' → ∀ (B : V → Hp → Prop) (A : Hp → Prop), (p y = true → ∀ H'', Ex H' H'' → B (f y) H'') → (p y = false → ∀ H'', Ex H' H'' → A H'') → g (val y) (wipe σ vs) H' fun σ2 H2 => wipe σ2 vs = wipe σ vs ∧ tt σ2 H2 fun b H3 => if b = true then te σ2 H3 B else A H3)
    (hd : ∀ D H', H1 D = none → Ex H1 H' → H' D = some (.lst ((ys.filter p).map f)) → Q (.ref D) H') :
    LcGoal J g tt te vs σ Q H1 := by
  have tk : ∀ {i : Nat} {y : α}, ys[i]? = some y → ys.take (i + 1) = ys.take i ++ [y] := fun {i y} e => by
    rw [List.take_succ, e]
    rfl
  refine lc_runs hR (fun _ => False) (fun i acc _ => acc = ((ys.take i).filter p).map f) (fun _ z => z.elim) (by simp) (fun i acc H' D o _ _ e => e) (fun i acc H' e _ => hS H' e) ?_ ?_
  · rintro D i acc x H' H'' hi L rfl ⟨rfl, y, hy, rfl⟩
    have hl : (((ys.take i).filter p).map f).length < 1000000 := by
      rw [List.length_map]
      have := List.length_filter_le p (ys.take i)
      rw [List.length_take] at this
      omega
    refine hs y H'' (List.mem_of_getElem? hy) L.fr _ _ (fun hp H3 e => ?_) (fun hp H3 e => ?_)
    · refine lc_yes L (fun i acc H' D o _ _ e => e) e hl ?_
      rw [tk hy, List.filter_append, List.map_append, List.filter_cons, if_pos hp]
      rfl
    · refine lc_no L e ?_
      rw [tk hy, List.filter_append, List.map_append, List.filter_cons, if_neg (by rw [hp]; decide)]
      simp
  · rintro D acc H' hD e h rfl
    rw [List.take_length] at h
    exact hd D H' hD e h
/-- no test -/
theorem lc_map {α : Type} {ys : List α} {val : α → V} {te : TE} {vs : List Nat} {Q : VK} (hR : RunsV J ys val S) (hS : ∀ H', Ex H1 H' → S H') (hz : ys.length < 1000000) (f : α → V)
    (hs : ∀ y H', y ∈ ys → Ex H1 H' → ∀ (B : V → Hp → Prop), (∀ H'', Ex H' H'' → B (f y) H'') → g (val y) (wipe σ vs) H' fun σ2 H2 => wipe σ2 vs = wipe σ vs ∧ te σ2 H2 B)
    (hd : ∀ D H', H1 D = none → Ex H1 H' → H' D = some (.lst (ys.map f)) → Q (.ref D) H')
    (hg : ∀ v σ H (P P' : L2.St → Hp → Prop), (∀ σ H, P σ H → P' σ H) → g v σ H P → g v σ H P' := by intro _ _ _ _ _ k h; exact k _ _ h) : LcGoal J g tYes te vs σ Q H1 := by
  refine lc_pure hR hS hz (fun _ => true) f (fun y H' hy e B A h1 h2 => ?_) (fun D H' hD e h => hd D H' hD e ?_)
  · exact hg _ _ _ _ _ (fun σ2 H2 h => ⟨h.1, h.2⟩) (hs y H' hy e B (h1 rfl))
  · rwa [List.filter_eq_self.mpr (fun _ _ => rfl)] at h
/-! how the walked thing begins -/
theorem st_yes {P : Bool → Hp → Prop} (h : P true H) : tYes σ H P := h
/-- isinstance(b, bool) -/
theorem st_isBool {Q : VK} {b : Bool} (h : Q (.bl true) H) : rIs [.bl b, .ty "bool"] H Q := ⟨"bool", rfl, true, by decide +kernel, h⟩
theorem st_iStr {te : TE} {R : It → Hp → Prop} (h : te σ H (fun v H1 => ∃ x, v = .str x ∧ R (Its x) H1)) : iStr te σ H R := h
theorem st_isStr {x : Str} {P : Str → Prop} (h : P x) : ∃ y, V.str x = .str y ∧ P y := ⟨x, rfl, h⟩
theorem st_iList {tl : TE} {R : It → Hp → Prop} (h : tl σ H (fun x H1 => ∃ a, x = .ref a ∧ (∃ xs, SqL K H1 a xs) ∧ R (Itl K a) H1)) : iList K tl σ H R := h
theorem st_isList {a : Addr} {xs : List V} {P : Addr → Prop} (h1 : lstAt H a = some xs) (h : P a) : ∃ b, V.ref a = .ref b ∧ (∃ xs, SqL K H b xs) ∧ P b := ⟨a, rfl, ⟨xs, lstAt_sq h1⟩, h⟩
theorem st_iTup {tl : TE} {R : It → Hp → Prop} (h : tl σ H (fun x H1 => ∃ a, x = .ref a ∧ (∃ xs, SqT K H1 a xs) ∧ R (Itt K a) H1)) : iTup K tl σ H R := h
theorem st_isTup {a : Addr} {xs : List V} {P : Addr → Prop} (h1 : tupAt H a = some xs) (h : P a) : ∃ b, V.ref a = .ref b ∧ (∃ xs, SqT K H b xs) ∧ P b := ⟨a, rfl, ⟨xs, tupAt_sq h1⟩, h⟩
theorem st_iR1 {ta : TA} {R : It → Hp → Prop} (h : ta σ H (fun vs H1 => ∃ j : Int, vs = [.int j] ∧ -(2 ^ 62) ≤ j ∧ j < 2 ^ 62 ∧ R (Itr 0 j.toNat) H1)) : iRng1 ta σ H R := h
theorem st_isR1 {j : Int} {P : Int → Prop} (h1 : -1000000000000 ≤ j ∧ j < 1000000000000) (h : P j) : ∃ i : Int, [V.int j] = [.int i] ∧ -(2 ^ 62) ≤ i ∧ i < 2 ^ 62 ∧ P i := ⟨j, rfl, by omega, by omega, h⟩
theorem st_iR2 {ta : TA} {R : It → Hp → Prop} (h : ta σ H (fun vs H1 => ∃ i j : Int, vs = [.int i, .int j] ∧ (-(2 ^ 62) ≤ i ∧ i < 2 ^ 62 ∧ -(2 ^ 62) ≤ j ∧ j < 2 ^ 62) ∧ R (Itr i (j - i).toNat) H1)) : iRng2 ta σ H R := h
theorem st_isR2 {i j : Int} {P : Int → Int → Prop} (h1 : -1000000000000 ≤ i ∧ i < 1000000000000 ∧ -1000000000000 ≤ j ∧ j < 1000000000000) (h : P i j) : ∃ i' j' : Int, [V.int i, V.int j] = [.int i', .int j'] ∧ (-(2 ^ 62) ≤ i' ∧ i' < 2 ^ 62 ∧ -(2 ^ 62) ≤ j' ∧ j' < 2 ^ 62) ∧ P i' j' := ⟨i, j, rfl, ⟨by omega, by omega, by omega, by omega⟩, h⟩
theorem st_iEn {ta : TA} {R : It → Hp → Prop} (h : ta σ H (fun vs H1 => ∃ a xs, vs = [.ref a] ∧ SqL K H1 a xs ∧ R (Ite K a) H1)) : iEnum K ta σ H R := h
theorem st_isEn {a : Addr} {xs : List V} {P : Addr → Prop} (h1 : lstAt H a = some xs) (h : P a) : ∃ b xs, [V.ref a] = [.ref b] ∧ SqL K H b xs ∧ P b := ⟨a, xs, rfl, lstAt_sq h1, h⟩
theorem st_iZp {ta : TA} {R : It → Hp → Prop} (h : ta σ H (fun vs H1 => ∃ a b xs ys, vs = [.ref a, .ref b] ∧ SqL K H1 a xs ∧ SqL K H1 b ys ∧ R (Itz K a b) H1)) : iZip K ta σ H R := h
theorem st_isZp {a b : Addr} {xs ys : List V} {P : Addr → Addr → Prop} (h1 : lstAt H a = some xs) (h2 : lstAt H b = some ys) (h : P a b) : ∃ a' b' xs ys, [V.ref a, V.ref b] = [.ref a', .ref b'] ∧ SqL K H a' xs ∧ SqL K H b' ys ∧ P a' b' := ⟨a, b, xs, ys, rfl, lstAt_sq h1, lstAt_sq h2, h⟩
theorem st_lc {wi : TI} {tt : TT} {te : TE} {vs : List Nat} {Q : VK} (h : wi σ H fun J H1 => LcGoal J g tt te vs σ Q H1) : tLc wi g tt te vs σ H Q := h
theorem st_for {wi : TI} {tb : TS} {D : Ends} (h : wi σ H fun J H1 => ForGoal J g tb D σ H1) : tFor wi g tb D σ H := h
end
/-! ### more values -/
section
variable {H : Hp} {Q : VK} {σ : L2.St}
theorem st_inC {c : Nat} {z : Str} (h : Q (.bl (decide (c ∈ z.cps.toList))) H) : rInU false (.str (tx [c])) (.str z) H Q := by
  refine ⟨_, rfl, ?_⟩
  show Q (.bl (!(Builtin.Str.occurrences z ⟨#[c]⟩ 0 z.length 1).isEmpty)) H
  rw [PySem.StrLaws.found_one]
  exact h
theorem st_ninC {c : Nat} {z : Str} (h : Q (.bl (!decide (c ∈ z.cps.toList))) H) : rInU true (.str (tx [c])) (.str z) H Q := by
  refine ⟨_, rfl, ?_⟩
  show Q (.bl (!(!(Builtin.Str.occurrences z ⟨#[c]⟩ 0 z.length 1).isEmpty))) H
  rw [PySem.StrLaws.found_one]
  exact h
theorem st_inL {x : V} {p : Addr} {xs : List V} {ds : List PyData} {d : PyData} (h1 : seqAt H p = some xs) (h2 : RpA H xs ds) (h3 : Rp H x d) (hd : min (PyData.depthAll ds) d.depth ≤ 60) (h : Q (.bl (ds.any fun y => PyData.eqv y d)) H) : rInU false x (.ref p) H Q := ⟨xs, ds, d, h1, h2, h3, hd, h⟩
theorem st_ninL {x : V} {p : Addr} {xs : List V} {ds : List PyData} {d : PyData} (h1 : seqAt H p = some xs) (h2 : RpA H xs ds) (h3 : Rp H x d) (hd : min (PyData.depthAll ds) d.depth ≤ 60) (h : Q (.bl (!(ds.any fun y => PyData.eqv y d))) H) : rInU true x (.ref p) H Q := ⟨xs, ds, d, h1, h2, h3, hd, h⟩
theorem st_all {p : Addr} {bs : List Bool} {xs : List V} (h1 : H p = some (.lst xs)) (e : xs = bs.map V.bl) (h : Q (.bl (bs.all id)) H) : rAllU [.ref p] H Q := ⟨bs, by rw [lst_of h1, e], h⟩
theorem st_join {a : Str} {p : Addr} {ys : List Str} {xs : List V} {K : PySem.W.Frag} (h1 : H p = some (.lst xs)) (e : xs = ys.map V.str) (hz : (ys.map (·.length)).sum + ys.length * a.length ≤ 16777216) (h : Q (.str (Txt.join a ys)) H) :
    ∃ a' p', ∃ ys : List Str, V.str a = .str a' ∧ [V.ref p] = [.ref p'] ∧ (SqL K H p' (ys.map V.str) ∨ SqT K H p' (ys.map V.str)) ∧ (ys.map (·.length)).sum + ys.length * a'.length ≤ 16777216 ∧ Q (.str (Txt.join a' ys)) H :=
  ⟨a, p, ys, rfl, rfl, .inl (lstAt_sq (by rw [lst_of h1, e])), hz, h⟩
theorem st_gtup {K : PySem.W.Frag} {a : Addr} {xs : List V} {n : Nat} {t : TGs} {R : L2.St → Hp → Prop} (h1 : H a = some (.tup xs)) (hn : xs.length = n) (h : t xs σ H R) : gTup K n t (.ref a) σ H R := ⟨a, xs, rfl, tupAt_sq (tup_of h1), hn, h⟩
theorem st_glst {K : PySem.W.Frag} {a : Addr} {xs : List V} {n : Nat} {t : TGs} {R : L2.St → Hp → Prop} (h1 : H a = some (.lst xs)) (hn : xs.length = n) (h : t xs σ H R) : gLst K n t (.ref a) σ H R := ⟨a, xs, rfl, lstAt_sq (lst_of h1), hn, h⟩
theorem st_gcons {v : V} {r : List V} {t : TG} {u : TGs} {R : L2.St → Hp → Prop} (h : t v σ H fun σ' H' => u r σ' H' R) : gCons t u (v :: r) σ H R := ⟨v, r, rfl, h⟩
theorem st_gnil {R : L2.St → Hp → Prop} (h : R σ H) : gNil [] σ H R := ⟨rfl, h⟩
theorem st_m1 {r : V → List V → Hp → VK → Prop} {to te : TE} (h : to σ H (fun x H1 => (∃ a, x = .str a) ∧ te σ H1 fun y H2 => r x [y] H2 Q)) : tM1 r to te σ H Q := h
theorem st_isS {a : Str} {P : Prop} (h : P) : (∃ b, V.str a = .str b) ∧ P := ⟨⟨a, rfl⟩, h⟩
theorem st_bm {K : PySem.W.Frag} {T : String} {r : V → List V → Hp → VK → Prop} {to : TE} {t : TA} (h : to σ H (fun x H1 => tyV K T x H1 ∧ t σ H1 fun xs H2 => r x xs H2 Q)) : tBM K T r to t σ H Q := h
theorem st_bm0 {K : PySem.W.Frag} {T : String} {r : V → List V → Hp → VK → Prop} {to : TE} (h : to σ H (fun x H1 => tyV K T x H1 ∧ r x [] H1 Q)) : tBM0 K T r to σ H Q := h
theorem st_tyL {K : PySem.W.Frag} {p : Addr} {xs : List V} {P : Prop} (h1 : H p = some (.lst xs)) (h : P) : tyV K "list" (.ref p) H ∧ P := ⟨.inl ⟨rfl, xs, lstAt_sq (lst_of h1)⟩, h⟩
theorem st_app {p : Addr} {xs : List V} {y : V} (h1 : H p = some (.lst xs)) (hz : xs.length < 16777216) (h : Q .non (upd H p (.lst (xs ++ [y])))) : rAppend (.ref p) [y] H Q := ⟨p, xs, y, rfl, rfl, h1, by rw [sl16]; exact hz, h⟩
theorem st_listS {K : PySem.W.Frag} {z : Str} (hz : z.length ≤ 16777216) (h : ∀ p H', H p = none → Ex H H' → H' p = some (.lst (z.cps.toList.map fun c => V.str (tx [c]))) → Q (.ref p) H') : rListU K [.str z] H Q := ⟨hz, fun p hp => h p _ hp (Fr.new hp) upd_same⟩
theorem st_listQ {K : PySem.W.Frag} {a : Addr} {ys : List V} (h1 : seqAt H a = some ys) (h : ∀ p H', H p = none → Ex H H' → H' p = some (.lst ys) → Q (.ref p) H') : rListU K [.ref a] H Q := ⟨ys, seqAt_sq h1, fun p hp => h p _ hp (Fr.new hp) upd_same⟩
theorem st_tupS {K : PySem.W.Frag} {z : Str} (hz : z.length ≤ 16777216) (h : ∀ p H', H p = none → Ex H H' → H' p = some (.tup (z.cps.toList.map fun c => V.str (tx [c]))) → Q (.ref p) H') : rTupU K [.str z] H Q := ⟨hz, fun p hp => h p _ hp (Fr.new hp) upd_same⟩
theorem st_tupL {K : PySem.W.Frag} {a : Addr} {ys : List V} (h1 : lstAt H a = some ys) (h : ∀ p H', H p = none → Ex H H' → H' p = some (.tup ys) → Q (.ref p) H') : rTupU K [.ref a] H Q := ⟨ys, .inl ⟨lstAt_sq h1, fun p hp => h p _ hp (Fr.new hp) upd_same⟩⟩
theorem st_tupT {K : PySem.W.Frag} {a : Addr} {ys : List V} (h1 : tupAt H a = some ys) (h : Q (.ref a) H) : rTupU K [.ref a] H Q := ⟨ys, .inr ⟨tupAt_sq h1, h⟩⟩
def DispEnd (p : Addr) (Q : VK) (ps : List (V × V)) (H2 : Hp) : Prop := H2 p = some (.dK []) ∧ ∃ kvs : List (Key × V), ps = kvs.map (fun kv => (kV kv.1, kv.2)) ∧ kvs.length ≤ 15 ∧ Q (.ref p) (upd H2 p (.dK (mergeK [] kvs)))
theorem st_disp {trs : List (TE × TE)} (h : ∀ p H', H p = none → Ex H H' → H' p = some (.dK []) → tPairs trs σ H' (DispEnd p Q)) : tDisp trs σ H Q := fun p hp => h p _ hp (Fr.new hp) upd_same
theorem st_pair {tk tv : TE} {r : List (TE × TE)} {P : List (V × V) → Hp → Prop} (h : tk σ H fun x H1 => tv σ H1 fun y H2 => tPairs r σ H2 fun ps H3 => P ((x, y) :: ps) H3) : tPairs ((tk, tv) :: r) σ H P := h
theorem st_pairs0 {P : List (V × V) → Hp → Prop} (h : P [] H) : tPairs [] σ H P := h
theorem st_dispEnd {p : Addr} {ps : List (V × V)} {H0 : Hp} (e0 : Ex H0 H) (hp : H0 p = none) (h1 : H p = some (.dK [])) (kvs : List (Key × V)) (e : ps = kvs.map (fun kv => (kV kv.1, kv.2))) (hl : kvs.length ≤ 15) (h : ∀ H', Ex H0 H' → H' p = some (.dK (mergeK [] kvs)) → Q (.ref p) H') : DispEnd p Q ps H :=
  ⟨h1, kvs, e, hl, h _ (e0.mut hp) upd_same⟩
theorem st_ixA {K : PySem.W.Frag} {p : Addr} {i : Int} {xs : List V} (h1 : seqAt H p = some xs) (h0 : 0 ≤ i) (hi : i < xs.length) (h : ∀ v, xs[i.toNat]? = some v → v ∈ xs → Q v H) : rIxU K (.ref p) (.int i) H Q := by
  obtain ⟨v, h2, h3⟩ := at_in h0 hi
  exact st_ixQ h1 h2 (h v h3 (List.mem_of_getElem? h3))
theorem st_clear {p : Addr} {xs : List V} (h1 : H p = some (.lst xs)) (h : Q .non (upd H p (.lst []))) : rClear (.ref p) [] H Q := ⟨p, xs, rfl, rfl, h1, h⟩
theorem st_isL {p : Addr} {xs : List V} {n : String} {b : Bool} (h1 : H p = some (.lst xs)) (h2 : kitB "list" n = some b) (h : Q (.bl b) H) : rIs [.ref p, .ty n] H Q := ⟨"list", by show tyO (H p) = _; rw [h1]; rfl, b, h2, h⟩
theorem st_isT {p : Addr} {xs : List V} {n : String} {b : Bool} (h1 : H p = some (.tup xs)) (h2 : kitB "tuple" n = some b) (h : Q (.bl b) H) : rIs [.ref p, .ty n] H Q := ⟨"tuple", by show tyO (H p) = _; rw [h1]; rfl, b, h2, h⟩
theorem st_isI {i : Int} {n : String} {b : Bool} (h2 : kitB "int" n = some b) (h : Q (.bl b) H) : rIs [.int i, .ty n] H Q := ⟨"int", rfl, b, h2, h⟩
theorem st_isB {i : Bool} {n : String} {b : Bool} (h2 : kitB "bool" n = some b) (h : Q (.bl b) H) : rIs [.bl i, .ty n] H Q := ⟨"bool", rfl, b, h2, h⟩
theorem st_isS' {i : Str} {n : String} {b : Bool} (h2 : kitB "str" n = some b) (h : Q (.bl b) H) : rIs [.str i, .ty n] H Q := ⟨"str", rfl, b, h2, h⟩
theorem kit_ii : kitB "int" "int" = some true := by decide +kernel
theorem kit_ib : kitB "int" "bool" = some false := by decide +kernel
theorem kit_il : kitB "int" "list" = some false := by decide +kernel
theorem kit_is : kitB "int" "str" = some false := by decide +kernel
theorem kit_it : kitB "int" "tuple" = some false := by decide +kernel
theorem kit_ll : kitB "list" "list" = some true := by decide +kernel
theorem kit_lt : kitB "list" "tuple" = some false := by decide +kernel
theorem kit_tt : kitB "tuple" "tuple" = some true := by decide +kernel
theorem kit_tl : kitB "tuple" "list" = some false := by decide +kernel
theorem kit_ss : kitB "str" "str" = some true := by decide +kernel
theorem kit_bb : kitB "bool" "bool" = some true := by decide +kernel
theorem kit_bi : kitB "bool" "int" = some true := by decide +kernel
theorem cutV_from (xs : List V) (k : Nat) : cutV xs (some (k : Int)) none = xs.drop k := by
  unfold cutV
  rw [HT.sIx_nat, HT.sIx_none]
  by_cases h : k ≤ xs.length
  · rw [Nat.min_eq_left h, List.take_of_length_le (by rw [List.length_drop]; exact Nat.le_refl _)]
  · rw [Nat.min_eq_right (by omega), List.drop_of_length_le (Nat.le_refl _), List.drop_of_length_le (by omega)]
    simp
theorem cutV_to (xs : List V) (k : Nat) : cutV xs none (some (k : Int)) = xs.take k := by
  unfold cutV
  rw [HT.sIx_nat, HT.sIx_none, Nat.sub_zero, List.drop_zero]
  by_cases h : k ≤ xs.length
  · rw [Nat.min_eq_left h]
  · rw [Nat.min_eq_right (by omega), List.take_of_length_le (Nat.le_refl _), List.take_of_length_le (by omega)]
theorem cutV_mid (xs : List V) (i j : Nat) : cutV xs (some (i : Int)) (some (j : Int)) = (xs.take j).drop i := by
  unfold cutV
  rw [HT.sIx_nat, HT.sIx_nat, List.drop_take]
  by_cases h : i ≤ xs.length
  · rw [Nat.min_eq_left h]
    by_cases h2 : j ≤ xs.length
    · rw [Nat.min_eq_left h2]
    · rw [Nat.min_eq_right (by omega), List.take_of_length_le (by rw [List.length_drop]; exact Nat.le_refl _), List.take_of_length_le (by rw [List.length_drop]; omega)]
  · rw [show min i xs.length = xs.length by omega, List.drop_of_length_le (Nat.le_refl xs.length), List.drop_of_length_le (show xs.length ≤ i by omega)]
    simp
/-- a table that is read -/
structure TabR (H : Hp) (p : Addr) (rs : List Addr) (row : Nat → List V) : Prop where
  at_ : H p = some (.lst (rs.map V.ref))
  rows : ∀ k r, rs[k]? = some r → H r = some (.lst (row k))
theorem TabR.ex {H H' : Hp} {p : Addr} {rs : List Addr} {row : Nat → List V} (T : TabR H p rs row) (e : Ex H H') : TabR H' p rs row := ⟨e.get T.at_, fun k r h => e.get (T.rows k r h)⟩
theorem refs_at {rs : List Addr} {i : Nat} {r : Addr} (h : rs[i]? = some r) : atI (rs.map V.ref) (i : Int) = some (V.ref r) := by
  unfold atI
  rw [Evl.ixN_nat (by rw [List.length_map]; exact (List.getElem?_eq_some_iff.mp h).1)]
  show (rs.map V.ref)[i]? = _
  rw [List.getElem?_map, h]
  rfl
theorem at_last {xs : List V} {n : Nat} {v : V} (hl : xs.length = n + 1) (h : xs[n]? = some v) : atI xs (-1) = some v := by
  unfold atI ixN
  rw [if_neg (by decide), hl, if_pos (by omega)]
  have e : (-1 + ((n + 1 : Nat) : Int)).toNat = n := by omega
  show xs[(-1 + ((n + 1 : Nat) : Int)).toNat]? = _
  rw [e]
  exact h
/-- x is a thing whose type is known -/
def Ty (H : Hp) (v : V) : Prop := ∃ t, tyN H v = some t
theorem ty_lst {p : Addr} {xs : List V} (h : H p = some (.lst xs)) : Ty H (.ref p) := ⟨"list", by show tyO (H p) = _; rw [h]; rfl⟩
theorem ty_tup {p : Addr} {xs : List V} (h : H p = some (.tup xs)) : Ty H (.ref p) := ⟨"tuple", by show tyO (H p) = _; rw [h]; rfl⟩
theorem ty_dK {p : Addr} {xs : List (Key × V)} (h : H p = some (.dK xs)) : Ty H (.ref p) := ⟨"dict", by show tyO (H p) = _; rw [h]; rfl⟩
theorem ty_str (z : Str) : Ty H (.str z) := ⟨"str", rfl⟩
theorem ty_int (z : Int) : Ty H (.int z) := ⟨"int", rfl⟩
theorem ty_bl (z : Bool) : Ty H (.bl z) := ⟨"bool", rfl⟩
theorem ty_non : Ty H .non := ⟨"NoneType", rfl⟩
theorem tyN_ex {H' : Hp} {v : V} {t : String} (e : Ex H H') (h : tyN H v = some t) : tyN H' v = some t := by
  cases v with
  | ref p =>
    have h : tyO (H p) = some t := h
    show tyO (H' p) = some t
    cases q : H p with
    | none => rw [q] at h; cases h
    | some o =>
      rw [e p o (fun z => z) q]
      rw [q] at h
      exact h
  | _ => exact h
theorem Ty.ex {H' : Hp} {v : V} (h : Ty H v) (e : Ex H H') : Ty H' v := by
  obtain ⟨t, h⟩ := h
  exact ⟨t, tyN_ex e h⟩
theorem cutS_len (z : Str) (lo hi : Option Int) : (cutS z lo hi).length ≤ z.length := by
  show ((z.cps.toList.drop _).take _).toArray.size ≤ z.cps.size
  simp only [List.size_toArray, List.length_take, List.length_drop, Array.length_toList]
  omega
theorem fold_len (a : Array Nat) : ∀ (n : Nat) (b : Array Nat), ((List.replicate n a).foldl (· ++ ·) b).size = b.size + n * a.size
  | 0, b => by simp
  | n + 1, b => by
    rw [List.replicate_succ, List.foldl_cons, fold_len a n, Array.size_append, Nat.succ_mul]
    omega
theorem mulS_len (z : Str) (n : Int) : (Txt.mul z n).length ≤ z.length * n.toNat := by
  unfold Txt.mul
  by_cases h : n < 1
  · rw [if_pos h]; exact Nat.zero_le _
  · rw [if_neg h]
    by_cases h2 : (n == 1 || z.length == 0) = true
    · rw [if_pos h2]
      exact Nat.le_mul_of_pos_right _ (by omega)
    · rw [if_neg h2]
      show ((List.replicate n.toNat z.cps).foldl (· ++ ·) #[]).size ≤ _
      rw [fold_len, Nat.mul_comm]
      simp
      exact Nat.le_refl _
def isStrV : V → Bool
  | .str _ => true
  | _ => false
theorem tyN_in {v : V} {t : String} (h : tyN H v = some t) : t = "NoneType" ∨ t = "bool" ∨ t = "int" ∨ t = "str" ∨ t = "list" ∨ t = "tuple" ∨ t = "dict" := by
  cases v with
  | ref p =>
    have h : tyO (H p) = some t := h
    unfold tyO at h
    split at h <;> first | (cases h; simp) | cases h
  | _ => first | (cases h; simp) | cases h
theorem kb_str : kitB "NoneType" "str" = some false ∧ kitB "bool" "str" = some false ∧ kitB "int" "str" = some false ∧ kitB "str" "str" = some true ∧ kitB "list" "str" = some false ∧ kitB "tuple" "str" = some false ∧ kitB "dict" "str" = some false := by decide +kernel
theorem kb_bool : kitB "NoneType" "bool" = some false ∧ kitB "bool" "bool" = some true ∧ kitB "int" "bool" = some false ∧ kitB "str" "bool" = some false ∧ kitB "list" "bool" = some false ∧ kitB "tuple" "bool" = some false ∧ kitB "dict" "bool" = some false := by decide +kernel
theorem st_isStrT {x : V} (h1 : Ty H x) (h : Q (.bl (isStrV x)) H) : rIs [x, .ty "str"] H Q := by
  obtain ⟨t, h1⟩ := h1
  obtain ⟨k1, k2, k3, k4, k5, k6, k7⟩ := kb_str
  refine st_is h1 (b := isStrV x) ?_ h
  cases x with
  | ref p =>
    have h1 : tyO (H p) = some t := h1
    unfold tyO at h1
    split at h1 <;> first | (cases h1; assumption) | cases h1
  | _ => first | (cases h1; assumption) | cases h1
end
/-! ### data: how lists of one kind read -/
theorem lstAt_ex {H H' : Hp} {a : Addr} {xs : List V} (e : Ex H H') (h : lstAt H a = some xs) : lstAt H' a = some xs := by
  unfold lstAt at h ⊢
  cases q : H a with
  | none => rw [q] at h; cases h
  | some o => rw [e a o (fun z => z) q]; rw [q] at h; exact h
theorem tupAt_ex {H H' : Hp} {a : Addr} {xs : List V} (e : Ex H H') (h : tupAt H a = some xs) : tupAt H' a = some xs := by
  unfold tupAt at h ⊢
  cases q : H a with
  | none => rw [q] at h; cases h
  | some o => rw [e a o (fun z => z) q]; rw [q] at h; exact h
mutual
theorem Rp.ex {H H' : Hp} (e : Ex H H') : ∀ {v : V} {d : PyData}, Rp H v d → Rp H' v d
  | _, _, .non => .non
  | _, _, .bl b => .bl b
  | _, _, .int i => .int i
  | _, _, .str x => .str x
  | _, _, .lst h k => .lst (lstAt_ex e h) (RpA.ex e k)
  | _, _, .tup h k => .tup (tupAt_ex e h) (RpA.ex e k)
theorem RpA.ex {H H' : Hp} (e : Ex H H') : ∀ {vs : List V} {ds : List PyData}, RpA H vs ds → RpA H' vs ds
  | _, _, .nil => .nil
  | _, _, .cons h k => .cons (Rp.ex e h) (RpA.ex e k)
end
theorem rpA_map {H : Hp} {α : Type} {val : α → V} {enc : α → PyData} : ∀ {xs : List α}, (∀ x ∈ xs, Rp H (val x) (enc x)) → RpA H (xs.map val) (xs.map enc)
  | [], _ => .nil
  | a :: r, h => .cons (h a List.mem_cons_self) (rpA_map fun x hx => h x (List.mem_cons_of_mem _ hx))
theorem rpA_ints {H : Hp} (ns : List Int) : RpA H (ns.map V.int) (ns.map PyData.int) := rpA_map fun _ _ => .int _
theorem rpA_strs {H : Hp} (ss : List Str) : RpA H (ss.map V.str) (ss.map PyData.str) := rpA_map fun _ _ => .str _
theorem eqvAll_map {α : Type} [DecidableEq α] {enc : α → PyData} (h : ∀ a b, PyData.eqv (enc a) (enc b) = decide (a = b)) : ∀ xs ys : List α, PyData.eqvAll (xs.map enc) (ys.map enc) = decide (xs = ys)
  | [], [] => by simp [PyData.eqvAll]
  | [], _ :: _ => by simp [PyData.eqvAll]
  | _ :: _, [] => by simp [PyData.eqvAll]
  | a :: r, b :: s => by
    have ih := eqvAll_map h r s
    simp only [List.map_cons, PyData.eqvAll, h, ih]
    rw [Bool.eq_iff_iff]
    simp
theorem eqv_int (a b : Int) : PyData.eqv (.int a) (.int b) = decide (a = b) := by simp only [PyData.eqv]; rfl
theorem eqv_str (a b : Str) : PyData.eqv (.str a) (.str b) = decide (a = b) := by simp only [PyData.eqv]; rfl
theorem eqv_list {α : Type} [DecidableEq α] {enc : α → PyData} (h : ∀ a b, PyData.eqv (enc a) (enc b) = decide (a = b)) (xs ys : List α) : PyData.eqv (.list (xs.map enc)) (.list (ys.map enc)) = decide (xs = ys) := by
  simp only [PyData.eqv]
  exact eqvAll_map h xs ys
theorem eqv_nil_r {α : Type} {enc : α → PyData} (xs : List α) : PyData.eqv (.list (xs.map enc)) (.list []) = decide (xs = []) := by
  cases xs <;> simp [PyData.eqv, PyData.eqvAll]
theorem depth_map {α : Type} {enc : α → PyData} {n : Nat} : ∀ {xs : List α}, (∀ x ∈ xs, (enc x).depth ≤ n) → PyData.depthAll (xs.map enc) ≤ n
  | [], _ => by simp [PyData.depthAll]
  | a :: r, h => by
    simp only [List.map_cons, PyData.depthAll]
    exact Nat.max_le.mpr ⟨h a List.mem_cons_self, depth_map fun x hx => h x (List.mem_cons_of_mem _ hx)⟩
/-! ### a def of the text, by its name -/
structure Df (K : PySem.W.Frag) (mg : Str → Option Value) (x : Str) (st : Stmt) (ps : List Str) (f : Addr) (fd : FuncData) : Prop where
  g : mg x = some (.ref f)
  F : Fun K x x st f fd
  b : Binds K fd ps []
theorem df_mk {K : PySem.W.Frag} {h : Heap} {mg : Str → Option Value} {x : Str} {st : Stmt} {ps : List Str} {f : Addr} {oc : Value} {od an : Option Addr} {osl : Array (Option Value)} {kV dc pm cd ct : Value} (X : K.In h) (G : h.Ns mainGlobals mg)
    (a : PySem.W.nsIn K mainGlobals x = some (some (.ref f))) (l : K.lookup f = some ⟨oc, od, .func (PySem.W.fnOf x x (defArgs st) (defBody st) (defScope st) .none kV dc pm an cd ct), osl⟩) (c : PySem.W.codeIn K cd x = true) (k : PySem.W.keepIn K (.ref f) = true)
    (hb : ∀ (kV doc pm : Value) (an : Option Addr) (cdv ct : Value) (us : List Value), us.length = ps.length → bindArgs (PySem.W.fnOf x x (defArgs st) (defBody st) (defScope st) .none kV doc pm an cdv ct) ⟨us, []⟩ = pure (ps.zip us)) :
    Df K mg x st ps f (PySem.W.fnOf x x (defArgs st) (defBody st) (defScope st) .none kV dc pm an cd ct) :=
  have F := fun_mk (st := st) l c k
  ⟨PySem.W.mg_of X G a, F, F.binds hb⟩
/-- the script: a list of ints that is read, never written -/
def Scr (K : PySem.W.Frag) (H : Hp) (a : Addr) (ns : List Int) : Prop :=
  (∃ o, H a = some (.frz o (.lst (ns.map V.int)))) ∨ ∃ (o : Obj) (its : Array Value) (n : Nat), K.lookup a = some o ∧ o.cls = .type "list" ∧ o.dict = none ∧ o.data = .seq its n ∧ its.size ≤ sizeLine ∧ Vals (ns.map V.int) its.toList
theorem FrP.fresh {H0 H1 H2 : Hp} {p : Addr} (e : Ex H0 H1) (h : H0 p = none) (f : FrP p H1 H2) : Ex H0 H2 := fun b o _ q => f b o (ne_of_none q h) (e b o (fun z => z) q)
theorem tx_nil : ("" : Str) = tx [] := by decide +kernel
theorem app_tx (a b : List Nat) : tx a ++ tx b = tx (a ++ b) := tx_append a b
/-- texts joined by nothing -/
theorem join_txs (ls : List (List Nat)) : Txt.join "" (ls.map tx) = tx ls.flatten := by
  show Builtin.Str.glued "" _ = _
  rw [PySem.StrLaws.glued_eq_join]
  induction ls with
  | nil => rfl
  | cons a r ih =>
    cases r with
    | nil => show tx a = tx (a ++ []); rw [List.append_nil]
    | cons b r =>
      show tx a ++ "" ++ Str.join "" ((b :: r).map tx) = tx (a ++ (b :: r).flatten)
      rw [ih, tx_nil, app_tx, app_tx, List.append_nil]
theorem join_signs (cs : List Nat) : Txt.join "" (cs.map fun c => tx [c]) = tx cs := by
  have h := join_txs (cs.map fun c => [c])
  rw [List.map_map] at h
  have e : ∀ l : List Nat, (l.map fun c => [c]).flatten = l := fun l => by
    induction l with
    | nil => rfl
    | cons a r ih => rw [List.map_cons, List.flatten_cons, ih]; rfl
  rw [e cs] at h
  exact h
theorem sum_signs (cs : List Nat) : ((cs.map fun c => tx [c]).map (·.length)).sum = cs.length := by
  induction cs with
  | nil => rfl
  | cons a r ih =>
    rw [List.map_cons, List.map_cons, List.sum_cons, ih, tx_length, List.length_cons, List.length_cons, List.length_nil]
    omega
theorem lst_only {K : PySem.W.Frag} {H : Hp} {a : Addr} {ns : List Int} (hO : Only H) (h : SqL K H a (ns.map V.int)) : Scr K H a ns := by
  rcases h with (h | ⟨o, h⟩) | h
  · rcases hO a with e | ⟨o, xs, e⟩
    · rw [e] at h; cases h
    · rw [e] at h; cases h
  · exact .inl ⟨o, h⟩
  · exact .inr h
theorem Scr.sq {K : PySem.W.Frag} {H : Hp} {a : Addr} {ns : List Int} (h : Scr K H a ns) : SqL K H a (ns.map V.int) := by
  rcases h with ⟨o, h⟩ | h
  · exact .inl (.inr ⟨o, h⟩)
  · exact .inr h
theorem Scr.ex {K : PySem.W.Frag} {H H' : Hp} {a : Addr} {ns : List Int} (h : Scr K H a ns) (e : Ex H H') : Scr K H' a ns := by
  rcases h with ⟨o, h⟩ | h
  · exact .inl ⟨o, e.get h⟩
  · exact .inr h
theorem Scr.frp {K : PySem.W.Frag} {H H' : Hp} {a p : Addr} {ns : List Int} (h : Scr K H a ns) (hp : Purse H p) (e : FrP p H H') : Scr K H' a ns := by
  rcases h with ⟨o, h⟩ | h
  · refine .inl ⟨o, e.get (fun z => ?_) h⟩
    obtain ⟨x, y, z', q⟩ := hp
    rw [z, q] at h
    cases h
  · exact .inr h
end Zb

/-! enumerate of a text -/
namespace Zb
open PySem PySem.Spec PyProof.Rows L2
def Ites (x : Str) : It := ⟨fun i _ => i < x.cps.size, fun i H v H' => ∃ T c, v = .ref T ∧ H T = none ∧ H' = upd H T (.tup [.int (i : Nat), .str (tx [c])]) ∧ x.cps[i]? = some c, fun i _ => i = x.cps.size⟩
theorem turn_enumS {P : Program} {w : World} {K : PySem.W.Frag} {elts : List Expr} {kk : Nat} {tpos : Pos} (x : Str) (t : Tok) (e it : Addr) (hne : e ≠ it) :
    Turn P w K (.Tuple elts kk tpos) (Ites x) [e, it] e (fun i h => (∃ old, IsEnum h e it ((0 : Int) + ((i : Nat) : Int)) old) ∧ h.IsStrIter it (strIterType x) x t i) where
  mem := by simp
  obj := fun i h st b hb => by
    obtain ⟨⟨old, he⟩, ⟨o, ho, hc, hd⟩⟩ := st
    have e' : b = e ∨ b = it := by simpa using hb
    rcases e' with z | z
    · rw [z]; exact ⟨_, he, fun v q => nomatch q⟩
    · rw [z]; exact ⟨o, ho, fun v q => by rw [hd] at q; cases q⟩
  keep := fun i h h' st k => let ⟨⟨old, he⟩, o, ho, r⟩ := st; ⟨⟨old, k e (by simp) _ he⟩, o, k it (by simp) o ho, r⟩
  item := by
    intro X hP hw hK hc i pins s σ H E I hf st hg
    subst hP hw hK
    have D : Draws X.prog X.w X.A.in1 it [it] x.cps.size (fun i v => ∃ c u, x.cps[i]? = some c ∧ v = .str ⟨#[c]⟩ u) (fun i h => h.IsStrIter it (strIterType x) x t i) := Draws.text (A := X.A.in1) (I.ok.hd hc) it x t
    have W := WalksT.enumFrom (A := X.A) 0 D e hne (by simpa using hne) (by simp)
    have hel : e < s.heap.objs.size := by obtain ⟨⟨_, he⟩, _⟩ := st; exact Heap.lt_size he
    have hil : it < s.heap.objs.size := by obtain ⟨_, _, q, _⟩ := st; exact Heap.lt_size q
    refine W.item i s _ _ hg st fun T vals h' tk hP hTn hT hM kp => ?_
    obtain ⟨t2, v, ⟨c, u, hcx, rfl⟩, rfl⟩ := hP
    refine ⟨_, rfl, W.go elts kk tpos i T { s with heap := h', toks := tk } _ _ hM fun h'' st2 kp2 => ?_⟩
    have hTa := W.apart i T h' hM
    obtain ⟨oT, hoT, hcT, nT, hdT⟩ := hT
    have new : ObjOk X.prog X.w (upd H T (.tup [.int (i : Nat), .str (tx [c])])) h'' T (.tup [.int (i : Nat), .str (tx [c])]) :=
      ⟨by show 2 ≤ sizeLine; rw [sl16]; decide, [.int ((0 : Int) + (i : Int)) t2, .str ⟨#[c]⟩ u], .cons ⟨t2, by rw [Int.zero_add]⟩ (.cons ⟨u, rfl⟩ .nil), ⟨oT, kp2 T oT hTa hoT, hcT, nT, hdT⟩⟩
    have I1 : Inv X pins σ (upd H T (.tup [.int (i : Nat), .str (tx [c])])) { s with heap := h'', toks := tk } :=
      I.turnedNew (ch := [e, it]) (fun b ob hb q => kp2 b ob hb (kp b ob hb q)) hf hTn new
    refine ⟨.ref T, _, I1, rfl, ⟨T, c, rfl, I.hok.fresh hTn, rfl, hcx⟩, st2, fun b hb => ?_⟩
    have hb' : b < s.heap.objs.size := by
      have e' : b = e ∨ b = it := by simpa using hb
      rcases e' with z | z
      · rw [z]; exact hel
      · rw [z]; exact hil
    rw [upd_ne (Nat.ne_of_lt (Nat.lt_of_lt_of_le hb' hTn))]
    exact (hf b hb).1
  done := by
    intro X hP hw hK hc i pins s σ H E I hf st hg
    subst hP hw hK
    obtain ⟨f0, f1, f2, f3, f4, f5⟩ := hf it (by simp)
    obtain ⟨⟨old, he⟩, hit⟩ := st
    have D := Draws.text (prog := X.prog) (w := X.w) (A := X.A.in1) (I.ok.hd hc) it x t
    have hg : i = x.cps.size := hg
    subst hg
    exact wpAny_pyNext_enum_endD D he hit fun h' eb => ⟨rfl, I.turned (t' := s.toks) (fun b o hb q => eb b o hb q) f0 f1 f3 f4 f5⟩
  self := fun A i s Q E st h => let ⟨⟨_, he⟩, _⟩ := st; wpAny_pyIter_enum he h
def iEnS (ta : TA) : TI := fun σ H R => ta σ H fun vs H1 => ∃ x, vs = [.str x] ∧ R (Ites x) H1
theorem pi_enumS {X : Cx} {e : Expr} {ta : TA} {p pos tpos : Pos} {elts : List Expr} {kk : Nat} (hg : Gl X "enumerate") (hm : X.mg "enumerate" = none) (ha : PA X [e] ta) (hs : starEach [e] X.env = [(false, eval e X.env)] := by rfl) :
    PI X (.Tuple elts kk tpos) (.Call (.Name "enumerate" p) [e] [] pos) (iEnS ta) := by
  refine ⟨fun pins s σ H R I h => ?_⟩
  refine Call_ (ld_blt I hg hm boot_enumerate (PyProof.Rows.callWith_type1 (thn (ha.run pos pins s σ H _ I h) fun us s1 ⟨vs, H1, I1, r1, q1⟩ => ?_) hs rfl))
  obtain ⟨x, ex, q⟩ := q1
  subst ex
  obtain ⟨u, rfl, t, rfl⟩ := vals1 r1
  refine call_enumerate_str fun h' he hit hsz hk => wpAny_pyIter_enum he ?_
  have I2 : Inv X pins σ H1 { s1 with heap := h' } := I1.kept (t' := s1.toks) hk
  refine ⟨s1.heap.objs.size + 1, [s1.heap.objs.size + 1, s1.heap.objs.size], _, _, H1, rfl, I2, turn_enumS x t (s1.heap.objs.size + 1) s1.heap.objs.size (Nat.succ_ne_self _), ⟨⟨.none, he⟩, hit⟩, fun b hb => ?_, q⟩
  have e' : b = s1.heap.objs.size + 1 ∨ b = s1.heap.objs.size := by simpa using hb
  have hle : s1.heap.objs.size ≤ b := by
    rcases e' with z | z
    · rw [z]; exact Nat.le_add_right _ _
    · rw [z]; exact Nat.le_refl _
  exact I1.fpOk hle (I1.hok.fresh hle)
theorem runs_enumS (z : Str) : Runs (Ites z) z.length (fun _ => True) (fun i x H H' => ∃ T c, x = .ref T ∧ H T = none ∧ Ex H H' ∧ H' T = some (.tup [.int (i : Nat), .str (tx [c])]) ∧ z.cps.toList[i]? = some c) :=
  ⟨fun _ _ h _ => h, fun _ _ => rfl, fun i H x H' _ _ y => by
    obtain ⟨T, c, e1, e2, e3, e4⟩ := y
    subst e3
    exact ⟨T, c, e1, e2, Fr.new e2, upd_same, by rw [Array.getElem?_toList]; exact e4⟩⟩
theorem st_iEnS {ta : TA} {σ : L2.St} {H : Hp} {R : It → Hp → Prop} (h : ta σ H (fun vs H1 => ∃ x, vs = [.str x] ∧ R (Ites x) H1)) : iEnS ta σ H R := h
theorem st_isEnS {x : Str} {P : Str → Prop} (h : P x) : ∃ y, [V.str x] = [.str y] ∧ P y := ⟨x, rfl, h⟩
end Zb

/-! exceptions: own classes over ValueError, by name -/
namespace Zb
open PySem PySem.Spec PyProof.Rows L2
def clsA (K : PySem.W.Frag) (nm : Str) : Addr := match PySem.W.nsIn K mainGlobals nm with
  | some (some (.ref C)) => C
  | _ => 0
theorem clsA_of {K : PySem.W.Frag} {nm : Str} {C : Addr} (h : PySem.W.nsIn K mainGlobals nm = some (some (.ref C))) : clsA K nm = C := by unfold clsA; rw [h]
/-- a class that is named in an except clause -/
structure EC (K : PySem.W.Frag) (mg : Str → Option Value) (nm : Str) : Prop where
  g : mg nm = some (.ref (clsA K nm))
  sb : PySem.W.subIn K (.ref (clsA K nm)) (.type "BaseException") = some true
  hd : PySem.W.hasDictIn K (clsA K nm) = true
  ty : PySem.W.typeIn K (.ref (clsA K nm)) = some (.type "type")
/-- what an isinstance, a field, of an exception in hand wants -/
structure XI (K : PySem.W.Frag) (C : Addr) : Prop where
  hc : (PySem.W.clsIn K C).isSome = true
  ga : PySem.W.findIn K (.ref C) "__getattribute__" = some (some (.builtin "BaseException.__getattribute__"))
  gg : PySem.W.findIn K (.ref C) "__getattr__" = some none
  sb : PySem.W.subIn K (.ref C) (.type "BaseException") = some true
  hd : PySem.W.hasDictIn K C = true
  ca : PySem.W.findIn K (.ref C) "__class__" = some (some (.builtin "object.__class__"))
  cn : PySem.W.specialIn K (.builtin "object.__class__") "__get__" = some (some (.builtin "getset_descriptor.__get__"))
  ct : PySem.W.takesIn K (.builtin "object.__class__") = some true
  cm : PySem.W.mroIn K C (.type "object") = some true
theorem EC.xm {K : PySem.W.Frag} {mg : Str → Option Value} {nm : Str} {cls : Value} {b : Bool} (e : EC K mg nm) (h : PySem.W.subIn K cls (.ref (clsA K nm)) = some b) : PySem.W.exmOne K cls (.ref (clsA K nm)) = some b := PySem.W.exm_ref e.sb e.hd e.ty h
theorem EC.kit {K : PySem.W.Frag} {mg : Str → Option Value} {nm : Str} {D : Addr} {b : Bool} (e : EC K mg nm) (h : PySem.W.subIn K (.ref D) (.ref (clsA K nm)) = some b) (hs : PySem.W.subIn K (.ref (clsA K nm)) (.ref (clsA K nm)) = some true) : PySem.W.kitOne K (.ref D) (.ref (clsA K nm)) = some b := by
  unfold PySem.W.kitOne
  by_cases q : D = clsA K nm
  · subst q
    rw [hs] at h
    cases h
    rw [if_pos (beq_self_eq_true _)]
  · have hq : ((Value.ref D) == (Value.ref (clsA K nm))) = false := beq_eq_false_iff_ne.mpr fun z => q (Value.ref.inj z)
    rw [hq, if_neg Bool.false_ne_true]
    show (if ((PySem.W.clsIn K (clsA K nm)).isSome && PySem.W.typeIn K (.ref (clsA K nm)) == some (.type "type")) = true then PySem.W.subIn K (.ref D) (.ref (clsA K nm)) else none) = some b
    obtain ⟨cd, hc, _⟩ := PySem.W.any_some e.hd
    rw [hc, e.ty]
    exact h
theorem kit_ve {K : PySem.W.Frag} {D : Addr} {b : Bool} (h : PySem.W.subIn K (.ref D) (.type "ValueError") = some b) : PySem.W.kitOne K (.ref D) (.type "ValueError") = some b := by
  unfold PySem.W.kitOne
  have hq : ((Value.ref D) == (Value.type "ValueError")) = false := rfl
  rw [hq, if_neg Bool.false_ne_true]
  show (if PySem.W.kitMeta "ValueError" = true then PySem.W.subIn K (.ref D) (.type "ValueError") else none) = some b
  rw [if_pos (by decide +kernel)]
  exact h
/-! ### several clauses, each with a name or none -/
abbrev Cl := Value × Option Nat × (Addr → Value → Option Addr → TS)
def goneD (i : Nat) (D : Ends) : Ends := { nx := fun σ' H' => D.nx (σ'.set i none) H', rt := D.rt, bk := fun σ' H' => D.bk (σ'.set i none) H', ct := fun σ' H' => D.ct (σ'.set i none) H' }
def clD : Option Nat → Ends → Ends
  | none, D => D
  | some i, D => goneD i D
def clS : Option Nat → Addr → L2.St → L2.St
  | none, _, σ => σ
  | some i, a, σ => σ.set i (some (.ref a))
def wG (K : PySem.W.Frag) (Wout : WX) (D : Ends) : List Cl → WX
  | [] => Wout
  | (c, i, ts) :: r => fun cls d σ H => ∃ b, PySem.W.exmOne K cls c = some b ∧ (b = true → ∀ a, H a = none → ts a cls d (clD i D) (clS i a σ) H) ∧ (b = false → wG K Wout D r cls d σ H)
inductive HdG (X : Cx) : List ExceptHandler → List Cl → Prop
  | nil : HdG X [] []
  | one {x : Str} {c : Value} {ts : Addr → Value → Option Addr → TS} {b₀ : Stmt} {suite : List Stmt} {np pos' : Pos} {hds : List ExceptHandler} {l : List Cl} (hc : Names X x c)
      (hsu : ∀ (a : Addr) (oe : Obj) (cls : Value) (d : Option Addr) (pn : List (Addr × Obj)), Zc cls d oe → (∃ vs, oe.data = .fields vs) → PSs (X.suite a ((a, oe) :: pn)) (b₀ :: suite) (ts a cls d)) (r : HdG X hds l) :
      HdG X (.ExceptHandler (some (.Name x np)) none (b₀ :: suite) pos' :: hds) ((c, none, ts) :: l)
  | named {x n : Str} {c : Value} {i : Nat} {ts : Addr → Value → Option Addr → TS} {b₀ : Stmt} {suite : List Stmt} {np pos' : Pos} {hds : List ExceptHandler} {l : List Cl} (hN : X.N.Nodup) (hi : X.N[i]? = some n) (hln : X.env.kindOf n = some .local) (hc : Names X x c)
      (hsu : ∀ (a : Addr) (oe : Obj) (cls : Value) (d : Option Addr) (pn : List (Addr × Obj)), Zc cls d oe → (∃ vs, oe.data = .fields vs) → PSs (X.suite a ((a, oe) :: pn)) (b₀ :: suite) (ts a cls d)) (r : HdG X hds l) :
      HdG X (.ExceptHandler (some (.Name x np)) (some n) (b₀ :: suite) pos' :: hds) ((c, some i, ts) :: l)
section
variable {X : Cx} {body orelse : List Stmt} {h₀ : ExceptHandler} {hds : List ExceptHandler} {l : List Cl} {pos : Pos} {tb : WX → TS} {u : TS} {Wout : WX}
def tTry (K : PySem.W.Frag) (Wout : WX) (tb : WX → TS) (u : TS) (l : List Cl) : TS := fun D σ H => tb (wG K Wout D l) { D with nx := u D } σ H
theorem ps_tryG (hs : X.stack = X.env :: X.outer) (hf : X.env.frame = some X.env.locals) (tk : Takes X Wout)
    (hb : ∀ (W : WX) (pn : List (Addr × Obj)) (xe : Value → Shared → Prop), Takes (X.tr pn xe) W → PassesOwn (model X.prog X.w) X.A X.env xe → PSs (X.tr pn xe) body (tb W))
    (hh : HdG X (h₀ :: hds) l) (ho : PSs X orelse u) : PS X (.Try body (h₀ :: hds) orelse [] pos) (tTry X.K Wout tb u l) := by
  refine ⟨fun pins s σ H D I h => ?_⟩
  have ok := I.ok
  have hfr : X.A.frames = some (X.env :: X.outer) := by rw [ok.frames, hs]
  refine wpAny_Try_except ?_
  refine wpAny_mono ((hb (wG X.K Wout D l) (X.pn ++ pins) (fun e s₁ => wpAny (model X.prog X.w) X.A (noteFrame e X.env) (fun _ s₂ => wpAny (model X.prog X.w) X.A (setFlight e none) (fun _ s₃ =>
    wpAny (model X.prog X.w) X.A (handleBy e X.env (h₀ :: hds)) (SP X pins D) X.xe s₃) X.xe s₂) X.xe s₁) (fun u s' xx => ?_) PassesOwn.looking).run [] s σ H { D with nx := u D } (I.toTry _) h) (fun f s1 hsp => ?_) (fun e s1 he => he)
  · obtain ⟨a, B, sI, pins', σ', H', cls, d, rfl, J', nb, up, sky, na, os, ag, w⟩ := xx
    have J : Inv X pins σ' H' sI := J'.ofTry ok
    have sky' : Sky B (X.env :: X.outer) a (Zc cls d) X.env.locals s'.heap := by rw [← hs]; exact sky
    show wpAny (model X.prog X.w) X.A (noteFrame (.ref a) X.env) _ _ _
    refine Sky.land Zc.steady hfr hf sky' fun h3 fl3 up3 => ?_
    have J3 : Inv X pins σ' H' { s' with heap := h3 } := J.landed nb fl3.1 (up.trans up3) os ag
    obtain ⟨oe3, vs3, he3, hz3, hd3⟩ := fl3.there
    have notFr : ∀ {h : Heap} {o : Obj} {vs : Array Value}, h.FunFrames B (X.env :: X.outer) → h.get? a = some o → o.data = .fields vs → a ∉ frs (X.env :: X.outer) := fun {h o vs} ff e dd hm => by
      obtain ⟨_, o', e', hnf⟩ := ff.mem hm
      rw [e] at e'; cases e'
      exact hnf _ dd
    have nfr := notFr fl3.2.2.1 he3 hd3
    have nL : a ≠ X.env.locals := fun z => nfr (List.mem_filterMap.mpr ⟨X.env, List.mem_cons_self, by rw [hf, z]⟩)
    have nF : a ∉ X.fs := fun hm => by
      obtain ⟨e, he, q⟩ := List.mem_filterMap.mp hm
      exact nfr (List.mem_filterMap.mpr ⟨e, List.mem_cons_of_mem _ he, q⟩)
    have S3 := J3.suite he3 hd3 na nL nF
    have LT : PySem.W.Looks (model X.prog X.w) h3 (typeOf (.ref a)) cls := fun A Q E s k q => wpAny_typeOf_ref (k _ _ he3) (by rw [hz3.1]; exact q)
    have test : ∀ {x : Str} {c : Value} {np : Pos} {Q : Value → Shared → Prop} {E : Value → Shared → Prop}, Names X x c → Q c { s' with heap := h3 } → wpAny (model X.prog X.w) (X.A.mark (some (.ref a))) (eval (.Name x np) X.env) Q E { s' with heap := h3 } := fun {x c np Q E} hc q => by
      obtain ⟨hg, hdbg, hm | ⟨hm, hv, hnn⟩⟩ := hc
      · exact ld_glob (X := X.suite a ((a, oe3) :: (X.pn ++ pins))) S3 hg hm q hdbg
      · exact ld_blt (X := X.suite a ((a, oe3) :: (X.pn ++ pins))) S3 hg hm hv q hnn hdbg
    have go : ∀ {hds' : List ExceptHandler} {l' : List Cl}, HdG X hds' l' → wG X.K Wout D l' cls d σ' H' →
        wpAny (model X.prog X.w) X.A (handleBy (.ref a) X.env hds') (SP X pins D) X.xe { s' with heap := h3 } := by
      intro hds' l' hk
      induction hk with
      | nil =>
        intro w
        refine wpAny_handleBy_nil ?_
        obtain ⟨k1, k2, k3, oe, vs, T, oT, ts', he, hz, hd, h1, hr⟩ := id fl3
        unfold PySem.passOn
        refine wpAny_bind (wpAny_field he hd h1 ?_)
        rw [if_neg (show ¬ ((Value.ref T == Value.none) = true) from by simp)]
        have fin : wpAny (model X.prog X.w) X.A (setFlight (.ref a) X.env.frame) (fun _ s4 => wpAny (model X.prog X.w) X.A (throw (.ref a) : Sem Flow) (SP X pins D) X.xe s4) X.xe { s' with heap := h3 } := by
          rw [hf]
          refine HandSPX.setFlight_upZ fl3 fun h4 hh4 up4 => wpAny_throw (tk _ _ ?_)
          exact ⟨a, B, sI, pins, σ', H', cls, d, rfl, J, nb, (up.trans up3).trans up4, .inr (.inr (by rw [hs]; exact hh4)), na, os, ag, w⟩
        first
          | exact wpAny_bind (wpAny_pure (wpAny_bind fin))
          | exact wpAny_bind fin
      | @one x c ts b₀ suite np pos' hds2 l2 hc hsu r ih =>
        intro w
        obtain ⟨b, hb1, hyes, hno⟩ := w
        refine wpAny_handleBy_cons (codeAny_handlers_test ?_) (by intro q; cases q)
        have LM := PySem.W.exm_one (M := model X.prog X.w) (J3.kIn) LT hb1
        refine test hc (LM.here ?_)
        cases b with
        | true =>
          refine codeAny_handlers_suite ?_
          refine HandSPX.lands_againZ fl3 fun h4 fl4 up4 => ?_
          have J4 : Inv X pins σ' H' { s' with heap := h4 } := J.landed nb fl4.1 ((up.trans up3).trans up4) os ag
          obtain ⟨oe4, vs4, he4, hz4, hd4⟩ := fl4.there
          have S4 := J4.suite he4 hd4 na nL nF
          refine wpAny_mono ((hsu a oe4 cls d (X.pn ++ pins) hz4 ⟨_, hd4⟩).run [] _ _ H' _ S4 (hyes rfl a na)) (fun f s6 hsp => ?_) (fun _ _ z => False.elim z)
          cases f with
          | next =>
            obtain ⟨σ6, H6, S6, q6⟩ := hsp
            exact ⟨_, _, S6.unsuite ok, q6⟩
          | brk =>
            obtain ⟨σ6, H6, S6, q6⟩ := hsp
            exact ⟨_, _, S6.unsuite ok, q6⟩
          | cont =>
            obtain ⟨σ6, H6, S6, q6⟩ := hsp
            exact ⟨_, _, S6.unsuite ok, q6⟩
          | ret u =>
            obtain ⟨v6, σ6, H6, S6, r6, q6⟩ := hsp
            exact ⟨_, _, _, S6.unsuite ok, r6, q6⟩
        | false =>
          show wpAny _ X.A (handleBy (.ref a) X.env hds2) _ _ _
          exact ih (hno rfl)
      | @named x n c i ts b₀ suite np pos' hds2 l2 hN hi hln hc hsu r ih =>
        intro w
        obtain ⟨b, hb1, hyes, hno⟩ := w
        refine wpAny_handleBy_cons (codeAny_handlers_test ?_) (by intro q; cases q)
        have LM := PySem.W.exm_one (M := model X.prog X.w) (J3.kIn) LT hb1
        refine test hc (LM.here ?_)
        have hloc : Loc X.env.scope n := .inl hln
        cases b with
        | true =>
          refine codeAny_handlers_suite_as ?_
          refine HandSPX.lands_againZ fl3 fun h4 fl4 up4 => ?_
          have J4 : Inv X pins σ' H' { s' with heap := h4 } := J.landed nb fl4.1 ((up.trans up3).trans up4) os ag
          obtain ⟨oe4, vs4, he4, hz4, hd4⟩ := fl4.there
          have S4 := J4.suite he4 hd4 na nL nF
          refine store_ok (X := X.suite a ((a, oe4) :: (X.pn ++ pins))) (v := .ref a) S4 hN hi hloc rfl (fun s5 S5 => ?_) (.inr hln)
          refine wpAny_mono ((hsu a oe4 cls d (X.pn ++ pins) hz4 ⟨_, hd4⟩).run [] s5 _ H' _ S5 (hyes rfl a na)) (fun f s6 hsp => ?_) (fun _ _ z => False.elim z)
          have end_ : ∀ {σ6 : L2.St} {H6 : Hp} {Q : Shared → Prop}, Inv (X.suite a ((a, oe4) :: (X.pn ++ pins))) [] σ6 H6 s6 → (∀ s7, Inv X pins (σ6.set i none) H6 s7 → Q s7) →
              wpAny (model X.prog X.w) X.A (do bindName X.env n .none; unbindBehindTheSuite X.env n pos') (fun _ s7 => Q s7) X.xe s6 := fun {σ6 H6 Q} S6 hq => gone_ok (S6.unsuite ok) hN hi hln hq
          cases f with
          | next =>
            obtain ⟨σ6, H6, S6, q6⟩ := hsp
            exact end_ S6 fun s7 J7 => ⟨_, _, J7, q6⟩
          | brk =>
            obtain ⟨σ6, H6, S6, q6⟩ := hsp
            exact end_ S6 fun s7 J7 => ⟨_, _, J7, q6⟩
          | cont =>
            obtain ⟨σ6, H6, S6, q6⟩ := hsp
            exact end_ S6 fun s7 J7 => ⟨_, _, J7, q6⟩
          | ret u =>
            obtain ⟨v6, σ6, H6, S6, r6, q6⟩ := hsp
            exact end_ S6 fun s7 J7 => ⟨_, _, _, J7, r6, q6⟩
        | false =>
          show wpAny _ X.A (handleBy (.ref a) X.env hds2) _ _ _
          exact ih (hno rfl)
    exact go hh w
  · cases f with
    | next =>
      obtain ⟨σ', H', J', q⟩ := hsp
      exact ho.run pins s1 σ' H' D (J'.ofTry ok) q
    | brk =>
      obtain ⟨σ', H', J', q⟩ := hsp
      exact ⟨σ', H', J'.ofTry ok, q⟩
    | cont =>
      obtain ⟨σ', H', J', q⟩ := hsp
      exact ⟨σ', H', J'.ofTry ok, q⟩
    | ret u =>
      obtain ⟨v, σ', H', J', r, q⟩ := hsp
      exact ⟨v, σ', H', J'.ofTry ok, r, q⟩
end
/-! ### in a suite: a field, isinstance -/
def XeP (K : PySem.W.Frag) (a : Addr) (cls : Value) (d : Option Addr) (n : Str) (Q : VK) : VK := fun x H1 => x = .ref a ∧ ∃ C, cls = .ref C ∧ XI K C ∧ PySem.W.findIn K (.ref C) n = some none ∧ ∃ (dd : Addr) (fs : List (Str × V)) (v : V), d = some dd ∧ H1 dd = some (.xd fs) ∧ fs.lookup n = some v ∧ Q v H1
def tXe (K : PySem.W.Frag) (a : Addr) (cls : Value) (d : Option Addr) (n : Str) (te : TE) : TE := fun σ H Q => te σ H (XeP K a cls d n Q)
theorem pe_xe {X : Cx} {a : Addr} {oe : Obj} {cls : Value} {d : Option Addr} {pn : List (Addr × Obj)} {e : Expr} {te : TE} {pos : Pos} {n : Str}
    (hz : Zc cls d oe) (hf : ∃ vs, oe.data = .fields vs) (he : PE (X.suite a ((a, oe) :: pn)) e te) (hb : attributeBase e n X.env (eval e X.env) = eval e X.env := by rfl) :
    PE (X.suite a ((a, oe) :: pn)) (.Attribute e n pos) (tXe X.K a cls d n te) := by
  refine ⟨fun pins s σ H Q I h => ?_⟩
  refine attr_of hb (thn (he.run pins s σ H _ I h) fun u s1 hh => ?_)
  obtain ⟨x, H1, I1, rx, ex, C, ec, T, hno, dd, fs, v, ed, ea, l, q⟩ := hh
  subst ex
  obtain rfl : u = Value.ref a := rx
  subst ec
  subst ed
  obtain ⟨ha, _⟩ := I1.pin (a, oe) (List.mem_append_left _ List.mem_cons_self)
  obtain ⟨vs, hd⟩ := hf
  have hx : ObjOk X.prog X.w H1 s1.heap dd (.xd fs) := I1.hok dd _ ea
  obtain ⟨mA, hns, hr⟩ := hx
  obtain ⟨od, ho, hl⟩ := lookIn_ns hns
  obtain ⟨u, hu, ru⟩ := RelO.some_of (v := v) (o := mA n) (by rw [← l]; exact hr n)
  have J : PySem.W.InstAt s1.heap a oe C (some od) := ⟨ha, hz.1, by unfold PySem.W.notCls; rw [hd] <;> rfl, by rw [hz.2]; exact ho⟩
  exact HandSPX.exc_get I1.kIn J T.ga T.gg T.sb (PySem.W.findObj_own T.hd hno rfl (by rw [hl, hu])) (handed_of ru) ⟨v, H1, I1.tok _, ru, q⟩
def rIsX (K : PySem.W.Frag) (a : Addr) (cls : Value) (d : Option Addr) : List V → Hp → VK → Prop := fun xs H Q => ∃ (c : V) (cv : Value) (b : Bool) (C dd : Addr) (fs : List (Str × V)), xs = [.ref a, c] ∧ (∀ u, RelV c u → u = cv) ∧ cls = .ref C ∧ XI K C ∧ d = some dd ∧ H dd = some (.xd fs) ∧ PySem.W.kitOne K (.ref C) cv = some b ∧ Q (.bl b) H
theorem call_isX {X : Cx} {a : Addr} {cls : Value} {d : Option Addr} {oe : Obj} {pn : List (Addr × Obj)} (hz : Zc cls d oe) (hf : ∃ vs, oe.data = .fields vs) : CallR (X.suite a ((a, oe) :: pn)) (.builtin "isinstance") (rIsX X.K a cls d) := by
  intro pins s σ H xs us Q I r h
  obtain ⟨c, cv, b, C, dd, fs, rfl, hcv, ec, T, ed, ea, e, q⟩ := h
  subst ec
  subst ed
  cases r with
  | cons rx rr =>
    cases rr with
    | cons rt rr =>
      cases rr
      cases rx
      have ecv := hcv _ rt
      subst ecv
      obtain ⟨hget, _⟩ := I.pin (a, oe) (List.mem_append.mpr (.inl List.mem_cons_self))
      obtain ⟨vs, hv⟩ := hf
      have hx : ObjOk X.prog X.w H s.heap dd (.xd fs) := I.hok dd _ ea
      obtain ⟨mA, hns, hr⟩ := hx
      obtain ⟨od, ho, hl⟩ := lookIn_ns hns
      have J : PySem.W.InstAt s.heap a oe C (some od) := ⟨hget, hz.1, by unfold PySem.W.notCls; rw [hv] <;> rfl, by rw [hz.2]; exact ho⟩
      exact PySem.W.kia_one (PySem.W.kitx_exc T.hc T.ga T.gg T.sb T.ca T.cn T.ct T.cm) I.kIn J e (fun z => nomatch z) fun tk => ⟨.bl b, H, I.kept (t' := tk) fun _ _ z => z, rfl, q⟩
/-! ### Base.__init__(self, ..), a class of the text that has none of its own -/
structure BI (K : PySem.W.Frag) (mg : Str → Option Value) (nm : Str) : Prop where
  g : mg nm = some (.ref (clsA K nm))
  ga : PySem.W.specialIn K (.ref (clsA K nm)) "__getattribute__" = some (some (.builtin "type.__getattribute__"))
  rd : PySem.W.readsIn K (clsA K nm) (.type "type") = true
  fi : PySem.W.findCls K (.ref (clsA K nm)) (.type "type") "__init__" = some (.val (.builtin "ValueError.__init__"))
section
variable {X : Cx} {e : Expr} {es : List Expr} {ta : TA} {p1 p2 pos : Pos} {nm : Str}
theorem pe_oinit {pl : Sem Bool} (B : BI X.K X.mg nm) (hg : Gl X nm) (ha : PA X (e :: es) ta) (hdb : (nm == ("__debug__" : Str)) = false := by decide)
    (hc : eval (.Call (.Attribute (.Name nm p1) "__init__" p2) (e :: es) [] pos) X.env = (do
      let ov ← eval (.Name nm p1) X.env
      standAt p2.atName
      let (f, first) ← holding [ov] (getMethod ov "__init__" pl)
      callWith pos f first (backTo pos (starEach (e :: es) X.env)) (backToKw pos (keywordEach [] X.env))) := by rfl)
    (he : starEach (e :: es) X.env = (false, eval e X.env) :: starEach es X.env := by rfl) (hpl : (backTo pos (starEach es X.env)).any (·.1) = false := by rfl) :
    PE X (.Call (.Attribute (.Name nm p1) "__init__" p2) (e :: es) [] pos) (tVeI X.K ta) := by
  refine ⟨fun pins s σ H Q I h => ?_⟩
  refine PySem.W.methodCall_KW (ld_glob I hg B.g ?_ hdb) hc
  refine PySem.W.method_cls I.kIn B.ga (PySem.W.cls_value I.kIn B.rd B.fi (by decide +kernel) ?_)
  show wpAny _ _ (callWith pos (Value.builtin "ValueError.__init__") [] (backTo pos (starEach (e :: es) X.env)) []) _ _ _
  refine PyProof.Rows.callWith_method1 (thn (ha.run pos pins _ σ H _ (I.tok _) h) fun us s1 ⟨vs, H1, I1, r1, a, C, ws, ev, hl, T, ea, q⟩ => ?_) he hpl
  subst ev
  cases r1 with
  | @cons _ u0 _ ur ra rw' =>
    obtain rfl : u0 = Value.ref a := ra
    have hlen : ur.length ≤ sizeLine := by
      rw [← Paired.length rw', sizeLine_eq]
      omega
    exact oinit_ok T I1 ea hlen fun s' J => ⟨.non, H1, J, rfl, q⟩
end
/-! ### a class that is raised -/
/-- its __init__ of one field, of two -/
def spI1 (K : PySem.W.Frag) (f : Str) : Sp := fun vs H Q _ => ∃ (a C : Addr) (y : V), vs = [.ref a, y] ∧ OexC K C ∧ PySem.W.findIn K (.ref C) f = some none ∧ H a = some (exo a C none) ∧
  ∀ dx, H dx = none → dx ≠ a → Q .non (upd (upd H dx (exd dx [(f, y)])) a (exo a C (some dx)))
def spI2 (K : PySem.W.Frag) (f g : Str) : Sp := fun vs H Q _ => ∃ (a C : Addr) (y z : V), vs = [.ref a, y, z] ∧ OexC K C ∧ PySem.W.findIn K (.ref C) f = some none ∧ PySem.W.findIn K (.ref C) g = some none ∧ H a = some (exo a C none) ∧
  ∀ dx, H dx = none → dx ≠ a → Q .non (upd (upd (upd H dx (exd dx [(f, y)])) a (exo a C (some dx))) dx (exd dx [(g, z), (f, y)]))
structure EX (P : Program) (w : World) (K : PySem.W.Frag) (mg : Str → Option Value) (base : Heap) (nm : Str) (ps : List Str) (sp : Sp) : Prop where
  g : mg nm = some (.ref (clsA K nm))
  o : OexC K (clsA K nm)
  i : ∃ (fI : Addr) (fd : FuncData), PySem.W.findIn K (.ref (clsA K nm)) "__init__" = some (some (.ref fI)) ∧ PySem.W.typeIn K (.ref fI) = some (.type "function") ∧ FnOk P w K mg base CX0 1 fI fd ps sp ∧ Binds K fd ps []
def MkG (C : Addr) (sp : Sp) (vs : List V) (Q : XK) (H1 : Hp) : Prop := vs.length ≤ 1000 ∧ ∀ a, H1 a = none → sp (.ref a :: (vs ++ [])) (upd H1 a (exo a C none))
  (fun v H2 => v = .non ∧ ∃ (d : Addr) (fs : List (Str × V)), H2 a = some (exo a C (some d)) ∧ H2 d = some (exd d fs) ∧ H1 d = none ∧ Q (.ref C) (some d) (upd (del H2 a) d (.xd fs))) (fun _ _ _ => False)
def tRaise (C : Addr) (sp : Sp) (W : WX) (ta : TA) : TS := fun _ σ H => ta σ H fun vs H1 => MkG C sp vs (fun cls d H' => W cls d σ H') H1
section
variable {X : Cx} {e : Expr} {es : List Expr} {ta : TA} {p pos pos2 : Pos} {nm : Str} {ps : List Str} {sp : Sp} {W : WX}
theorem ps_raiseG (hc : X.calm = true) (T : EX X.prog X.w X.K X.mg X.base nm ps sp) (hr : Room 2 X.A) (tk : Takes X W) (hg : Gl X nm) (ha : PA X (e :: es) ta)
    (hdb : (nm == ("__debug__" : Str)) = false := by decide) (he : starEach (e :: es) X.env = (false, eval e X.env) :: starEach es X.env := by rfl) (hpl : (backTo pos (starEach es X.env)).any (·.1) = false := by rfl) :
    PS X (.Raise (some (.Call (.Name nm p) (e :: es) [] pos)) none pos2) (tRaise (clsA X.K nm) sp W ta) := by
  obtain ⟨fI, fd, i1, i2, i3, i4⟩ := T.i
  exact ps_raise hc tk (pmk_oex (dvs := []) T.o i1 i2 i3 hr i4 .nil pass0 hg T.g ha hdb he hpl)
end
theorem mk_heap {H1 : Hp} {a dx : Addr} {o1 o2 o3 u : HO} (hn : H1 a = none) (ne : dx ≠ a) : upd (del (upd (upd (upd H1 a o1) dx o2) a o3) a) dx u = upd H1 dx u := by
  funext b
  by_cases h1 : b = dx
  · rw [h1, upd_same, upd_same]
  · rw [upd_ne h1, upd_ne h1]
    by_cases h2 : b = a
    · rw [h2, del_same, hn]
    · rw [del_ne h2, upd_ne h2, upd_ne h1, upd_ne h2]
theorem mk_heap2 {H1 : Hp} {a dx : Addr} {o1 o2 o3 o4 u : HO} (hn : H1 a = none) (ne : dx ≠ a) : upd (del (upd (upd (upd (upd H1 a o1) dx o2) a o3) dx o4) a) dx u = upd H1 dx u := by
  funext b
  by_cases h1 : b = dx
  · rw [h1, upd_same, upd_same]
  · rw [upd_ne h1, upd_ne h1]
    by_cases h2 : b = a
    · rw [h2, del_same, hn]
    · rw [del_ne h2, upd_ne h1, upd_ne h2, upd_ne h1, upd_ne h2]
section
variable {K : PySem.W.Frag} {C : Addr} {Q : XK} {H : Hp} {f g : Str}
theorem st_mk1 {v : V} (T : OexC K C) (hf : PySem.W.findIn K (.ref C) f = some none) (h : ∀ d H', H d = none → Ex H H' → H' d = some (.xd [(f, v)]) → Q (.ref C) (some d) H') : MkG C (spI1 K f) [v] Q H := by
  refine ⟨(by decide : 1 ≤ 1000), fun a ha => ⟨a, C, v, rfl, T, hf, upd_same, fun dx hdx ne => ⟨rfl, dx, [(f, v)], upd_same, ?_, ?_, ?_⟩⟩⟩
  · rw [upd_ne ne]; exact upd_same
  · rw [upd_ne ne] at hdx; exact hdx
  · rw [upd_ne ne] at hdx
    rw [mk_heap ha ne]
    exact h dx _ hdx (Fr.new hdx) upd_same
theorem st_mk2 {v z : V} (T : OexC K C) (hf : PySem.W.findIn K (.ref C) f = some none) (hg : PySem.W.findIn K (.ref C) g = some none) (h : ∀ d H', H d = none → Ex H H' → H' d = some (.xd [(g, z), (f, v)]) → Q (.ref C) (some d) H') : MkG C (spI2 K f g) [v, z] Q H := by
  refine ⟨(by decide : 2 ≤ 1000), fun a ha => ⟨a, C, v, z, rfl, T, hf, hg, upd_same, fun dx hdx ne => ⟨rfl, dx, [(g, z), (f, v)], ?_, upd_same, ?_, ?_⟩⟩⟩
  · rw [upd_ne (Ne.symm ne)]; exact upd_same
  · rw [upd_ne ne] at hdx; exact hdx
  · rw [upd_ne ne] at hdx
    rw [mk_heap2 ha ne]
    exact h dx _ hdx (Fr.new hdx) upd_same
end
structure IniF (K : PySem.W.Frag) (nm qual : Str) (st : Stmt) (ps : List Str) : Prop where
  ex : ∃ (fI : Addr) (fd : FuncData), PySem.W.findIn K (.ref (clsA K nm)) "__init__" = some (some (.ref fI)) ∧ PySem.W.typeIn K (.ref fI) = some (.type "function") ∧ Fun K "__init__" qual st fI fd ∧ Binds K fd ps []
theorem ini_mk {K : PySem.W.Frag} {nm qual : Str} {st : Stmt} {ps : List Str} {f : Addr} {oc : Value} {od an : Option Addr} {osl : Array (Option Value)} {kV dc pm cd ct : Value} (i : PySem.W.findIn K (.ref (clsA K nm)) "__init__" = some (some (.ref f))) (t : PySem.W.typeIn K (.ref f) = some (.type "function"))
    (l : K.lookup f = some ⟨oc, od, .func (PySem.W.fnOf "__init__" qual (defArgs st) (defBody st) (defScope st) .none kV dc pm an cd ct), osl⟩) (c : PySem.W.codeIn K cd qual = true) (k : PySem.W.keepIn K (.ref f) = true)
    (hb : ∀ (kV doc pm : Value) (an : Option Addr) (cdv ct : Value) (us : List Value), us.length = ps.length → bindArgs (PySem.W.fnOf "__init__" qual (defArgs st) (defBody st) (defScope st) .none kV doc pm an cdv ct) ⟨us, []⟩ = pure (ps.zip us)) : IniF K nm qual st ps :=
  have F := fun_mk (st := st) l c k
  ⟨f, _, i, t, F, F.binds hb⟩
theorem xi_mk {K : PySem.W.Frag} {C : Addr} (ga : PySem.W.findIn K (.ref C) "__getattribute__" = some (some (.builtin "BaseException.__getattribute__"))) (gg : PySem.W.findIn K (.ref C) "__getattr__" = some none) (sb : PySem.W.subIn K (.ref C) (.type "BaseException") = some true) (hd : PySem.W.hasDictIn K C = true)
    (ca : PySem.W.findIn K (.ref C) "__class__" = some (some (.builtin "object.__class__"))) (cn : PySem.W.specialIn K (.builtin "object.__class__") "__get__" = some (some (.builtin "getset_descriptor.__get__"))) (ct : PySem.W.takesIn K (.builtin "object.__class__") = some true) (cm : PySem.W.mroIn K C (.type "object") = some true) : XI K C :=
  ⟨by obtain ⟨cd, hc, _⟩ := PySem.W.any_some hd; rw [hc]; rfl, ga, gg, sb, hd, ca, cn, ct, cm⟩
theorem ini1_go {K : PySem.W.Frag} {f tx : Str} {a C : Addr} {y : V} {H : Hp} {Q : VK} (hO : OexC K C) (hn : PySem.W.findIn K (.ref C) f = some none) (ha : H a = some (exo a C none))
    (k : ∀ dx, H dx = none → dx ≠ a → Q .non (upd (upd H dx (exd dx [(f, y)])) a (exo a C (some dx)))) :
    tSeq (tDrop (tVeI K (tCons (tVar 0) (tCons (tC (.str tx)) tNil)))) (tOst K f (tVar 0) (tVar 1)) { nx := fun _ H' => Q .non H', rt := Q } [some (.ref a), some y] H :=
  ⟨.ref a, rfl, a, C, [.str tx], rfl, Nat.le_of_ble_eq_true rfl, hO, ha, y, rfl, .ref a, rfl, a, C, rfl, hO, hn, .inl ⟨ha, k⟩⟩
theorem ini2_go {K : PySem.W.Frag} {f g tx : Str} {a C : Addr} {y z : V} {H : Hp} {Q : VK} (hO : OexC K C) (hn : PySem.W.findIn K (.ref C) f = some none) (hg : PySem.W.findIn K (.ref C) g = some none) (ha : H a = some (exo a C none))
    (k : ∀ dx, H dx = none → dx ≠ a → Q .non (upd (upd (upd H dx (exd dx [(f, y)])) a (exo a C (some dx))) dx (exd dx [(g, z), (f, y)]))) :
    tSeq (tDrop (tVeI K (tCons (tVar 0) (tCons (tC (.str tx)) tNil)))) (tSeq (tOst K f (tVar 0) (tVar 1)) (tOst K g (tVar 0) (tVar 2))) { nx := fun _ H' => Q .non H', rt := Q } [some (.ref a), some y, some z] H :=
  ⟨.ref a, rfl, a, C, [.str tx], rfl, Nat.le_of_ble_eq_true rfl, hO, ha, y, rfl, .ref a, rfl, a, C, rfl, hO, hn, .inl ⟨ha, fun dx h1 h2 => ⟨z, rfl, .ref a, rfl, a, C, rfl, hO, hg, .inr ⟨dx, [(f, y)], upd_same, by rw [upd_ne h2]; exact upd_same, Nat.le_of_ble_eq_true rfl, k dx h1 h2⟩⟩⟩⟩
/-- a thing of a kind that is known; a text not too long -/
def Thg (H : Hp) (v : V) : Prop := Ty H v ∧ ∀ z, v = .str z → z.length ≤ 16777216
theorem Thg.ex {H H' : Hp} {v : V} (h : Thg H v) (e : Ex H H') : Thg H' v := ⟨h.1.ex e, h.2⟩
theorem thg_str {H : Hp} {z : Str} (h : z.length ≤ 16777216) : Thg H (.str z) := ⟨ty_str _, fun _ e => by cases e; exact h⟩
/-- an error of the class nm that holds these fields is let out -/
def RaF (K : PySem.W.Frag) (E : XK) (H : Hp) (nm : Str) (fs : List (Str × V)) : Prop := ∀ d H', H d = none → Ex H H' → H' d = some (.xd fs) → E (.ref (clsA K nm)) (some d) H'
abbrev RaR (K : PySem.W.Frag) (E : XK) (H : Hp) (nm f : Str) (v : V) : Prop := RaF K E H nm [(f, v)]
theorem RaF.ex {K : PySem.W.Frag} {E : XK} {H H1 : Hp} {nm : Str} {fs : List (Str × V)} (h : RaF K E H nm fs) (e : Ex H H1) : RaF K E H1 nm fs := fun d H' h1 h2 h3 => h d H' (Ex.free e h1) (e.trans h2) h3
/-! ### steps -/
section
variable {D : Ends} {σ : L2.St} {H : Hp} {Q : VK} {K : PySem.W.Frag}
theorem st_raise {C : Addr} {sp : Sp} {W : WX} {ta : TA} (h : ta σ H fun vs H1 => MkG C sp vs (fun cls d H' => W cls d σ H') H1) : tRaise C sp W ta D σ H := h
theorem st_try {Wout : WX} {tb : WX → TS} {u : TS} {l : List Cl} (h : tb (wG K Wout D l) { D with nx := u D } σ H) : tTry K Wout tb u l D σ H := h
theorem st_callS {sp : Sp} {W : WX} {t : TA} (h : t σ H fun vs H1 => sp vs H1 Q (WE W σ)) : tCallS sp (WE W) t σ H Q := h
theorem st_hYn {Wout : WX} {c : Value} {i : Nat} {ts : Addr → Value → Option Addr → TS} {r : List Cl} {cls : Value} {d : Option Addr} (e : PySem.W.exmOne K cls c = some true) (h : ∀ a, H a = none → ts a cls d { nx := fun σ' H' => D.nx (σ'.set i none) H', rt := D.rt, bk := fun σ' H' => D.bk (σ'.set i none) H', ct := fun σ' H' => D.ct (σ'.set i none) H' } (σ.set i (some (.ref a))) H) : wG K Wout D ((c, some i, ts) :: r) cls d σ H := ⟨true, e, fun _ => h, fun z => nomatch z⟩
theorem st_hY0 {Wout : WX} {c : Value} {ts : Addr → Value → Option Addr → TS} {r : List Cl} {cls : Value} {d : Option Addr} (e : PySem.W.exmOne K cls c = some true) (h : ∀ a, H a = none → ts a cls d D σ H) : wG K Wout D ((c, none, ts) :: r) cls d σ H := ⟨true, e, fun _ => h, fun z => nomatch z⟩
theorem st_hY {Wout : WX} {c : Value} {i : Option Nat} {ts : Addr → Value → Option Addr → TS} {r : List Cl} {cls : Value} {d : Option Addr} (e : PySem.W.exmOne K cls c = some true) (h : ∀ a, H a = none → ts a cls d (clD i D) (clS i a σ) H) : wG K Wout D ((c, i, ts) :: r) cls d σ H := ⟨true, e, fun _ => h, fun z => nomatch z⟩
theorem st_hN {Wout : WX} {c : Value} {i : Option Nat} {ts : Addr → Value → Option Addr → TS} {r : List Cl} {cls : Value} {d : Option Addr} (e : PySem.W.exmOne K cls c = some false) (h : wG K Wout D r cls d σ H) : wG K Wout D ((c, i, ts) :: r) cls d σ H := ⟨false, e, (fun z => by cases z), fun _ => h⟩
theorem st_hO {Wout : WX} {cls : Value} {d : Option Addr} (h : Wout cls d σ H) : wG K Wout D [] cls d σ H := h
theorem st_xe {a : Addr} {cls : Value} {d : Option Addr} {n : Str} {te : TE} (h : te σ H (XeP K a cls d n Q)) : tXe K a cls d n te σ H Q := h
theorem st_xeP {a C dd : Addr} {n : Str} {fs : List (Str × V)} {v : V} (T : XI K C) (hno : PySem.W.findIn K (.ref C) n = some none) (h1 : H dd = some (.xd fs)) (h2 : fs.lookup n = some v) (h : Q v H) : XeP K a (.ref C) (some dd) n Q (.ref a) H := ⟨rfl, C, rfl, T, hno, dd, fs, v, rfl, h1, h2, h⟩
theorem st_isX {a C C' dd : Addr} {fs : List (Str × V)} {b : Bool} (T : XI K C) (h1 : H dd = some (.xd fs)) (e : PySem.W.kitOne K (.ref C) (.ref C') = some b) (h : Q (.bl b) H) : rIsX K a (.ref C) (some dd) [.ref a, .ref C'] H Q := ⟨.ref C', .ref C', b, C, dd, fs, rfl, fun _ r => r, rfl, T, rfl, h1, e, h⟩
theorem st_isXT {a C dd : Addr} {fs : List (Str × V)} {n : String} {b : Bool} (T : XI K C) (h1 : H dd = some (.xd fs)) (e : PySem.W.kitOne K (.ref C) (.type n) = some b) (h : Q (.bl b) H) : rIsX K a (.ref C) (some dd) [.ref a, .ty n] H Q := ⟨.ty n, .type n, b, C, dd, fs, rfl, fun _ r => r, rfl, T, rfl, h1, e, h⟩
theorem clD_some {i : Nat} : clD (some i) D = goneD i D := rfl
theorem clD_none : clD none D = D := rfl
end
end Zb

/-! slices with a step -/
namespace Zb
open PySem PySem.Spec PyProof.Rows L2
abbrev ixSt (lo hi : Option Int) (k : Int) (n : Nat) : List Nat := Builtin.Str.strSliceIndices lo hi k n
def pick {α : Type} (is : List Nat) (xs : List α) : List α := is.filterMap (xs[·]?)
theorem vals_pick {xs : List V} {its : List Value} (r : Vals xs its) : ∀ is : List Nat, Vals (pick is xs) (pick is its)
  | [] => .nil
  | i :: is => by
    have ih := vals_pick r is
    unfold pick at ih ⊢
    rw [List.filterMap_cons, List.filterMap_cons]
    cases e : xs[i]? with
    | some v =>
      obtain ⟨u, hu, ru⟩ := r.get e
      rw [hu]
      exact .cons ru ih
    | none =>
      have hl := r.length
      rw [List.getElem?_eq_none (by rw [List.getElem?_eq_none_iff] at e; omega)]
      exact ih
theorem pick_get {α : Type} {xs : List α} : ∀ {is : List Nat}, (∀ j ∈ is, j < xs.length) → ∀ i : Nat, (pick is xs)[i]? = is[i]?.bind (xs[·]?)
  | [], _, i => by simp [pick]
  | j :: is, h, i => by
    have hj := h j List.mem_cons_self
    have ih := pick_get (xs := xs) (is := is) fun k hk => h k (List.mem_cons_of_mem _ hk)
    unfold pick at ih ⊢
    rw [List.filterMap_cons, List.getElem?_eq_getElem hj]
    cases i with
    | zero => simp [hj]
    | succ i => simpa using ih i
theorem pick_rev {α : Type} (xs : List α) : pick (ixSt none none (-1) xs.length) xs = xs.reverse := by
  have e : ixSt none none (-1) xs.length = (List.range xs.length).map fun (i : Nat) => ((xs.length : Int) - 1 + (-1) * (i : Int)).toNat := by
    show sliceRange _ _ _ = _
    unfold sliceRange
    have h0 : ¬ ((-1 : Int) > 0) := by decide
    simp only [h0, if_false]
    by_cases h : xs.length = 0
    · rw [h]; rfl
    · have h1 : ((xs.length : Int) - 1) > -1 := by omega
      simp only [h1, if_true]
      have h2 : (((xs.length : Int) - 1 - -1 - -1 - 1) / - -1).toNat = xs.length := by rw [Int.neg_neg, Int.ediv_one]; omega
      rw [h2]
  apply List.ext_getElem?
  intro i
  rw [pick_get (fun j hj => by
    rw [e, List.mem_map] at hj
    obtain ⟨i, hi, rfl⟩ := hj
    rw [List.mem_range] at hi
    show ((xs.length : Int) - 1 + (-1) * (i : Int)).toNat < xs.length
    omega), e, List.getElem?_map]
  by_cases hi : i < xs.length
  · rw [List.getElem?_range hi, List.getElem?_reverse hi]
    show xs[((xs.length : Int) - 1 + (-1) * (i : Int)).toNat]? = _
    congr 1
    omega
  · rw [List.getElem?_eq_none (l := List.range _) (by rw [List.length_range]; omega), List.getElem?_eq_none (l := xs.reverse) (by rw [List.length_reverse]; omega)]
    rfl
/-- the items at 0, 2, .. ; at 1, 3, .. -/
def evL {α : Type} : List α → List α
  | [] => []
  | [a] => [a]
  | a :: _ :: r => a :: evL r
def odL {α : Type} : List α → List α
  | [] => []
  | [_] => []
  | _ :: b :: r => b :: odL r
theorem evL_get {α : Type} : ∀ (xs : List α) (i : Nat), (evL xs)[i]? = xs[2 * i]?
  | [], i => by simp [evL]
  | [a], i => by cases i <;> simp [evL]
  | a :: b :: r, i => by
    cases i with
    | zero => simp [evL]
    | succ i =>
      have ih := evL_get r i
      show (a :: evL r)[i + 1]? = (a :: b :: r)[2 * (i + 1)]?
      rw [List.getElem?_cons_succ, ih, show 2 * (i + 1) = 2 * i + 1 + 1 from rfl, List.getElem?_cons_succ, List.getElem?_cons_succ]
theorem odL_get {α : Type} : ∀ (xs : List α) (i : Nat), (odL xs)[i]? = xs[2 * i + 1]?
  | [], i => by simp [odL]
  | [a], i => by simp [odL]
  | a :: b :: r, i => by
    cases i with
    | zero => simp [odL]
    | succ i =>
      have ih := odL_get r i
      show (b :: odL r)[i + 1]? = (a :: b :: r)[2 * (i + 1) + 1]?
      rw [List.getElem?_cons_succ, ih, show 2 * (i + 1) + 1 = 2 * i + 1 + 1 + 1 from rfl, List.getElem?_cons_succ, List.getElem?_cons_succ]
theorem pick_ev {α : Type} (xs : List α) : pick (ixSt none none 2 xs.length) xs = evL xs := by
  have e : ixSt none none 2 xs.length = (List.range ((xs.length + 1) / 2)).map fun (i : Nat) => ((0 : Int) + 2 * (i : Int)).toNat := by
    show sliceRange _ _ _ = _
    unfold sliceRange
    have h0 : ((2 : Int) > 0) := by decide
    simp only [h0, if_true]
    by_cases h : xs.length = 0
    · rw [h]; rfl
    · have h1 : (0 : Int) < (xs.length : Int) := by omega
      simp only [h1, if_true]
      have h2 : (((xs.length : Int) - 0 + 2 - 1) / 2).toNat = (xs.length + 1) / 2 := by omega
      rw [h2]
  apply List.ext_getElem?
  intro i
  rw [pick_get (fun j hj => by
    rw [e, List.mem_map] at hj
    obtain ⟨i, hi, rfl⟩ := hj
    rw [List.mem_range] at hi
    show ((0 : Int) + 2 * (i : Int)).toNat < xs.length
    omega), e, List.getElem?_map, evL_get]
  by_cases hi : i < (xs.length + 1) / 2
  · rw [List.getElem?_range hi]
    show xs[((0 : Int) + 2 * (i : Int)).toNat]? = _
    congr 1
    omega
  · rw [List.getElem?_eq_none (l := List.range _) (by rw [List.length_range]; omega), List.getElem?_eq_none (l := xs) (by omega)]
    rfl
theorem pick_od {α : Type} (xs : List α) : pick (ixSt (some 1) none 2 xs.length) xs = odL xs := by
  have e : ixSt (some 1) none 2 xs.length = (List.range (xs.length / 2)).map fun (i : Nat) => ((1 : Int) + 2 * (i : Int)).toNat := by
    show sliceRange _ _ _ = _
    unfold sliceRange
    have h0 : ((2 : Int) > 0) := by decide
    have h9 : ¬ ((1 : Int) < 0) := by decide
    simp only [h0, h9, if_true, if_false]
    by_cases h : xs.length = 0
    · rw [h]; rfl
    · have h3 : (max 0 (min 1 (xs.length : Int))) = 1 := by omega
      rw [h3]
      by_cases h1 : (1 : Int) < (xs.length : Int)
      · simp only [h1, if_true]
        have h2 : (((xs.length : Int) - 1 + 2 - 1) / 2).toNat = xs.length / 2 := by omega
        rw [h2]
      · simp only [h1, if_false]
        have h2 : xs.length / 2 = 0 := by omega
        rw [h2]
        rfl
  apply List.ext_getElem?
  intro i
  rw [pick_get (fun j hj => by
    rw [e, List.mem_map] at hj
    obtain ⟨i, hi, rfl⟩ := hj
    rw [List.mem_range] at hi
    show ((1 : Int) + 2 * (i : Int)).toNat < xs.length
    omega), e, List.getElem?_map, odL_get]
  by_cases hi : i < xs.length / 2
  · rw [List.getElem?_range hi]
    show xs[((1 : Int) + 2 * (i : Int)).toNat]? = _
    congr 1
    omega
  · rw [List.getElem?_eq_none (l := List.range _) (by rw [List.length_range]; omega), List.getElem?_eq_none (l := xs) (by omega)]
    rfl
theorem pick_len {α : Type} (is : List Nat) (xs : List α) : (pick is xs).length ≤ is.length := List.length_filterMap_le _ _
theorem ixSt_len (lo hi : Option Int) (k : Int) (n : Nat) : (ixSt lo hi k n).length ≤ n := by
  have h := PySem.sliceRange_length_le (sliceBounds lo hi (some k) n).1 (sliceBounds lo hi (some k) n).2.1 (sliceBounds lo hi (some k) n).2.2 n (fun hc => ?_) (fun hc => ?_)
  · exact h
  · simp only [sliceBounds, Option.getD_some] at hc ⊢
    simp only [hc, if_true]
    constructor
    · cases lo with
      | none => simp
      | some i => dsimp only; omega
    · cases hi with
      | none => simp
      | some i => dsimp only; omega
  · simp only [sliceBounds, Option.getD_some] at hc ⊢
    simp only [hc, if_false]
    constructor
    · cases lo with
      | none => simp
      | some i => dsimp only; omega
    · cases hi with
      | none => simp
      | some i => dsimp only; omega
def rSt (K : PySem.W.Frag) : V → Option Int → Option Int → Int → Hp → VK → Prop := fun x lo hi k H Q => match x with
  | .str z => z.length ≤ 16777216 ∧ k ≠ 0 ∧ k ≠ 1 ∧ Q (.str (tx (pick (ixSt lo hi k z.length) z.cps.toList))) H
  | .ref p => ∃ xs, SqL K H p xs ∧ k ≠ 0 ∧ ∀ q, H q = none → Q (.ref q) (upd H q (.lst (pick (ixSt lo hi k xs.length) xs)))
  | _ => False
def tSt (r : V → Option Int → Option Int → Int → Hp → VK → Prop) (te : TE) (tl th : TO) (ts : TE) : TE := fun σ H Q => te σ H fun x H1 => tl σ H1 fun l H2 => th σ H2 fun u H3 => ts σ H3 fun s H4 => ∃ k, s = .int k ∧ r x l u k H4 Q
section
variable {X : Cx} {e st : Expr} {te ts : TE} {lo hi : Option Expr} {tl th : TO} {pos p2 : Pos} {K : PySem.W.Frag}
theorem pe_slice3 (he : PE X e te) (hl : PO X lo tl) (hu : PO X hi th) (hs : PE X st ts) (hK : X.K = K := by rfl) : PE X (.Subscript e (.Slice lo hi (some st) p2) pos) (tSt (rSt K) te tl th ts) := by
  subst hK
  refine ⟨fun pins s σ H Q I h => ?_⟩
  rw [eval_Subscript]
  refine wpAny_bind (thn (he.run pins s σ H _ I h) fun v s1 ⟨x, H1, I1, r1, q1⟩ => wpAny_bind (wpAny_holding (wpAny_Slice (thn (hl.run pins s1 σ H1 _ I1 q1) fun vl s2 ⟨l, H2, I2, pl, q2⟩ => thn (hu.run pins s2 σ H2 _ I2 q2) fun vu s3 ⟨u, H3, I3, pu, q3⟩ => ?_))))
  rw [evalPart_some]
  refine thn (hs.run pins s3 σ H3 _ I3 q3) fun vk s4 ⟨xk, H4, I4, rk, q4⟩ => ?_
  obtain ⟨k, ek, q⟩ := q4
  subst ek
  obtain ⟨tk, rfl⟩ := rk
  refine wpAny_bind (wpAny_standAt ?_)
  have I5 : Inv X pins σ H4 { s4 with heap := s4.heap.push { cls := .type "slice", data := .fields #[vl, vu, .int k tk] } } := I4.kept (t' := s4.toks) fun b ob q => Heap.get?_push_of_some _ q
  have go : ∀ {T id : String}, typeLookup (.type T) "__getitem__" = pure (some (.builtin id)) → ({ s4 with heap := s4.heap.push { cls := .type "slice", data := .fields #[vl, vu, .int k tk] } } : Shared).TypeIs v T → wpAny (model X.prog X.w) X.A (getItem v (.ref s4.heap.objs.size)) (EP X pins σ Q) X.xe { s4 with heap := s4.heap.push { cls := .type "slice", data := .fields #[vl, vu, .int k tk] } } →
      wpAny (model X.prog X.w) X.A (subscriptTail e (.Slice lo hi (some st) p2) v (.ref s4.heap.objs.size)) (EP X pins σ Q) X.xe { s4 with heap := s4.heap.push { cls := .type "slice", data := .fields #[vl, vu, .int k tk] } } := by
    intro T id hT ht hg
    exact tail_any (ops := [v, .ref s4.heap.objs.size]) ht hT hg (by with_unfolding_all rfl)
  have hsl : ({ s4 with heap := s4.heap.push { cls := .type "slice", data := .fields #[vl, vu, .int k tk] } } : Shared).heap.IsSliceOf s4.heap.objs.size vl vu (.int k tk) := Heap.IsSliceOf.new ..
  cases x with
  | str z =>
    obtain ⟨hz, hk0, hk1, q⟩ := q
    obtain ⟨tz, rfl⟩ := r1
    obtain ⟨l', rfl, rfl⟩ := IsPart.raw pl
    obtain ⟨u', rfl, rfl⟩ := IsPart.raw pu
    refine go F.slot_str_getitem.lookup (typeIs_str _ _ _) ?_
    refine wpAny_getItem_str_slice (l := l') (u := u') (st := some (k, tk)) hsl (by simpa using hk0) ?_
    have c : ¬ ((k == 1 && (ixSt (l'.map (·.1)) (u'.map (·.1)) k z.length).length == z.length) = true) := by
      intro z
      rw [Bool.and_eq_true] at z
      exact hk1 (by simpa using z.1)
    show Made.post (if (k == 1 && (ixSt (l'.map (·.1)) (u'.map (·.1)) k z.length).length == z.length) = true then Made.val (.str z tz)
      else Made.str ⟨((ixSt (l'.map (·.1)) (u'.map (·.1)) k z.length).filterMap (z.cps[·]?)).toArray⟩) (EP X pins σ Q) _
    rw [if_neg c]
    have e1 : (ixSt (l'.map (·.1)) (u'.map (·.1)) k z.length).filterMap (z.cps[·]?) = pick (ixSt (l'.map (·.1)) (u'.map (·.1)) k z.length) z.cps.toList := by
      unfold pick
      congr 1
      funext j
      rw [Array.getElem?_toList]
    rw [e1]
    refine ⟨?_, .str _, H4, I5.tok _, ⟨_, rfl⟩, q⟩
    show (tx (pick _ _)).length ≤ sizeLine
    rw [tx_length, sl16]
    exact Nat.le_trans (pick_len _ _) (Nat.le_trans (ixSt_len _ _ _ _) hz)
  | ref p =>
    obtain ⟨xs, hx, hk0, q⟩ := q
    obtain rfl : v = Value.ref p := r1
    obtain ⟨its, r, ht, hz⟩ := I5.list hx
    have hlen := r.length
    refine go slot_list_getitem.lookup ht.isList.typeIs ?_
    refine wpAny_getItem_list_slice ht.isList hsl pl pu (.int k tk) (by simpa using hk0) ?_ (by rw [List.size_toArray] <;> omega)
    have e1 : slicePick its.toArray l u (some k) = (pick (ixSt l u k xs.length) its).toArray := by
      unfold slicePick pick
      congr 1
      rw [hlen]
      show (ixSt l u k its.toArray.size).filterMap _ = _
      rw [List.size_toArray]
      congr 1
      funext j
      rw [List.getElem?_toArray]
    rw [e1]
    refine ⟨.ref _, _, I5.laid (t' := s4.toks) (o := .lst (pick (ixSt l u k xs.length) xs)) (fun b ob q => Heap.get?_push_of_some _ q) (Nat.le_refl _) ?_, rfl, q _ (I5.hok.fresh (Nat.le_refl _))⟩
    exact ⟨Nat.le_trans (pick_len _ _) (Nat.le_trans (ixSt_len _ _ _ _) hz), _, 0, vals_pick r _, Heap.get?_push_size _ rfl⟩
  | _ => exact q.elim
end
/-! ### steps -/
section
variable {K : PySem.W.Frag} {H : Hp} {σ : L2.St} {Q : VK}
theorem st_st3 {r : V → Option Int → Option Int → Int → Hp → VK → Prop} {te ts : TE} {tl th : TO} (h : te σ H fun x H1 => tl σ H1 fun l H2 => th σ H2 fun u H3 => ts σ H3 fun s H4 => ∃ k, s = .int k ∧ r x l u k H4 Q) : tSt r te tl th ts σ H Q := h
theorem st_revS {z : Str} (hz : z.length ≤ 16777216) (h : Q (.str (tx z.cps.toList.reverse)) H) : rSt K (.str z) none none (-1) H Q := ⟨hz, by decide, by decide, by
  have e : z.length = z.cps.toList.length := Array.length_toList.symm
  rw [e, pick_rev]; exact h⟩
theorem st_evS {z : Str} (hz : z.length ≤ 16777216) (h : Q (.str (tx (evL z.cps.toList))) H) : rSt K (.str z) none none 2 H Q := ⟨hz, by decide, by decide, by
  have e : z.length = z.cps.toList.length := Array.length_toList.symm
  rw [e, pick_ev]; exact h⟩
theorem st_odS {z : Str} (hz : z.length ≤ 16777216) (h : Q (.str (tx (odL z.cps.toList))) H) : rSt K (.str z) (some 1) none 2 H Q := ⟨hz, by decide, by decide, by
  have e : z.length = z.cps.toList.length := Array.length_toList.symm
  rw [e, pick_od]; exact h⟩
theorem st_revL {p : Addr} {xs : List V} (hx : SqL K H p xs) (h : ∀ q H', H q = none → Ex H H' → H' q = some (.lst xs.reverse) → Q (.ref q) H') : rSt K (.ref p) none none (-1) H Q := ⟨xs, hx, by decide, fun q hq => by
  rw [pick_rev]; exact h q _ hq (Fr.new hq) upd_same⟩
theorem st_evL {p : Addr} {xs : List V} (hx : SqL K H p xs) (h : ∀ q H', H q = none → Ex H H' → H' q = some (.lst (evL xs)) → Q (.ref q) H') : rSt K (.ref p) none none 2 H Q := ⟨xs, hx, by decide, fun q hq => by
  rw [pick_ev]; exact h q _ hq (Fr.new hq) upd_same⟩
theorem st_odL {p : Addr} {xs : List V} (hx : SqL K H p xs) (h : ∀ q H', H q = none → Ex H H' → H' q = some (.lst (odL xs)) → Q (.ref q) H') : rSt K (.ref p) (some 1) none 2 H Q := ⟨xs, hx, by decide, fun q hq => by
  rw [pick_od]; exact h q _ hq (Fr.new hq) upd_same⟩
end
end Zb

/-! == of lists whose items are data, or the very same things -/
namespace Zb
open PySem PySem.Spec PyProof.Rows L2 PySem.SeqAt
inductive PEq (H : Hp) : V → V → Bool → Prop
  | same (a : Addr) : PEq H (.ref a) (.ref a) true
  | dat {x y : V} {d e : PyData} : Rp H x d → Rp H y e → min d.depth e.depth ≤ 60 → PEq H x y (PyData.eqv d e)
inductive PEqs (H : Hp) : List V → List V → List Bool → Prop
  | nil : PEqs H [] [] []
  | cons {x y : V} {b : Bool} {xs ys : List V} {bs : List Bool} : PEq H x y b → PEqs H xs ys bs → PEqs H (x :: xs) (y :: ys) (b :: bs)
theorem PEqs.len {H : Hp} : ∀ {xs ys : List V} {bs : List Bool}, PEqs H xs ys bs → ys.length = xs.length ∧ bs.length = xs.length
  | _, _, _, .nil => ⟨rfl, rfl⟩
  | _, _, _, .cons _ r => ⟨congrArg (· + 1) r.len.1, congrArg (· + 1) r.len.2⟩
theorem PEqs.at {H : Hp} : ∀ {xs ys : List V} {bs : List Bool}, PEqs H xs ys bs → ∀ j (x y : V), xs[j]? = some x → ys[j]? = some y → PEq H x y (bs.getD j true)
  | _, _, _, .nil, j, x, y, h, _ => by simp at h
  | _, _, _, .cons a r, 0, x, y, h, k => by
    have e1 : _ = x := Option.some.inj h
    have e2 : _ = y := Option.some.inj k
    rw [← e1, ← e2]
    exact a
  | _, _, _, .cons a r, j + 1, x, y, h, k => by
    have h : _ = some x := h
    have := r.at j x y (by simpa using h) (by simpa using k)
    simpa using this
theorem all_getD : ∀ bs : List Bool, (List.range bs.length).all (fun j => bs.getD j true) = bs.all id
  | [] => rfl
  | b :: bs => by
    have ih := all_getD bs
    rw [List.length_cons, List.range_succ_eq_map, List.all_cons, List.all_map, List.all_cons]
    rw [← ih]
    rfl
def rEqL : R2 := fun x y H Q => ∃ (p q : Addr) (xs ys : List V) (bs : List Bool), x = .ref p ∧ y = .ref q ∧ lstAt H p = some xs ∧ lstAt H q = some ys ∧ PEqs H xs ys bs ∧ Q (.bl (bs.all id)) H
theorem o_eqL {X : Cx} (hu : X.A.units + 64 < cLine) : OpR X (compareOp .Eq) rEqL := by
  intro pins s σ H x y v u Q I rx ry h
  obtain ⟨p, q, xs, ys, bs, rfl, rfl, hx, hy, hE, k⟩ := h
  obtain rfl : v = Value.ref p := rx
  obtain rfl : u = Value.ref q := ry
  obtain ⟨its, r1, t1, z1⟩ := I.list (lstAt_sq hx)
  obtain ⟨its2, r2, t2, z2⟩ := I.list (lstAt_sq hy)
  have l1 := r1.length
  have l2 := r2.length
  obtain ⟨m1, m2⟩ := hE.len
  have key : RcAt X.A s (.ref p) (.ref q) ((List.range its.toArray.size).all fun j => bs.getD j true) := by
    refine RcAt.lists t1.isList t2.isList (by rw [List.size_toArray, List.size_toArray]; omega) (by omega) fun j h1 h2 => ?_
    rw [List.size_toArray] at h1 h2
    have hj : j < xs.length := by omega
    have hj2 : j < ys.length := by omega
    have e1 := List.getElem?_eq_getElem hj
    have e2 := List.getElem?_eq_getElem hj2
    obtain ⟨u1, g1, ru1⟩ := r1.get e1
    obtain ⟨u2, g2, ru2⟩ := r2.get e2
    have f1 : its.toArray[j]'(by rw [List.size_toArray]; exact h1) = u1 := by
      rw [List.getElem?_eq_getElem h1] at g1
      simpa using g1
    have f2 : its2.toArray[j]'(by rw [List.size_toArray]; exact h2) = u2 := by
      rw [List.getElem?_eq_getElem h2] at g2
      simpa using g2
    rw [f1, f2]
    have hp := hE.at j _ _ e1 e2
    generalize xs[j] = x at ru1 hp
    generalize ys[j] = y at ru2 hp
    generalize bs.getD j true = b at hp
    cases hp with
    | same a =>
      obtain rfl : u1 = Value.ref a := ru1
      obtain rfl : u2 = Value.ref a := ru2
      exact EqAt.same _
    | dat h1 h2 h3 =>
      obtain ⟨as, d1⟩ := Dp.reads I _ x u1 h1.dp ru1
      obtain ⟨bs', d2⟩ := Dp.reads I _ y u2 h2.dp ru2
      refine SeqAt.eqAt_plain _ _ X.A.in1 s u1 u2 _ _ d1 d2 h1.plain h2.plain ?_
      show X.A.units + 1 + _ < _
      omega
  refine key _ _ _ _ ⟨.bl _, H, I, rfl, ?_⟩
  have e : (List.range its.toArray.size).all (fun j => bs.getD j true) = bs.all id := by
    rw [List.size_toArray, show its.length = bs.length by omega]
    exact all_getD bs
  rw [e]
  exact k
/-! ### is None, int(truth), range with a step -/
section
variable {X : Cx} {H : Hp} {Q : VK} {σ : L2.St}
def rIsN : R2 := fun x y H Q => y = .non ∧ Q (.bl (decide (x = .non))) H
def rNotN : R2 := fun x y H Q => y = .non ∧ Q (.bl (!decide (x = .non))) H
theorem o_isN : OpR X (compareOp .Is) Zb.rIsN := op_isN
theorem o_notN : OpR X (compareOp .IsNot) Zb.rNotN := op_notN
theorem st_isN {x : V} (h : Q (.bl (decide (x = .non))) H) : Zb.rIsN x .non H Q := ⟨rfl, h⟩
theorem st_notN {x : V} (h : Q (.bl (!decide (x = .non))) H) : Zb.rNotN x .non H Q := ⟨rfl, h⟩
def rInt1 : List V → Hp → VK → Prop := fun vs H Q => match vs with
  | [.int i] => Q (.int i) H
  | [.bl k] => Q (.int (if k then 1 else 0)) H
  | _ => False
theorem c_int : CallR X (.type "int") rInt1 := by
  intro pins s σ H xs us Q I r h
  unfold rInt1 at h
  split at h
  · exact call_int1 pins s σ H _ us Q I r (.inl ⟨_, rfl, h⟩)
  · exact call_int1 pins s σ H _ us Q I r (.inr ⟨_, rfl, h⟩)
  · exact h.elim
theorem st_intI {i : Int} (h : Q (.int i) H) : rInt1 [.int i] H Q := h
theorem st_intB {k : Bool} (h : Q (.int (if k then 1 else 0)) H) : rInt1 [.bl k] H Q := h
theorem runs_rangeC (lo c : Int) (n : Nat) : Runs (Itc lo c n) n (fun _ => True) (fun i x H H' => H' = H ∧ x = .int (lo + (i : Nat) * c)) :=
  ⟨fun _ _ h _ => h, fun _ _ => Nat.le_refl _, fun _ _ _ _ _ _ y => y⟩
theorem rv_rangeC (lo c : Int) (n : Nat) : RunsV (Itc lo c n) (List.range n) (fun i => .int (lo + (i : Nat) * c)) (fun _ => True) := by
  refine ⟨fun i H h _ => by rw [List.length_range] at h; exact h, fun H _ => by rw [List.length_range]; exact Nat.le_refl _, fun i H x H' h _ y => ?_⟩
  rw [List.length_range] at h
  exact ⟨y.1, i, by rw [List.getElem?_range h], y.2⟩
theorem st_iR3 {ta : TA} {R : It → Hp → Prop} (h : ta σ H (fun vs H1 => ∃ (i j c : Int) (n : Nat), vs = [.int i, .int j, .int c] ∧ RgC i j c n ∧ R (Itc i c n) H1)) : iRng3 ta σ H R := h
theorem st_isR3 {i j c : Int} (n : Nat) {P : Int → Int → Int → Nat → Prop} (h1 : RgC i j c n) (h : P i j c n) : ∃ (i' j' c' : Int) (n : Nat), [V.int i, .int j, .int c] = [.int i', .int j', .int c'] ∧ RgC i' j' c' n ∧ P i' j' c' n := ⟨i, j, c, n, rfl, h1, h⟩
end
theorem rgc_pos {i j c : Int} {n : Nat} (h0 : 0 < c) (h1 : c < 1048576) (hi : -1099511627776 ≤ i) (hi' : i < 1099511627776) (hj : -1099511627776 ≤ j) (hj' : j < 1099511627776) (hn : (n = 0 ∧ j ≤ i) ∨ (0 < n ∧ ((n : Int) - 1) * c < j - i ∧ j - i ≤ (n : Int) * c)) : RgC i j c n := by
  have hr : Builtin.Range.rangeSize i j c = n := by
    unfold Builtin.Range.rangeSize
    rw [if_pos h0]
    rcases hn with ⟨rfl, h⟩ | ⟨hp, ha, hb⟩
    · rw [if_neg (by omega)]; rfl
    · have hm : 0 ≤ ((n : Int) - 1) * c := Int.mul_nonneg (by omega) (by omega)
      rw [if_pos (by omega)]
      have e1 : (n : Int) - 1 ≤ (j - i - 1) / c := (Int.le_ediv_iff_mul_le h0).mpr (by omega)
      have e2 : (j - i - 1) / c < n := (Int.ediv_lt_iff_lt_mul h0).mpr (by omega)
      omega
  refine ⟨by omega, by omega, ?_, hr⟩
  unfold Builtin.Range.small
  rw [hr]
  simp only [Builtin.Range.rangeFitsLong, Bool.and_eq_true, Bool.or_eq_true, decide_eq_true_eq, beq_iff_eq, h0, if_true]
  have hb : (n : Int) ≤ 2199023255552 := by
    rcases hn with ⟨rfl, h⟩ | ⟨hp, ha, hb⟩
    · decide
    · have : ((n : Int) - 1) * 1 ≤ ((n : Int) - 1) * c := Int.mul_le_mul_of_nonneg_left (by omega) (by omega)
      omega
  omega
end Zb

/-! comprehensions whose items are new objects; dicts by keys; extend -/
namespace Zb
open PySem PySem.Spec PyProof.Rows L2
/-- at these addresses these objects -/
inductive ObjsAt (H : Hp) : List Addr → List HO → Prop
  | nil : ObjsAt H [] []
  | cons {a : Addr} {o : HO} {ts : List Addr} {os : List HO} : H a = some o → ObjsAt H ts os → ObjsAt H (a :: ts) (o :: os)
section
variable {H H' : Hp}
theorem ObjsAt.len : ∀ {ts : List Addr} {os : List HO}, ObjsAt H ts os → ts.length = os.length
  | _, _, .nil => rfl
  | _, _, .cons _ r => congrArg (· + 1) r.len
theorem ObjsAt.ex (e : Ex H H') : ∀ {ts : List Addr} {os : List HO}, ObjsAt H ts os → ObjsAt H' ts os
  | _, _, .nil => .nil
  | _, _, .cons h r => .cons (e.get h) (r.ex e)
theorem ObjsAt.fr {M : Addr → Prop} (e : Fr M H H') : ∀ {ts : List Addr} {os : List HO}, (∀ a ∈ ts, ¬ M a) → ObjsAt H ts os → ObjsAt H' ts os
  | _, _, _, .nil => .nil
  | _, _, hm, .cons h r => .cons (e _ _ (hm _ List.mem_cons_self) h) (r.fr e fun a ha => hm a (List.mem_cons_of_mem _ ha))
theorem ObjsAt.up {D : Addr} {u : HO} : ∀ {ts : List Addr} {os : List HO}, D ∉ ts → ObjsAt H ts os → ObjsAt (upd H D u) ts os
  | _, _, _, .nil => .nil
  | _, _, hn, .cons h r => .cons (by rw [upd_ne (fun z => hn (by rw [← z]; exact List.mem_cons_self))]; exact h) (r.up fun z => hn (List.mem_cons_of_mem _ z))
theorem ObjsAt.app : ∀ {ts us : List Addr} {os ps : List HO}, ObjsAt H ts os → ObjsAt H us ps → ObjsAt H (ts ++ us) (os ++ ps)
  | _, _, _, _, .nil, k => k
  | _, _, _, _, .cons h r, k => .cons h (r.app k)
theorem ObjsAt.one {a : Addr} {o : HO} (h : H a = some o) : ObjsAt H [a] [o] := .cons h .nil
theorem ObjsAt.at : ∀ {ts : List Addr} {os : List HO}, ObjsAt H ts os → ∀ (k : Nat) a o, ts[k]? = some a → os[k]? = some o → H a = some o
  | _, _, .nil, k, a, o, h, _ => by simp at h
  | _, _, .cons h r, 0, a, o, h1, h2 => by
    have e1 : _ = a := Option.some.inj h1
    have e2 : _ = o := Option.some.inj h2
    rw [← e1, ← e2]; exact h
  | _, _, .cons h r, k + 1, a, o, h1, h2 => r.at k a o (by simpa using h1) (by simpa using h2)
theorem ObjsAt.of : ∀ {ts : List Addr} {os : List HO}, ts.length = os.length → (∀ (k : Nat) a o, ts[k]? = some a → os[k]? = some o → H a = some o) → ObjsAt H ts os
  | [], [], _, _ => .nil
  | [], _ :: _, h, _ => by simp at h
  | _ :: _, [], h, _ => by simp at h
  | a :: ts, o :: os, h, k => .cons (k 0 a o rfl rfl) (ObjsAt.of (by simpa using h) fun j x y h1 h2 => k (j + 1) x y (by simpa using h1) (by simpa using h2))
/-- one of them changes -/
theorem ObjsAt.set {a : Addr} {u : HO} {ts : List Addr} {os : List HO} {k : Nat} (h : ObjsAt H ts os) (nd : ts.Nodup) (hk : ts[k]? = some a) : ObjsAt (upd H a u) ts (os.set k u) := by
  refine .of (by rw [List.length_set, h.len]) fun j b o h1 h2 => ?_
  by_cases e : j = k
  · subst e
    rw [hk] at h1
    cases h1
    have hl : j < os.length := by
      rw [← h.len]
      exact (List.getElem?_eq_some_iff.mp hk).1
    rw [List.getElem?_set_self hl] at h2
    cases h2
    exact upd_same
  · rw [List.getElem?_set_ne (Ne.symm e)] at h2
    rw [upd_ne (fun z : b = a => e (nd_ix nd h1 (by rw [z]; exact hk)))]
    exact h.at j b o h1 h2
end
section
variable {J : It} {S : Hp → Prop} {g : TG} {σ : L2.St} {H1 : Hp}
theorem lc_objs {α : Type} {ys : List α} {val : α → V} {tt : TT} {te : TE} {vs : List Nat} {Q : VK} (hR : RunsV J ys val S) (hS : ∀ H', Ex H1 H' → S H') (hz : ys.length < 1000000) (p : α → Bool) (o : α → HO)
    (hs : ∀ y H', y ∈ ys → Ex H1 H' → ∀ (B : V → Hp → Prop) (A : Hp → Prop), (p y = true → ∀ a H'', H' a = none → Ex H' H'' → H'' a = some (o y) → B (.ref a) H'') → (p y = false → ∀ H'', Ex H' H'' → A H'') → g (val y) (wipe σ vs) H' fun σ2 H2 => wipe σ2 vs = wipe σ vs ∧ tt σ2 H2 fun b H3 => if b = true then te σ2 H3 B else A H3)
    (hd : ∀ D H' ts, H1 D = none → Ex H1 H' → H' D = some (.lst (ts.map V.ref)) → ObjsAt H' ts ((ys.filter p).map o) → ts.Nodup → D ∉ ts → (∀ a ∈ ts, H1 a = none) → Q (.ref D) H') : LcGoal J g tt te vs σ Q H1 := by
  intro D hD
  obtain ⟨W, hW⟩ : ∃ W : Nat → Hp → Prop, W = fun i H => ∃ ts : List Addr, H D = some (.lst (ts.map V.ref)) ∧ Ex H1 H ∧ ObjsAt H ts (((ys.take i).filter p).map o) ∧ ts.Nodup ∧ D ∉ ts ∧ ∀ a ∈ ts, H1 a = none := ⟨_, rfl⟩
  have hWi : ∀ i H, W i H ↔ ∃ ts : List Addr, H D = some (.lst (ts.map V.ref)) ∧ Ex H1 H ∧ ObjsAt H ts (((ys.take i).filter p).map o) ∧ ts.Nodup ∧ D ∉ ts ∧ ∀ a ∈ ts, H1 a = none := fun i H => by rw [hW]
  refine ⟨fun i m H => m = ys.length - i ∧ i ≤ ys.length ∧ W i H, ⟨ys.length, by simp, Nat.zero_le _, (hWi _ _).mpr ⟨[], upd_same, Fr.new hD, by rw [List.take_zero]; exact .nil, List.nodup_nil, by simp, by simp⟩⟩, ?_⟩
  rintro i m H ⟨rfl, hi, hw⟩
  obtain ⟨ts, h1, h2, h3, h4, h5, h6⟩ := (hWi _ _).mp hw
  by_cases hlt : i < ys.length
  · refine .inr ⟨hR.go i H hlt (hS H h2), W (i + 1), fun H' p' => ⟨ys.length - (i + 1), by omega, rfl, hlt, p'⟩, fun x H' y => ?_⟩
    obtain ⟨rfl, y0, hy, rfl⟩ := hR.yld i H x H' hlt (hS H h2) y
    have ht : ys.take (i + 1) = ys.take i ++ [y0] := by rw [List.take_add_one, hy]; rfl
    refine hs y0 H' (List.mem_of_getElem? hy) h2 (fun v H4 => ∃ acc, H4 D = some (.lst acc) ∧ acc.length < sizeLine ∧ W (i + 1) (upd H4 D (.lst (acc ++ [v])))) (W (i + 1)) ?_ ?_
    · intro hp a H4 ha e hv
      have hDa : a ≠ D := fun z => by rw [z, h1] at ha; cases ha
      have haN : a ∉ ts := fun z => by
        obtain ⟨k, hk⟩ := List.getElem?_of_mem z
        have hk2 : k < (((ys.take i).filter p).map o).length := by
          rw [← h3.len]; exact (List.getElem?_eq_some_iff.mp hk).1
        have := h3.at k a _ hk (List.getElem?_eq_getElem hk2)
        rw [this] at ha
        cases ha
      have hlen : ts.length < 1000000 := by
        rw [h3.len, List.length_map]
        have := List.length_filter_le p (ys.take i)
        rw [List.length_take] at this
        omega
      refine ⟨ts.map V.ref, e.get h1, by rw [List.length_map, sl16]; omega, (hWi _ _).mpr ⟨ts ++ [a], by rw [upd_same, List.map_append]; rfl, (h2.trans e).mut hD, ?_, ?_, ?_, ?_⟩⟩
      · rw [ht, List.filter_append, List.map_append, List.filter_cons_of_pos hp, List.filter_nil]
        refine .up ?_ ((h3.ex e).app (.one hv))
        rw [List.mem_append, List.mem_singleton]
        rintro (z | z)
        · exact h5 z
        · exact hDa z.symm
      · rw [List.nodup_append]
        exact ⟨h4, by simp, fun b hb c hc => by rw [List.mem_singleton.mp hc]; exact fun z => haN (z ▸ hb)⟩
      · rw [List.mem_append, List.mem_singleton]
        rintro (z | z)
        · exact h5 z
        · exact hDa z.symm
      · intro b hb
        rcases List.mem_append.mp hb with h | h
        · exact h6 b h
        · rw [List.mem_singleton.mp h]; exact Ex.free h2 ha
    · intro hp H4 e
      refine (hWi _ _).mpr ⟨ts, e.get h1, h2.trans e, ?_, h4, h5, h6⟩
      rw [ht, List.filter_append, List.filter_cons_of_neg (by rw [hp]; decide), List.filter_nil, List.append_nil]
      exact h3.ex e
  · have e : i = ys.length := by omega
    subst e
    rw [List.take_length] at h3
    exact .inl ⟨hR.stop H (hS H h2), hd D H ts hD h2 h1 h3 h4 h5 h6⟩
/-- no test -/
theorem lc_objs0 {α : Type} {ys : List α} {val : α → V} {te : TE} {vs : List Nat} {Q : VK} (hR : RunsV J ys val S) (hS : ∀ H', Ex H1 H' → S H') (hz : ys.length < 1000000) (o : α → HO)
    (hs : ∀ y H', y ∈ ys → Ex H1 H' → ∀ (B : V → Hp → Prop), (∀ a H'', H' a = none → Ex H' H'' → H'' a = some (o y) → B (.ref a) H'') → g (val y) (wipe σ vs) H' fun σ2 H2 => wipe σ2 vs = wipe σ vs ∧ te σ2 H2 B)
    (hd : ∀ D H' ts, H1 D = none → Ex H1 H' → H' D = some (.lst (ts.map V.ref)) → ObjsAt H' ts (ys.map o) → ts.Nodup → D ∉ ts → (∀ a ∈ ts, H1 a = none) → Q (.ref D) H')
    (hg : ∀ v σ H (P P' : L2.St → Hp → Prop), (∀ σ H, P σ H → P' σ H) → g v σ H P → g v σ H P' := by intro _ _ _ _ _ k h; exact k _ _ h) : LcGoal J g tYes te vs σ Q H1 := by
  refine lc_objs hR hS hz (fun _ => true) o (fun y H' hy e B A h1 h2 => ?_) (fun D H' ts hD e h h3 h4 h5 h6 => hd D H' ts hD e h ?_ h4 h5 h6)
  · exact hg _ _ _ _ _ (fun σ2 H2 h => ⟨h.1, h.2⟩) (hs y H' hy e B (h1 rfl))
  · rwa [List.filter_eq_self.mpr (fun _ _ => rfl)] at h3
end
/-! ### steps -/
section
variable {H : Hp} {Q : VK} {σ : L2.St}
theorem st_ext {l b : Addr} {xs zs : List V} (h1 : H l = some (.lst xs)) (h2 : H b = some (.lst zs)) (hz : xs.length + zs.length ≤ 16777216) (h : Q .non (upd H l (.lst (xs ++ zs)))) : rExtend (.ref l) [.ref b] H Q := ⟨l, b, xs, zs, rfl, rfl, h1, h2, by rw [sl16]; exact hz, h⟩
def DGet2P (a : Addr) (y z : V) (Q : VK) (H : Hp) : Prop := ∃ o, DGet H a y o ∧ Q (o.getD z) H
theorem st_dget2 {td ty tx : TE} (h : td σ H fun x H1 => ∃ a, x = .ref a ∧ IsD H1 a ∧ ty σ H1 fun y H2 => tx σ H2 fun z H3 => DGet2P a y z Q H3) : tDGet2 td ty tx σ H Q := h
theorem st_isD {a : Addr} {kvs : List (Key × V)} {P : Addr → Prop} (h1 : H a = some (.dK kvs)) (h : P a) : ∃ b, V.ref a = .ref b ∧ IsD H b ∧ P b := ⟨a, rfl, .inl ⟨kvs, .inl h1⟩, h⟩
theorem st_dget2P {a : Addr} {k : Key} {z : V} {kvs : List (Key × V)} (h1 : H a = some (.dK kvs)) (h : Q ((valV kvs k).getD z) H) : DGet2P a (kV k) z Q H := ⟨_, .inl ⟨kvs, k, .inl h1, rfl, rfl⟩, h⟩
def DSetP (a : Addr) (y z : V) (Q : VK) (H3 : Hp) : Prop := ∃ (kvs : List (Key × V)) (k : Key), H3 a = some (.dK kvs) ∧ y = kV k ∧ kvs.length < sizeLine ∧ (∀ v, valV kvs k = some v → Q v H3) ∧ (valV kvs k = none → Q z (upd H3 a (.dK (putK kvs k z))))
theorem st_dsetd {td ty tx : TE} (h : td σ H fun x H1 => ∃ a, x = .ref a ∧ IsD H1 a ∧ ty σ H1 fun y H2 => tx σ H2 fun z H3 => DSetP a y z Q H3) : tDSetd td ty tx σ H Q := h
theorem st_dsetP {a : Addr} {z : V} {kvs : List (Key × V)} (k : Key) (h1 : H a = some (.dK kvs)) (hl : kvs.length < 16777216) (h2 : ∀ v, valV kvs k = some v → Q v H) (h3 : valV kvs k = none → Q z (upd H a (.dK (putK kvs k z)))) : DSetP a (kV k) z Q H := ⟨kvs, k, h1, rfl, by rw [sl16]; exact hl, h2, h3⟩
/-- {} -/
def DNew (Q : VK) (H : Hp) : Prop := ∀ p H', H p = none → Ex H H' → H' p = some (.dK []) → Q (.ref p) H'
theorem st_dnew (h : DNew Q H) : tDNewK σ H Q := fun p hp => h p _ hp (Fr.new hp) upd_same
theorem st_dnewP (h : ∀ p H', H p = none → Ex H H' → H' p = some (.dK []) → Q (.ref p) H') : DNew Q H := h
end
theorem at_nat {α : Type} {xs : List α} {i : Nat} {a : α} (h : xs[i]? = some a) : atI xs (i : Int) = some a := by
  unfold atI
  rw [Evl.ixN_nat (List.getElem?_eq_some_iff.mp h).1]
  exact h
theorem at_mapN {α β : Type} {f : α → β} {xs : List α} {i : Nat} {a : α} (h : xs[i]? = some a) : atI (xs.map f) (i : Int) = some (f a) := at_nat (by rw [List.getElem?_map, h]; rfl)
theorem snoc_ind {α : Type} {P : List α → Prop} (h0 : P []) (hs : ∀ l a, P l → P (l ++ [a])) (l : List α) : P l := by
  have h : ∀ r : List α, P r.reverse := by
    intro r
    induction r with
    | nil => exact h0
    | cons a r ih => rw [List.reverse_cons]; exact hs _ _ ih
  have := h l.reverse
  rwa [List.reverse_reverse] at this
theorem nodup_map {α β : Type} {f : α → β} {l : List α} (nd : l.Nodup) (h : ∀ a b, f a = f b → a = b) : (l.map f).Nodup := List.pairwise_map.mpr (List.Pairwise.imp (fun n e => n (h _ _ e)) nd)
theorem valV_none {kvs : List (Key × V)} {k : Key} : valV kvs k = none ↔ ∀ q ∈ kvs, q.1 ≠ k := by
  unfold valV
  rw [Option.map_eq_none_iff, List.find?_eq_none]
  simp
theorem putK_new {kvs : List (Key × V)} {k : Key} {v : V} (h : valV kvs k = none) : putK kvs k v = kvs ++ [(k, v)] := by
  unfold putK
  rw [if_neg]
  rw [List.any_eq_true]
  rintro ⟨q, hq, e⟩
  exact valV_none.mp h q hq (by simpa using e)
theorem valV_at {kvs : List (Key × V)} {k : Key} {v : V} {i : Nat} (nd : (kvs.map (·.1)).Nodup) (h : kvs[i]? = some (k, v)) : valV kvs k = some v := by
  induction kvs generalizing i with
  | nil => simp at h
  | cons a r ih =>
    rw [List.map_cons, List.nodup_cons] at nd
    cases i with
    | zero =>
      have e : a = (k, v) := by simpa using h
      subst e
      unfold valV
      simp
    | succ i =>
      have h' : r[i]? = some (k, v) := by simpa using h
      have hm : k ∈ r.map (·.1) := List.mem_map.mpr ⟨(k, v), List.mem_of_getElem? h', rfl⟩
      have ne : a.1 ≠ k := fun z => nd.1 (z ▸ hm)
      have := ih nd.2 h'
      unfold valV at this ⊢
      rw [List.find?_cons_of_neg (by simpa using ne)]
      exact this
end Zb

/-! sorted, pop, while, is True; lists of pairs as tuples -/
namespace Zb
open PySem PySem.Spec PyProof.Rows L2
theorem Ex.trans {H H1 H2 : Hp} (a : Ex H H1) (b : Ex H1 H2) : Ex H H2 := Fr.trans a b
section
variable {X : Cx} {H : Hp} {Q : VK} {σ : L2.St} {K : PySem.W.Frag}
def rIsB : R2 := fun x y H Q => ∃ a b, x = .bl a ∧ y = .bl b ∧ Q (.bl (decide (a = b))) H
def rNotB : R2 := fun x y H Q => ∃ a b, x = .bl a ∧ y = .bl b ∧ Q (.bl (!decide (a = b))) H
theorem o_isB : OpR X (compareOp .Is) rIsB := op_is_bl
theorem o_notB : OpR X (compareOp .IsNot) rNotB := op_isnot_bl
theorem c_sortI (hK : X.K = K := by rfl) : CallR X (.builtin "sorted") (rSortedI K) := by subst hK; exact cr_sortedI
theorem c_sortP (hK : X.K = K := by rfl) : CallR X (.builtin "sorted") (rSortedPO K) := by subst hK; exact cr_sortedPO
theorem c_sum (hc : X.calm = true) (hK : X.K = K := by rfl) : CallR X (.builtin "sum") (rSum K) := by subst hK; exact cr_sum hc
theorem c_any (hc : X.calm = true) (hK : X.K = K := by rfl) : CallR X (.builtin "any") (rAny K) := by subst hK; exact cr_any hc
theorem st_isB2 {a b : Bool} (h : Q (.bl (decide (a = b))) H) : rIsB (.bl a) (.bl b) H Q := ⟨a, b, rfl, rfl, h⟩
theorem st_notB2 {a b : Bool} (h : Q (.bl (!decide (a = b))) H) : rNotB (.bl a) (.bl b) H Q := ⟨a, b, rfl, rfl, h⟩
theorem st_popAt {l : Addr} {xs : List V} {i : Int} {y : V} (h1 : H l = some (.lst xs)) (h0 : 0 ≤ i) (hi : i < 1000000000) (hy : xs[i.toNat]? = some y) (h : Q y (upd H l (.lst (xs.eraseIdx i.toNat)))) : rPopAt (.ref l) [.int i] H Q := by
  have hl := (List.getElem?_eq_some_iff.mp hy).1
  refine ⟨l, xs, i, i.toNat, y, rfl, rfl, h1, by omega, by omega, ?_, hy, h⟩
  unfold seqIndex?
  have n0 : ¬ i < 0 := by omega
  simp only [n0, if_false]
  rw [if_pos (by simp; omega)]
theorem st_pop {l : Addr} {xs : List V} {y : V} (h1 : H l = some (.lst xs)) (hy : xs[xs.length - 1]? = some y) (h : Q y (upd H l (.lst xs.dropLast))) : rPop (.ref l) [] H Q := ⟨l, xs, y, rfl, rfl, h1, hy, h⟩
theorem st_sortI {p : Addr} {ns : List Int} (h1 : SqL K H p (ns.map V.int)) (h : ∀ (ns' : List Int) (q : Addr) (H' : Hp), ns'.Perm ns → ns'.Pairwise (· ≤ ·) → H q = none → Ex H H' → H' q = some (.lst (ns'.map V.int)) → Q (.ref q) H') : rSortedI K [.ref p] H Q :=
  ⟨p, ns, rfl, h1, fun ns' q hp hs hq => h ns' q _ hp hs hq (Fr.new hq) upd_same⟩
theorem st_chain {r r' : R2} {ta tb tc : TE} (h : ta σ H fun x H1 => tb σ H1 fun y H2 => r x y H2 fun z H3 => ∃ k, z = .bl k ∧ (if k = true then tc σ H3 fun w' H4 => r' y w' H4 Q else Q (.bl false) H3)) : tChain r r' ta tb tc σ H Q := h
def isIntV : V → Bool
  | .int _ => true
  | .bl _ => true
  | _ => false
def isBoolV : V → Bool
  | .bl _ => true
  | _ => false
theorem kb_int : kitB "NoneType" "int" = some false ∧ kitB "bool" "int" = some true ∧ kitB "int" "int" = some true ∧ kitB "str" "int" = some false ∧ kitB "list" "int" = some false ∧ kitB "tuple" "int" = some false ∧ kitB "dict" "int" = some false := by decide +kernel
theorem st_isIntT {x : V} (h1 : Ty H x) (h : Q (.bl (isIntV x)) H) : rIs [x, .ty "int"] H Q := by
  obtain ⟨t, h1⟩ := h1
  obtain ⟨k1, k2, k3, k4, k5, k6, k7⟩ := kb_int
  refine st_is h1 (b := isIntV x) ?_ h
  cases x with
  | ref p =>
    have h1 : tyO (H p) = some t := h1
    unfold tyO at h1
    split at h1 <;> first | (cases h1; assumption) | cases h1
  | _ => first | (cases h1; assumption) | cases h1
theorem st_isBoolT {x : V} (h1 : Ty H x) (h : Q (.bl (isBoolV x)) H) : rIs [x, .ty "bool"] H Q := by
  obtain ⟨t, h1⟩ := h1
  obtain ⟨k1, k2, k3, k4, k5, k6, k7⟩ := kb_bool
  refine st_is h1 (b := isBoolV x) ?_ h
  cases x with
  | ref p =>
    have h1 : tyO (H p) = some t := h1
    unfold tyO at h1
    split at h1 <;> first | (cases h1; assumption) | cases h1
  | _ => first | (cases h1; assumption) | cases h1
/-- a value as a test -/
def tTru (K : PySem.W.Frag) (ta : TE) : TT := fun σ H B => ta σ H fun x H' => ∃ k, TruV K x H' k ∧ B k H'
theorem pt_tru {a : Expr} {ta : TE} (ha : PE X a ta) (he : ∀ whole, isTrue a X.env whole = (do let v ← whole; standAt a.pos; holding [v] (truthy v))) (hK : X.K = K := by rfl) : PT X a (tTru K ta) := by subst hK; exact pt_truth ha he
theorem st_tru {ta : TE} {B : Bool → Hp → Prop} (h : ta σ H fun x H' => ∃ k, TruV K x H' k ∧ B k H') : tTru K ta σ H B := h
theorem st_truB {b : Bool} {P : Bool → Prop} (h : P b) : ∃ k, TruV K (.bl b) H k ∧ P k := ⟨b, rfl, h⟩
theorem st_truI {i : Int} {P : Bool → Prop} (h : P (i != 0)) : ∃ k, TruV K (.int i) H k ∧ P k := ⟨_, rfl, h⟩
def WhPost (W : Nat → L2.St → Hp → Prop) (m : Nat) (tb : TS) (D : Ends) (σ : L2.St) : Bool → Hp → Prop := fun b H1 => if b = true then ∃ N : L2.St → Hp → Prop, (∀ σ' H', N σ' H' → ∃ m', m' < m ∧ W m' σ' H') ∧ tb { D with nx := N, ct := N, bk := D.nx } σ H1 else D.nx σ H1
def WhGoal (c : TT) (tb : TS) (D : Ends) (σ : L2.St) (H : Hp) : Prop := ∃ W : Nat → L2.St → Hp → Prop, (∃ m, W m σ H) ∧ ∀ m σ H, W m σ H → c σ H (WhPost W m tb D σ)
theorem st_while {c : TT} {tb : TS} {D : Ends} (h : WhGoal c tb D σ H) : tWhile c tb D σ H := h
/-- W: the word of the loop, with a number that falls -/
theorem while_inv {c : TT} {tb : TS} {D : Ends} (W : Nat → L2.St → Hp → Prop) (h0 : ∃ m, W m σ H) (hs : ∀ m σ H, W m σ H → c σ H (WhPost W m tb D σ)) : WhGoal c tb D σ H := ⟨W, h0, hs⟩
theorem wh_T {W : Nat → L2.St → Hp → Prop} {m : Nat} {tb : TS} {D : Ends} {b : Bool} (hb : b = true) (h : tb { D with nx := fun σ' H' => ∃ m', m' < m ∧ W m' σ' H', ct := fun σ' H' => ∃ m', m' < m ∧ W m' σ' H', bk := D.nx } σ H) : WhPost W m tb D σ b H := by
  unfold WhPost
  rw [if_pos hb]
  exact ⟨_, fun _ _ z => z, h⟩
theorem wh_F {W : Nat → L2.St → Hp → Prop} {m : Nat} {tb : TS} {D : Ends} {b : Bool} (hb : b = false) (h : D.nx σ H) : WhPost W m tb D σ b H := by
  unfold WhPost
  rw [hb, if_neg Bool.false_ne_true]
  exact h
end
/-! ### pairs as tuples -/
def tupO (q : Nat × Nat) : HO := .tup [.int (q.1 : Nat), .int (q.2 : Nat)]
abbrev ZP := Addr × (Nat × Nat)
abbrev zV (z : ZP) : V := .ref z.1
/-- each of these stands as its tuple -/
def TP (H : Hp) (zs : List ZP) : Prop := ∀ z ∈ zs, H z.1 = some (tupO z.2)
section
variable {H H' : Hp} {zs ys : List ZP}
theorem TP.ex (h : TP H zs) (e : Ex H H') : TP H' zs := fun z hz => e.get (h z hz)
theorem TP.sub (h : TP H zs) (e : ∀ z ∈ ys, z ∈ zs) : TP H ys := fun z hz => h z (e z hz)
theorem tup_ne_purse {a p : Addr} {q : Nat × Nat} (h : H a = some (tupO q)) (hp : Purse H p) : a ≠ p := fun e => by
  obtain ⟨x, y, z, hp⟩ := hp
  rw [e, hp] at h
  cases h
theorem zs_ne_purse {a p : Addr} (h : H a = some (.lst (zs.map zV))) (hp : Purse H p) : a ≠ p := fun e => by
  obtain ⟨x, y, z, hp⟩ := hp
  rw [e, hp] at h
  cases zs with
  | nil => cases h
  | cons c r =>
    have h : HO.lst [V.int x, V.int y, V.int z] = HO.lst (V.ref c.1 :: r.map zV) := Option.some.inj h
    cases h
theorem TP.frp {p : Addr} (h : TP H zs) (hp : Purse H p) (e : FrP p H H') : TP H' zs := fun z hz => e.get (tup_ne_purse (h z hz) hp) (h z hz)
theorem TP.up {D : Addr} {xs : List V} {u : HO} (h : TP H zs) (hD : H D = some (.lst xs)) : TP (upd H D u) zs := fun z hz => by
  rw [upd_ne fun e => ?_]
  · exact h z hz
  · have := h z hz
    rw [e, hD] at this
    cases this
theorem TP.app (h : TP H zs) (k : TP H ys) : TP H (zs ++ ys) := fun z hz => by
  rcases List.mem_append.mp hz with q | q
  · exact h z q
  · exact k z q
theorem TP.cons {z : ZP} (h : H z.1 = some (tupO z.2)) (k : TP H ys) : TP H (z :: ys) := fun y hy => by
  rcases List.mem_cons.mp hy with q | q
  · rw [q]; exact h
  · exact k y q
theorem TP.perm (h : TP H zs) (e : ys.Perm zs) : TP H ys := h.sub fun z hz => e.mem_iff.mp hz
def encQ (q : Nat × Nat) : PyData := .tuple [.int (q.1 : Nat), .int (q.2 : Nat)]
theorem TP.rp1 {z : ZP} (h : H z.1 = some (tupO z.2)) : Rp H (zV z) (encQ z.2) := .tup (tup_of h) (.cons (.int _) (.cons (.int _) .nil))
theorem TP.rp (h : TP H zs) : RpA H (zs.map zV) (zs.map fun z => encQ z.2) := rpA_map fun z hz => TP.rp1 (h z hz)
theorem TP.rpL {a : Addr} (h : TP H zs) (ha : H a = some (.lst (zs.map zV))) : Rp H (.ref a) (.list (zs.map fun z => encQ z.2)) := .lst (lst_of ha) h.rp
theorem encQ_depth (q : Nat × Nat) : (encQ q).depth ≤ 2 := by simp [encQ, PyData.depth, PyData.depthAll]
theorem zs_depth (zs : List ZP) : (PyData.list (zs.map fun z => encQ z.2)).depth ≤ 64 := by
  have : PyData.depthAll (zs.map fun z => encQ z.2) ≤ 2 := depth_map fun z _ => encQ_depth z.2
  simp only [PyData.depth]
  omega
theorem eqv_encQ (a b : Nat × Nat) : PyData.eqv (encQ a) (encQ b) = decide (a = b) := by
  obtain ⟨a1, a2⟩ := a
  obtain ⟨b1, b2⟩ := b
  simp only [encQ, PyData.eqv, PyData.eqvAll, Bool.and_true]
  rw [Bool.eq_iff_iff]
  simp [Prod.ext_iff]
  omega
theorem eqv_zs (zs ys : List ZP) : PyData.eqv (.list (zs.map fun z => encQ z.2)) (.list (ys.map fun z => encQ z.2)) = decide (zs.map (·.2) = ys.map (·.2)) := by
  have h := eqv_list (enc := encQ) eqv_encQ (zs.map (·.2)) (ys.map (·.2))
  rw [List.map_map, List.map_map] at h
  exact h
end
/-- pairs in the order of their firsts, then of their seconds -/
def lexLe (a b : Nat × Nat) : Prop := a.1 < b.1 ∨ (a.1 = b.1 ∧ a.2 ≤ b.2)
theorem sorted_uniq : ∀ {l m : List (Nat × Nat)}, l.Pairwise lexLe → m.Pairwise lexLe → l.Perm m → l = m
  | [], m, _, _, h => (List.Perm.eq_nil h.symm).symm
  | x :: l, [], _, _, h => absurd h.length_eq (by simp)
  | x :: l, y :: m, hl, hm, h => by
    obtain ⟨l1, l2⟩ := List.pairwise_cons.mp hl
    obtain ⟨m1, m2⟩ := List.pairwise_cons.mp hm
    have h1 : lexLe y x := by
      rcases List.mem_cons.mp (h.mem_iff.mp (List.mem_cons_self (a := x) (l := l))) with e | hx
      · rw [e]; exact .inr ⟨rfl, Nat.le_refl _⟩
      · exact m1 x hx
    have h2 : lexLe x y := by
      rcases List.mem_cons.mp (h.mem_iff.mpr (List.mem_cons_self (a := y) (l := m))) with e | hy
      · rw [e]; exact .inr ⟨rfl, Nat.le_refl _⟩
      · exact l1 y hy
    have e : x = y := by
      obtain ⟨a, b⟩ := x
      obtain ⟨c, d⟩ := y
      unfold lexLe at h1 h2
      dsimp only at h1 h2
      have : a = c := by omega
      have : b = d := by omega
      simp [*]
    subst e
    rw [sorted_uniq l2 m2 h.cons_inv]
section
variable {H : Hp} {K : PySem.W.Frag} {Q : VK}
/-- the two ints of the tuple that v is -/
def pairAt (H : Hp) (v : V) : Int × Int := match v with
  | .ref t => match H t with
    | some (.tup [.int i, .int j]) => (i, j)
    | _ => (0, 0)
  | _ => (0, 0)
theorem pairAt_of {t : Addr} {i j : Int} (h : H t = some (.tup [.int i, .int j])) : pairAt H (.ref t) = (i, j) := by
  unfold pairAt
  simp only [h]
/-- refs to tuples of two ints, each by what it is -/
abbrev GP (α : Type) := Addr × α
abbrev gV {α : Type} (z : GP α) : V := .ref z.1
def TG2 {α : Type} (enc : α → Int × Int) (H : Hp) (zs : List (GP α)) : Prop := ∀ z ∈ zs, H z.1 = some (.tup [.int (enc z.2).1, .int (enc z.2).2])
def lexI (a b : Int × Int) : Prop := a.1 < b.1 ∨ (a.1 = b.1 ∧ a.2 ≤ b.2)
theorem perm_mapV {α β : Type} [DecidableEq α] (f : α → β) : ∀ (ys : List β) (zs : List α), ys.Perm (zs.map f) → ∃ zs' : List α, zs'.Perm zs ∧ ys = zs'.map f := by
  intro ys
  induction ys with
  | nil =>
    intro zs hp
    have := hp.length_eq
    rw [List.length_map] at this
    have : zs = [] := List.eq_nil_of_length_eq_zero this.symm
    subst this
    exact ⟨[], .nil, rfl⟩
  | cons y ys ih =>
    intro zs hp
    obtain ⟨z, hz, e⟩ := List.mem_map.mp (hp.mem_iff.mp List.mem_cons_self)
    subst e
    have hz2 : zs.Perm (z :: zs.erase z) := List.perm_cons_erase hz
    have hp2 : ys.Perm ((zs.erase z).map f) := by
      have : (f z :: ys).Perm (f z :: (zs.erase z).map f) := hp.trans (hz2.map f)
      exact this.cons_inv
    obtain ⟨zs', h1, h2⟩ := ih _ hp2
    exact ⟨z :: zs', (List.Perm.cons z h1).trans hz2.symm, by rw [h2]; rfl⟩
theorem st_sortG {α : Type} [DecidableEq α] (enc : α → Int × Int) {p : Addr} {zs : List (GP α)} (h1 : SqL K H p (zs.map gV)) (ht : TG2 enc H zs) (h : ∀ (ys : List (GP α)) q H', ys.Perm zs → (ys.map fun z => enc z.2).Pairwise lexI → H q = none → Ex H H' → H' q = some (.lst (ys.map gV)) → Q (.ref q) H') : rSortedPO K [.ref p] H Q := by
  have hk : ∀ z ∈ zs, pairAt H (gV z) = enc z.2 := fun z hz => pairAt_of (ht z hz)
  refine ⟨p, zs.map gV, pairAt H, rfl, h1, fun x hx => ?_, fun ys q hs hst hq => ?_⟩
  · obtain ⟨z, hz, rfl⟩ := List.mem_map.mp hx
    refine ⟨z.1, rfl, ?_⟩
    rw [hk z hz]
    exact ht z hz
  · obtain ⟨zs', hp, rfl⟩ := perm_mapV gV ys zs hst.perm
    refine h zs' q _ hp ?_ hq (Fr.new hq) upd_same
    have hs2 := List.pairwise_map.mp hs
    rw [List.pairwise_map]
    refine List.Pairwise.imp_of_mem (fun {a b} ha hb hab => ?_) hs2
    have a2 := hk a (hp.mem_iff.mp ha)
    have b2 := hk b (hp.mem_iff.mp hb)
    have hab : SrtO.lexB (pairAt H (gV b)) (pairAt H (gV a)) = false := hab
    rw [a2, b2] at hab
    have := SrtO.lexB_no.mp hab
    unfold lexI
    omega
/-- sorted of a list of pairs of naturals -/
theorem st_sortZ {p : Addr} {zs : List ZP} (h1 : SqL K H p (zs.map zV)) (ht : TP H zs) (h : ∀ (ys : List ZP) q H', ys.Perm zs → (ys.map (·.2)).Pairwise lexLe → H q = none → Ex H H' → H' q = some (.lst (ys.map zV)) → Q (.ref q) H') : rSortedPO K [.ref p] H Q := by
  refine st_sortG (fun q : Nat × Nat => ((q.1 : Int), (q.2 : Int))) (zs := zs) h1 ht fun ys q H' hp hs => h ys q H' hp ?_
  rw [List.pairwise_map] at hs ⊢
  refine hs.imp fun {a b} hab => ?_
  unfold lexI at hab
  unfold lexLe
  dsimp only at hab
  omega
end
end Zb

/-! repr of data: where it is known that no list is being shown -/
namespace Zb
open PySem PySem.Spec PyProof.Rows L2
/-- a def's promise, where no list is being shown -/
structure FnG (P : Program) (w : World) (K : PySem.W.Frag) (mg : Str → Option Value) (base : Heap) (CX : CXT) (k : Nat) (f : Addr) (fd : FuncData) (ps : List Str) (sp : Sp) : Prop where
  len : ∀ vs H Q E, sp vs H Q E → vs.length = ps.length
  go : ∀ (A : Around) (outer : List Env) (s : Shared) (H : Hp) (args : Args) (us : List Value) (vs : List V) (Q : VK) (E : XK), A.guards = some [] → Room k A → Env0 P w K mg base A outer s H → BindsTo s fd args (ps.zip us) → Vals vs us → sp vs H Q E →
    codeAny (model P w) A (.call (.ref f) args) (CR CX outer P w H s Q E) s
section
variable {P : Program} {w : World} {K : PySem.W.Frag} {mg : Str → Option Value} {base : Heap} {k : Nat} {f : Addr} {fd : FuncData} {ps : List Str} {sp : Sp}
theorem FnG.of {CX : CXT} (F : FnOk P w K mg base CX k f fd ps sp) : FnG P w K mg base CX k f fd ps sp := ⟨F.len, fun A outer s H args us vs Q E _ => F.run A outer s H args us vs Q E⟩
/-- .. by its body -/
theorem okG {x qual : Str} {st : Stmt} {N : List Str} (F : Fun K x qual st f fd) (S : FnScope N ps (defScope st)) (len : ∀ vs H Q E, sp vs H Q E → vs.length = ps.length)
    (hbody : ∀ (cdv : Value) (A : Around) (outer : List Env) (s : Shared) (H : Hp) (vs : List V) (Q : VK) (E : XK), (A.deeper (envOfC qual (defScope st) s.heap.objs.size f cdv)).guards = some [] → Room k (A.deeper (envOfC qual (defScope st) s.heap.objs.size f cdv)) → sp vs H Q E →
      ∃ t, PSs (cxOf CX0 P w K mg base N qual (defScope st) f cdv A outer s H E).nox (defBody st) t ∧ t { nx := fun _ H' => Q .non H', rt := Q } (start N vs) H) : FnG P w K mg base CX0 (k + 1) f fd ps sp := by
  obtain ⟨oc, od, kV, doc, pm, an, cdv, ct, osl, rfl, lk, hcd⟩ := F.ex
  refine ⟨len, fun A outer s H args us vs Q E hg hr e0 hb rv hsp => ?_⟩
  have inK : K.In s.heap := e0.mod.kin.keeps fun b o e => (e0.bs b o e).1
  have noLim : s.heap.NoLimit := e0.mod.nolimit.keeps fun b o e => (e0.bs b o e).1
  refine codeAny_call_function hr.depth (inK _ _ lk) rfl S.co S.gen rfl (PySem.W.codeRec_of inK hcd) (hb _ _ _ _ (wpAny_newFunctionEnv_cells S.kind (fun y hy => ?_) fun env he s1 x => ?_))
  · obtain ⟨n, v⟩ := y
    exact (S.par n (List.of_mem_zip hy).1).imp id fun q => ⟨q, PySem.W.cellsFrom_some _ _ _ (.inl q)⟩
  · subst he
    obtain ⟨t, ht, hq⟩ := hbody cdv A outer s H vs Q E hg (hr.deeper _) hsp
    refine ⟨noLim.keeps x.toInCall.keep, codeAny_func (wpAny_mono (ht.nox.run [] s1 (start N vs) H _ (inv_start S hr.hd e0 (len _ _ _ _ hsp) rv x) hq) (fun fl s' z => ?_) fun _ _ z => z)⟩
    cases fl with
    | next => obtain ⟨σ', H', J, q⟩ := z; exact ⟨.non, H', J.os, J.bare, J.base, J.hok, rfl, q⟩
    | ret u => obtain ⟨v, σ', H', J, r, q⟩ := z; exact ⟨v, H', J.os, J.bare, J.base, J.hok, r, q⟩
    | brk => obtain ⟨_, _, _, q⟩ := z; exact q.elim
    | cont => obtain ⟨_, _, _, q⟩ := z; exact q.elim
end
section
variable {X : Cx} {k : Nat} {f : Addr} {fd : FuncData} {ps : List Str} {sp : Sp} {x : Str} {p pos : Pos} {e : Expr} {es : List Expr} {t : TA}
/-- a call, where no list is being shown -/
theorem pe_callG (F : FnG X.prog X.w X.K X.mg X.base CX0 k f fd ps sp) (hg : X.A.guards = some []) (hr : Room k X.A) (gl : Gl X x) (hm : X.mg x = some (.ref f)) (hk : PySem.W.keepIn X.K (.ref f) = true) (hb : Binds X.K fd ps [])
    (ha : PA X (e :: es) t) (hdb : (x == ("__debug__" : Str)) = false := by decide) (he : starEach (e :: es) X.env = (false, eval e X.env) :: starEach es X.env := by rfl) (hpl : (backTo pos (starEach es X.env)).any (·.1) = false := by rfl) :
    PE X (.Call (.Name x p) (e :: es) [] pos) (tCall sp [] E0 t) := by
  refine ⟨fun pins s σ H Q I h => wpAny_Call_Name_kw (ld_glob I gl hm ?_ hdb)⟩
  refine PySem.W.callWith_K (h₀ := X.base) I.ok.mod.kin hk (thn (ha.run pos pins s σ H _ I h) fun us s1 ⟨vs, H1, I1, rv, q⟩ => ⟨I1.kIn, ?_⟩) he hpl
  have q' : sp vs H1 Q E0 := by simpa using q
  have hl : us.length = ps.length := by rw [← rv.length]; exact F.len _ _ _ _ q'
  have b := hb s1 us I1.kIn (by rw [List.append_nil]; exact hl)
  rw [List.append_nil] at b
  refine wpAny_call (codeAny_mono (F.go X.A X.stack s1 H1 ⟨us, []⟩ us vs Q E0 hg hr I1.env0 b rv q') fun r s' z => ?_)
  match r, z with
  | .ok (.ret u), z => exact I1.after z
  | .ok .next, z => exact z.elim
  | .ok .brk, z => exact z.elim
  | .ok .cont, z => exact z.elim
  | .error _, z => exact z.elim
end
/-! ### data, dicts by ints and texts among it -/
def keyD : Key → PyData
  | .inl i => .int i
  | .inr x => .str x
mutual
inductive Rq (H : Hp) : V → PyData → Prop
  | non : Rq H .non .none
  | bl (b : Bool) : Rq H (.bl b) (.bool b)
  | int (i : Int) : Rq H (.int i) (.int i)
  | str (x : Str) : Rq H (.str x) (.str x)
  | lst {a : Addr} {xs : List V} {ds : List PyData} : lstAt H a = some xs → RqA H xs ds → Rq H (.ref a) (.list ds)
  | tup {a : Addr} {xs : List V} {ds : List PyData} : tupAt H a = some xs → RqA H xs ds → Rq H (.ref a) (.tuple ds)
  | dk {a : Addr} {kvs : List (Key × V)} {ds : List PyData} : H a = some (.dK kvs) → RqA H (kvs.map (·.2)) ds → Rq H (.ref a) (.dict ((kvs.map fun q => keyD q.1).zip ds))
inductive RqA (H : Hp) : List V → List PyData → Prop
  | nil : RqA H [] []
  | cons {v : V} {vs : List V} {d : PyData} {ds : List PyData} : Rq H v d → RqA H vs ds → RqA H (v :: vs) (d :: ds)
end
theorem RqA.len {H : Hp} : ∀ {vs : List V} {ds : List PyData}, RqA H vs ds → vs.length = ds.length
  | _, _, .nil => rfl
  | _, _, .cons _ k => congrArg (· + 1) k.len
theorem Rq.dk0 {H : Hp} {a : Addr} (h : H a = some (.dK [])) : Rq H (.ref a) (.dict []) := .dk h .nil
mutual
theorem Rp.rq {H : Hp} : ∀ {v : V} {d : PyData}, Rp H v d → Rq H v d
  | _, _, .non => .non
  | _, _, .bl b => .bl b
  | _, _, .int i => .int i
  | _, _, .str x => .str x
  | _, _, .lst h k => .lst h (RpA.rq k)
  | _, _, .tup h k => .tup h (RpA.rq k)
theorem RpA.rq {H : Hp} : ∀ {vs : List V} {ds : List PyData}, RpA H vs ds → RqA H vs ds
  | _, _, .nil => .nil
  | _, _, .cons h k => .cons (Rp.rq h) (RpA.rq k)
theorem noDict {H : Hp} : ∀ {v : V} {d : PyData}, Rp H v d → d.hasDict = false
  | _, _, .non => rfl
  | _, _, .bl b => rfl
  | _, _, .int i => rfl
  | _, _, .str x => rfl
  | _, _, .lst h k => by simp only [PyData.hasDict]; exact noDictA k
  | _, _, .tup h k => by simp only [PyData.hasDict]; exact noDictA k
theorem noDictA {H : Hp} : ∀ {vs : List V} {ds : List PyData}, RpA H vs ds → PyData.hasDictAll ds = false
  | _, _, .nil => rfl
  | _, _, .cons h k => by simp only [PyData.hasDictAll, noDict h, noDictA k, Bool.or_self]
end
section
variable {X : Cx} {pins : List (Addr × Obj)} {σ : L2.St} {H : Hp} {s : Shared}
theorem pairs_keys {h : Heap} {P : Program} {w : World} : ∀ {es : List DictEntry} {kvs : List (Key × V)} {vs : List (Key × Value)}, Pairs (mixKind P w) es vs → KV kvs vs → ∃ as, ReadsAll h (es.map (·.key)) (kvs.map fun q => keyD q.1) as
  | _, _, _, .nil, .nil => ⟨_, .nil⟩
  | _, _, _, .cons (e := e) (kv := kv) h1 h2 h3, .cons (a := p) q r => by
    obtain ⟨as, k⟩ := pairs_keys (h := h) h3 r
    have hk : (mixKind P w).is kv.1 e.key = true := h1
    rcases keyIs_shape hk with ⟨i, t, e1, e2⟩ | ⟨x, t, e1, e2⟩
    · refine ⟨_, .cons (as := []) ?_ k⟩
      show Reads h e.key (keyD p.1) []
      rw [q.1, e1, e2]
      exact .int i t
    · refine ⟨_, .cons (as := []) ?_ k⟩
      show Reads h e.key (keyD p.1) []
      rw [q.1, e1, e2]
      exact .str x t
theorem pairs_vals {P : Program} {w : World} : ∀ {es : List DictEntry} {kvs : List (Key × V)} {vs : List (Key × Value)}, Pairs (mixKind P w) es vs → KV kvs vs → Vals (kvs.map (·.2)) (es.map (·.val))
  | _, _, _, .nil, .nil => .nil
  | _, _, _, .cons (e := e) (kv := kv) h1 h2 h3, .cons (a := p) q r => .cons (by show RelV p.2 e.val; rw [h2]; exact q.2) (pairs_vals h3 r)
theorem zip_fst {α β : Type} : ∀ {xs : List α} {ys : List β}, xs.length = ys.length → (xs.zip ys).map (·.1) = xs := fun h => List.map_fst_zip (Nat.le_of_eq h)
theorem zip_snd {α β : Type} : ∀ {xs : List α} {ys : List β}, xs.length = ys.length → (xs.zip ys).map (·.2) = ys := fun h => List.map_snd_zip (Nat.le_of_eq h.symm)
/-- a tracked dict, as an object -/
theorem dk_obj (I : Inv X pins σ H s) {a : Addr} {kvs : List (Key × V)} (h : H a = some (.dK kvs)) : (a == sysModules) = false ∧ ∃ (o : Obj) (es : Array DictEntry) (n : Nat), s.heap.get? a = some o ∧ o.cls = .type "dict" ∧ o.data = .dict es n ∧ (∃ as, ReadsAll s.heap (es.toList.map (·.key)) (kvs.map fun q => keyD q.1) as) ∧ Vals (kvs.map (·.2)) (es.toList.map (·.val)) := by
  obtain ⟨_, hs, vs, rv, o, es, ep, e1, e2, e3, _, e5, _⟩ := dk_of I.hok h
  exact ⟨hs, o, es, ep, e1, e2.1, e3, pairs_keys e5 rv, pairs_vals e5 rv⟩
mutual
theorem Rq.reads (I : Inv X pins σ H s) : ∀ {v : V} {d : PyData} {u : Value}, Rq H v d → RelV v u → ∃ as, Reads s.heap u d as
  | _, _, u, .non, r => by cases r; exact ⟨_, .none⟩
  | _, _, u, .bl b, r => by cases r; exact ⟨_, .bool b⟩
  | _, _, u, .int i, r => by obtain ⟨t, rfl⟩ := r; exact ⟨_, .int i t⟩
  | _, _, u, .str x, r => by obtain ⟨t, rfl⟩ := r; exact ⟨_, .str x t⟩
  | _, _, u, @Rq.lst _ a xs ds h k, r => by
    obtain rfl : u = Value.ref a := r
    obtain ⟨its, rv, p, _⟩ := I.list (lstAt_sq h)
    obtain ⟨as, q1⟩ := RqA.reads I k rv
    obtain ⟨o, n, e1, e2, e3, e4⟩ := p
    exact ⟨_, .list e1 e2 e4 q1⟩
  | _, _, u, @Rq.tup _ a xs ds h k, r => by
    obtain rfl : u = Value.ref a := r
    obtain ⟨its, rv, p, _⟩ := I.tuple (tupAt_sq h)
    obtain ⟨as, q1⟩ := RqA.reads I k rv
    obtain ⟨o, e1, e2, n, e3⟩ := p
    exact ⟨_, .tuple e1 e2 e3 q1⟩
  | _, _, u, @Rq.dk _ a kvs ds h k, r => by
    obtain rfl : u = Value.ref a := r
    obtain ⟨_, o, es, n, e1, e2, e3, ⟨as, kr⟩, rv⟩ := dk_obj I h
    obtain ⟨bs, vr⟩ := RqA.reads I k rv
    have hl : (kvs.map fun q => keyD q.1).length = ds.length := by rw [List.length_map, ← k.len, List.length_map]
    exact ⟨_, .dict e1 e2 e3 (by rw [zip_fst hl]; exact kr) (by rw [zip_snd hl]; exact vr)⟩
theorem RqA.reads (I : Inv X pins σ H s) : ∀ {vs : List V} {ds : List PyData} {us : List Value}, RqA H vs ds → Vals vs us → ∃ as, ReadsAll s.heap us ds as
  | _, _, us, .nil, r => by cases r; exact ⟨_, .nil⟩
  | _, _, us, .cons h k, r => by
    cases r with
    | cons r1 r2 =>
      obtain ⟨as, a1⟩ := Rq.reads I h r1
      obtain ⟨bs, b1⟩ := RqA.reads I k r2
      exact ⟨_, .cons a1 b1⟩
end
theorem keyD_noDict (kvs : List (Key × V)) : PyData.hasDictAll (kvs.map fun q => keyD q.1) = false := by
  induction kvs with
  | nil => rfl
  | cons q r ih =>
    obtain ⟨k, v⟩ := q
    rw [List.map_cons]
    simp only [PyData.hasDictAll, ih, Bool.or_false]
    cases k <;> rfl
mutual
/-- how a thing is shown within another -/
theorem Rq.showK (I : Inv X pins σ H s) : ∀ {v : V} {d : PyData} {u : Value}, Rq H v d → RelV v u → d.showable = true → d.shown.length ≤ sizeLine → ∃ bs, ReadAtMost s.heap d.depth bs ∧ ReprK X.prog X.w bs s.heap d.depth u d.shown
  | _, _, u, .non, r, hs, hz => by
    obtain ⟨as, rd⟩ := Rq.reads I .non r
    exact ReprK.of_reads rd hs (fun z => by cases z) hz
  | _, _, u, .bl b, r, hs, hz => by
    obtain ⟨as, rd⟩ := Rq.reads I (.bl b) r
    exact ReprK.of_reads rd hs (fun z => by cases z) hz
  | _, _, u, .int i, r, hs, hz => by
    obtain ⟨as, rd⟩ := Rq.reads I (.int i) r
    exact ReprK.of_reads rd hs (fun z => by cases z) hz
  | _, _, u, .str x, r, hs, hz => by
    obtain ⟨as, rd⟩ := Rq.reads I (.str x) r
    exact ReprK.of_reads rd hs (fun z => by cases z) hz
  | _, _, u, @Rq.lst _ a xs ds h k, r, hs, hz => by
    obtain ⟨as, rd⟩ := Rq.reads I (Rq.lst h k) r
    obtain rfl : u = Value.ref a := r
    obtain ⟨its, rv, p, _⟩ := I.list (lstAt_sq h)
    obtain ⟨o, n, e1, e2, e3, e4⟩ := p
    have hz' : (listText (PyData.shownAll ds)).length ≤ sizeLine := by simpa only [PyData.shown] using hz
    obtain ⟨bs, hb, hk⟩ := RqA.showK I k rv (by simpa [PyData.showable] using hs) (fun t ht => Nat.le_trans (listText_mem_le ht) hz')
    have hna : a ∉ bs := not_mem_of_deeper rd (by simp only [PyData.depth]; omega) hb
    refine ⟨a :: bs, ReadAtMost.cons rd (by simp only [PyData.depth]; omega) hb, ?_⟩
    simp only [PyData.depth, PyData.shown]
    cases its with
    | nil =>
      cases rv
      cases k
      simp only [PyData.shownAll, listText_nil]
      exact ReprK.listEmpty e1 e2 e4
    | cons x l => exact ReprK.list e1 e2 e4 hna (by simpa using hk.length_eq) (fun i y e => hk.item i y (by simpa using e))
  | _, _, u, @Rq.tup _ a xs ds h k, r, hs, hz => by
    obtain ⟨as, rd⟩ := Rq.reads I (Rq.tup h k) r
    obtain rfl : u = Value.ref a := r
    obtain ⟨its, rv, p, _⟩ := I.tuple (tupAt_sq h)
    obtain ⟨o, e1, e2, n, e3⟩ := p
    have hz' : (tupleText (PyData.shownAll ds)).length ≤ sizeLine := by simpa only [PyData.shown] using hz
    obtain ⟨bs, hb, hk⟩ := RqA.showK I k rv (by simpa [PyData.showable] using hs) (fun t ht => Nat.le_trans (tupleText_mem_le ht) hz')
    have hna : a ∉ bs := not_mem_of_deeper rd (by simp only [PyData.depth]; omega) hb
    refine ⟨a :: bs, ReadAtMost.cons rd (by simp only [PyData.depth]; omega) hb, ?_⟩
    simp only [PyData.depth, PyData.shown]
    exact ReprK.tuple e1 e2 e3 hna hk
  | _, _, u, @Rq.dk _ a kvs ds h k, r, hs, hz => by
    obtain ⟨as, rd⟩ := Rq.reads I (Rq.dk h k) r
    obtain rfl : u = Value.ref a := r
    obtain ⟨hsy, o, es, n, e1, e2, e3, ⟨as, kr⟩, rv⟩ := dk_obj I h
    have hl : (kvs.map fun q => keyD q.1).length = ds.length := by rw [List.length_map, ← k.len, List.length_map]
    have hz' : (dictText (PyData.shownKv ((kvs.map fun q => keyD q.1).zip ds))).length ≤ sizeLine := by simpa only [PyData.shown] using hz
    obtain ⟨hs1, hs2⟩ := PyData.showableKv_split _ (by simpa [PyData.showable] using hs)
    obtain ⟨b1, hb1, k1⟩ := ReprAllK.of_readsAll (prog := X.prog) (w := X.w) kr (by rw [zip_fst hl] at hs1; exact hs1) (fun z => by rw [keyD_noDict] at z; cases z) (fun t ht => let ⟨p, hp, hl⟩ := PyData.shownKv_key_le _ t (by rw [zip_fst hl]; exact ht); Nat.le_trans hl (Nat.le_trans (dictText_mem_le hp) hz'))
    obtain ⟨b2, hb2, k2⟩ := RqA.showK I k rv (by rw [zip_snd hl] at hs2; exact hs2) (fun t ht => let ⟨p, hp, hl⟩ := PyData.shownKv_val_le _ t (by rw [zip_snd hl]; exact ht); Nat.le_trans hl (Nat.le_trans (dictText_mem_le hp) hz'))
    have d1 := PyData.depthAll_keys_le ((kvs.map fun q => keyD q.1).zip ds)
    have d2 := PyData.depthAll_vals_le ((kvs.map fun q => keyD q.1).zip ds)
    rw [zip_fst hl] at d1
    rw [zip_snd hl] at d2
    have hb : ReadAtMost s.heap (PyData.depthKv ((kvs.map fun q => keyD q.1).zip ds)) (b1 ++ b2) := (hb1.mono d1).append (hb2.mono d2)
    have hna : a ∉ b1 ++ b2 := not_mem_of_deeper rd (by simp only [PyData.depth]; omega) hb
    refine ⟨a :: (b1 ++ b2), ReadAtMost.cons rd (by simp only [PyData.depth]; omega) hb, ?_⟩
    simp only [PyData.depth, PyData.shown, PyData.shownKv_eq]
    rw [zip_fst hl, zip_snd hl]
    exact ReprK.dict e1 e2 e3 hsy hna (ReprEntriesK.of_two es.toList _ _ (k1.more_le (fun b hb => List.mem_append_left _ hb) d1) (k2.more_le (fun b hb => List.mem_append_right _ hb) d2))
theorem RqA.showK (I : Inv X pins σ H s) : ∀ {vs : List V} {ds : List PyData} {us : List Value}, RqA H vs ds → Vals vs us → PyData.showableAll ds = true → (∀ t ∈ PyData.shownAll ds, t.length ≤ sizeLine) → ∃ bs, ReadAtMost s.heap (PyData.depthAll ds) bs ∧ ReprAllK X.prog X.w bs s.heap (PyData.depthAll ds) us (PyData.shownAll ds)
  | _, _, us, .nil, r, _, _ => by cases r; exact ⟨[], (fun _ h => nomatch h), by simp only [PyData.shownAll]; exact .nil⟩
  | _, _, us, @RqA.cons _ v vs d ds h k, r, hs, hz => by
    cases r with
    | cons r1 r2 =>
      have hs' : d.showable = true ∧ PyData.showableAll ds = true := by simpa [PyData.showableAll] using hs
      obtain ⟨b1, hb1, k1⟩ := Rq.showK I h r1 hs'.1 (hz _ (by simp only [PyData.shownAll]; exact List.mem_cons_self ..))
      obtain ⟨b2, hb2, k2⟩ := RqA.showK I k r2 hs'.2 (fun t ht => hz t (by simp only [PyData.shownAll]; exact List.mem_cons_of_mem _ ht))
      refine ⟨b1 ++ b2, ?_, ?_⟩
      · simp only [PyData.depthAll]
        exact (hb1.mono (Nat.le_max_left _ _)).append (hb2.mono (Nat.le_max_right _ _))
      · simp only [PyData.depthAll, PyData.shownAll]
        exact .cons ((k1.more fun b hb => List.mem_append_left _ hb).level_le (Nat.le_max_left _ _)) (k2.more_le (fun b hb => List.mem_append_right _ hb) (Nat.le_max_right _ _))
end
/-- how a thing is shown by itself -/
theorem Rq.shows (I : Inv X pins σ H s) {a : Addr} {d : PyData} (h : Rq H (.ref a) d) (hs : d.showable = true) (hz : d.shown.length ≤ sizeLine) : ∃ T idr, ShowsBy X.prog X.w s.heap a d T idr := by
  obtain ⟨as, rd⟩ := Rq.reads I h (u := .ref a) rfl
  cases h with
  | @lst _ xs ds h k =>
    obtain ⟨its, rv, p, _⟩ := I.list (lstAt_sq h)
    obtain ⟨o, n, e1, e2, e3, e4⟩ := p
    have hz' : (listText (PyData.shownAll ds)).length ≤ sizeLine := by simpa only [PyData.shown] using hz
    obtain ⟨bs, hb, hk⟩ := RqA.showK I k rv (by simpa [PyData.showable] using hs) (fun t ht => Nat.le_trans (listText_mem_le ht) hz')
    have hna : a ∉ bs := not_mem_of_deeper rd (by simp only [PyData.depth]; omega) hb
    refine ⟨"list", "list.__repr__", F.slot_list_repr.toG, F.slot_list_str, F.slot_list_format, fun s hk0 => ⟨o, hk0 _ _ e1, e2⟩, fun A E s Q hg hu hk0 hQ => ?_⟩
    simp only [PyData.depth] at hu
    simp only [PyData.shown] at hQ
    cases its with
    | nil =>
      cases rv
      cases k
      simp only [PyData.shownAll, listText_nil] at hQ
      exact call_list_repr_empty ⟨o, hk0 _ _ e1, e2⟩ (hk0 _ _ e1) e4 (hQ s.heap _ _ fun _ _ e => e)
    | cons x l => exact call_list_reprK e1 e2 e4 hna (by simpa using hk.length_eq) (fun i y e => hk.item i y (by simpa using e)) hg (fun b _ => Clear.nil b) hu hk0 hQ hz'
  | @tup _ xs ds h k =>
    obtain ⟨its, rv, p, _⟩ := I.tuple (tupAt_sq h)
    obtain ⟨o, e1, e2, n, e3⟩ := p
    have hz' : (tupleText (PyData.shownAll ds)).length ≤ sizeLine := by simpa only [PyData.shown] using hz
    obtain ⟨bs, hb, hk⟩ := RqA.showK I k rv (by simpa [PyData.showable] using hs) (fun t ht => Nat.le_trans (tupleText_mem_le ht) hz')
    have hna : a ∉ bs := not_mem_of_deeper rd (by simp only [PyData.depth]; omega) hb
    refine ⟨"tuple", "tuple.__repr__", F.slot_tuple_repr, F.slot_tuple_str, F.slot_tuple_format, fun s hk0 => ⟨o, hk0 _ _ e1, e2⟩, fun A E s Q hg hu hk0 hQ => ?_⟩
    simp only [PyData.depth] at hu
    simp only [PyData.shown] at hQ
    exact call_tuple_reprK e1 e2 e3 hna hk hg (fun b _ => Clear.nil b) hu hk0 hQ hz'
  | @dk _ kvs ds h k =>
    obtain ⟨hsy, o, es, n, e1, e2, e3, ⟨as, kr⟩, rv⟩ := dk_obj I h
    have hl : (kvs.map fun q => keyD q.1).length = ds.length := by rw [List.length_map, ← k.len, List.length_map]
    have hz' : (dictText (PyData.shownKv ((kvs.map fun q => keyD q.1).zip ds))).length ≤ sizeLine := by simpa only [PyData.shown] using hz
    obtain ⟨hs1, hs2⟩ := PyData.showableKv_split _ (by simpa [PyData.showable] using hs)
    obtain ⟨b1, hb1, k1⟩ := ReprAllK.of_readsAll (prog := X.prog) (w := X.w) kr (by rw [zip_fst hl] at hs1; exact hs1) (fun z => by rw [keyD_noDict] at z; cases z) (fun t ht => let ⟨p, hp, hl⟩ := PyData.shownKv_key_le _ t (by rw [zip_fst hl]; exact ht); Nat.le_trans hl (Nat.le_trans (dictText_mem_le hp) hz'))
    obtain ⟨b2, hb2, k2⟩ := RqA.showK I k rv (by rw [zip_snd hl] at hs2; exact hs2) (fun t ht => let ⟨p, hp, hl⟩ := PyData.shownKv_val_le _ t (by rw [zip_snd hl]; exact ht); Nat.le_trans hl (Nat.le_trans (dictText_mem_le hp) hz'))
    have d1 := PyData.depthAll_keys_le ((kvs.map fun q => keyD q.1).zip ds)
    have d2 := PyData.depthAll_vals_le ((kvs.map fun q => keyD q.1).zip ds)
    rw [zip_fst hl] at d1
    rw [zip_snd hl] at d2
    have hb : ReadAtMost s.heap (PyData.depthKv ((kvs.map fun q => keyD q.1).zip ds)) (b1 ++ b2) := (hb1.mono d1).append (hb2.mono d2)
    have hna : a ∉ b1 ++ b2 := not_mem_of_deeper rd (by simp only [PyData.depth]; omega) hb
    refine ⟨"dict", "dict.__repr__", F.slot_dict_repr, F.slot_dict_str, F.slot_dict_format, fun s hk0 => ⟨o, hk0 _ _ e1, e2⟩, fun A E s Q hg hu hk0 hQ => ?_⟩
    simp only [PyData.depth] at hu
    simp only [PyData.shown, PyData.shownKv_eq] at hQ
    rw [zip_fst hl, zip_snd hl] at hQ
    exact call_dict_reprK e1 e2 e3 hsy hna (ReprEntriesK.of_two es.toList _ _ (k1.more_le (fun b hb => List.mem_append_left _ hb) d1) (k2.more_le (fun b hb => List.mem_append_right _ hb) d2)) hg (fun b _ => Clear.nil b) hu hk0 hQ (by rw [PyData.shownKv_eq, zip_fst hl, zip_snd hl] at hz'; exact hz')
end
/-- repr of data -/
def rRepr : List V → Hp → VK → Prop := fun vs H Q => ∃ x d, vs = [x] ∧ Rq H x d ∧ d.showable = true ∧ d.depth ≤ 60 ∧ d.shown.length ≤ 16777216 ∧ Q (.str d.shown) H
theorem c_repr {X : Cx} (hg : X.A.guards = some []) (hu : X.A.units + 64 < cLine) : CallR X (.builtin "repr") rRepr := by
  intro pins s σ H xs us Q I r h
  obtain ⟨x, d, rfl, hd, hw, hdp, hsz, q⟩ := h
  cases r with
  | cons rx rn =>
    cases rn
    rename_i u
    have fin : ∀ h' u' tk, (∀ b o, s.heap.get? b = some o → h'.get? b = some o) → EP X pins σ Q (.str d.shown u') { s with heap := h', toks := tk } := fun h' u' tk hk => ⟨.str d.shown, H, I.kept (t' := tk) hk, ⟨_, rfl⟩, q⟩
    have hz : d.shown.length ≤ sizeLine := by rw [sl16]; exact hsz
    have go : ∀ {a : Addr}, x = .ref a → u = .ref a → wpAny (model X.prog X.w) X.A (call (.builtin "repr") [u]) (EP X pins σ Q) X.xe s := by
      intro a ex e
      subst e ex
      obtain ⟨T, idr, S⟩ := Rq.shows I hd hw hz
      exact call_repr_slot (by omega) (S.typeIs s fun _ _ e => e) S.slotRepr (S.call X.A.in1 X.xe s _ hg (by show X.A.units + 1 + d.depth < cLine; omega) (fun _ _ e => e) fun h' u tk hk => ⟨_, _, rfl, fin h' u tk hk⟩)
    cases hd with
    | non => cases rx; exact PySem.P.repr_of_none (fin _ _ _ fun _ _ e => e)
    | bl b => cases rx; exact PySem.P.repr_of_bool (fin _ _ _ fun _ _ e => e)
    | int i => obtain ⟨t, rfl⟩ := rx; exact PySem.P.repr_of_int (by simpa [PyData.showable] using hw) (fin _ _ _ fun _ _ e => e)
    | str y => obtain ⟨t, rfl⟩ := rx; exact PySem.P.repr_of_str (fin _ _ _ fun _ _ e => e) hz
    | lst h1 h2 => exact go rfl rx
    | tup h1 h2 => exact go rfl rx
    | dk h1 h2 => exact go rfl rx
/-! ### the head, where the promise knows the guards -/
section
variable {P : Program} {w : World} {K : PySem.W.Frag} {mg mb : Str → Option Value} {k : Nat} {fa a : Addr} {fd : FuncData} {x : Str} {sp : Sp} {s₁ : Shared} {vs : List Value} {ns : List Int}
/-- the call of the law's def over an abstract heap H that holds at most the script -/
theorem head_run {H : Hp} (KX : K.In s₁.heap) (hns : s₁.heap.Ns mainGlobals mg) (hb : s₁.heap.Ns builtinsNs mb) (hbb : ∀ x : Str, x ≠ "__name__" → mb x = bootBuiltins x) (hlim : s₁.heap.NoLimit) (hg : s₁.gens = #[])
    (ha : s₁.heap.get? a = some { cls := .type "list", data := .seq vs.toArray }) (hr : Room k callerA)
    (F : ∀ base : Heap, K.In base → base.Ns mainGlobals mg → FnG P w K mg base CX0 k fa fd [x] sp) (hbind : ∀ (s : Shared) (u : Value), BindsTo s fd ⟨[u], []⟩ [(x, u)])
    (hO : Only H) (hsp : sp [.ref a] H (fun v _ => v = .bl true) fun _ _ _ => False) (hok : HOk P w H s₁.heap) (hA : ∀ b, H b ≠ none → b = a) (hK : H a ≠ none → K.lookup a = none) :
    codeAny (model P w) callerA (.call (.ref fa) ⟨[.ref a], []⟩) (fun r s' => r = .ok (.ret (.bool true)) ∧ OldK s₁.heap s'.heap ∧ s'.os = s₁.os ∧ AllBare s'.gens) s₁ := by
  have untracked : ∀ {b : Addr} {o : Obj}, s₁.heap.get? b = some o → (H b ≠ none → False) → (hidT s₁.heap H).get? b = some o := fun {b o} e n => hidT_get e (by
    cases q : H b with
    | none => rfl
    | some u => exact (n (by rw [q]; simp)).elim)
  have names : ∀ {b : Addr} {m : Str → Option Value}, s₁.heap.Ns b m → (hidT s₁.heap H).Ns b m := fun {b m} z => by
    obtain ⟨o, es, ep, e, d, r⟩ := z
    refine ⟨o, es, ep, untracked e fun n => ?_, d, r⟩
    have eb := hA b n
    subst eb
    rw [ha] at e
    cases e
    cases (show Data.seq vs.toArray _ = Data.dict es ep from d)
  have inK : K.In (hidT s₁.heap H) := fun b o e => untracked (KX b o e) fun n => by
    have eb := hA b n
    subst eb
    rw [hK n] at e
    cases e
  have e0 : Env0 P w K mg (hidT s₁.heap H) callerA [] s₁ H :=
    ⟨rfl, ⟨inK, names hns, ⟨mb, names hb, hbb⟩, hlim.imp fun _ z => ⟨names z.1, z.2⟩⟩, fun _ _ e => of_hidT e, Nat.le_of_eq (hidT_size _ _), trivial, (fun b z => by cases z), hok, .of_eq hg⟩
  refine codeAny_mono ((F _ inK (names hns)).go callerA [] s₁ H ⟨[.ref a], []⟩ [.ref a] [.ref a] _ _ rfl hr e0 (hbind s₁ (.ref a)) (.cons rfl .nil) hsp) fun r s' z => ?_
  match r, z with
  | .ok (.ret u), ⟨v, H', os, bare, un, hok', rv, q⟩ =>
    have q : v = .bl true := q
    subst q
    obtain rfl : u = Value.bool true := rv
    refine ⟨rfl, .of_keep fun b o e => ?_, os, bare⟩
    rcases hO b with z | ⟨ob, xs, z⟩
    · exact un.keep b o e z (by intro z; cases z) (by simp)
    · obtain ⟨e1, _⟩ := hok b _ z
      obtain ⟨e2, _⟩ := hok' b _ (un.frzs b ob _ z)
      rw [← e, e1]
      exact e2
  | .ok .next, z => exact z.elim
  | .ok .brk, z => exact z.elim
  | .ok .cont, z => exact z.elim
  | .error _, z => exact z.elim
/-- the head: from the promise of the law's def -/
theorem walk_G {l : PySem.W.OpenLaw} {q : Program} {loose : List Str} {XP : (Str → Option Value) → Heap → Prop} {YP : World → Heap → Prop} {d : DefRec} {KK : Params → PySem.W.Frag} {spK : PySem.W.Frag → Sp}
    (hn : l.most = some 63) (hdf : d.params.defaults = []) (hr : Room k callerA) (hY : ∀ (w : World) (h : Heap), YP w h → (KK w.params).In h)
    (F : ∀ (w : World) (mg : Str → Option Value) (fa : Addr) (h : Heap), (KK w.params).In h → h.Ns mainGlobals mg → mg d.name = some (.ref fa) →
      ∃ fd : FuncData, (∀ (s : Shared) (u : Value), BindsTo s fd ⟨[u], []⟩ [(x, u)]) ∧ ∀ base : Heap, (KK w.params).In base → base.Ns mainGlobals mg → FnG l.prog w (KK w.params) mg base CX0 k fa fd [x] (spK (KK w.params)))
    (hsp : ∀ (K : PySem.W.Frag) (H : Hp) (a : Addr) (ns : List Int), ns.length ≤ 63 → Scr K H a ns → spK K [.ref a] H (fun v _ => v = .bl true) fun _ _ _ => False) :
    PySem.W.WalkO q loose XP YP l.row.toRowW d [] (fun f vs => PySem.call f vs) := by
  refine Att.attach_call hn hdf fun w s₀ s₁ mg mb fa o pm cd doc a vs ns G Y ho hd hcd hmg hobj hints hlen hg => ?_
  have KX := hY w _ Y
  obtain ⟨fd, hb, hF⟩ := F w mg fa _ KX G.T.g hmg
  have rv := vals_ints hints
  have hz : ns.length ≤ sizeLine := by rw [sl16]; omega
  cases hk : (KK w.params).lookup a with
  | some oo =>
    have e := KX a oo hk
    rw [hobj] at e
    cases e
    refine head_run (H := fun _ => none) KX G.T.g G.T.b G.T.builtins G.T.nolimit hg hobj hr hF hb (fun _ => .inl rfl) (hsp _ _ _ _ hlen (.inr ⟨_, vs.toArray, _, hk, rfl, rfl, rfl, ?_, by simpa using rv⟩)) (fun b u z => nomatch z) (fun b z => absurd rfl z) fun z => absurd rfl z
    rw [List.size_toArray, hints.length]
    exact hz
  | none =>
    have me : (fun b => if b = a then some (HO.frz { cls := .type "list", data := .seq vs.toArray } (.lst (ns.map V.int))) else none) a = some (HO.frz { cls := .type "list", data := .seq vs.toArray } (.lst (ns.map V.int))) := if_pos rfl
    refine head_run (H := fun b => if b = a then some (.frz { cls := .type "list", data := .seq vs.toArray } (.lst (ns.map V.int))) else none) KX G.T.g G.T.b G.T.builtins G.T.nolimit hg hobj hr hF hb (fun b => ?_) (hsp _ _ _ _ hlen (.inl ⟨_, me⟩)) (fun b u z => ?_) (fun b z => ?_) fun _ => hk
    · rcases Decidable.em (b = a) with e | e
      · exact .inr ⟨_, _, if_pos e⟩
      · exact .inl (if_neg e)
    · rcases Decidable.em (b = a) with e | e
      · have z' := (if_pos e).symm.trans z
        cases z'
        subst e
        exact ⟨hobj, by rw [List.length_map]; exact hz, vs, _, rv, hobj⟩
      · have z' := (if_neg e).symm.trans z
        cases z'
    · rcases Decidable.em (b = a) with e | e
      · exact e
      · exact absurd (if_neg e) z
end
end Zb

/-! what is asked of data -/
namespace Zb
open PySem PySem.Spec PyProof.Rows L2
def tyD : PyData → String
  | .none => "NoneType"
  | .bool _ => "bool"
  | .int _ => "int"
  | .str _ => "str"
  | .list _ => "list"
  | .tuple _ => "tuple"
  | .dict _ => "dict"
theorem Rq.tyn {H : Hp} {x : V} {d : PyData} (h : Rq H x d) : tyN H x = some (tyD d) := by
  cases h with
  | non => rfl
  | bl b => rfl
  | int i => rfl
  | str y => rfl
  | @lst a xs ds h _ =>
    show tyO (H a) = _
    unfold lstAt at h
    unfold tyO
    split at h <;> first | (rename_i e; rw [e]; rfl) | cases h
  | @tup a xs ds h _ =>
    show tyO (H a) = _
    unfold tupAt at h
    unfold tyO
    split at h <;> first | (rename_i e; rw [e]; rfl) | cases h
  | @dk a kvs ds h _ =>
    show tyO (H a) = _
    rw [h]
    rfl
theorem Rq.ty {H : Hp} {x : V} {d : PyData} (h : Rq H x d) : Ty H x := ⟨_, h.tyn⟩
theorem Rp.ty {H : Hp} {x : V} {d : PyData} (h : Rp H x d) : Ty H x := h.rq.ty
section
variable {H : Hp} {Q : VK} {K : PySem.W.Frag}
theorem st_isQ {x : V} {d : PyData} {n : String} {b : Bool} (h1 : Rq H x d) (h2 : kitB (tyD d) n = some b) (h : Q (.bl b) H) : rIs [x, .ty n] H Q := st_is h1.tyn h2 h
def isListD : PyData → Bool
  | .list _ => true
  | _ => false
def isTupD : PyData → Bool
  | .tuple _ => true
  | _ => false
theorem kb_list : kitB "NoneType" "list" = some false ∧ kitB "bool" "list" = some false ∧ kitB "int" "list" = some false ∧ kitB "str" "list" = some false ∧ kitB "list" "list" = some true ∧ kitB "tuple" "list" = some false ∧ kitB "dict" "list" = some false := by decide +kernel
theorem kb_tup : kitB "NoneType" "tuple" = some false ∧ kitB "bool" "tuple" = some false ∧ kitB "int" "tuple" = some false ∧ kitB "str" "tuple" = some false ∧ kitB "list" "tuple" = some false ∧ kitB "tuple" "tuple" = some true ∧ kitB "dict" "tuple" = some false := by decide +kernel
theorem st_isListD {x : V} {d : PyData} (h1 : Rq H x d) (h : Q (.bl (isListD d)) H) : rIs [x, .ty "list"] H Q := by
  obtain ⟨k1, k2, k3, k4, k5, k6, k7⟩ := kb_list
  refine st_isQ h1 (b := isListD d) ?_ h
  cases d <;> assumption
theorem st_isTupD {x : V} {d : PyData} (h1 : Rq H x d) (h : Q (.bl (isTupD d)) H) : rIs [x, .ty "tuple"] H Q := by
  obtain ⟨k1, k2, k3, k4, k5, k6, k7⟩ := kb_tup
  refine st_isQ h1 (b := isTupD d) ?_ h
  cases d <;> assumption
/-- the items of data -/
theorem Rp.listAt {x : V} {ds : List PyData} (h : Rp H x (.list ds)) : ∃ a xs, x = .ref a ∧ lstAt H a = some xs ∧ RpA H xs ds := by
  cases h with
  | lst h k => exact ⟨_, _, rfl, h, k⟩
theorem Rp.tupAt' {x : V} {ds : List PyData} (h : Rp H x (.tuple ds)) : ∃ a xs, x = .ref a ∧ tupAt H a = some xs ∧ RpA H xs ds := by
  cases h with
  | tup h k => exact ⟨_, _, rfl, h, k⟩
theorem RpA.len : ∀ {xs : List V} {ds : List PyData}, RpA H xs ds → xs.length = ds.length
  | _, _, .nil => rfl
  | _, _, .cons _ k => congrArg (· + 1) k.len
theorem RpA.at : ∀ {xs : List V} {ds : List PyData}, RpA H xs ds → ∀ (i : Nat) x, xs[i]? = some x → ∃ d, ds[i]? = some d ∧ Rp H x d
  | _, _, .nil, i, x, h => by simp at h
  | _, _, .cons a k, 0, x, h => by
    have e : _ = x := Option.some.inj h
    exact ⟨_, rfl, e ▸ a⟩
  | _, _, .cons a k, i + 1, x, h => k.at i x (by simpa using h)
theorem st_lenA {p : Addr} {xs : List V} (h1 : tupAt H p = some xs) (h : Q (.int xs.length) H) : rLen K [.ref p] H Q := ⟨xs, .inr (tupAt_sq h1), h⟩
theorem st_lenB {p : Addr} {xs : List V} (h1 : lstAt H p = some xs) (h : Q (.int xs.length) H) : rLen K [.ref p] H Q := ⟨xs, .inl (lstAt_sq h1), h⟩
theorem st_ixA2 {p : Addr} {i : Int} {v : V} {xs : List V} (h1 : tupAt H p = some xs) (h2 : atI xs i = some v) (h : Q v H) : rIxU K (.ref p) (.int i) H Q := ⟨xs, .inr (tupAt_sq h1), v, h2, h⟩
theorem st_gtupA {a : Addr} {xs : List V} {n : Nat} {t : TGs} {σ : L2.St} {R : L2.St → Hp → Prop} (h1 : tupAt H a = some xs) (hn : xs.length = n) (h : t xs σ H R) : gTup K n t (.ref a) σ H R := ⟨a, xs, rfl, tupAt_sq h1, hn, h⟩
end
end Zb

/-! data whose things are not frozen; the size of data -/
namespace Zb
open PySem PySem.Spec PyProof.Rows L2
mutual
/-- v is d, by things that are not frozen; empty dicts may be among them -/
inductive Rn (H : Hp) : V → PyData → Prop
  | non : Rn H .non .none
  | bl (b : Bool) : Rn H (.bl b) (.bool b)
  | int (i : Int) : Rn H (.int i) (.int i)
  | str (x : Str) : Rn H (.str x) (.str x)
  | lst {a : Addr} {xs : List V} {ds : List PyData} : H a = some (.lst xs) → RnA H xs ds → Rn H (.ref a) (.list ds)
  | tup {a : Addr} {xs : List V} {ds : List PyData} : H a = some (.tup xs) → RnA H xs ds → Rn H (.ref a) (.tuple ds)
  | dk {a : Addr} : H a = some (.dK []) → Rn H (.ref a) (.dict [])
inductive RnA (H : Hp) : List V → List PyData → Prop
  | nil : RnA H [] []
  | cons {v : V} {vs : List V} {d : PyData} {ds : List PyData} : Rn H v d → RnA H vs ds → RnA H (v :: vs) (d :: ds)
end
section
variable {H H' : Hp}
mutual
theorem Rn.rq : ∀ {v : V} {d : PyData}, Rn H v d → Rq H v d
  | _, _, .non => .non
  | _, _, .bl b => .bl b
  | _, _, .int i => .int i
  | _, _, .str x => .str x
  | _, _, .lst h k => .lst (lst_of h) (RnA.rq k)
  | _, _, .tup h k => .tup (tup_of h) (RnA.rq k)
  | _, _, .dk h => .dk0 h
theorem RnA.rq : ∀ {vs : List V} {ds : List PyData}, RnA H vs ds → RqA H vs ds
  | _, _, .nil => .nil
  | _, _, .cons h k => .cons (Rn.rq h) (RnA.rq k)
end
mutual
theorem Rn.rp : ∀ {v : V} {d : PyData}, Rn H v d → d.hasDict = false → Rp H v d
  | _, _, .non, _ => .non
  | _, _, .bl b, _ => .bl b
  | _, _, .int i, _ => .int i
  | _, _, .str x, _ => .str x
  | _, _, .lst h k, n => .lst (lst_of h) (RnA.rp k (by simpa only [PyData.hasDict] using n))
  | _, _, .tup h k, n => .tup (tup_of h) (RnA.rp k (by simpa only [PyData.hasDict] using n))
  | _, _, .dk h, n => by simp [PyData.hasDict] at n
theorem RnA.rp : ∀ {vs : List V} {ds : List PyData}, RnA H vs ds → PyData.hasDictAll ds = false → RpA H vs ds
  | _, _, .nil, _ => .nil
  | _, _, .cons h k, n => by
    simp only [PyData.hasDictAll, Bool.or_eq_false_iff] at n
    exact .cons (Rn.rp h n.1) (RnA.rp k n.2)
end
mutual
theorem Rn.ex (e : Ex H H') : ∀ {v : V} {d : PyData}, Rn H v d → Rn H' v d
  | _, _, .non => .non
  | _, _, .bl b => .bl b
  | _, _, .int i => .int i
  | _, _, .str x => .str x
  | _, _, .lst h k => .lst (e.get h) (RnA.ex e k)
  | _, _, .tup h k => .tup (e.get h) (RnA.ex e k)
  | _, _, .dk h => .dk (e.get h)
theorem RnA.ex (e : Ex H H') : ∀ {vs : List V} {ds : List PyData}, RnA H vs ds → RnA H' vs ds
  | _, _, .nil => .nil
  | _, _, .cons h k => .cons (Rn.ex e h) (RnA.ex e k)
end
theorem Rn.listAt {x : V} {ds : List PyData} (h : Rn H x (.list ds)) : ∃ a xs, x = .ref a ∧ H a = some (.lst xs) ∧ RnA H xs ds := by
  cases h with
  | lst h k => exact ⟨_, _, rfl, h, k⟩
theorem Rn.tupAt {x : V} {ds : List PyData} (h : Rn H x (.tuple ds)) : ∃ a xs, x = .ref a ∧ H a = some (.tup xs) ∧ RnA H xs ds := by
  cases h with
  | tup h k => exact ⟨_, _, rfl, h, k⟩
theorem RnA.len : ∀ {xs : List V} {ds : List PyData}, RnA H xs ds → xs.length = ds.length
  | _, _, .nil => rfl
  | _, _, .cons _ k => congrArg (· + 1) k.len
theorem RnA.zipped : ∀ {xs : List V} {ds : List PyData}, RnA H xs ds → ∃ zs : List (V × PyData), xs = zs.map (·.1) ∧ ds = zs.map (·.2) ∧ ∀ z ∈ zs, Rn H z.1 z.2
  | _, _, .nil => ⟨[], rfl, rfl, fun _ h => nomatch h⟩
  | _, _, .cons (v := v) (d := d) a k => by
    obtain ⟨zs, rfl, rfl, h⟩ := RnA.zipped k
    refine ⟨(v, d) :: zs, rfl, rfl, fun z hz => ?_⟩
    rcases List.mem_cons.mp hz with e | e
    · rw [e]; exact a
    · exact h z e
theorem rnA_map {α : Type} {val : α → V} {enc : α → PyData} : ∀ {xs : List α}, (∀ x ∈ xs, Rn H (val x) (enc x)) → RnA H (xs.map val) (xs.map enc)
  | [], _ => .nil
  | x :: xs, h => .cons (h x List.mem_cons_self) (rnA_map fun y hy => h y (List.mem_cons_of_mem _ hy))
theorem TP.rn1 {z : ZP} (h : H z.1 = some (tupO z.2)) : Rn H (zV z) (encQ z.2) := .tup h (.cons (.int _) (.cons (.int _) .nil))
theorem TP.rn {zs : List ZP} (h : TP H zs) : RnA H (zs.map zV) (zs.map fun z => encQ z.2) := rnA_map fun z hz => TP.rn1 (h z hz)
theorem TP.rnL {zs : List ZP} {a : Addr} (h : TP H zs) (ha : H a = some (.lst (zs.map zV))) : Rn H (.ref a) (.list (zs.map fun z => encQ z.2)) := .lst ha h.rn
end
mutual
/-- how many things data holds -/
def szD : PyData → Nat
  | .list ds => 1 + szA ds
  | .tuple ds => 1 + szA ds
  | .dict _ => 1
  | _ => 1
def szA : List PyData → Nat
  | [] => 0
  | d :: ds => szD d + szA ds
end
theorem szD_pos (d : PyData) : 0 < szD d := by cases d <;> simp [szD] <;> omega
theorem szA_len (ds : List PyData) : ds.length ≤ szA ds := by
  induction ds with
  | nil => simp [szA]
  | cons d ds ih =>
    have := szD_pos d
    simp only [szA, List.length_cons]
    omega
theorem szA_mem {ds : List PyData} {d : PyData} (h : d ∈ ds) : szD d ≤ szA ds := by
  induction ds with
  | nil => cases h
  | cons x ds ih =>
    simp only [szA]
    rcases List.mem_cons.mp h with e | e
    · subst e; omega
    · have := ih e; omega
theorem szA_append (a b : List PyData) : szA (a ++ b) = szA a + szA b := by
  induction a with
  | nil => simp [szA]
  | cons x a ih => simp only [List.cons_append, szA, ih]; omega
theorem hasDictA_mem {ds : List PyData} {d : PyData} (h : PyData.hasDictAll ds = false) (hd : d ∈ ds) : d.hasDict = false := by
  induction ds with
  | nil => cases hd
  | cons x ds ih =>
    simp only [PyData.hasDictAll, Bool.or_eq_false_iff] at h
    rcases List.mem_cons.mp hd with e | e
    · subst e; exact h.1
    · exact ih h.2 e
theorem depthA_mem {ds : List PyData} {d : PyData} (hd : d ∈ ds) : d.depth ≤ PyData.depthAll ds := by
  induction ds with
  | nil => cases hd
  | cons x ds ih =>
    simp only [PyData.depthAll]
    rcases List.mem_cons.mp hd with e | e
    · subst e; omega
    · have := ih e; omega
end Zb

/-! small data: what repr shows of it is short -/
namespace Zb
open PySem PySem.Spec PyProof.Rows L2
mutual
/-- numbers of few figures, texts that are shown by few signs, no dict but the empty one -/
def okD : PyData → Bool
  | .none => true
  | .bool _ => true
  | .int i => decide (i.natAbs < 1000000)
  | .str x => decide ((reprText x).length ≤ 14)
  | .list ds => okA ds
  | .tuple ds => okA ds
  | .dict kvs => kvs.isEmpty
def okA : List PyData → Bool
  | [] => true
  | d :: ds => okD d && okA ds
end
mutual
theorem okD_showable : ∀ d : PyData, okD d = true → d.showable = true
  | .none, _ => rfl
  | .bool _, _ => rfl
  | .str _, _ => rfl
  | .int i, h => by
    have h : i.natAbs < 1000000 := by simpa only [okD, decide_eq_true_eq] using h
    have : i.natAbs.log2 < 1920 := by
      by_cases h0 : i.natAbs = 0
      · rw [h0]; decide
      · refine (Nat.log2_lt h0).mpr (Nat.lt_of_lt_of_le (Nat.lt_trans h (show 1000000 < 2 ^ 20 by decide)) (Nat.pow_le_pow_right (by decide) (by decide)))
    simpa only [PyData.showable, decide_eq_true_eq] using this
  | .list ds, h => by
    simp only [PyData.showable]
    exact okA_showable ds (by simpa only [okD] using h)
  | .tuple ds, h => by
    simp only [PyData.showable]
    exact okA_showable ds (by simpa only [okD] using h)
  | .dict [], _ => rfl
  | .dict (_ :: _), h => by simp [okD] at h
theorem okA_showable : ∀ ds : List PyData, okA ds = true → PyData.showableAll ds = true
  | [], _ => rfl
  | d :: ds, h => by
    simp only [okA, Bool.and_eq_true] at h
    simp only [PyData.showableAll, okD_showable d h.1, okA_showable ds h.2, Bool.and_self]
end
mutual
theorem okD_shown : ∀ d : PyData, okD d = true → d.shown.length + 2 ≤ 16 * szD d
  | .none, _ => by
    have e : (PyData.shown .none).length = 4 := rfl
    simp only [szD]; omega
  | .bool b, _ => by
    have e : (PyData.shown (.bool b)).length ≤ 5 := by cases b <;> decide
    simp only [szD]; omega
  | .str x, h => by
    have h : (reprText x).length ≤ 14 := by simpa only [okD, decide_eq_true_eq] using h
    simp only [szD, PyData.shown]; omega
  | .int i, h => by
    have h : i.natAbs < 10 ^ 6 := by simpa only [okD, decide_eq_true_eq] using h
    have e := int_text_length_le10 (k := 6) (by decide) h
    simp only [szD, PyData.shown]
    have e2 : (Str.ofString (toString i)).length = (toString i).length := PySem.ofString_length _
    show (Str.ofString (toString i)).length + 2 ≤ _
    omega
  | .list ds, h => by
    have h1 := okA_shown ds (by simpa only [okD] using h)
    have h2 := listText_len_le (PyData.shownAll ds)
    have h3 := PyData.shownAll_length ds
    simp only [PyData.shown, szD]
    omega
  | .tuple ds, h => by
    have h1 := okA_shown ds (by simpa only [okD] using h)
    have h2 := tupleText_len_le (PyData.shownAll ds)
    have h3 := PyData.shownAll_length ds
    simp only [PyData.shown, szD]
    omega
  | .dict [], _ => by
    have e : (PyData.shown (.dict [])).length = 2 := by decide +kernel
    simp only [szD]; omega
  | .dict (_ :: _), h => by simp [okD] at h
theorem okA_shown : ∀ ds : List PyData, okA ds = true → ((PyData.shownAll ds).map (·.length)).sum + 2 * ds.length ≤ 16 * szA ds
  | [], _ => by simp [PyData.shownAll, szA]
  | d :: ds, h => by
    simp only [okA, Bool.and_eq_true] at h
    have h1 := okD_shown d h.1
    have h2 := okA_shown ds h.2
    simp only [PyData.shownAll, szA, List.map_cons, List.sum_cons, List.length_cons]
    omega
end
/-- data that may be handed round: d is v, small, with no dict but itself -/
structure Sd (H : Hp) (v : V) (d : PyData) : Prop where
  rn : Rn H v d
  hd : d.hasDict = true → d = .dict []
  ok : okD d = true
  sz : szD d ≤ 999999
  dp : d.depth ≤ 59
theorem Sd.ex {H H' : Hp} {v : V} {d : PyData} (h : Sd H v d) (e : Ex H H') : Sd H' v d := ⟨h.rn.ex e, h.hd, h.ok, h.sz, h.dp⟩
/-- v is small data of n things, k deep -/
def Sm (H : Hp) (v : V) (n k : Nat) : Prop := ∃ d, Rn H v d ∧ d.hasDict = false ∧ okD d = true ∧ szD d ≤ n ∧ d.depth ≤ k
section
variable {H H' : Hp} {v : V} {n k m : Nat}
theorem Sm.up {n' k' : Nat} (h : Sm H v n k) (h1 : n ≤ n') (h2 : k ≤ k') : Sm H v n' k' := by
  obtain ⟨d, a, b, c, e, f⟩ := h
  exact ⟨d, a, b, c, by omega, by omega⟩
theorem Sm.ex (h : Sm H v n k) (e : Ex H H') : Sm H' v n k := by
  obtain ⟨d, a, b⟩ := h
  exact ⟨d, a.ex e, b⟩
theorem Sm.sd (h : Sm H v n k) (h1 : n ≤ 999999) (h2 : k ≤ 59) : ∃ d, Sd H v d := by
  obtain ⟨d, a, b, c, e, f⟩ := h
  exact ⟨d, a, (fun z => by rw [b] at z; cases z), c, by omega, by omega⟩
theorem Sm.non : Sm H .non 1 0 := ⟨_, .non, rfl, rfl, by simp [szD], by simp [PyData.depth]⟩
theorem Sm.bl (b : Bool) : Sm H (.bl b) 1 0 := ⟨_, .bl b, rfl, rfl, by simp [szD], by simp [PyData.depth]⟩
theorem Sm.int {i : Int} (h : i.natAbs < 1000000) : Sm H (.int i) 1 0 := ⟨_, .int i, rfl, by simpa only [okD, decide_eq_true_eq] using h, by simp [szD], by simp [PyData.depth]⟩
theorem Sm.str {x : Str} (h : (reprText x).length ≤ 14) : Sm H (.str x) 1 0 := ⟨_, .str x, rfl, by simpa only [okD, decide_eq_true_eq] using h, by simp [szD], by simp [PyData.depth]⟩
/-- what is no list stays -/
theorem Sm.atom (h : Sm H v n 0) : Sm H' v n 0 := by
  obtain ⟨d, r, a, b, c, f⟩ := h
  cases r with
  | non => exact ⟨_, .non, a, b, c, f⟩
  | bl x => exact ⟨_, .bl x, a, b, c, f⟩
  | int x => exact ⟨_, .int x, a, b, c, f⟩
  | str x => exact ⟨_, .str x, a, b, c, f⟩
  | lst _ k => simp only [PyData.depth] at f; omega
  | tup _ k => simp only [PyData.depth] at f; omega
  | dk _ => simp [PyData.hasDict] at a
theorem Sm.all : ∀ {xs : List V}, (∀ x ∈ xs, Sm H x n k) → ∃ ds, RnA H xs ds ∧ PyData.hasDictAll ds = false ∧ okA ds = true ∧ szA ds ≤ xs.length * n ∧ PyData.depthAll ds ≤ k
  | [], _ => ⟨[], .nil, rfl, rfl, by simp [szA], by simp [PyData.depthAll]⟩
  | x :: xs, h => by
    obtain ⟨ds, a, b, c, e, f⟩ := Sm.all (xs := xs) fun y hy => h y (List.mem_cons_of_mem _ hy)
    obtain ⟨d, a1, b1, c1, e1, f1⟩ := h x List.mem_cons_self
    refine ⟨d :: ds, .cons a1 a, by simp [PyData.hasDictAll, b, b1], by simp [okA, c, c1], ?_, ?_⟩
    · simp only [szA, List.length_cons, Nat.succ_mul]; omega
    · simp only [PyData.depthAll]; omega
theorem Sm.lst {a : Addr} {xs : List V} (h : H a = some (.lst xs)) (hx : ∀ x ∈ xs, Sm H x n k) (hm : xs.length ≤ m) : Sm H (.ref a) (1 + m * n) (k + 1) := by
  obtain ⟨ds, h1, h2, h3, h4, h5⟩ := Sm.all hx
  refine ⟨.list ds, .lst h h1, by simpa only [PyData.hasDict] using h2, by simpa only [okD] using h3, ?_, by simp only [PyData.depth]; omega⟩
  have := Nat.mul_le_mul_right n hm
  simp only [szD]; omega
theorem Sm.tup {a : Addr} {xs : List V} (h : H a = some (.tup xs)) (hx : ∀ x ∈ xs, Sm H x n k) (hm : xs.length ≤ m) : Sm H (.ref a) (1 + m * n) (k + 1) := by
  obtain ⟨ds, h1, h2, h3, h4, h5⟩ := Sm.all hx
  refine ⟨.tuple ds, .tup h h1, by simpa only [PyData.hasDict] using h2, by simpa only [okD] using h3, ?_, by simp only [PyData.depth]; omega⟩
  have := Nat.mul_le_mul_right n hm
  simp only [szD]; omega
theorem Sd.dk {a : Addr} (h : H a = some (.dK [])) : Sd H (.ref a) (.dict []) := ⟨.dk h, fun _ => rfl, rfl, by simp [szD], by simp [PyData.depth, PyData.depthKv]⟩
theorem Sm.mem {xs : List V} (h : ∀ x ∈ xs, Sm H x n k) (hv : v ∈ xs) : Sm H v n k := h v hv
theorem Sm.cons {xs : List V} (h : Sm H v n k) (t : ∀ x ∈ xs, Sm H x n k) : ∀ x ∈ v :: xs, Sm H x n k := fun x hx => by
  rcases List.mem_cons.mp hx with e | e
  · rw [e]; exact h
  · exact t x e
theorem Sm.nil : ∀ x ∈ ([] : List V), Sm H x n k := fun _ h => nomatch h
theorem Sm.app {xs ys : List V} (h : ∀ x ∈ xs, Sm H x n k) (t : ∀ x ∈ ys, Sm H x n k) : ∀ x ∈ xs ++ ys, Sm H x n k := fun x hx => by
  rcases List.mem_append.mp hx with e | e
  · exact h x e
  · exact t x e
theorem Sm.exA {xs : List V} (h : ∀ x ∈ xs, Sm H x n k) (e : Ex H H') : ∀ x ∈ xs, Sm H' x n k := fun x hx => (h x hx).ex e
theorem Sm.upA {xs : List V} {n' k' : Nat} (h : ∀ x ∈ xs, Sm H x n k) (h1 : n ≤ n') (h2 : k ≤ k') : ∀ x ∈ xs, Sm H x n' k' := fun x hx => (h x hx).up h1 h2
variable {K : PySem.W.Frag} {Q : VK}
theorem st_repr {d : PyData} (h : Sd H v d) (q : Q (.str d.shown) H) : rRepr [v] H Q := by
  refine ⟨v, d, rfl, h.rn.rq, okD_showable d h.ok, Nat.le_succ_of_le h.dp, ?_, q⟩
  have h1 := okD_shown d h.ok
  have h2 := h.sz
  omega
end
/-! ### cuts of mapped lists -/
def cutL {α : Type} (xs : List α) (lo hi : Option Int) : List α := (xs.drop (HT.sIx xs.length 0 lo)).take (HT.sIx xs.length xs.length hi - HT.sIx xs.length 0 lo)
theorem cutV_map {α : Type} (f : α → V) (xs : List α) (lo hi : Option Int) : cutV (xs.map f) lo hi = (cutL xs lo hi).map f := by
  unfold cutV cutL
  rw [List.map_take, List.map_drop, List.length_map]
theorem cutL_sub {α : Type} (xs : List α) (lo hi : Option Int) : (cutL xs lo hi).Sublist xs := (List.take_sublist _ _).trans (List.drop_sublist _ _)
theorem cutL_len {α : Type} (xs : List α) (lo hi : Option Int) : (cutL xs lo hi).length ≤ xs.length := (cutL_sub xs lo hi).length_le
theorem cutV_mem {xs : List V} {lo hi : Option Int} {x : V} (h : x ∈ cutV xs lo hi) : x ∈ xs := by
  have h2 := cutV_map id xs lo hi
  rw [List.map_id, List.map_id] at h2
  rw [h2] at h
  exact (cutL_sub xs lo hi).subset h
/-! ### lists of lists of pairs -/
abbrev HZ := Addr × List ZP
abbrev hV (g : HZ) : V := .ref g.1
/-- a few small pairs, each as its tuple -/
structure SP (H : Hp) (zs : List ZP) : Prop where
  tp : TP H zs
  few : zs.length ≤ 2305
  small : ∀ z ∈ zs, z.2.1 ≤ 1000 ∧ z.2.2 ≤ 1000
def HP (H : Hp) (gs : List HZ) : Prop := ∀ g ∈ gs, H g.1 = some (.lst (g.2.map zV)) ∧ SP H g.2
section
variable {H H' : Hp} {gs : List HZ} {zs ys : List ZP}
theorem SP.ex (h : SP H zs) (e : Ex H H') : SP H' zs := ⟨h.tp.ex e, h.few, h.small⟩
theorem SP.frp {p : Addr} (h : SP H zs) (hp : Purse H p) (e : FrP p H H') : SP H' zs := ⟨h.tp.frp hp e, h.few, h.small⟩
theorem SP.sub (h : SP H zs) (e : ys.Sublist zs) : SP H ys := ⟨h.tp.sub fun z hz => e.subset hz, Nat.le_trans e.length_le h.few, fun z hz => h.small z (e.subset hz)⟩
theorem SP.perm (h : SP H zs) (e : ys.Perm zs) : SP H ys := ⟨h.tp.perm e, by rw [e.length_eq]; exact h.few, fun z hz => h.small z (e.mem_iff.mp hz)⟩
theorem SP.up {D : Addr} {xs : List V} {u : HO} (h : SP H zs) (hD : H D = some (.lst xs)) : SP (upd H D u) zs := ⟨h.tp.up hD, h.few, h.small⟩
theorem SP.sm (h : SP H zs) : ∀ x ∈ zs.map zV, Sm H x 3 2 := fun x hx => by
  obtain ⟨z, hz, rfl⟩ := List.mem_map.mp hx
  have := h.small z hz
  exact (Sm.tup (n := 1) (k := 1) (m := 2) (h.tp z hz) (Sm.cons ((Sm.int (by omega)).up (by decide) (by decide)) (Sm.cons ((Sm.int (by omega)).up (by decide) (by decide)) Sm.nil)) (Nat.le_refl _))
theorem HP.ex (h : HP H gs) (e : Ex H H') : HP H' gs := fun g hg => ⟨e.get (h g hg).1, (h g hg).2.ex e⟩
theorem HP.frp {p : Addr} (h : HP H gs) (hp : Purse H p) (e : FrP p H H') : HP H' gs := fun g hg => ⟨e.get (zs_ne_purse (h g hg).1 hp) (h g hg).1, (h g hg).2.frp hp e⟩
theorem HP.sub {fs : List HZ} (h : HP H gs) (e : ∀ g ∈ fs, g ∈ gs) : HP H fs := fun g hg => h g (e g hg)
theorem HP.upQ {q : Addr} {xs : List V} {u : HO} (h : HP H gs) (hq : H q = some (.lst xs)) (n : ∀ g ∈ gs, g.1 ≠ q) : HP (upd H q u) gs := fun g hg => ⟨by rw [upd_ne (n g hg)]; exact (h g hg).1, (h g hg).2.up hq⟩
theorem HP.sm1 {g : HZ} (h : HP H gs) (hg : g ∈ gs) : Sm H (hV g) 6916 3 := by
  obtain ⟨h1, h2⟩ := h g hg
  exact Sm.lst (m := 2305) h1 h2.sm (by rw [List.length_map]; exact h2.few)
theorem HP.sm (h : HP H gs) : ∀ x ∈ gs.map hV, Sm H x 6916 3 := fun x hx => by
  obtain ⟨g, hg, rfl⟩ := List.mem_map.mp hx
  exact h.sm1 hg
/-- one of the lists changes -/
theorem HP.set {g : HZ} {i : Nat} (h : HP H gs) (nd : (gs.map (·.1)).Nodup) (hg : gs[i]? = some g) (hz : SP H zs) : HP (upd H g.1 (.lst (zs.map zV))) (gs.set i (g.1, zs)) := by
  have hgm := List.mem_of_getElem? hg
  have h1 := (h g hgm).1
  intro f hf
  obtain ⟨j, hj⟩ := List.getElem?_of_mem hf
  have hi : i < gs.length := (List.getElem?_eq_some_iff.mp hg).1
  by_cases e : j = i
  · subst e
    rw [List.getElem?_set_self hi] at hj
    cases hj
    exact ⟨upd_same, hz.up h1⟩
  · rw [List.getElem?_set_ne (Ne.symm e)] at hj
    have hfm := List.mem_of_getElem? hj
    have ne : f.1 ≠ g.1 := fun z => e (nd_ix (x := f.1) nd (by rw [List.getElem?_map, hj]; rfl) (by rw [List.getElem?_map, hg]; exact congrArg some z.symm))
    exact ⟨by rw [upd_ne ne]; exact (h f hfm).1, (h f hfm).2.up h1⟩
theorem hz_set_map {g : HZ} {i : Nat} (hg : gs[i]? = some g) : (gs.set i (g.1, zs)).map hV = gs.map hV ∧ (gs.set i (g.1, zs)).map (·.1) = gs.map (·.1) := by
  constructor
  · apply List.ext_getElem?
    intro j
    rw [List.getElem?_map, List.getElem?_map]
    by_cases e : j = i
    · subst e
      rw [List.getElem?_set_self (List.getElem?_eq_some_iff.mp hg).1, hg]
      rfl
    · rw [List.getElem?_set_ne (Ne.symm e)]
  · apply List.ext_getElem?
    intro j
    rw [List.getElem?_map, List.getElem?_map]
    by_cases e : j = i
    · subst e
      rw [List.getElem?_set_self (List.getElem?_eq_some_iff.mp hg).1, hg]
      rfl
    · rw [List.getElem?_set_ne (Ne.symm e)]
def encH (g : HZ) : PyData := .list (g.2.map fun z => encQ z.2)
theorem HP.rn {a : Addr} (h : HP H gs) (ha : H a = some (.lst (gs.map hV))) : Rn H (.ref a) (.list (gs.map encH)) := .lst ha (rnA_map fun g hg => (h g hg).2.tp.rnL (h g hg).1)
theorem HP.rp {a : Addr} (h : HP H gs) (ha : H a = some (.lst (gs.map hV))) : Rp H (.ref a) (.list (gs.map encH)) := .lst (lst_of ha) (rpA_map fun g hg => (h g hg).2.tp.rpL (h g hg).1)
theorem encH_depth (g : HZ) : (encH g).depth ≤ 3 := by
  have : PyData.depthAll (g.2.map fun z => encQ z.2) ≤ 2 := depth_map fun z _ => encQ_depth z.2
  simp only [encH, PyData.depth]
  omega
theorem gs_depth (gs : List HZ) : (PyData.list (gs.map encH)).depth ≤ 4 := by
  have : PyData.depthAll (gs.map encH) ≤ 3 := depth_map fun g _ => encH_depth g
  simp only [PyData.depth]
  omega
theorem okA_of {ds : List PyData} (h : ∀ d ∈ ds, okD d = true) : okA ds = true := by
  induction ds with
  | nil => rfl
  | cons d ds ih => simp only [okA, h d List.mem_cons_self, ih fun x hx => h x (List.mem_cons_of_mem _ hx), Bool.and_self]
theorem szA_le {ds : List PyData} {n : Nat} (h : ∀ d ∈ ds, szD d ≤ n) : szA ds ≤ ds.length * n := by
  induction ds with
  | nil => simp [szA]
  | cons d ds ih =>
    have h1 := h d List.mem_cons_self
    have h2 := ih fun x hx => h x (List.mem_cons_of_mem _ hx)
    simp only [szA, List.length_cons, Nat.succ_mul]
    omega
theorem hasDictA_of {ds : List PyData} (h : ∀ d ∈ ds, d.hasDict = false) : PyData.hasDictAll ds = false := by
  induction ds with
  | nil => rfl
  | cons d ds ih => simp only [PyData.hasDictAll, h d List.mem_cons_self, ih fun x hx => h x (List.mem_cons_of_mem _ hx), Bool.or_self]
theorem HP.sd {a : Addr} (h : HP H gs) (ha : H a = some (.lst (gs.map hV))) (hl : gs.length ≤ 100) : Sd H (.ref a) (.list (gs.map encH)) := by
  refine ⟨h.rn ha, fun z => ?_, ?_, ?_, Nat.le_trans (gs_depth gs) (by decide)⟩
  · have : PyData.hasDictAll (gs.map encH) = false := hasDictA_of fun d hd => by
      obtain ⟨g, hg, rfl⟩ := List.mem_map.mp hd
      exact hasDictA_of fun d hd => by
        obtain ⟨z, hz, rfl⟩ := List.mem_map.mp hd
        rfl
    simp only [PyData.hasDict, this] at z
    cases z
  · refine okA_of fun d hd => ?_
    obtain ⟨g, hg, rfl⟩ := List.mem_map.mp hd
    refine okA_of fun d hd => ?_
    obtain ⟨z, hz, rfl⟩ := List.mem_map.mp hd
    have := (h g hg).2.small z hz
    simp only [encQ, okD, okA, Bool.and_true, Bool.and_eq_true, decide_eq_true_eq]
    omega
  · have h1 : szA (gs.map encH) ≤ (gs.map encH).length * 6916 := szA_le fun d hd => by
      obtain ⟨g, hg, rfl⟩ := List.mem_map.mp hd
      have h2 : szA (g.2.map fun z => encQ z.2) ≤ (g.2.map fun z => encQ z.2).length * 3 := szA_le fun d hd => by
        obtain ⟨z, hz, rfl⟩ := List.mem_map.mp hd
        simp [encQ, szD, szA]
      have h3 := (h g hg).2.few
      rw [List.length_map] at h2
      simp only [encH, szD]
      omega
    rw [List.length_map] at h1
    simp only [szD]
    omega
theorem eqv_gs_nil (gs : List HZ) : PyData.eqv (.list (gs.map encH)) (.list []) = decide (gs = []) := eqv_nil_r gs
variable {K : PySem.W.Frag} {Q : VK}
theorem st_ixH {D : Addr} {i : Int} (h1 : H D = some (.lst (gs.map hV))) (h0 : 0 ≤ i) (hi : i < gs.length) (h : ∀ g, gs[i.toNat]? = some g → g ∈ gs → Q (hV g) H) : rIxU K (.ref D) (.int i) H Q := by
  obtain ⟨g, hg⟩ : ∃ g, gs[i.toNat]? = some g := ⟨gs[i.toNat]'(by omega), List.getElem?_eq_getElem _⟩
  refine st_ixL h1 (v := hV g) ?_ (h g hg (List.mem_of_getElem? hg))
  have := at_mapN (f := hV) hg
  rwa [show ((i.toNat : Nat) : Int) = i by omega] at this
theorem st_ixP {D : Addr} {i : Int} (h1 : H D = some (.lst (zs.map zV))) (h0 : 0 ≤ i) (hi : i < zs.length) (h : ∀ z, zs[i.toNat]? = some z → z ∈ zs → Q (zV z) H) : rIxU K (.ref D) (.int i) H Q := by
  obtain ⟨z, hz⟩ : ∃ z, zs[i.toNat]? = some z := ⟨zs[i.toNat]'(by omega), List.getElem?_eq_getElem _⟩
  refine st_ixL h1 (v := zV z) ?_ (h z hz (List.mem_of_getElem? hz))
  have := at_mapN (f := zV) hz
  rwa [show ((i.toNat : Nat) : Int) = i by omega] at this
/-- new lists with the pairs of others -/
theorem hp_copy {ts : List Addr} (f : List ZP → List ZP) (h : ObjsAt H' ts (gs.map fun g => .lst ((f g.2).map zV))) (hs : ∀ g ∈ gs, SP H' (f g.2)) : ∃ fs : List HZ, fs.map hV = ts.map V.ref ∧ fs.map (·.1) = ts ∧ fs.map (·.2) = gs.map (fun g => f g.2) ∧ HP H' fs := by
  have hl := h.len
  rw [List.length_map] at hl
  refine ⟨ts.zip (gs.map fun g => f g.2), ?_, List.map_fst_zip (by rw [List.length_map]; omega), List.map_snd_zip (by rw [List.length_map]; omega), ?_⟩
  · have : (ts.zip (gs.map fun g => f g.2)).map Prod.fst = ts := List.map_fst_zip (by rw [List.length_map]; omega)
    rw [show (hV : HZ → V) = V.ref ∘ Prod.fst from rfl, ← List.map_map, this]
  · intro g hg
    obtain ⟨j, hj⟩ := List.getElem?_of_mem hg
    rw [List.getElem?_zip_eq_some] at hj
    obtain ⟨j1, j2⟩ := hj
    rw [List.getElem?_map] at j2
    cases hq : gs[j]? with
    | none => rw [hq] at j2; cases j2
    | some z =>
      rw [hq] at j2
      have e : f z.2 = g.2 := Option.some.inj j2
      have := h.at j _ _ j1 (by rw [List.getElem?_map, hq]; rfl)
      rw [this, ← e]
      exact ⟨rfl, hs z (List.mem_of_getElem? hq)⟩
end
theorem Sm.cut {H : Hp} {xs : List V} {n k : Nat} {lo hi : Option Int} (h : ∀ x ∈ xs, Sm H x n k) : ∀ x ∈ cutV xs lo hi, Sm H x n k := fun x hx => h x (cutV_mem hx)
/-- any small data -/
def SdE (H : Hp) (v : V) : Prop := ∃ d, Sd H v d
theorem SdE.of {H : Hp} {v : V} {n k : Nat} (h : Sm H v n k) (h1 : n ≤ 999999) (h2 : k ≤ 59) : SdE H v := h.sd h1 h2
theorem SdE.ex {H H' : Hp} {v : V} (h : SdE H v) (e : Ex H H') : SdE H' v := by
  obtain ⟨d, h⟩ := h
  exact ⟨d, h.ex e⟩
theorem allE_nil {P : V → Prop} : ∀ x ∈ ([] : List V), P x := fun _ h => nomatch h
theorem allE_cons {P : V → Prop} {y : V} {ys : List V} (h : P y) (k : ∀ x ∈ ys, P x) : ∀ x ∈ y :: ys, P x := fun x hx => by
  rcases List.mem_cons.mp hx with e | e
  · rw [e]; exact h
  · exact k x e
theorem allE_app {P : V → Prop} {xs ys : List V} (h : ∀ x ∈ xs, P x) (k : ∀ x ∈ ys, P x) : ∀ x ∈ xs ++ ys, P x := fun x hx => by
  rcases List.mem_append.mp hx with e | e
  · exact h x e
  · exact k x e
mutual
/-- a thing is one data -/
theorem Rn.det {H : Hp} : ∀ {v : V} {d d' : PyData}, Rn H v d → Rn H v d' → d = d'
  | _, _, _, .non, .non => rfl
  | _, _, _, .bl _, .bl _ => rfl
  | _, _, _, .int _, .int _ => rfl
  | _, _, _, .str _, .str _ => rfl
  | _, _, _, .lst h k, .lst h' k' => by
    rw [h] at h'
    cases h'
    rw [RnA.det k k']
  | _, _, _, .tup h k, .tup h' k' => by
    rw [h] at h'
    cases h'
    rw [RnA.det k k']
  | _, _, _, .dk _, .dk _ => rfl
  | _, _, _, .lst h _, .tup h' _ => by rw [h] at h'; cases h'
  | _, _, _, .lst h _, .dk h' => by rw [h] at h'; cases h'
  | _, _, _, .tup h _, .lst h' _ => by rw [h] at h'; cases h'
  | _, _, _, .tup h _, .dk h' => by rw [h] at h'; cases h'
  | _, _, _, .dk h, .lst h' _ => by rw [h] at h'; cases h'
  | _, _, _, .dk h, .tup h' _ => by rw [h] at h'; cases h'
theorem RnA.det {H : Hp} : ∀ {vs : List V} {ds ds' : List PyData}, RnA H vs ds → RnA H vs ds' → ds = ds'
  | _, _, _, .nil, .nil => rfl
  | _, _, _, .cons h k, .cons h' k' => by rw [Rn.det h h', RnA.det k k']
end
theorem SdE.sd {H : Hp} {v : V} {d : PyData} (h : SdE H v) (r : Rn H v d) : Sd H v d := by
  obtain ⟨d', h⟩ := h
  rw [r.det h.rn]
  exact h
/-! ### sizes summed up -/
def SmA (H : Hp) (xs : List V) (n k : Nat) : Prop := ∃ ds, RnA H xs ds ∧ PyData.hasDictAll ds = false ∧ okA ds = true ∧ szA ds ≤ n ∧ PyData.depthAll ds ≤ k
section
variable {H : Hp} {v : V} {xs ys : List V} {n m k : Nat}
theorem SmA.of (h : ∀ x ∈ xs, Sm H x n k) (hm : xs.length ≤ m) : SmA H xs (m * n) k := by
  obtain ⟨ds, a, b, c, d, e⟩ := Sm.all h
  exact ⟨ds, a, b, c, Nat.le_trans d (Nat.mul_le_mul_right n hm), e⟩
theorem SmA.up {n' k' : Nat} (h : SmA H xs n k) (h1 : n ≤ n') (h2 : k ≤ k') : SmA H xs n' k' := by
  obtain ⟨ds, a, b, c, d, e⟩ := h
  exact ⟨ds, a, b, c, by omega, by omega⟩
theorem SmA.nil : SmA H [] 0 k := ⟨[], .nil, rfl, rfl, by simp [szA], by simp [PyData.depthAll]⟩
theorem SmA.cons (h : Sm H v n k) (t : SmA H xs m k) : SmA H (v :: xs) (n + m) k := by
  obtain ⟨ds, a, b, c, d, e⟩ := t
  obtain ⟨x, a1, b1, c1, d1, e1⟩ := h
  refine ⟨x :: ds, .cons a1 a, by simp [PyData.hasDictAll, b, b1], by simp [okA, c, c1], ?_, ?_⟩
  · simp only [szA]; omega
  · simp only [PyData.depthAll]; omega
theorem SmA.app : ∀ {xs : List V} {n : Nat}, SmA H xs n k → SmA H ys m k → SmA H (xs ++ ys) (n + m) k
  | [], n, _, t => t.up (by omega) (Nat.le_refl _)
  | x :: xs, n, ⟨ds, a, b, c, d, e⟩, t => by
    cases a with
    | @cons _ _ d0 ds0 a1 a2 =>
      simp only [PyData.hasDictAll, Bool.or_eq_false_iff] at b
      simp only [okA, Bool.and_eq_true] at c
      simp only [szA] at d
      simp only [PyData.depthAll] at e
      have h := SmA.app (xs := xs) ⟨ds0, a2, b.2, c.2, Nat.le_refl _, by omega⟩ t
      exact (SmA.cons (n := szD d0) ⟨d0, a1, b.1, c.1, Nat.le_refl _, by omega⟩ h).up (by omega) (Nat.le_refl _)
theorem SmA.lst {a : Addr} (h : H a = some (.lst xs)) (t : SmA H xs n k) : Sm H (.ref a) (1 + n) (k + 1) := by
  obtain ⟨ds, h1, h2, h3, h4, h5⟩ := t
  exact ⟨.list ds, .lst h h1, by simpa only [PyData.hasDict] using h2, by simpa only [okD] using h3, by simp only [szD]; omega, by simp only [PyData.depth]; omega⟩
theorem SmA.tup {a : Addr} (h : H a = some (.tup xs)) (t : SmA H xs n k) : Sm H (.ref a) (1 + n) (k + 1) := by
  obtain ⟨ds, h1, h2, h3, h4, h5⟩ := t
  exact ⟨.tuple ds, .tup h h1, by simpa only [PyData.hasDict] using h2, by simpa only [okD] using h3, by simp only [szD]; omega, by simp only [PyData.depth]; omega⟩
theorem ObjsAt.mem {ts : List Addr} {os : List HO} (h : ObjsAt H ts os) {a : Addr} (ha : a ∈ ts) : ∃ o ∈ os, H a = some o := by
  obtain ⟨j, hj⟩ := List.getElem?_of_mem ha
  have hl := h.len
  have hjl := (List.getElem?_eq_some_iff.mp hj).1
  obtain ⟨o, ho⟩ : ∃ o, os[j]? = some o := ⟨os[j]'(by omega), List.getElem?_eq_getElem _⟩
  exact ⟨o, List.mem_of_getElem? ho, h.at j a o hj ho⟩
theorem SP.smA {zs : List ZP} (h : SP H zs) (hm : zs.length ≤ m) : SmA H (zs.map zV) (m * 3) 2 := SmA.of h.sm (by rw [List.length_map]; exact hm)
theorem HP.smA {gs : List HZ} (h : HP H gs) (hm : gs.length ≤ m) : SmA H (gs.map hV) (m * 6916) 3 := SmA.of h.sm (by rw [List.length_map]; exact hm)
theorem SmA.cut {lo hi : Option Int} (h : ∀ x ∈ xs, Sm H x n k) (hm : xs.length ≤ m) : SmA H (cutV xs lo hi) (m * n) k := SmA.of (Sm.cut h) (Nat.le_trans (cutV_length _ _ _) hm)
end
theorem eqv_gs (gs fs : List HZ) : PyData.eqv (.list (gs.map encH)) (.list (fs.map encH)) = decide (gs.map (fun g => g.2.map (·.2)) = fs.map fun g => g.2.map (·.2)) := by
  have h := eqv_list (enc := fun l : List (Nat × Nat) => PyData.list (l.map encQ)) (eqv_list eqv_encQ) (gs.map fun g => g.2.map (·.2)) (fs.map fun g => g.2.map (·.2))
  have e : ∀ gs : List HZ, gs.map encH = (gs.map fun g => g.2.map (·.2)).map fun l : List (Nat × Nat) => PyData.list (l.map encQ) := fun gs => by
    rw [List.map_map]
    exact List.map_congr_left fun g _ => by simp only [encH, Function.comp, List.map_map]; rfl
  rw [e, e]
  exact h
/-! ### where one list q changes -/
theorem SP.frq {H H' : Hp} {q : Addr} {zs : List ZP} {xs : List V} (h : SP H zs) (hq : H q = some (.lst xs)) (e : FrP q H H') : SP H' zs := ⟨fun z hz => e.get (fun y => by have := h.tp z hz; rw [y, hq] at this; cases this) (h.tp z hz), h.few, h.small⟩
theorem HP.frq {H H' : Hp} {q : Addr} {gs : List HZ} {xs : List V} (h : HP H gs) (hq : H q = some (.lst xs)) (n : ∀ g ∈ gs, g.1 ≠ q) (e : FrP q H H') : HP H' gs := fun g hg => ⟨e.get (n g hg) (h g hg).1, (h g hg).2.frq hq e⟩
theorem Purse.frq {H H' : Hp} {p q : Addr} (h : Purse H p) (n : p ≠ q) (e : FrP q H H') : Purse H' p := by
  obtain ⟨x, y, z, h⟩ := h
  exact ⟨x, y, z, e.get n h⟩
/-! ### where things of M change, none of them a tuple -/
theorem SP.frm {M : Addr → Prop} {H H' : Hp} {zs : List ZP} (h : SP H zs) (e : Fr M H H') (t : ∀ b xs, H b = some (.tup xs) → ¬ M b) : SP H' zs := ⟨fun z hz => e.get (t _ _ (h.tp z hz)) (h.tp z hz), h.few, h.small⟩
theorem HP.frm {M : Addr → Prop} {H H' : Hp} {gs : List HZ} (h : HP H gs) (e : Fr M H H') (n : ∀ g ∈ gs, ¬ M g.1) (t : ∀ b xs, H b = some (.tup xs) → ¬ M b) : HP H' gs := fun g hg => ⟨e.get (n g hg) (h g hg).1, (h g hg).2.frm e t⟩
theorem Ex.comp {M : Addr → Prop} {H0 H H' : Hp} (e0 : Ex H0 H) (e : Fr M H H') (n : ∀ b, M b → H0 b = none) : Ex H0 H' := fun b o _ q => e b o (fun m => by rw [n b m] at q; cases q) (e0 b o (fun z => z) q)
end Zb

/-! things that are shown; isinstance of several classes -/
namespace Zb
open PySem PySem.Spec PyProof.Rows L2
mutual
theorem Rq.ex {H H' : Hp} (e : Ex H H') : ∀ {v : V} {d : PyData}, Rq H v d → Rq H' v d
  | _, _, .non => .non
  | _, _, .bl b => .bl b
  | _, _, .int i => .int i
  | _, _, .str x => .str x
  | _, _, .lst h k => .lst (lstAt_ex e h) (RqA.ex e k)
  | _, _, .tup h k => .tup (tupAt_ex e h) (RqA.ex e k)
  | _, _, .dk h k => .dk (e.get h) (RqA.ex e k)
theorem RqA.ex {H H' : Hp} (e : Ex H H') : ∀ {vs : List V} {ds : List PyData}, RqA H vs ds → RqA H' vs ds
  | _, _, .nil => .nil
  | _, _, .cons h k => .cons (Rq.ex e h) (RqA.ex e k)
end
/-- v is d, and is shown by n signs at most, k deep -/
structure Sh (H : Hp) (v : V) (d : PyData) (n k : Nat) : Prop where
  rq : Rq H v d
  sw : d.showable = true
  dp : d.depth ≤ k
  sz : d.shown.length ≤ n
section
variable {H H' : Hp} {v : V} {d : PyData} {n k : Nat} {Q : VK}
theorem Sh.ex (h : Sh H v d n k) (e : Ex H H') : Sh H' v d n k := ⟨h.rq.ex e, h.sw, h.dp, h.sz⟩
theorem Sh.up {n' k' : Nat} (h : Sh H v d n k) (h1 : n ≤ n') (h2 : k ≤ k') : Sh H v d n' k' := ⟨h.rq, h.sw, by have := h.dp; omega, by have := h.sz; omega⟩
theorem Sd.sh (h : Sd H v d) : Sh H v d 16000000 59 := ⟨h.rn.rq, okD_showable d h.ok, h.dp, by
  have h1 := okD_shown d h.ok
  have h2 := h.sz
  omega⟩
theorem st_reprS (h : Sh H v d 16777216 60) (q : Q (.str d.shown) H) : rRepr [v] H Q := ⟨v, d, rfl, h.rq, h.sw, h.dp, h.sz, q⟩
theorem Sh.non : Sh H .non .none 4 0 := ⟨.non, rfl, by simp [PyData.depth], by decide⟩
theorem Sh.bl (b : Bool) : Sh H (.bl b) (.bool b) 5 0 := ⟨.bl b, rfl, by simp [PyData.depth], by cases b <;> decide⟩
theorem Sh.str {x : Str} (hx : ∀ c ∈ x.cps.toList, c < 16 ^ 8) : Sh H (.str x) (.str x) (10 * x.length + 2) 0 := ⟨.str x, rfl, by simp [PyData.depth], PySem.StrLaws.reprText_len x hx⟩
theorem Sh.int {i : Int} {m : Nat} (hm : 0 < m) (h : i.natAbs < 10 ^ m) (h2 : i.natAbs.log2 < 1920) : Sh H (.int i) (.int i) (m + 1) 0 := ⟨.int i, by simpa only [PyData.showable, decide_eq_true_eq] using h2, by simp [PyData.depth], by
  have e := int_text_length_le10 hm h
  have e2 : (Str.ofString (toString i)).length = (toString i).length := PySem.ofString_length _
  show (Str.ofString (toString i)).length ≤ _
  omega⟩
/-- rows of shown things -/
inductive ShA (H : Hp) (k : Nat) : List V → List PyData → Nat → Prop
  | nil : ShA H k [] [] 0
  | cons {v : V} {d : PyData} {n : Nat} {vs : List V} {ds : List PyData} {m : Nat} : Sh H v d n k → ShA H k vs ds m → ShA H k (v :: vs) (d :: ds) (n + 2 + m)
theorem ShA.all : ∀ {vs : List V} {ds : List PyData} {m : Nat}, ShA H k vs ds m → RqA H vs ds ∧ PyData.showableAll ds = true ∧ PyData.depthAll ds ≤ k ∧ ((PyData.shownAll ds).map (·.length)).sum + 2 * ds.length ≤ m
  | _, _, _, .nil => ⟨.nil, rfl, by simp [PyData.depthAll], by simp [PyData.shownAll]⟩
  | _, _, _, .cons h t => by
    obtain ⟨a, b, c, e⟩ := ShA.all t
    refine ⟨.cons h.rq a, by simp [PyData.showableAll, h.sw, b], ?_, ?_⟩
    · have := h.dp
      simp only [PyData.depthAll]; omega
    · have := h.sz
      simp only [PyData.shownAll, List.map_cons, List.sum_cons, List.length_cons]; omega
theorem ShA.lst {a : Addr} {xs : List V} {ds : List PyData} (h : H a = some (.lst xs)) (t : ShA H k xs ds n) : Sh H (.ref a) (.list ds) (n + 3) (k + 1) := by
  obtain ⟨r, s, dp, sz⟩ := t.all
  have h2 := listText_len_le (PyData.shownAll ds)
  have h3 := PyData.shownAll_length ds
  exact ⟨.lst (lst_of h) r, by simpa only [PyData.showable] using s, by simp only [PyData.depth]; omega, by simp only [PyData.shown]; omega⟩
theorem ShA.tup {a : Addr} {xs : List V} {ds : List PyData} (h : H a = some (.tup xs)) (t : ShA H k xs ds n) : Sh H (.ref a) (.tuple ds) (n + 3) (k + 1) := by
  obtain ⟨r, s, dp, sz⟩ := t.all
  have h2 := tupleText_len_le (PyData.shownAll ds)
  have h3 := PyData.shownAll_length ds
  exact ⟨.tup (tup_of h) r, by simpa only [PyData.showable] using s, by simp only [PyData.depth]; omega, by simp only [PyData.shown]; omega⟩
theorem ShA.map {α : Type} {val : α → V} {enc : α → PyData} {m : Nat} : ∀ {xs : List α}, (∀ x ∈ xs, Sh H (val x) (enc x) m k) → ShA H k (xs.map val) (xs.map enc) (xs.length * (m + 2))
  | [], _ => by rw [List.length_nil, Nat.zero_mul]; exact .nil
  | x :: xs, h => by
    have := ShA.cons (h x List.mem_cons_self) (ShA.map fun y hy => h y (List.mem_cons_of_mem _ hy))
    rw [List.length_cons, Nat.succ_mul]
    rwa [show xs.length * (m + 2) + (m + 2) = m + 2 + xs.length * (m + 2) by omega]
theorem Sh.dk0 {a : Addr} (h : H a = some (.dK [])) : Sh H (.ref a) (.dict []) 2 1 := ⟨.dk0 h, rfl, by simp [PyData.depth, PyData.depthKv], by decide +kernel⟩
/-- {x: v} by a text -/
theorem Sh.dk1 {a : Addr} {x : Str} (hx : ∀ c ∈ x.cps.toList, c < 16 ^ 8) (h : H a = some (.dK [(.inr x, v)])) (hv : Sh H v d n k) : Sh H (.ref a) (.dict [(.str x, d)]) (10 * x.length + n + 9) (k + 1) := by
  refine ⟨.dk h (.cons hv.rq .nil), by simp [PyData.showable, PyData.showableKv, hv.sw], ?_, ?_⟩
  · have := hv.dp
    simp only [PyData.depth, PyData.depthKv]; omega
  · have h1 := PySem.StrLaws.reprText_len x hx
    have h2 := hv.sz
    have h3 := dictText_len_le (PyData.shownKv [(.str x, d)])
    have e2 : ((PyData.str x).shown ++ ": " ++ d.shown).length = (PyData.str x).shown.length + 2 + d.shown.length := by
      rw [strLen_append, strLen_append]; rfl
    have e3 : (PyData.str x).shown.length = (reprText x).length := rfl
    simp only [PyData.shown, PyData.shownKv, List.map_cons, List.map_nil, List.sum_cons, List.sum_nil, List.length_cons, List.length_nil] at h3 e2 e3 ⊢
    omega
end
/-! ### isinstance of an exception, of several classes -/
def rIsXs (K : PySem.W.Frag) (a : Addr) (cls : Value) (d : Option Addr) : List V → Hp → VK → Prop := fun xs H Q => ∃ (tp : Addr) (cs : List V) (cvs : List Value) (b : Bool) (C dd : Addr) (fs : List (Str × V)), xs = [.ref a, .ref tp] ∧ H tp = some (.tup cs) ∧ (∀ us, Vals cs us → us = cvs) ∧ cls = .ref C ∧ XI K C ∧ d = some dd ∧ H dd = some (.xd fs) ∧ PySem.W.kitAny K (.ref C) cvs = some b ∧ Q (.bl b) H
theorem call_isXs {X : Cx} {a : Addr} {cls : Value} {d : Option Addr} {oe : Obj} {pn : List (Addr × Obj)} (hz : Zc cls d oe) (hf : ∃ vs, oe.data = .fields vs) : CallR (X.suite a ((a, oe) :: pn)) (.builtin "isinstance") (rIsXs X.K a cls d) := by
  intro pins s σ H xs us Q I r h
  obtain ⟨tp, cs, cvs, b, C, dd, fs, rfl, htp, hcv, ec, T, ed, ea, e, q⟩ := h
  subst ec
  subst ed
  cases r with
  | cons rx rr =>
    cases rr with
    | cons rt rr =>
      cases rr
      cases rx
      cases rt
      obtain ⟨its, rv, ⟨o, h1, h2, n, h3⟩, _⟩ := I.tuple (.inl (.inl htp))
      have := hcv its rv
      subst this
      obtain ⟨hget, _⟩ := I.pin (a, oe) (List.mem_append.mpr (.inl List.mem_cons_self))
      obtain ⟨vs, hv⟩ := hf
      have hx : ObjOk X.prog X.w H s.heap dd (.xd fs) := I.hok dd _ ea
      obtain ⟨mA, hns, hr⟩ := hx
      obtain ⟨od, ho, hl⟩ := lookIn_ns hns
      have J : PySem.W.InstAt s.heap a oe C (some od) := ⟨hget, hz.1, by unfold PySem.W.notCls; rw [hv] <;> rfl, by rw [hz.2]; exact ho⟩
      obtain ⟨oc, odd, oda, osl⟩ := o
      dsimp only at h2 h3
      subst h2 h3
      exact PySem.W.kia_tup (PySem.W.kitx_exc T.hc T.ga T.gg T.sb T.ca T.cn T.ct T.cm) I.kIn J h1 e (fun z => nomatch z) fun tk => ⟨.bl b, H, I.kept (t' := tk) fun _ _ z => z, rfl, q⟩
section
variable {K : PySem.W.Frag} {H : Hp} {Q : VK}
theorem st_isXs2 {a C C1 C2 dd tp : Addr} {fs : List (Str × V)} {b1 b2 : Bool} (T : XI K C) (h1 : H dd = some (.xd fs)) (ht : H tp = some (.tup [.ref C1, .ref C2])) (e1 : PySem.W.kitOne K (.ref C) (.ref C1) = some b1) (e2 : PySem.W.kitOne K (.ref C) (.ref C2) = some b2) (h : Q (.bl (b1 || b2)) H) : rIsXs K a (.ref C) (some dd) [.ref a, .ref tp] H Q := by
  refine ⟨tp, _, [.ref C1, .ref C2], b1 || b2, C, dd, fs, rfl, ht, fun us r => ?_, rfl, T, rfl, h1, ?_, h⟩
  · cases r with
    | cons r1 rr =>
      cases rr with
      | cons r2 rr =>
        cases rr
        cases r1
        cases r2
        rfl
  · unfold PySem.W.kitAny
    rw [e1]
    cases b1 with
    | true => rfl
    | false =>
      show PySem.W.kitAny K _ [.ref C2] = _
      unfold PySem.W.kitAny
      rw [e2]
      cases b2 <;> rfl
end
/-! ### lengths of texts -/
theorem fold_len' (z : Str) (n : Nat) (h : 1 < n) (hz : 0 < z.length) : (Txt.mul z (n : Int)).length = z.length * n := by
  unfold Txt.mul
  rw [if_neg (by omega)]
  have h2 : ¬ (((n : Int) == 1 || z.length == 0) = true) := by simp; omega
  rw [if_neg h2]
  show ((List.replicate (n : Int).toNat z.cps).foldl (· ++ ·) #[]).size = _
  rw [fold_len, Int.toNat_natCast, Nat.mul_comm]
  simp
  rfl
theorem cutS_to_len (z : Str) (n : Nat) (h : n ≤ z.length) : (cutS z none (some (n : Int))).length = n := by
  show ((z.cps.toList.drop _).take _).toArray.size = _
  rw [HT.sIx_none, HT.sIx_nat, List.size_toArray, List.length_take, List.length_drop, Array.length_toList]
  show min (min n z.cps.size - 0) (z.cps.size - 0) = n
  have : z.cps.size = z.length := rfl
  omega
theorem fold_mem {x : Nat} (a : Array Nat) : ∀ (n : Nat) (b : Array Nat), x ∈ ((List.replicate n a).foldl (· ++ ·) b).toList → x ∈ b.toList ∨ x ∈ a.toList
  | 0, b, h => .inl h
  | n + 1, b, h => by
    rw [List.replicate_succ, List.foldl_cons] at h
    rcases fold_mem a n _ h with h | h
    · rw [Array.toList_append] at h
      exact List.mem_append.mp h
    · exact .inr h
theorem mul_mem {x : Nat} {z : Str} {n : Int} (h : x ∈ (Txt.mul z n).cps.toList) : x ∈ z.cps.toList := by
  unfold Txt.mul at h
  split at h
  · cases h
  · split at h
    · exact h
    · rcases fold_mem _ _ _ h with h | h
      · cases h
      · exact h
/-! ### a heap without one thing -/
def hid (p : Addr) (H : Hp) : Hp := fun b => if b = p then none else H b
theorem hid_get {p a : Addr} {H : Hp} {o : HO} (h : H a = some o) (n : a ≠ p) : hid p H a = some o := by
  unfold hid
  rw [if_neg n]
  exact h
theorem hid_ex (p : Addr) (H : Hp) : Ex (hid p H) H := fun b o _ h => by
  unfold hid at h
  split at h
  · cases h
  · exact h
theorem hid_frp {p : Addr} {H H' : Hp} (e : FrP p H H') : Ex (hid p H) (hid p H') := fun b o _ h => by
  unfold hid at h ⊢
  by_cases n : b = p
  · rw [if_pos n] at h; cases h
  · rw [if_neg n] at h ⊢
    exact e b o n h
end Zb
set_option Elab.async false
set_option linter.all false
set_option maxRecDepth 100000
set_option maxHeartbeats 4000000

namespace My
open PySem PySem.Spec PyProof.Rows L2 Zb
open Evl (tCut pss_cut)

local macro_rules | `(tactic| walk_at "hp") => `(tactic| first
  | assumption
  | exact upd_same
  | (refine upd_old (by assumption) ?_; walk_at "hp")
  | (refine Ex.get (by assumption) ?_; walk_at "hp")
  | (refine Fr.get (by assumption) (by assumption) ?_; walk_at "hp"))
local macro_rules | `(tactic| walk_at "pu") => `(tactic| first
  | assumption
  | (refine Purse.ex ?_ (by assumption); walk_at "pu"))
local macro_rules | `(tactic| walk_at "fr") => `(tactic| first
  | exact Fr.refl _
  | assumption
  | exact Fr.ex (by assumption)
  | (refine Fr.trans ?_ (by assumption); walk_at "fr")
  | (refine Fr.trans ?_ (Fr.ex (by assumption)); walk_at "fr"))
local macro_rules | `(tactic| walk_at "sd") => `(tactic| first
  | omega
  | (simp only [tx_length, List.length_append, List.length_cons, List.length_nil, List.length_map]; omega)
  | assumption
  | exact rfl
  | decide)
local macro_rules | `(tactic| walk_at "nw") => `(tactic| (intro q H' hq he hv; (try (have hne := Purse.ne (by assumption) hq; have hpu := Purse.ex (by assumption) he))))
local macro_rules | `(tactic| walk_at "sm") => `(tactic| first
  | exact Sm.nil
  | assumption
  | (refine Sm.app ?_ ?_ <;> walk_at "sm")
  | (refine Sm.cons ?_ ?_ <;> walk_at "sm")
  | exact Sm.up Sm.non (Nat.le_of_ble_eq_true rfl) (Nat.le_of_ble_eq_true rfl)
  | exact Sm.up (Sm.bl _) (Nat.le_of_ble_eq_true rfl) (Nat.le_of_ble_eq_true rfl)
  | exact Sm.up (Sm.int (by omega)) (Nat.le_of_ble_eq_true rfl) (Nat.le_of_ble_eq_true rfl)
  | exact Sm.up (Sm.str (by decide +kernel)) (Nat.le_of_ble_eq_true rfl) (Nat.le_of_ble_eq_true rfl)
  | (refine Sm.up (Sm.tup (n := 1) (k := 1) (by walk_at "hp") ?_ (Nat.le_refl _)) (Nat.le_of_ble_eq_true rfl) (Nat.le_of_ble_eq_true rfl); walk_at "sm")
  | (refine Sm.up (Sm.lst (n := 1) (k := 1) (by walk_at "hp") ?_ (Nat.le_refl _)) (Nat.le_of_ble_eq_true rfl) (Nat.le_of_ble_eq_true rfl); walk_at "sm"))
local macro_rules | `(tactic| walk_at "ln") => `(tactic| first | omega | (simp only [List.length_append, List.length_cons, List.length_nil, List.length_map, List.length_singleton]; omega))
local macro_rules | `(tactic| walk_at "sn") => `(tactic| first
  | exact Sm.nil
  | assumption
  | exact Sm.upA (by assumption) (Nat.le_of_ble_eq_true rfl) (Nat.le_of_ble_eq_true rfl)
  | exact Sm.up (by assumption) (Nat.le_of_ble_eq_true rfl) (Nat.le_of_ble_eq_true rfl)
  | (refine Sm.app ?_ ?_ <;> walk_at "sn")
  | (refine Sm.cons ?_ ?_ <;> walk_at "sn")
  | (refine Sm.cut ?_ ; walk_at "sn")
  | walk_at "sm"
  | (refine Sm.up (Sm.lst (n := 100) (k := 3) (by walk_at "hp") ?_ (Nat.le_refl _)) (Nat.le_of_ble_eq_true rfl) (Nat.le_of_ble_eq_true rfl); walk_at "sn")
  | (refine Sm.up (Sm.lst (n := 4) (k := 2) (m := 4612) (by walk_at "hp") ?_ (by walk_at "ln")) (Nat.le_of_ble_eq_true rfl) (Nat.le_of_ble_eq_true rfl); walk_at "sn")
  | (refine Sm.up (Sm.tup (n := 4) (k := 2) (m := 4612) (by walk_at "hp") ?_ (by walk_at "ln")) (Nat.le_of_ble_eq_true rfl) (Nat.le_of_ble_eq_true rfl); walk_at "sn"))
local macro_rules | `(tactic| walk_at "sg") => `(tactic| first
  | exact allE_nil
  | (refine allE_cons ?_ ?_ <;> walk_at "sg")
  | exact ⟨_, Sd.dk (by walk_at "hp")⟩
  | (refine SdE.of (n := 1) (k := 1) ?_ (by decide) (by decide); walk_at "sm")
  | (refine SdE.of (Sm.lst (n := 18500) (k := 5) (m := 50) (by walk_at "hp") ?_ (by walk_at "ln")) (by decide) (by decide); walk_at "sn")
  | (refine SdE.of (Sm.tup (n := 18500) (k := 5) (m := 50) (by walk_at "hp") ?_ (by walk_at "ln")) (by decide) (by decide); walk_at "sn"))
local macro_rules | `(tactic| walk_at "s") => `(tactic| first
  | ((with_reducible refine' st_var ?a0 ?_); (case a0 => exact rfl))
  | ((with_reducible refine' st_isR1 ?a0 ?_); (case a0 => constructor <;> walk_at "sd"))
  | ((with_reducible refine' st_isR2 ?a0 ?_); (case a0 => refine ⟨?_, ?_, ?_, ?_⟩ <;> walk_at "sd"))
  | ((with_reducible refine' st_c ?_))
  | ((with_reducible refine' st_op ?_))
  | ((with_reducible refine' st_seq ?_))
  | ((with_reducible refine' st_asg ?_))
  | ((with_reducible refine' st_name ?_))
  | ((with_reducible refine' st_cons ?_))
  | ((with_reducible refine' st_nil ?_))
  | ((with_reducible refine' st_call ?_))
  | ((with_reducible refine' st_cb ?_))
  | ((with_reducible refine' st_ret ?_))
  | ((with_reducible refine' st_drop ?_))
  | ((with_reducible refine' st_ifS ?_))
  | ((with_reducible refine' st_test ?_))
  | ((with_reducible refine' st_B ?_))
  | ((with_reducible refine' st_isb ?_))
  | ((with_reducible refine' st_and ?_))
  | ((with_reducible refine' st_or ?_))
  | ((with_reducible refine' st_not ?_))
  | ((with_reducible refine' st_andV ?_))
  | ((with_reducible refine' st_orV ?_))
  | ((with_reducible refine' st_notV ?_))
  | ((with_reducible refine' st_if ?_))
  | ((with_reducible refine' st_lst ?_))
  | ((with_reducible refine' st_tup ?_))
  | ((with_reducible refine' st_sl ?_))
  | ((with_reducible refine' st_part ?_))
  | ((with_reducible refine' st_nopart ?_))
  | ((with_reducible refine' st_isi ?_))
  | ((with_reducible refine' st_sub ?_))
  | ((with_reducible refine' st_next ?_))
  | ((with_reducible refine' st_un ?_))
  | ((with_reducible refine' st_rU ?_))
  | ((with_reducible refine' st_augI ?a0 ?_); (case a0 => exact rfl))
  | ((with_reducible refine' st_ipI ?_))
  | ((with_reducible refine' st_par ?_))
  | ((with_reducible refine' st_par2 ?_))
  | ((with_reducible refine' st_addI ?_))
  | ((with_reducible refine' st_subI ?_))
  | ((with_reducible refine' st_cmpI ?_))
  | ((with_reducible refine' st_eqI ?_))
  | ((with_reducible refine' st_neI ?_))
  | ((with_reducible refine' st_eqS ?_))
  | ((with_reducible refine' st_neS ?_))
  | ((with_reducible refine' st_eqB ?_))
  | ((with_reducible refine' st_neB ?_))
  | ((with_reducible refine' st_max2 ?_))
  | ((with_reducible refine' st_min2 ?_))
  | ((with_reducible refine' st_brk ?_))
  | ((with_reducible refine' st_cont ?_))
  | ((with_reducible refine' st_retN ?_))
  | ((with_reducible refine' st_new ?a0 ?_); (case a0 => exact Nat.le_of_ble_eq_true rfl); walk_at "nw")
  | ((with_reducible refine' st_modI ?a0 ?_); (case a0 => walk_at "sd"))
  | ((with_reducible refine' st_divI ?a0 ?_); (case a0 => constructor <;> walk_at "sd"))
  | ((with_reducible refine' st_mulI ?a0 ?_); (case a0 => walk_at "sd"))
  | ((with_reducible refine' st_powI ?a0 ?_); (case a0 => refine ⟨?_, ?_, ?_⟩ <;> decide))
  | ((with_reducible refine' st_addS ?a0 ?_); (case a0 => walk_at "sd"))
  | ((with_reducible refine' st_ixL ?a0 ?a1 ?_); (case a0 => walk_at "hp"); (case a1 => exact rfl))
  | ((with_reducible refine' st_ixT ?a0 ?a1 ?_); (case a0 => walk_at "hp"); (case a1 => exact rfl))
  | ((with_reducible refine' st_lenL ?a0 ?_); (case a0 => walk_at "hp"))
  | ((with_reducible refine' st_lenT ?a0 ?_); (case a0 => walk_at "hp"))
  | ((with_reducible refine' st_lenS ?a0 ?_); (case a0 => walk_at "sd"))
  | ((with_reducible refine' st_slS ?a0 ?_); (case a0 => walk_at "sd"))
  | ((with_reducible refine' st_slL (lst_of ?a0) ?_); (case a0 => walk_at "hp"); walk_at "nw")
  | ((with_reducible refine' st_addL ?a0 ?a1 ?a2 ?_); (case a0 => walk_at "hp"); (case a1 => walk_at "hp"); (case a2 => walk_at "sd"); walk_at "nw")
  | ((with_reducible refine' st_setL ?a0 ?a1 ?_); (case a0 => walk_at "hp"); (case a1 => exact rfl))
  | ((with_reducible refine' st_yes ?_))
  | ((with_reducible refine' st_isI ?a0 ?_); (case a0 => first | exact kit_ii | exact kit_ib | exact kit_il | exact kit_is | exact kit_it | decide +kernel))
  | ((with_reducible refine' st_isL ?a0 ?a1 ?_); (case a0 => walk_at "hp"); (case a1 => first | exact kit_ll | exact kit_lt | decide +kernel))
  | ((with_reducible refine' st_isT ?a0 ?a1 ?_); (case a0 => walk_at "hp"); (case a1 => first | exact kit_tt | exact kit_tl | decide +kernel))
  | ((with_reducible refine' st_isS' ?a0 ?_); (case a0 => first | exact kit_ss | decide +kernel))
  | ((with_reducible refine' st_isB ?a0 ?_); (case a0 => first | exact kit_bb | exact kit_bi | decide +kernel))
  | ((with_reducible refine' st_clear ?a0 ?_); (case a0 => walk_at "hp"))
  | ((with_reducible refine' st_gtup ?a0 ?a1 ?_); (case a0 => walk_at "hp"); (case a1 => exact rfl))
  | ((with_reducible refine' st_glst ?a0 ?a1 ?_); (case a0 => walk_at "hp"); (case a1 => exact rfl))
  | ((with_reducible refine' st_gcons ?_))
  | ((with_reducible refine' st_gnil ?_))
  | ((with_reducible refine' st_iEnS ?_))
  | ((with_reducible refine' st_isEnS ?_))
  | ((with_reducible refine' st_mulL ?a0 ?a1 ?a2 ?a3 ?_); (case a0 => walk_at "hp"); (case a1 => walk_at "sd"); (case a2 => walk_at "sd"); (case a3 => walk_at "sd"); walk_at "nw")
  | ((with_reducible refine' st_isBool ?_))
  | ((with_reducible refine' st_pair ?_))
  | ((with_reducible refine' st_pairs0 ?_))
  | ((with_reducible refine' st_disp ?_); walk_at "nw")
  | ((with_reducible refine' st_listS ?a0 ?_); (case a0 => walk_at "sd"); walk_at "nw")
  | ((with_reducible refine' st_tupS ?a0 ?_); (case a0 => walk_at "sd"); walk_at "nw")
  | ((with_reducible refine' st_listQ (seq_l ?a0) ?_); (case a0 => walk_at "hp"); walk_at "nw")
  | ((with_reducible refine' st_tupL (lst_of ?a0) ?_); (case a0 => walk_at "hp"); walk_at "nw")
  | ((with_reducible refine' st_for ?_))
  | ((with_reducible refine' st_lc ?_))
  | ((with_reducible refine' st_iStr ?_))
  | ((with_reducible refine' st_isStr ?_))
  | ((with_reducible refine' st_iList ?_))
  | ((with_reducible refine' st_isList (lst_of ?a0) ?_); (case a0 => walk_at "hp"))
  | ((with_reducible refine' st_iTup ?_))
  | ((with_reducible refine' st_isTup (tup_of ?a0) ?_); (case a0 => walk_at "hp"))
  | ((with_reducible refine' st_iR1 ?_))
  | ((with_reducible refine' st_iR2 ?_))
  | ((with_reducible refine' st_iEn ?_))
  | ((with_reducible refine' st_isEn (lst_of ?a0) ?_); (case a0 => walk_at "hp"))
  | ((with_reducible refine' st_iZp ?_))
  | ((with_reducible refine' st_isZp (lst_of ?a0) (lst_of ?a1) ?_); (case a0 => walk_at "hp"); (case a1 => walk_at "hp"))
  | ((with_reducible refine' st_inC ?_))
  | ((with_reducible refine' st_ninC ?_))
  | ((with_reducible refine' st_m1 ?_))
  | ((with_reducible refine' st_isS ?_))
  | ((with_reducible refine' st_bm ?_))
  | ((with_reducible refine' st_bm0 ?_))
  | ((with_reducible refine' st_tyL ?a0 ?_); (case a0 => walk_at "hp"))
  | ((with_reducible refine' st_isN ?_))
  | ((with_reducible refine' st_notN ?_))
  | ((with_reducible refine' st_intB ?_))
  | ((with_reducible refine' st_intI ?_))
  | ((with_reducible refine' st_iR3 ?_))
  | ((with_reducible refine' st_dget2 ?_))
  | ((with_reducible refine' st_dsetd ?_))
  | ((with_reducible refine' st_dnew ?_))
  | ((with_reducible refine' st_dnewP ?_); walk_at "nw")
  | ((with_reducible refine' st_isD ?a0 ?_); (case a0 => walk_at "hp"))
  | ((with_reducible refine' st_isB2 ?_))
  | ((with_reducible refine' st_notB2 ?_))
  | ((with_reducible refine' st_chain ?_))
  | ((with_reducible refine' st_tru ?_))
  | ((with_reducible refine' st_truB ?_))
  | ((with_reducible refine' st_truI ?_))
  | ((with_reducible refine' st_while ?_))
  | ((with_reducible refine' st_st3 ?_))
  | ((with_reducible refine' st_revS ?a0 ?_); (case a0 => walk_at "sd"))
  | ((with_reducible refine' st_evS ?a0 ?_); (case a0 => walk_at "sd"))
  | ((with_reducible refine' st_odS ?a0 ?_); (case a0 => walk_at "sd"))
  | ((with_reducible refine' st_raise ?_))
  | ((with_reducible refine' st_mk1 ?a0 ?a1 ?_); (case a0 => walk_at "xo"); (case a1 => walk_at "nf"); walk_at "nw")
  | ((with_reducible refine' st_mk2 ?a0 ?a1 ?a2 ?_); (case a0 => walk_at "xo"); (case a1 => walk_at "nf"); (case a2 => walk_at "nf"); walk_at "nw")
  | ((with_reducible refine' st_try ?_))
  | ((with_reducible refine' st_callS ?_))
  | ((with_reducible refine' st_hYn ?a0 ?_); (case a0 => walk_at "ex"); intro ax hax)
  | ((with_reducible refine' st_hY0 ?a0 ?_); (case a0 => walk_at "ex"); intro ax hax)
  | ((with_reducible refine' st_hN ?a0 ?_); (case a0 => walk_at "ex"))
  | ((with_reducible refine' st_xe ?_))
  | ((with_reducible refine' st_xeP ?a0 ?a1 ?a2 ?a3 ?_); (case a0 => walk_at "xi"); (case a1 => walk_at "nf"); (case a2 => walk_at "hp"); (case a3 => exact rfl))
  | ((with_reducible refine' st_isX ?a0 ?a1 ?a2 ?_); (case a0 => walk_at "xi"); (case a1 => walk_at "hp"); (case a2 => walk_at "ki"))
  | ((with_reducible refine' st_isXT ?a0 ?a1 ?a2 ?_); (case a0 => walk_at "xi"); (case a1 => walk_at "hp"); (case a2 => walk_at "ki"))
  | ((with_reducible refine' st_isXs2 ?a0 ?a1 ?a2 ?a3 ?a4 ?_); (case a0 => walk_at "xi"); (case a1 => walk_at "hp"); (case a2 => walk_at "hp"); (case a3 => walk_at "ki"); (case a4 => walk_at "ki"))
  | ((with_reducible refine' st_T ?a0 ?_); (case a0 => exact rfl))
  | ((with_reducible refine' st_F ?a0 ?_); (case a0 => exact rfl)))
local macro_rules | `(tactic| walk_at "go") => `(tactic| repeat walk_at "s")

def top (i : Nat) : Stmt := PySem.Challenge.pw_panethread_k15_no_rows_for_heaps.main.body.getD i (.Pass ⟨0, 0, 0, 0⟩)
abbrev s_is_whole : Stmt := top 8
abbrev N_is_whole : List Str := ["thing"]
theorem sc_is_whole : FnScope N_is_whole ["thing"] (defScope s_is_whole) := ⟨rfl, rfl, rfl, by decide +kernel, rfl, by decide +kernel, by decide +kernel⟩
abbrev s_is_within : Stmt := top 9
abbrev N_is_within : List Str := ["thing", "low", "high"]
theorem sc_is_within : FnScope N_is_within ["thing", "low", "high"] (defScope s_is_within) := ⟨rfl, rfl, rfl, by decide +kernel, rfl, by decide +kernel, by decide +kernel⟩
abbrev s_is_row : Stmt := top 10
abbrev N_is_row : List Str := ["thing", "sign"]
theorem sc_is_row : FnScope N_is_row ["thing"] (defScope s_is_row) := ⟨rfl, rfl, rfl, by decide +kernel, rfl, by decide +kernel, by decide +kernel⟩
abbrev s_need_row : Stmt := top 11
abbrev N_need_row : List Str := ["row"]
theorem sc_need_row : FnScope N_need_row ["row"] (defScope s_need_row) := ⟨rfl, rfl, rfl, by decide +kernel, rfl, by decide +kernel, by decide +kernel⟩
abbrev s_need_rows : Stmt := top 12
abbrev N_need_rows : List Str := ["side", "top"]
theorem sc_need_rows : FnScope N_need_rows ["side", "top"] (defScope s_need_rows) := ⟨rfl, rfl, rfl, by decide +kernel, rfl, by decide +kernel, by decide +kernel⟩
abbrev s_places_of : Stmt := top 13
abbrev N_places_of : List Str := ["row", "found", "at", "sign"]
theorem sc_places_of : FnScope N_places_of ["row"] (defScope s_places_of) := ⟨rfl, rfl, rfl, by decide +kernel, rfl, by decide +kernel, by decide +kernel⟩
abbrev s_lengths : Stmt := top 15
abbrev N_lengths : List Str := ["side", "top", "table", "sign", "above", "row", "at", "other", "most"]
theorem sc_lengths : FnScope N_lengths ["side", "top"] (defScope s_lengths) := ⟨rfl, rfl, rfl, by decide +kernel, rfl, by decide +kernel, by decide +kernel⟩
abbrev s_thread_of : Stmt := top 16
abbrev N_thread_of : List Str := ["side", "top", "table", "i", "j", "found"]
theorem sc_thread_of : FnScope N_thread_of ["side", "top"] (defScope s_thread_of) := ⟨rfl, rfl, rfl, by decide +kernel, rfl, by decide +kernel, by decide +kernel⟩
abbrev s_is_pair : Stmt := top 17
abbrev N_is_pair : List Str := ["side", "top", "thing", "i", "j"]
theorem sc_is_pair : FnScope N_is_pair ["side", "top", "thing"] (defScope s_is_pair) := ⟨rfl, rfl, rfl, by decide +kernel, rfl, by decide +kernel, by decide +kernel⟩
abbrev s_is_ahead : Stmt := top 18
abbrev N_is_ahead : List Str := ["one", "other"]
theorem sc_is_ahead : FnScope N_is_ahead ["one", "other"] (defScope s_is_ahead) := ⟨rfl, rfl, rfl, by decide +kernel, rfl, by decide +kernel, by decide +kernel⟩
abbrev s_is_thread : Stmt := top 19
abbrev N_is_thread : List Str := ["side", "top", "thing", "before", "pair"]
theorem sc_is_thread : FnScope N_is_thread ["side", "top", "thing"] (defScope s_is_thread) := ⟨rfl, rfl, rfl, by decide +kernel, rfl, by decide +kernel, by decide +kernel⟩
abbrev s_pairs_of : Stmt := top 21
abbrev N_pairs_of : List Str := ["side", "top", "there", "found", "i", "sign", "j"]
theorem sc_pairs_of : FnScope N_pairs_of ["side", "top"] (defScope s_pairs_of) := ⟨rfl, rfl, rfl, by decide +kernel, rfl, by decide +kernel, by decide +kernel⟩
abbrev s_heaps_of : Stmt := top 22
abbrev N_heaps_of : List Str := ["side", "top", "table", "found", "i", "j", "k"]
theorem sc_heaps_of : FnScope N_heaps_of ["side", "top"] (defScope s_heaps_of) := ⟨rfl, rfl, rfl, by decide +kernel, rfl, by decide +kernel, by decide +kernel⟩
abbrev s_is_heap : Stmt := top 23
abbrev N_is_heap : List Str := ["side", "top", "thing", "least", "before", "i", "j", "pair"]
theorem sc_is_heap : FnScope N_is_heap ["side", "top", "thing"] (defScope s_is_heap) := ⟨rfl, rfl, rfl, by decide +kernel, rfl, by decide +kernel, by decide +kernel⟩
abbrev s_are_heaps : Stmt := top 24
abbrev N_are_heaps : List Str := ["side", "top", "thing", "pairs", "found", "heap"]
theorem sc_are_heaps : FnScope N_are_heaps ["side", "top", "thing"] (defScope s_are_heaps) := ⟨rfl, rfl, rfl, by decide +kernel, rfl, by decide +kernel, by decide +kernel⟩
abbrev s_paper_of : Stmt := top 25
abbrev N_paper_of : List Str := ["side", "top"]
theorem sc_paper_of : FnScope N_paper_of ["side", "top"] (defScope s_paper_of) := ⟨rfl, rfl, rfl, by decide +kernel, rfl, by decide +kernel, by decide +kernel⟩
abbrev s_shows : Stmt := top 26
abbrev N_shows : List Str := ["side", "top", "thing", "thread", "heaps"]
theorem sc_shows : FnScope N_shows ["side", "top", "thing"] (defScope s_shows) := ⟨rfl, rfl, rfl, by decide +kernel, rfl, by decide +kernel, by decide +kernel⟩
abbrev s__law_cell : Stmt := top 28
abbrev N__law_cell : List Str := ["_law_script", "_law_k"]
theorem sc__law_cell : FnScope N__law_cell ["_law_script", "_law_k"] (defScope s__law_cell) := ⟨rfl, rfl, rfl, by decide +kernel, rfl, by decide +kernel, by decide +kernel⟩
abbrev s__law_purse : Stmt := top 29
abbrev N__law_purse : List Str := ["_law_cell_here"]
theorem sc__law_purse : FnScope N__law_purse ["_law_cell_here"] (defScope s__law_purse) := ⟨rfl, rfl, rfl, by decide +kernel, rfl, by decide +kernel, by decide +kernel⟩
abbrev s__law_take : Stmt := top 30
abbrev N__law_take : List Str := ["_law_purse_here", "_law_many", "_law_digit", "_law_number"]
theorem sc__law_take : FnScope N__law_take ["_law_purse_here", "_law_many"] (defScope s__law_take) := ⟨rfl, rfl, rfl, by decide +kernel, rfl, by decide +kernel, by decide +kernel⟩
abbrev s__law_letters : Stmt := top 31
abbrev N__law_letters : List Str := ["_law_purse_here", "_law_letters_here", "_law_first", "_law_step", "_law_many", "_law_k"]
theorem sc__law_letters : FnScope N__law_letters ["_law_purse_here"] (defScope s__law_letters) := ⟨rfl, rfl, rfl, by decide +kernel, rfl, by decide +kernel, by decide +kernel⟩
abbrev s__law_drawn : Stmt := top 32
abbrev N__law_drawn : List Str := ["_law_purse_here", "_law_signs", "_law_most", "_law_size", "_law_k"]
theorem sc__law_drawn : FnScope N__law_drawn ["_law_purse_here", "_law_signs", "_law_most"] (defScope s__law_drawn) := ⟨rfl, rfl, rfl, by decide +kernel, rfl, by decide +kernel, by decide +kernel⟩
abbrev s__law_bad : Stmt := top 33
abbrev N__law_bad : List Str := ["_law_purse_here", "_law_row", "_law_way", "_law_at", "_law_some"]
theorem sc__law_bad : FnScope N__law_bad ["_law_purse_here", "_law_row"] (defScope s__law_bad) := ⟨rfl, rfl, rfl, by decide +kernel, rfl, by decide +kernel, by decide +kernel⟩
abbrev s__law_refused : Stmt := top 34
abbrev N__law_refused : List Str := ["_law_way", "_law_one", "_law_other", "_law_thing", "_law_found", "e"]
theorem sc__law_refused : FnScope N__law_refused ["_law_way", "_law_one", "_law_other", "_law_thing"] (defScope s__law_refused) := ⟨rfl, rfl, rfl, by decide +kernel, rfl, by decide +kernel, by decide +kernel⟩
abbrev s_law : Stmt := top 35
abbrev N_law : List Str := ["_law_script", "_law_cell_here", "_law_purse_here", "_law_row", "_law_bad_here", "_law_worse", "_law_thing", "_law_way", "_law_due"]
theorem sc_law : FnScope N_law ["_law_script"] (defScope s_law) := ⟨rfl, rfl, rfl, by decide +kernel, rfl, by decide +kernel, by decide +kernel⟩
abbrev si_NoRow : Stmt := inClass (top 2) 0
theorem sci_NoRow : FnScope ["self", "found"] ["self", "found"] (defScope si_NoRow) := ⟨rfl, rfl, rfl, by decide +kernel, rfl, by decide +kernel, by decide +kernel⟩
/-- what the top has written -/
structure Tx (K : PySem.W.Frag) (mg : Str → Option Value) (ad : Nat → Addr) (fd : Nat → FuncData) (tk : Nat → Tok) : Prop where
  d_is_whole : Df K mg "is_whole" s_is_whole ["thing"] (ad 0) (fd 0)
  d_is_within : Df K mg "is_within" s_is_within ["thing", "low", "high"] (ad 1) (fd 1)
  d_is_row : Df K mg "is_row" s_is_row ["thing"] (ad 2) (fd 2)
  d_need_row : Df K mg "need_row" s_need_row ["row"] (ad 3) (fd 3)
  d_need_rows : Df K mg "need_rows" s_need_rows ["side", "top"] (ad 4) (fd 4)
  d_places_of : Df K mg "places_of" s_places_of ["row"] (ad 5) (fd 5)
  d_lengths : Df K mg "lengths" s_lengths ["side", "top"] (ad 6) (fd 6)
  d_thread_of : Df K mg "thread_of" s_thread_of ["side", "top"] (ad 7) (fd 7)
  d_is_pair : Df K mg "is_pair" s_is_pair ["side", "top", "thing"] (ad 8) (fd 8)
  d_is_ahead : Df K mg "is_ahead" s_is_ahead ["one", "other"] (ad 9) (fd 9)
  d_is_thread : Df K mg "is_thread" s_is_thread ["side", "top", "thing"] (ad 10) (fd 10)
  d_pairs_of : Df K mg "pairs_of" s_pairs_of ["side", "top"] (ad 11) (fd 11)
  d_heaps_of : Df K mg "heaps_of" s_heaps_of ["side", "top"] (ad 12) (fd 12)
  d_is_heap : Df K mg "is_heap" s_is_heap ["side", "top", "thing"] (ad 13) (fd 13)
  d_are_heaps : Df K mg "are_heaps" s_are_heaps ["side", "top", "thing"] (ad 14) (fd 14)
  d_paper_of : Df K mg "paper_of" s_paper_of ["side", "top"] (ad 15) (fd 15)
  d_shows : Df K mg "shows" s_shows ["side", "top", "thing"] (ad 16) (fd 16)
  d__law_cell : Df K mg "_law_cell" s__law_cell ["_law_script", "_law_k"] (ad 17) (fd 17)
  d__law_purse : Df K mg "_law_purse" s__law_purse ["_law_cell_here"] (ad 18) (fd 18)
  d__law_take : Df K mg "_law_take" s__law_take ["_law_purse_here", "_law_many"] (ad 19) (fd 19)
  d__law_letters : Df K mg "_law_letters" s__law_letters ["_law_purse_here"] (ad 20) (fd 20)
  d__law_drawn : Df K mg "_law_drawn" s__law_drawn ["_law_purse_here", "_law_signs", "_law_most"] (ad 21) (fd 21)
  d__law_bad : Df K mg "_law_bad" s__law_bad ["_law_purse_here", "_law_row"] (ad 22) (fd 22)
  d__law_refused : Df K mg "_law_refused" s__law_refused ["_law_way", "_law_one", "_law_other", "_law_thing"] (ad 23) (fd 23)
  d_law : Df K mg "law" s_law ["_law_script"] (ad 24) (fd 24)
  c_MOST_SIGNS : mg "MOST_SIGNS" = some (.int 48 (tk 0))
  c_LETTERS : mg "LETTERS" = some (.str "abcdefghijklmnopqrstuvwxyz" (tk 1))
  b_isinstance : mg "isinstance" = none
  b_int : mg "int" = none
  b_bool : mg "bool" = none
  b_all : mg "all" = none
  b_str : mg "str" = none
  b_len : mg "len" = none
  b_enumerate : mg "enumerate" = none
  b_max : mg "max" = none
  b_tuple : mg "tuple" = none
  b_list : mg "list" = none
  b_range : mg "range" = none
  b_sorted : mg "sorted" = none
  b_ValueError : mg "ValueError" = none
  b_repr : mg "repr" = none
  e_NoRow : EC K mg "NoRow"
  e_PaneError : EC K mg "PaneError"
  e_NoPlain : EC K mg "NoPlain"
  e_NoThread : EC K mg "NoThread"
  g_NoRow : mg "NoRow" = some (.ref (clsA K "NoRow"))
  o_NoRow : OexC K (clsA K "NoRow")
  n_NoRow_found : PySem.W.findIn K (.ref (clsA K "NoRow")) "found" = some none
  i_NoRow : IniF K "NoRow" "NoRow.__init__" si_NoRow ["self", "found"]
  x_NoRow : XI K (clsA K "NoRow")
  s_NoRow_NoRow : PySem.W.subIn K (.ref (clsA K "NoRow")) (.ref (clsA K "NoRow")) = some true
  s_NoRow_PaneError : PySem.W.subIn K (.ref (clsA K "NoRow")) (.ref (clsA K "PaneError")) = some true
  s_NoRow_NoPlain : PySem.W.subIn K (.ref (clsA K "NoRow")) (.ref (clsA K "NoPlain")) = some false
  s_NoRow_NoThread : PySem.W.subIn K (.ref (clsA K "NoRow")) (.ref (clsA K "NoThread")) = some false
  v_NoRow : PySem.W.subIn K (.ref (clsA K "NoRow")) (.type "ValueError") = some true
  s_NoPlain_NoPlain : PySem.W.subIn K (.ref (clsA K "NoPlain")) (.ref (clsA K "NoPlain")) = some true
  s_NoThread_NoThread : PySem.W.subIn K (.ref (clsA K "NoThread")) (.ref (clsA K "NoThread")) = some true
  s_PaneError_PaneError : PySem.W.subIn K (.ref (clsA K "PaneError")) (.ref (clsA K "PaneError")) = some true
  bi_PaneError : BI K mg "PaneError"
local macro_rules | `(tactic| walk_at "ex") => `(tactic| first
  | exact EC.xm (Tx.e_NoRow (by assumption)) (Tx.s_NoRow_NoRow (by assumption))
  | exact EC.xm (Tx.e_PaneError (by assumption)) (Tx.s_NoRow_PaneError (by assumption)))
local macro_rules | `(tactic| walk_at "ki") => `(tactic| first
  | exact EC.kit (Tx.e_NoPlain (by assumption)) (Tx.s_NoRow_NoPlain (by assumption)) (Tx.s_NoPlain_NoPlain (by assumption))
  | exact EC.kit (Tx.e_NoThread (by assumption)) (Tx.s_NoRow_NoThread (by assumption)) (Tx.s_NoThread_NoThread (by assumption))
  | exact EC.kit (Tx.e_PaneError (by assumption)) (Tx.s_NoRow_PaneError (by assumption)) (Tx.s_PaneError_PaneError (by assumption))
  | exact kit_ve (Tx.v_NoRow (by assumption)))
local macro_rules | `(tactic| walk_at "xi") => `(tactic| first
  | exact Tx.x_NoRow (by assumption))
local macro_rules | `(tactic| walk_at "xo") => `(tactic| first
  | exact Tx.o_NoRow (by assumption))
local macro_rules | `(tactic| walk_at "nf") => `(tactic| first
  | exact Tx.n_NoRow_found (by assumption))
section
variable {P : Program} {w : World} {K : PySem.W.Frag} {mg : Str → Option Value} {base : Heap} {ad : Nat → Addr} {fd : Nat → FuncData} {tk : Nat → Tok}
theorem ex_NoRow (T : Tx K mg ad fd tk) : EX P w K mg base "NoRow" ["self", "found"] (spI1 K "found") := by
  obtain ⟨f, fd, i1, i2, F, b⟩ := T.i_NoRow.ex
  refine ⟨T.g_NoRow, T.o_NoRow, f, fd, i1, i2, F.ok sci_NoRow (fun vs H Q E h => ?_) (fun cdv A outer s H vs Q E hr h => ?_), b⟩
  · obtain ⟨a, C, y0, rfl, _⟩ := h
    rfl
  · obtain ⟨a, C, y0, rfl, hO, hn0, ha, k⟩ := h
    refine ⟨_, (pss_cons (ps_expr (pe_oinit T.bi_PaneError rfl (pa_cons (pv 0) (pa_cons pe_str pa_nil))))
      (pss_one (ps_ost (pv 0) (pv 1)))), ?_⟩
    exact ini1_go hO hn0 ha k
def isWholeV : V → Bool
  | .int _ => true
  | _ => false
def sp_is_whole : Sp := fun vs H Q _ => ∃ x, vs = [x] ∧ Ty H x ∧ Q (.bl (isWholeV x)) H
theorem ok_is_whole (T : Tx K mg ad fd tk) : FnOk P w K mg base CX0 1 (ad 0) (fd 0) ["thing"] sp_is_whole := by
  refine T.d_is_whole.F.ok sc_is_whole (fun vs H Q E h => ?_) (fun cdv A outer s H vs Q E hr h => ?_)
  · obtain ⟨x, rfl, _⟩ := h
    rfl
  · obtain ⟨x, rfl, ht, k⟩ := h
    refine ⟨_, (pss_one (ps_ret (pe_and (pe_callB c_is (by rfl) T.b_isinstance (by decide +kernel) (pa_cons (pv 0) (pa_cons (pe_bltn (v := .ty "int") rfl T.b_int (by decide +kernel) rfl) pa_nil))) (pe_one (pe_not (pe_callB c_is (by rfl) T.b_isinstance (by decide +kernel) (pa_cons (pv 0) (pa_cons (pe_bltn (v := .ty "bool") rfl T.b_bool (by decide +kernel) rfl) pa_nil)))))))), ?_⟩
    walk_at "go"
    refine st_isIntT ht ?_
    walk_at "go"
    cases x with
    | int i =>
      refine st_T rfl ?_
      walk_at "go"
      exact k
    | bl b =>
      refine st_T rfl ?_
      walk_at "go"
      exact k
    | _ =>
      refine st_F rfl ?_
      walk_at "go"
      exact k
def withinV (x : V) (lo hi : Int) : Bool := match x with
  | .int i => decide (lo ≤ i ∧ i ≤ hi)
  | _ => false
def sp_is_within : Sp := fun vs H Q _ => ∃ (x : V) (lo hi : Int), vs = [x, .int lo, .int hi] ∧ Ty H x ∧ Q (.bl (withinV x lo hi)) H
theorem ok_is_within (T : Tx K mg ad fd tk) : FnOk P w K mg base CX0 2 (ad 1) (fd 1) ["thing", "low", "high"] sp_is_within := by
  refine T.d_is_within.F.ok sc_is_within (fun vs H Q E h => ?_) (fun cdv A outer s H vs Q E hr h => ?_)
  · obtain ⟨x, lo, hi, rfl, _⟩ := h
    rfl
  · obtain ⟨x, lo, hi, rfl, ht, k⟩ := h
    refine ⟨_, (pss_one (ps_ret (pe_and (pe_call (ok_is_whole T) (hr.mono (by decide)) rfl T.d_is_whole.g T.d_is_whole.F.kp T.d_is_whole.b .nil pass0 (pa_cons (pv 0) pa_nil)) (pe_one (pe_chain o_le o_le (pv 1) (pv 0) (pv 2)))))), ?_⟩
    walk_at "go"
    refine ⟨x, rfl, ht, ?_⟩
    cases x with
    | int i =>
      walk_at "go"
      refine st_br2 (fun c => ?_) (fun c => ?_)
      · walk_at "go"
        have e : withinV (.int i) lo hi = decide (i ≤ hi) := by
          unfold withinV
          simp [c]
        rw [e] at k
        exact k
      · have e : withinV (.int i) lo hi = false := by
          unfold withinV
          simp [c]
        rw [e] at k
        exact k
    | _ =>
      walk_at "go"
      exact k
def rowSign (c : Nat) : Bool := decide (97 ≤ c ∧ c ≤ 122) || decide (c = 46)
def isRow : V → Bool
  | .str z => decide (z.length ≤ 48) && z.cps.toList.all rowSign
  | _ => false
theorem letters_eq : ("abcdefghijklmnopqrstuvwxyz" : Str).cps.toList = List.range' 97 26 := by decide +kernel
theorem letters_mem (c : Nat) : (c ∈ ("abcdefghijklmnopqrstuvwxyz" : Str).cps.toList) ↔ (97 ≤ c ∧ c ≤ 122) := by
  rw [letters_eq, List.mem_range'_1]
  omega
theorem point_eq : ("." : Str) = tx [46] := by decide +kernel
def sp_is_row : Sp := fun vs H Q _ => ∃ v, vs = [v] ∧ Ty H v ∧ (∀ z, v = .str z → z.length ≤ 16777216) ∧ ∀ H', Ex H H' → Q (.bl (isRow v)) H'
theorem ok_is_row (T : Tx K mg ad fd tk) : FnOk P w K mg base CX0 1 (ad 2) (fd 2) ["thing"] sp_is_row := by
  refine T.d_is_row.F.ok sc_is_row (fun vs H Q E h => ?_) (fun cdv A outer s H vs Q E hr h => ?_)
  · obtain ⟨v, rfl, _⟩ := h
    rfl
  · obtain ⟨v, rfl, ht, hz, k⟩ := h
    refine ⟨_, (pss_cons (ps_if (PW.pt (pw_or (pt_not (pt_val (pe_callB c_is (by rfl) T.b_isinstance (by decide +kernel) (pa_cons (pv 0) (pa_cons (pe_bltn (v := .ty "str") rfl T.b_str (by decide +kernel) rfl) pa_nil))))) (pw_or1 (pt_cmpR o_gt (pe_callB (c_len (K := K)) (by rfl) T.b_len (by decide +kernel) (pa_cons (pv 0) pa_nil)) (pe_glob (v := .int 48) rfl T.c_MOST_SIGNS ⟨_, rfl⟩) (nomark _))))) (pss_one (ps_ret pe_bl)) pss_nil)
      (pss_one (ps_ret (pe_callB (c_all rfl) (by rfl) T.b_all (by decide +kernel) (pa_cons (pe_lc (own := [("sign", 1)]) (g := gName 1) rfl sc_is_row.nd (pi_str (pv 0)) (blkOk_by (own := [("sign", 1)]) (N := N_is_row) (sc := defScope s_is_row) (by decide +kernel)) (fun _ _ _ _ _ => pg_name (i := 1) sc_is_row.nd rfl (Or.inl rfl)) (fun _ _ _ _ _ => pts_nil) (fun _ _ _ _ _ => (pe_or (pe_cmpR (o_in hr.units) (pv 1) (pe_glob (v := .str "abcdefghijklmnopqrstuvwxyz") rfl T.c_LETTERS ⟨_, rfl⟩) rfl) (pe_one (pe_cmpR (o_eq hr.units) (pv 1) pe_str (nomark _)))))) pa_nil))))), ?_⟩
    walk_at "go"
    refine st_isStrT ht ?_
    walk_at "go"
    cases v with
    | str z =>
      have hz' := hz z rfl
      refine st_F rfl ?_
      walk_at "go"
      refine st_br2 (fun c => ?_) (fun c => ?_)
      · walk_at "go"
        have e : isRow (.str z) = false := by
          show (decide (z.length ≤ 48) && _) = false
          rw [decide_eq_false (by omega)]
          rfl
        have k' := k _ (Fr.refl H)
        rw [e] at k'
        exact k'
      · walk_at "go"
        refine lc_pure (rv_str z) (fun _ _ => trivial) (by show z.cps.toList.length < _; simp only [Array.length_toList]; have : z.cps.size = z.length := rfl; omega) (fun _ => true) (fun c => .bl (rowSign c)) ?_ ?_
        · intro c' H' hc e B A h1 h2
          refine ⟨rfl, ?_⟩
          have h1' := h1 rfl _ (Fr.refl _)
          walk_at "go"
          refine st_br2 (fun m => ?_) (fun m => ?_)
          · rw [letters_mem] at m
            have e1 : rowSign c' = true := by
              unfold rowSign
              rw [decide_eq_true m]
              rfl
            rw [e1] at h1'
            exact h1'
          · rw [letters_mem] at m
            walk_at "go"
            have e1 : rowSign c' = decide (tx [c'] = ".") := by
              unfold rowSign
              rw [decide_eq_false m, point_eq, Bool.false_or]
              simp [tx_inj]
            rw [e1] at h1'
            exact h1'
        · intro D H' hD e hd
          walk_at "go"
          refine st_all (bs := z.cps.toList.map rowSign) hd (by rw [List.filter_eq_self.mpr (fun _ _ => rfl), List.map_map]; rfl) ?_
          have e1 : isRow (.str z) = (z.cps.toList.map rowSign).all id := by
            show (decide (z.length ≤ 48) && _) = _
            rw [decide_eq_true (by omega), Bool.true_and, List.all_map]
            rfl
          have k' := k _ e
          rw [e1] at k'
          exact k'
    | _ =>
      refine st_T rfl ?_
      walk_at "go"
      exact k _ (Fr.refl H)
/-- a text that is a row -/
def RowS (z : Str) : Prop := isRow (.str z) = true
theorem RowS.len {z : Str} (h : RowS z) : z.length ≤ 48 := by
  have h : (decide (z.length ≤ 48) && z.cps.toList.all rowSign) = true := h
  rw [Bool.and_eq_true] at h
  exact of_decide_eq_true h.1
theorem RowS.len2 {z : Str} (h : RowS z) : z.cps.toList.length ≤ 48 := by
  have e : z.cps.toList.length = z.length := Array.length_toList
  rw [e]
  exact h.len
theorem RowS.thg {H : Hp} {z : Str} (h : RowS z) : Thg H (.str z) := thg_str (by have := h.len; omega)
theorem rowS_of_true {x : V} (h : isRow x = true) : ∃ s, x = .str s ∧ RowS s := by
  cases x with
  | str s => exact ⟨s, rfl, h⟩
  | _ => cases h
/-- a row, or refused -/
def Row1 (K : PySem.W.Frag) (E : XK) (H : Hp) (x : V) (k : Str → Prop) : Prop := (∃ s, x = .str s ∧ RowS s ∧ k s) ∨ (Thg H x ∧ isRow x = false ∧ RaR K E H "NoRow" "found" x)
theorem Row1.imp {K : PySem.W.Frag} {E : XK} {H : Hp} {x : V} {k k' : Str → Prop} (h : Row1 K E H x k) (f : ∀ s, x = .str s → RowS s → k s → k' s) : Row1 K E H x k' := by
  rcases h with ⟨s, e, hs, h⟩ | h
  · exact .inl ⟨s, e, hs, f s e hs h⟩
  · exact .inr h
def sp_need_row (K : PySem.W.Frag) : Sp := fun vs H Q E => ∃ x, vs = [x] ∧ Row1 K E H x fun _ => ∀ H', Ex H H' → Q .non H'
theorem ok_need_row (T : Tx K mg ad fd tk) : FnOk P w K mg base (L2.CX P w) 3 (ad 3) (fd 3) ["row"] (sp_need_row K) := by
  refine T.d_need_row.F.okX sc_need_row (fun vs H Q E h => ?_) (fun cdv A outer s H vs Q E hr h => ?_)
  · obtain ⟨x, rfl, _⟩ := h
    rfl
  · obtain ⟨x, rfl, k⟩ := h
    refine ⟨_, (pss_one (ps_if (pt_not (pt_val (pe_call (ok_is_row T) (hr.mono (by decide)) rfl T.d_is_row.g T.d_is_row.F.kp T.d_is_row.b .nil pass0 (pa_cons (pv 0) pa_nil)))) (pss_one (ps_raiseG rfl (ex_NoRow T) (hr.mono (by decide)) (takes_of rfl rfl rfl rfl) rfl (pa_cons (pv 0) pa_nil))) pss_nil)), ?_⟩
    walk_at "go"
    rcases k with ⟨s, rfl, hs, k⟩ | ⟨ht, hb, k⟩
    · have hs' := hs.len
      refine ⟨.str s, rfl, ty_str _, fun z' e => by cases e; omega, fun H1 e1 => ?_⟩
      rw [show isRow (.str s) = true from hs]
      walk_at "go"
      exact k _ e1
    · refine ⟨x, rfl, ht.1, ht.2, fun H1 e1 => ?_⟩
      rw [hb]
      walk_at "go"
      rename_i d H2 hd e2 hv
      exact k d H2 (Ex.free e1 hd) (e1.trans e2) hv
/-- two rows, or the first that is none is refused -/
def Rows2 (K : PySem.W.Frag) (E : XK) (H : Hp) (x y : V) (k : Str → Str → Prop) : Prop := (∃ s t, x = .str s ∧ y = .str t ∧ RowS s ∧ RowS t ∧ k s t) ∨
  (Thg H x ∧ Thg H y ∧ ((isRow x = false ∧ RaR K E H "NoRow" "found" x) ∨ (isRow x = true ∧ isRow y = false ∧ RaR K E H "NoRow" "found" y)))
theorem Rows2.imp {K : PySem.W.Frag} {E : XK} {H : Hp} {x y : V} {k k' : Str → Str → Prop} (h : Rows2 K E H x y k) (f : ∀ s t, x = .str s → y = .str t → RowS s → RowS t → k s t → k' s t) : Rows2 K E H x y k' := by
  rcases h with ⟨s, t, e1, e2, hs, ht, h⟩ | h
  · exact .inl ⟨s, t, e1, e2, hs, ht, f s t e1 e2 hs ht h⟩
  · exact .inr h
def sp_need_rows (K : PySem.W.Frag) : Sp := fun vs H Q E => ∃ x y, vs = [x, y] ∧ Rows2 K E H x y fun _ _ => ∀ H', Ex H H' → Q .non H'
theorem ok_need_rows (T : Tx K mg ad fd tk) : FnOk P w K mg base (L2.CX P w) 4 (ad 4) (fd 4) ["side", "top"] (sp_need_rows K) := by
  refine T.d_need_rows.F.okX sc_need_rows (fun vs H Q E h => ?_) (fun cdv A outer s H vs Q E hr h => ?_)
  · obtain ⟨x, y, rfl, _⟩ := h
    rfl
  · obtain ⟨x, y, rfl, k⟩ := h
    refine ⟨_, (pss_cons (ps_expr (pe_call (ok_need_row T) (hr.mono (by decide)) rfl T.d_need_row.g T.d_need_row.F.kp T.d_need_row.b .nil (passes_call (takes_of rfl rfl rfl rfl) (fun _ _ _ _ h => h)) (pa_cons (pv 0) pa_nil)))
      (pss_one (ps_expr (pe_call (ok_need_row T) (hr.mono (by decide)) rfl T.d_need_row.g T.d_need_row.F.kp T.d_need_row.b .nil (passes_call (takes_of rfl rfl rfl rfl) (fun _ _ _ _ h => h)) (pa_cons (pv 1) pa_nil))))), ?_⟩
    walk_at "go"
    rcases k with ⟨s, t, rfl, rfl, hs, ht, k⟩ | ⟨h1, h2, ⟨hb, k⟩ | ⟨ha, hb, k⟩⟩
    · refine ⟨.str s, rfl, .inl ⟨s, rfl, hs, fun H1 e1 => ?_⟩⟩
      walk_at "go"
      refine ⟨.str t, rfl, .inl ⟨t, rfl, ht, fun H2 e2 => ?_⟩⟩
      walk_at "go"
      exact k _ (e1.trans e2)
    · exact ⟨x, rfl, .inr ⟨h1, hb, k⟩⟩
    · obtain ⟨s, rfl, hs⟩ := rowS_of_true ha
      refine ⟨.str s, rfl, .inl ⟨s, rfl, hs, fun H1 e1 => ?_⟩⟩
      walk_at "go"
      exact ⟨y, rfl, .inr ⟨h2.ex e1, hb, k.ex e1⟩⟩
/-- where c stands in l -/
def posOf (c : Nat) (l : List Nat) : List Nat := (List.range l.length).filter fun j => decide (l[j]? = some c)
/-- the signs, each once, in the order in which they come -/
def firsts : List Nat → List Nat := fun l => l.foldl (fun acc c => if c ∈ acc then acc else acc ++ [c]) []
theorem firsts_snoc (l : List Nat) (c : Nat) : firsts (l ++ [c]) = if c ∈ firsts l then firsts l else firsts l ++ [c] := by
  unfold firsts
  rw [List.foldl_append]
  rfl
theorem firsts_mem (l : List Nat) (c : Nat) : c ∈ firsts l ↔ c ∈ l := by
  refine snoc_ind (P := fun l => ∀ c, c ∈ firsts l ↔ c ∈ l) (by simp [firsts]) (fun l a ih c => ?_) l c
  rw [firsts_snoc]
  split
  · rename_i h
    rw [ih] at h
    rw [ih, List.mem_append, List.mem_singleton]
    constructor
    · exact .inl
    · rintro (z | z)
      · exact z
      · rw [z]; exact h
  · rw [List.mem_append, List.mem_append, ih]
theorem firsts_nodup (l : List Nat) : (firsts l).Nodup := by
  refine snoc_ind (P := fun l => (firsts l).Nodup) (by simp [firsts]) (fun l a ih => ?_) l
  · skip
    rw [firsts_snoc]
    split
    · exact ih
    · rename_i h
      rw [List.nodup_append]
      exact ⟨ih, by simp, fun b hb c hc => by rw [List.mem_singleton.mp hc]; exact fun z => h (z ▸ hb)⟩
theorem firsts_len (l : List Nat) : (firsts l).length ≤ l.length := by
  refine snoc_ind (P := fun l => (firsts l).length ≤ l.length) (by simp [firsts]) (fun l a ih => ?_) l
  · skip
    rw [firsts_snoc]
    split
    · rw [List.length_append]; omega
    · rw [List.length_append, List.length_append]; simp; exact ih
theorem posOf_snoc (c a : Nat) (l : List Nat) : posOf c (l ++ [a]) = posOf c l ++ (if a = c then [l.length] else []) := by
  unfold posOf
  rw [List.length_append, List.length_singleton, List.range_succ, List.filter_append]
  congr 1
  · apply List.filter_congr
    intro j hj
    rw [List.mem_range] at hj
    rw [List.getElem?_append_left hj]
  · by_cases h : a = c
    · rw [if_pos h, List.filter_cons_of_pos (by rw [List.getElem?_append_right (Nat.le_refl _)]; simp [h]), List.filter_nil]
    · rw [if_neg h, List.filter_cons_of_neg (by rw [List.getElem?_append_right (Nat.le_refl _)]; simp [h]), List.filter_nil]
/-- the dict at d of the places in l: its lists at rs, for each of the signs -/
structure PlacesAt (H0 H : Hp) (d : Addr) (rs : List Addr) (l : List Nat) : Prop where
  new : H0 d = none
  at_ : H d = some (.dK (((firsts l).zip rs).map fun q => (Sum.inr (tx [q.1]), V.ref q.2)))
  len : rs.length = (firsts l).length
  rows : ObjsAt H rs ((firsts l).map fun c => .lst ((posOf c l).map fun (j : Nat) => V.int j))
  nd : rs.Nodup
  non : d ∉ rs
  news : ∀ r ∈ rs, H0 r = none
theorem places_get {fs : List Nat} {rs : List Addr} (hl : rs.length = fs.length) (nd : fs.Nodup) {k : Nat} {c : Nat} {r : Addr} (h1 : fs[k]? = some c) (h2 : rs[k]? = some r) :
    valV ((fs.zip rs).map fun q => ((Sum.inr (tx [q.1]) : Key), V.ref q.2)) (Sum.inr (tx [c])) = some (.ref r) := by
  refine valV_at (i := k) ?_ ?_
  · rw [List.map_map]
    have : ((fun x => x.1) ∘ fun (q : Nat × Addr) => ((Sum.inr (tx [q.1]) : Key), V.ref q.2)) = (fun c => (Sum.inr (tx [c]) : Key)) ∘ Prod.fst := rfl
    rw [this, ← List.map_map, List.map_fst_zip (by omega)]
    refine nodup_map nd (fun a b h => ?_)
    have h : tx [a] = tx [b] := Sum.inr.inj h
    rw [tx_inj] at h
    simpa using h
  · rw [List.getElem?_map, (List.getElem?_zip_eq_some (z := (c, r))).mpr ⟨h1, h2⟩]
    rfl
theorem places_none {fs : List Nat} {rs : List Addr} {c : Nat} (h : c ∉ fs) : valV ((fs.zip rs).map fun q => ((Sum.inr (tx [q.1]) : Key), V.ref q.2)) (Sum.inr (tx [c])) = none := by
  rw [valV_none]
  intro q hq
  obtain ⟨⟨a, r⟩, hz, rfl⟩ := List.mem_map.mp hq
  intro e
  have e : tx [a] = tx [c] := Sum.inr.inj e
  rw [tx_inj] at e
  have e : a = c := by simpa using e
  exact h (e ▸ (List.of_mem_zip hz).1)
def sp_places_of (K : PySem.W.Frag) : Sp := fun vs H Q E => ∃ x, vs = [x] ∧ Row1 K E H x fun s => ∀ d rs H', Ex H H' → PlacesAt H H' d rs s.cps.toList → Q (.ref d) H'
theorem ok_places_of (T : Tx K mg ad fd tk) : FnOk P w K mg base (L2.CX P w) 4 (ad 5) (fd 5) ["row"] (sp_places_of K) := by
  refine T.d_places_of.F.okX sc_places_of (fun vs H Q E h => ?_) (fun cdv A outer s H vs Q E hr h => ?_)
  · obtain ⟨x, rfl, _⟩ := h
    rfl
  · obtain ⟨x, rfl, hR⟩ := h
    refine ⟨_, (pss_cons (ps_expr (pe_call (ok_need_row T) (hr.mono (by decide)) rfl T.d_need_row.g T.d_need_row.F.kp T.d_need_row.b .nil (passes_call (takes_of rfl rfl rfl rfl) (fun _ _ _ _ h => h)) (pa_cons (pv 0) pa_nil)))
      (pss_cons (ps_set (i := 1) sc_places_of.nd rfl (Or.inl rfl) pe_dnewK)
      (pss_cons (ps_for (passes_of rfl) rfl (pi_enumS rfl T.b_enumerate (pa_cons (pv 0) pa_nil)) (pg_tup rfl (pgs_cons (pg_name (i := 2) sc_places_of.nd rfl (Or.inl rfl)) (pgs_cons (pg_name (i := 3) sc_places_of.nd rfl (Or.inl rfl)) pgs_nil))) (pss_one (ps_expr (pe_bm PySem.F.plainAttrs_list PySem.F.slot_list_append PySem.F.type_list_append mt_append (pe_dsetd (pv 1) (pv 3) (pe_lst pa_nil) ⟨rfl, rfl, rfl, rfl⟩) (pa_cons (pv 2) pa_nil)))))
      (pss_one (ps_ret (pv 1)))))), ?_⟩
    walk_at "go"
    refine ⟨x, rfl, hR.imp fun s ex hs k H1 e1 => ?_⟩
    subst ex
    have hs1 := hs.len
    have hsl : s.cps.toList.length = s.length := Array.length_toList
    walk_at "go"
    rename_i d G1 n1 ex1 v1
    have e2 := e1.trans ex1
    have hd0 : H d = none := Ex.free e1 n1
    refine for_runs (runs_enumS s) (fun i σ H' => Ex H H' ∧ (∃ rs, PlacesAt H H' d rs (s.cps.toList.take i)) ∧ ∃ a b, σ = [some (.str s), some (.ref d), a, b]) ⟨e2, ⟨[], hd0, v1, rfl, .nil, List.nodup_nil, by simp, by simp⟩, _, _, rfl⟩ (fun _ _ _ _ _ => trivial) ?_ ?_
    · rintro i x σ H' H'' hi ⟨e, ⟨rs, P⟩, a, b, rfl⟩ ⟨T, c, rfl, hT, eT, vT, hc⟩
      have ht : s.cps.toList.take (i + 1) = s.cps.toList.take i ++ [c] := by rw [List.take_add_one, hc]; rfl
      have hl : (s.cps.toList.take i).length = i := by rw [List.length_take]; omega
      have hfl := firsts_len (s.cps.toList.take i)
      have hdT : H'' d = _ := eT.get P.at_
      have hz : (((firsts (s.cps.toList.take i)).zip rs).map fun q => ((Sum.inr (tx [q.1]) : Key), V.ref q.2)).length < 1000 := by
        rw [List.length_map, List.length_zip]; omega
      walk_at "go"
      rename_i q G2 n2 ex3 v2
      have hd2 : G2 d = _ := ex3.get hdT
      have rows2 := (P.rows.ex eT).ex ex3
      refine st_dsetP (Sum.inr (tx [c])) hd2 (by omega) (fun v hv => ?_) (fun hv => ?_)
      · have hcm : c ∈ firsts (s.cps.toList.take i) := by
          by_cases z : c ∈ firsts (s.cps.toList.take i)
          · exact z
          · rw [places_none z] at hv; cases hv
        obtain ⟨kx, hkx⟩ := List.getElem?_of_mem hcm
        have hkl : kx < rs.length := by rw [P.len]; exact (List.getElem?_eq_some_iff.mp hkx).1
        have hkr : rs[kx]? = some rs[kx] := List.getElem?_eq_getElem hkl
        rw [places_get P.len (firsts_nodup _) hkx hkr] at hv
        cases hv
        have hrow := rows2.at kx _ _ hkr (by rw [List.getElem?_map, hkx]; rfl)
        walk_at "go"
        refine st_app hrow (by rw [List.length_map]; have := List.length_filter_le (fun j => decide ((s.cps.toList.take i)[j]? = some c)) (List.range (s.cps.toList.take i).length); rw [List.length_range] at this; unfold posOf; omega) ?_
        have hdn : d ≠ rs[kx] := fun z => P.non (z ▸ List.getElem_mem hkl)
        refine ⟨((e.trans eT).trans ex3).mut (P.news _ (List.getElem_mem hkl)), ⟨rs, hd0, ?_, ?_, ?_, P.nd, P.non, P.news⟩, _, _, rfl⟩
        · rw [upd_ne hdn, hd2, ht, firsts_snoc, if_pos hcm]
        · rw [ht, firsts_snoc, if_pos hcm]; exact P.len
        · have hset := rows2.set (u := .lst (((posOf c (s.cps.toList.take i)).map fun (j : Nat) => V.int j) ++ [V.int i])) P.nd hkr
          rw [ht, firsts_snoc, if_pos hcm]
          have hos : ((firsts (s.cps.toList.take i)).map fun c' => HO.lst ((posOf c' (s.cps.toList.take i ++ [c])).map fun (j : Nat) => V.int j)) = (((firsts (s.cps.toList.take i)).map fun c => HO.lst ((posOf c (s.cps.toList.take i)).map fun (j : Nat) => V.int j)).set kx (.lst (((posOf c (s.cps.toList.take i)).map fun (j : Nat) => V.int j) ++ [V.int i]))) := by
            apply List.ext_getElem?
            intro m
            rw [List.getElem?_map]
            by_cases hm : m = kx
            · subst hm
              rw [hkx, List.getElem?_set_self (by rw [List.length_map]; exact (List.getElem?_eq_some_iff.mp hkx).1)]
              show some (HO.lst _) = _
              rw [posOf_snoc, if_pos rfl, List.map_append, hl]
              rfl
            · rw [List.getElem?_set_ne (Ne.symm hm), List.getElem?_map]
              cases hf : (firsts (s.cps.toList.take i))[m]? with
              | none => rfl
              | some c' =>
                have hne : c ≠ c' := fun z => hm (nd_ix (firsts_nodup _) hf (z ▸ hkx))
                show some (HO.lst _) = some (HO.lst _)
                rw [posOf_snoc, if_neg hne, List.append_nil]
          rw [hos]
          exact hset
      · have hcm : c ∉ firsts (s.cps.toList.take i) := fun z => by
          obtain ⟨kx, hkx⟩ := List.getElem?_of_mem z
          have hkl : kx < rs.length := by rw [P.len]; exact (List.getElem?_eq_some_iff.mp hkx).1
          rw [places_get P.len (firsts_nodup _) hkx (List.getElem?_eq_getElem hkl)] at hv
          cases hv
        have hqd : q ≠ d := fun z => by rw [z, hdT] at n2; cases n2
        have hqr : q ∉ rs := fun z => by
          obtain ⟨kx, hkx⟩ := List.getElem?_of_mem z
          have hk2 : kx < ((firsts (s.cps.toList.take i)).map fun c => HO.lst ((posOf c (s.cps.toList.take i)).map fun (j : Nat) => V.int j)).length := by
            rw [← P.rows.len]; exact (List.getElem?_eq_some_iff.mp hkx).1
          have := (P.rows.ex eT).at kx _ _ hkx (List.getElem?_eq_getElem hk2)
          rw [this] at n2
          cases n2
        have hq2 : upd G2 d (.dK (putK (((firsts (s.cps.toList.take i)).zip rs).map fun q => (Sum.inr (tx [q.1]), V.ref q.2)) (Sum.inr (tx [c])) (V.ref q))) q = some (.lst []) := by
          rw [upd_ne hqd]; exact v2
        walk_at "go"
        refine st_app hq2 (by simp) ?_
        have hc0 : posOf c (s.cps.toList.take i) = [] := by
          unfold posOf
          rw [List.filter_eq_nil_iff]
          intro j hj w
          exact hcm ((firsts_mem _ _).mpr (List.mem_of_getElem? (of_decide_eq_true w)))
        have hq0 : H q = none := Ex.free (e.trans eT) n2
        refine ⟨(((e.trans eT).trans ex3).mut hd0).mut hq0, ⟨rs ++ [q], hd0, ?_, ?_, ?_, ?_, ?_, ?_⟩, _, _, rfl⟩
        · rw [upd_ne (Ne.symm hqd), upd_same, putK_new hv, ht, firsts_snoc, if_neg hcm, List.zip_append P.len.symm, List.map_append]
          rfl
        · rw [ht, firsts_snoc, if_neg hcm, List.length_append, List.length_append, P.len]; rfl
        · rw [ht, firsts_snoc, if_neg hcm, List.map_append]
          refine ObjsAt.app (.up hqr (.up P.non ?_)) (.one ?_)
          · have hos : ((firsts (s.cps.toList.take i)).map fun c' => HO.lst ((posOf c' (s.cps.toList.take i ++ [c])).map fun (j : Nat) => V.int j)) = ((firsts (s.cps.toList.take i)).map fun c => HO.lst ((posOf c (s.cps.toList.take i)).map fun (j : Nat) => V.int j)) := by
              apply List.map_congr_left
              intro c' hc'
              have hne : c ≠ c' := fun z => hcm (z ▸ hc')
              rw [posOf_snoc, if_neg hne, List.append_nil]
            rw [hos]
            exact rows2
          · rw [upd_same]
            show some (HO.lst ([] ++ [V.int i])) = some (HO.lst ((posOf c (s.cps.toList.take i ++ [c])).map fun (j : Nat) => V.int j))
            rw [posOf_snoc, if_pos rfl, hc0, hl]
            rfl
        · rw [List.nodup_append]
          exact ⟨P.nd, by simp, fun b hb c hc => by rw [List.mem_singleton.mp hc]; exact fun z => hqr (z ▸ hb)⟩
        · rw [List.mem_append, List.mem_singleton]
          rintro (z | z)
          · exact P.non z
          · exact hqd z.symm
        · intro r hr
          rcases List.mem_append.mp hr with h | h
          · exact P.news r h
          · rw [List.mem_singleton.mp h]; exact hq0
    · rintro σ H' ⟨e, ⟨rs, P⟩, a, b, rfl⟩
      walk_at "go"
      rw [List.take_of_length_le (by omega)] at P
      exact k d rs H' e P
/-- the length of the longest thread of the first i signs of s and the first j of t -/
def Lc (s t : List Nat) : Nat → Nat → Nat
  | 0, _ => 0
  | _ + 1, 0 => 0
  | i + 1, j + 1 => if s[i]? = t[j]? then Lc s t i j + 1 else max (Lc s t i (j + 1)) (Lc s t (i + 1) j)
termination_by i j => i + j
theorem Lc_i0 (s t : List Nat) (j : Nat) : Lc s t 0 j = 0 := by unfold Lc; rfl
theorem Lc_j0 (s t : List Nat) (i : Nat) : Lc s t i 0 = 0 := by cases i <;> (unfold Lc; rfl)
theorem Lc_ss (s t : List Nat) (i j : Nat) : Lc s t (i + 1) (j + 1) = if s[i]? = t[j]? then Lc s t i j + 1 else max (Lc s t i (j + 1)) (Lc s t (i + 1) j) := by
  rw [Lc]
theorem Lc_near (s t : List Nat) : ∀ n i j : Nat, i + j ≤ n → (Lc s t i j ≤ Lc s t (i + 1) j ∧ Lc s t (i + 1) j ≤ Lc s t i j + 1) ∧ Lc s t i j ≤ Lc s t i (j + 1) ∧ Lc s t i (j + 1) ≤ Lc s t i j + 1
  | 0, i, j, h => by
    obtain ⟨rfl, rfl⟩ : i = 0 ∧ j = 0 := by omega
    simp [Lc_i0, Lc_j0]
  | n + 1, i, j, h => by
    have hv : Lc s t i j ≤ Lc s t (i + 1) j ∧ Lc s t (i + 1) j ≤ Lc s t i j + 1 := by
      cases j with
      | zero => simp [Lc_j0]
      | succ j =>
        have ih := Lc_near s t n i j (by omega)
        rw [Lc_ss]
        split <;> omega
    have hh : Lc s t i j ≤ Lc s t i (j + 1) ∧ Lc s t i (j + 1) ≤ Lc s t i j + 1 := by
      cases i with
      | zero => simp [Lc_i0]
      | succ i =>
        have ih := Lc_near s t n i j (by omega)
        rw [Lc_ss]
        split <;> omega
    exact ⟨hv, hh⟩
theorem Lc_up (s t : List Nat) (i j : Nat) : Lc s t i j ≤ Lc s t (i + 1) j := (Lc_near s t _ i j (Nat.le_refl _)).1.1
theorem Lc_up1 (s t : List Nat) (i j : Nat) : Lc s t (i + 1) j ≤ Lc s t i j + 1 := (Lc_near s t _ i j (Nat.le_refl _)).1.2
theorem Lc_ri (s t : List Nat) (i j : Nat) : Lc s t i j ≤ Lc s t i (j + 1) := (Lc_near s t _ i j (Nat.le_refl _)).2.1
theorem Lc_ri1 (s t : List Nat) (i j : Nat) : Lc s t i (j + 1) ≤ Lc s t i j + 1 := (Lc_near s t _ i j (Nat.le_refl _)).2.2
/-- the rows turned round -/
theorem Lc_sym (s t : List Nat) : ∀ i j : Nat, Lc s t i j = Lc t s j i
  | 0, j => by rw [Lc_i0, Lc_j0]
  | i + 1, 0 => by rw [Lc_i0, Lc_j0]
  | i + 1, j + 1 => by
    rw [Lc_ss, Lc_ss, Lc_sym s t i j, Lc_sym s t i (j + 1), Lc_sym s t (i + 1) j]
    by_cases h : s[i]? = t[j]?
    · rw [if_pos h, if_pos h.symm]
    · rw [if_neg h, if_neg (Ne.symm h), Nat.max_comm]
termination_by i j => i + j
theorem Lc_le (s t : List Nat) : ∀ i j : Nat, Lc s t i j ≤ i ∧ Lc s t i j ≤ j := fun i j => by
  constructor
  · induction i with
    | zero => rw [Lc_i0]; exact Nat.le_refl _
    | succ i ih => have := Lc_up1 s t i j; omega
  · induction j with
    | zero => rw [Lc_j0]; exact Nat.le_refl _
    | succ j ih => have := Lc_ri1 s t i j; omega
/-- the first m numbers of the row i of the lengths -/
def lcRow (s t : List Nat) (m i : Nat) : List V := (List.range m).map fun j => V.int (Lc s t i j : Nat)
theorem lcRow_len (s t : List Nat) (m i : Nat) : (lcRow s t m i).length = m := by simp [lcRow]
theorem lcRow_at {s t : List Nat} {m i j : Nat} (h : j < m) : (lcRow s t m i)[j]? = some (V.int (Lc s t i j : Nat)) := by
  unfold lcRow
  rw [List.getElem?_map, List.getElem?_range h]
  rfl
theorem lcRow_atI {s t : List Nat} {m i j : Nat} (h : j < m) : atI (lcRow s t m i) (j : Int) = some (V.int (Lc s t i j : Nat)) := by
  unfold atI
  rw [Evl.ixN_nat (by rw [lcRow_len]; exact h)]
  exact lcRow_at h
theorem lcRow_more (s t : List Nat) (m i : Nat) : lcRow s t (m + 1) i = lcRow s t m i ++ [V.int (Lc s t i m : Nat)] := by
  unfold lcRow
  rw [List.range_succ, List.map_append]
  rfl
theorem lcRow_zero (s t : List Nat) (m : Nat) : lcRow s t m 0 = (List.replicate m [V.int 0]).flatten := by
  induction m with
  | zero => rfl
  | succ m ih =>
    rw [lcRow_more, ih, Lc_i0, List.replicate_succ', List.flatten_append]
    rfl
/-- a new list of new lists, all of them apart -/
structure TabAt (H0 H : Hp) (p : Addr) (rs : List Addr) (row : Nat → List V) : Prop where
  new : H0 p = none
  at_ : H p = some (.lst (rs.map V.ref))
  non : p ∉ rs
  nd : rs.Nodup
  news : ∀ r ∈ rs, H0 r = none
  rows : ∀ k r, rs[k]? = some r → H r = some (.lst (row k))
theorem TabAt.ex {H0 H H' : Hp} {p : Addr} {rs : List Addr} {row : Nat → List V} (T : TabAt H0 H p rs row) (e : Ex H H') : TabAt H0 H' p rs row :=
  ⟨T.new, e.get T.at_, T.non, T.nd, T.news, fun k r h => e.get (T.rows k r h)⟩
theorem Lc_mono (s t : List Nat) {i i' j j' : Nat} (hi : i ≤ i') (hj : j ≤ j') : Lc s t i j ≤ Lc s t i' j' := by
  have h1 : ∀ d i, Lc s t i j ≤ Lc s t (i + d) j := by
    intro d
    induction d with
    | zero => intro i; exact Nat.le_refl _
    | succ d ih => intro i; exact Nat.le_trans (ih i) (Lc_up s t (i + d) j)
  have h2 : ∀ d j, Lc s t i' j ≤ Lc s t i' (j + d) := by
    intro d
    induction d with
    | zero => intro j; exact Nat.le_refl _
    | succ d ih => intro j; exact Nat.le_trans (ih j) (Lc_ri s t i' (j + d))
  have a := h1 (i' - i) i
  have b := h2 (j' - j) j
  rw [show i + (i' - i) = i' by omega] at a
  rw [show j + (j' - j) = j' by omega] at b
  exact Nat.le_trans a b
def sp_lengths (K : PySem.W.Frag) : Sp := fun vs H Q E => ∃ x y, vs = [x, y] ∧ Rows2 K E H x y fun s t => ∀ p rs H', Ex H H' → rs.length = s.length + 1 → TabAt H H' p rs (lcRow s.cps.toList t.cps.toList (t.length + 1)) → Q (.ref p) H'
theorem ok_lengths (T : Tx K mg ad fd tk) : FnOk P w K mg base (L2.CX P w) 5 (ad 6) (fd 6) ["side", "top"] (sp_lengths K) := by
  refine T.d_lengths.F.okX sc_lengths (fun vs H Q E h => ?_) (fun cdv A outer s H vs Q E hr h => ?_)
  · obtain ⟨x, y, rfl, _⟩ := h
    rfl
  · obtain ⟨x, y, rfl, hR⟩ := h
    refine ⟨_, (pss_cons (ps_expr (pe_call (ok_need_rows T) (hr.mono (by decide)) rfl T.d_need_rows.g T.d_need_rows.F.kp T.d_need_rows.b .nil (passes_call (takes_of rfl rfl rfl rfl) (fun _ _ _ _ h => h)) (pa_cons (pv 0) (pa_cons (pv 1) pa_nil))))
      (pss_cons (ps_set (i := 2) sc_lengths.nd rfl (Or.inl rfl) (pe_lst (pa_cons (pe_op o_mul (pe_lst (pa_cons pe_int pa_nil)) (pe_op o_add (pe_callB (c_len (K := K)) (by rfl) T.b_len (by decide +kernel) (pa_cons (pv 1) pa_nil)) pe_int)) pa_nil)))
      (pss_cons (ps_for (passes_of rfl) rfl (pi_str (pv 0)) (pg_name (i := 3) sc_lengths.nd rfl (Or.inl rfl)) (pss_cons (ps_set (i := 4) sc_lengths.nd rfl (Or.inl rfl) (pe_ix (i_ix (K := K)) (pv 2) (pe_un un_neg pe_int) (fun _ _ => rfl)))
      (pss_cons (ps_set (i := 5) sc_lengths.nd rfl (Or.inl rfl) (pe_lst (pa_cons pe_int pa_nil)))
      (pss_cons (ps_for (passes_of rfl) rfl (pi_enumS rfl T.b_enumerate (pa_cons (pv 1) pa_nil)) (pg_tup rfl (pgs_cons (pg_name (i := 6) sc_lengths.nd rfl (Or.inl rfl)) (pgs_cons (pg_name (i := 7) sc_lengths.nd rfl (Or.inl rfl)) pgs_nil))) (pss_cons (ps_set (i := 8) sc_lengths.nd rfl (Or.inl rfl) (pe_callB (c_max rfl) (by rfl) T.b_max (by decide +kernel) (pa_cons (pe_ix (i_ix (K := K)) (pv 4) (pe_op o_add (pv 6) pe_int) (fun _ _ => rfl)) (pa_cons (pe_ix (i_ix (K := K)) (pv 5) (pv 6) (fun _ _ => rfl)) pa_nil))))
      (pss_cut (ps_if (pt_cmpR (o_eq hr.units) (pv 3) (pv 7) (nomark _)) (pss_one (ps_set (i := 8) sc_lengths.nd rfl (Or.inl rfl) (pe_op o_add (pe_ix (i_ix (K := K)) (pv 4) (pv 6) (fun _ _ => rfl)) pe_int))) pss_nil)
      (pss_one (ps_expr (pe_bm PySem.F.plainAttrs_list PySem.F.slot_list_append PySem.F.type_list_append mt_append (pv 5) (pa_cons (pv 8) pa_nil)))))))
      (pss_one (ps_expr (pe_bm PySem.F.plainAttrs_list PySem.F.slot_list_append PySem.F.type_list_append mt_append (pv 2) (pa_cons (pv 5) pa_nil))))))))
      (pss_one (ps_ret (pv 2)))))), ?_⟩
    walk_at "go"
    refine ⟨x, y, rfl, hR.imp fun s t ex ey hs ht k H1 e1 => ?_⟩
    subst ex ey
    have hs1 := hs.len
    have ht1 := ht.len
    have hsl : s.cps.toList.length = s.length := Array.length_toList
    have htl : t.cps.toList.length = t.length := Array.length_toList
    walk_at "go"
    rename_i q1 G1 n1 ex1 v1 q2 G2 n2 ex2 v2 p G3 n3 ex3 v3
    have e3 : Ex H G3 := ((e1.trans ex1).trans ex2).trans ex3
    have hp0 : H p = none := Ex.free ((e1.trans ex1).trans ex2) n3
    have hq20 : H q2 = none := Ex.free (e1.trans ex1) n2
    have hv2 : G3 q2 = some (.lst (lcRow s.cps.toList t.cps.toList (t.length + 1) 0)) := by
      rw [lcRow_zero]
      have := ex3.get v2
      rw [this]
      have e : ((t.length : Int) + 1).toNat = t.length + 1 := by omega
      rw [e]
    refine for_runs (rv_str s) (fun i σ H' => Ex H H' ∧ (∃ rs, rs.length = i + 1 ∧ TabAt H H' p rs (lcRow s.cps.toList t.cps.toList (t.length + 1))) ∧ ∃ a b c d e f, σ = [some (.str s), some (.str t), some (.ref p), a, b, c, d, e, f]) ⟨e3, ⟨[q2], rfl, hp0, v3, ?_, by simp, ?_, ?_⟩, _, _, _, _, _, _, rfl⟩ (fun _ _ _ _ _ => trivial) ?_ ?_
    · intro h
      rw [List.mem_singleton] at h
      rw [h, v2] at n3
      cases n3
    · intro r h
      rw [List.mem_singleton.mp h]
      exact hq20
    · intro k' r h
      cases k' with
      | zero => cases h; exact hv2
      | succ k' => simp at h
    · rintro i x σ H2 H2' hi ⟨e2, ⟨rs, hrs, T2⟩, a, b, c, d, e', f, rfl⟩ ⟨rfl, y, hy, rfl⟩
      have hlast : ∃ r, rs[i]? = some r := ⟨rs[i]'(by omega), List.getElem?_eq_getElem _⟩
      obtain ⟨r, hr0⟩ := hlast
      have hat : atI (rs.map V.ref) (-1) = some (V.ref r) := by
        unfold atI ixN
        rw [if_neg (by decide), List.length_map, hrs, if_pos (by omega)]
        show (rs.map V.ref)[(-1 + ((i + 1 : Nat) : Int)).toNat]? = _
        have e : (-1 + ((i + 1 : Nat) : Int)).toNat = i := by omega
        rw [e, List.getElem?_map, hr0]
        rfl
      walk_at "go"
      refine st_ixL T2.at_ hat ?_
      walk_at "go"
      rename_i q G4 nq e4 vq
      have habove : H2' r = some (.lst (lcRow s.cps.toList t.cps.toList (t.length + 1) i)) := T2.rows i r hr0
      refine for_runs (runs_enumS t) (fun j σ H' => Ex H2' H' ∧ H' q = some (.lst (lcRow s.cps.toList t.cps.toList (j + 1) (i + 1))) ∧ ∃ d e f, σ = [some (.str s), some (.str t), some (.ref p), some (.str (tx [y])), some (.ref r), some (.ref q), d, e, f]) ⟨e4, ?_, _, _, _, rfl⟩ (fun _ _ _ _ _ => trivial) ?_ ?_
      · rw [vq]
        show _ = some (HO.lst [V.int ((Lc _ _ (i + 1) 0 : Nat) : Int)])
        rw [Lc_j0]
        rfl
      · rintro j x σ H5 H6 hj ⟨e5, hq5, d', e'', f', rfl⟩ ⟨T, c', rfl, hT, e6, vT, hc'⟩
        have hab6 : H6 r = some (.lst (lcRow s.cps.toList t.cps.toList (t.length + 1) i)) := e6.get (e5.get habove)
        have hq6 := e6.get hq5
        walk_at "go"
        refine st_ixL hab6 (lcRow_atI (j := j + 1) (by omega)) ?_
        walk_at "go"
        refine st_ixL hq6 (lcRow_atI (j := j) (by omega)) ?_
        walk_at "go"
        have fin : ∀ m : Nat, m = Lc s.cps.toList t.cps.toList (i + 1) (j + 1) → ∃ d e f : Option V, True ∧ Ex H2' (upd H6 q (.lst (lcRow s.cps.toList t.cps.toList (j + 1) (i + 1) ++ [V.int (m : Int)]))) ∧ (upd H6 q (.lst (lcRow s.cps.toList t.cps.toList (j + 1) (i + 1) ++ [V.int (m : Int)]))) q = some (.lst (lcRow s.cps.toList t.cps.toList (j + 1 + 1) (i + 1))) := fun m hm =>
          ⟨none, none, none, trivial, (e5.trans e6).mut nq, by rw [upd_same, lcRow_more s.cps.toList t.cps.toList (j + 1), hm]⟩
        have hsij : s.cps.toList[i]? = some y := hy
        refine ⟨fun σ' H' => H' = H6 ∧ ∃ m : Nat, m = Lc s.cps.toList t.cps.toList (i + 1) (j + 1) ∧ σ' = [some (.str s), some (.str t), some (.ref p), some (.str (tx [y])), some (.ref r), some (.ref q), some (.int (j : Nat)), some (.str (tx [c'])), some (.int (m : Int))], ?_, ?_⟩
        · refine st_ifS ?_
          walk_at "go"
          have m1 := Lc_ri1 s.cps.toList t.cps.toList i j
          have m2 := Lc_up1 s.cps.toList t.cps.toList i j
          refine st_br2 (fun cc => ?_) (fun cc => ?_)
          · rw [tx_inj] at cc
            have hyc : y = c' := by simpa using cc
            walk_at "go"
            refine st_ixL hab6 (lcRow_atI (j := j) (by omega)) ?_
            walk_at "go"
            refine ⟨rfl, Lc s.cps.toList t.cps.toList i j + 1, ?_, by simp⟩
            rw [Lc_ss, if_pos (by rw [hsij, hc', hyc])]
          · have hyc : y ≠ c' := fun e => cc (by rw [e])
            walk_at "go"
            refine ⟨rfl, Lc s.cps.toList t.cps.toList (i + 1) (j + 1), rfl, ?_⟩
            have e1 : ((Lc s.cps.toList t.cps.toList (i + 1) (j + 1) : Nat) : Int) = if ((Lc s.cps.toList t.cps.toList (i + 1) j : Nat) : Int) > ((Lc s.cps.toList t.cps.toList i (j + 1) : Nat) : Int) then ((Lc s.cps.toList t.cps.toList (i + 1) j : Nat) : Int) else ((Lc s.cps.toList t.cps.toList i (j + 1) : Nat) : Int) := by
              rw [Lc_ss, if_neg (by rw [hsij, hc']; simpa using hyc)]
              split <;> omega
            rw [e1]
            rfl
        · rintro σ' H' ⟨rfl, m, hm, rfl⟩
          walk_at "go"
          refine st_app hq6 (by rw [lcRow_len]; omega) ?_
          obtain ⟨_, _, _, _, f1, f2⟩ := fin m hm
          exact ⟨f1, f2, _, _, _, rfl⟩
      · rintro σ H5 ⟨e5, hq5, d', e'', f', rfl⟩
        have T5 := T2.ex e5
        have h5at := T5.at_
        walk_at "go"
        refine st_app T5.at_ (by rw [List.length_map]; omega) ?_
        have hqp : q ≠ p := fun z => by rw [z, T2.at_] at nq; cases nq
        have hqr : q ∉ rs := fun z => by
          obtain ⟨k', hk'⟩ := List.getElem?_of_mem z
          rw [T2.rows k' q hk'] at nq
          cases nq
        refine ⟨(e2.trans e5).mut T2.new, ⟨rs ++ [q], by simp [hrs], T2.new, by rw [upd_same]; simp, ?_, ?_, ?_, ?_⟩, _, _, _, _, _, _, rfl⟩
        · rw [List.mem_append, List.mem_singleton]
          rintro (h | h)
          · exact T2.non h
          · exact hqp h.symm
        · rw [List.nodup_append]
          exact ⟨T2.nd, by simp, fun a ha b hb => by rw [List.mem_singleton.mp hb]; exact fun z => hqr (z ▸ ha)⟩
        · intro r' h
          rcases List.mem_append.mp h with h | h
          · exact T2.news r' h
          · rw [List.mem_singleton.mp h]; exact Ex.free e2 nq
        · intro k' r' h
          have hne : r' ≠ p := by
            intro z
            rw [List.getElem?_append] at h
            split at h
            · exact T2.non (z ▸ List.mem_of_getElem? h)
            · have := List.mem_of_getElem? h
              rw [List.mem_singleton] at this
              exact hqp (this ▸ z)
          rw [upd_ne hne]
          by_cases hk : k' < rs.length
          · rw [List.getElem?_append_left hk] at h
            exact T5.rows k' r' h
          · rw [List.getElem?_append_right (by omega)] at h
            have hk2 : k' - rs.length = 0 := by
              by_cases z : k' - rs.length = 0
              · exact z
              · rw [List.getElem?_eq_none (by simp; omega)] at h; cases h
            rw [hk2] at h
            cases h
            have : k' = i + 1 := by omega
            rw [this]
            exact hq5
    · rintro σ H2 ⟨e2, ⟨rs, hrs, T2⟩, a, b, c, d, e', f, rfl⟩
      walk_at "go"
      exact k p rs H2 e2 (by omega) T2
/-- a pair of two like signs -/
def PairOk (s t : List Nat) (q : Nat × Nat) : Prop := q.1 < s.length ∧ ∃ c, s[q.1]? = some c ∧ t[q.2]? = some c
def PairD (s t : List Nat) (d : PyData) : Prop := ∃ q, d = encQ q ∧ PairOk s t q
/-- whole numbers within bounds -/
def withinD (d : PyData) (lo hi : Int) : Bool := match d with
  | .int i => decide (lo ≤ i ∧ i ≤ hi)
  | _ => false
theorem within_rp {H : Hp} {x : V} {d : PyData} (h : Rp H x d) (lo hi : Int) : withinV x lo hi = withinD d lo hi := by cases h <;> rfl
theorem withinD_T {d : PyData} {lo hi : Int} (h : withinD d lo hi = true) : ∃ i, d = .int i ∧ lo ≤ i ∧ i ≤ hi := by
  unfold withinD at h
  split at h
  · rename_i i
    have h := of_decide_eq_true h
    exact ⟨i, rfl, h.1, h.2⟩
  · cases h
theorem rp_int {H : Hp} {x : V} {i : Int} (h : Rp H x (.int i)) : x = .int i := by cases h; rfl
def ahP (a b : Nat × Nat) : Prop := a.1 < b.1 ∧ a.2 < b.2
instance (a b : Nat × Nat) : Decidable (ahP a b) := by unfold ahP; infer_instance
def cmP (a b : Nat × Nat) : Prop := ahP a b ∨ ahP b a
instance (a b : Nat × Nat) : Decidable (cmP a b) := by unfold cmP; infer_instance
theorem cmP_sym {a b : Nat × Nat} (h : cmP a b) : cmP b a := Or.symm h
theorem chain_of {qs : List (Nat × Nat)} (h1 : qs.Pairwise cmP) (h2 : qs.Pairwise lexLe) : qs.Pairwise ahP := by
  refine (h1.and h2).imp fun {a b} h => ?_
  obtain ⟨h | h, l⟩ := h
  · exact h
  · unfold ahP at h
    unfold lexLe at l
    omega
def enN (q : Nat × Nat) : Int × Int := ((q.1 : Int), -(q.2 : Int))
def AntiQ (l : List (Nat × Nat)) : Prop := l.Pairwise fun a b => ¬ cmP a b
/-- a heap: pairs, each once, no two one ahead of the other -/
def GoodHeap (s t : List Nat) (d : PyData) : Prop := ∃ l : List (Nat × Nat), d = .list (l.map encQ) ∧ l ≠ [] ∧ (∀ q ∈ l, PairOk s t q) ∧ l.Nodup ∧ AntiQ l
def fallQ (l : List (Nat × Nat)) : Prop := l.Pairwise fun a b => b.2 ≤ a.2 ∧ a ≠ b
theorem fall_of {l m : List (Nat × Nat)} (hp : m.Perm l) (hs : (m.map enN).Pairwise lexI) (hnd : l.Nodup) (han : AntiQ l) : fallQ m := by
  have hnd2 : m.Nodup := hp.nodup_iff.mpr hnd
  have han2 : m.Pairwise fun a b => ¬ cmP a b := (hp.pairwise_iff (R := fun a b => ¬ cmP a b) (fun h c => h (cmP_sym c))).mpr han
  rw [List.pairwise_map] at hs
  refine ((hs.and han2).and hnd2).imp fun {a b} h => ?_
  obtain ⟨⟨h1, h2⟩, h3⟩ := h
  refine ⟨?_, h3⟩
  unfold lexI enN at h1
  dsimp only at h1
  by_cases hc : b.2 ≤ a.2
  · exact hc
  · exact absurd (.inl ⟨by omega, by omega⟩) h2
theorem of_fall {l m : List (Nat × Nat)} (hp : m.Perm l) (hs : (m.map enN).Pairwise lexI) (hf : fallQ m) : l.Nodup ∧ AntiQ l := by
  refine ⟨hp.nodup_iff.mp (hf.imp fun h => h.2), ?_⟩
  refine (hp.pairwise_iff (R := fun a b => ¬ cmP a b) (fun h c => h (cmP_sym c))).mp ?_
  rw [List.pairwise_map] at hs
  refine (hs.and hf).imp fun {a b} h => ?_
  obtain ⟨h1, h2, _⟩ := h
  unfold lexI enN at h1
  dsimp only at h1
  unfold cmP ahP
  omega
theorem encQ_inj {a b : Nat × Nat} (h : encQ a = encQ b) : a = b := by
  have h1 := eqv_encQ a b
  rw [h, show PyData.eqv (encQ b) (encQ b) = true from (eqv_encQ b b).trans (decide_eq_true rfl)] at h1
  exact of_decide_eq_true h1.symm
theorem map_encQ_inj {l m : List (Nat × Nat)} (h : l.map encQ = m.map encQ) : l = m := (List.map_inj_right fun _ _ => encQ_inj).mp h
theorem RpA.zipped {H : Hp} : ∀ {xs : List V} {ds : List PyData}, RpA H xs ds → ∃ zs : List (V × PyData), xs = zs.map (·.1) ∧ ds = zs.map (·.2) ∧ ∀ z ∈ zs, Rp H z.1 z.2
  | _, _, .nil => ⟨[], rfl, rfl, fun _ h => nomatch h⟩
  | _, _, .cons (v := v) (d := d) a k => by
    obtain ⟨zs, rfl, rfl, h⟩ := RpA.zipped k
    refine ⟨(v, d) :: zs, rfl, rfl, fun z hz => ?_⟩
    rcases List.mem_cons.mp hz with e | e
    · rw [e]; exact a
    · exact h z e
theorem pairs_in (s t : List Nat) : ∀ zs : List (V × PyData), (∀ z ∈ zs, PairD s t z.2) → ∃ gs : List (V × (Nat × Nat)), zs = gs.map (fun g => (g.1, encQ g.2)) ∧ ∀ g ∈ gs, PairOk s t g.2
  | [], _ => ⟨[], rfl, fun _ h => nomatch h⟩
  | z :: zs, h => by
    obtain ⟨gs, e, k⟩ := pairs_in s t zs fun z hz => h z (List.mem_cons_of_mem _ hz)
    obtain ⟨q, e1, e2⟩ := h z List.mem_cons_self
    refine ⟨(z.1, q) :: gs, ?_, fun g hg => ?_⟩
    · rw [e, List.map_cons, ← e1]
    · rcases List.mem_cons.mp hg with e | e
      · rw [e]; exact e2
      · exact k g e
theorem rp_encQ {H : Hp} {x : V} {q : Nat × Nat} (h : Rp H x (encQ q)) : ∃ a, x = .ref a ∧ tupAt H a = some [.int (q.1 : Nat), .int (q.2 : Nat)] := by
  obtain ⟨a, xs, rfl, h1, h2⟩ := h.tupAt'
  refine ⟨a, rfl, ?_⟩
  cases h2 with
  | cons r0 r =>
    cases r with
    | cons r1 r2 =>
      cases r2
      cases rp_int r0
      cases rp_int r1
      exact h1
/-- what stands when i of the pairs are seen -/
def HeapSeen (m : List (Nat × Nat)) (n i L : Nat) (b1 b2 : Int) : Prop := fallQ (m.take i) ∧ (∀ y ∈ m.take i, L ≤ y.2) ∧ (L = n ∨ ∃ y ∈ m.take i, y.2 = L) ∧ ((i = 0 ∧ b1 = -1) ∨ ∃ y, m[i - 1]? = some y ∧ 0 < i ∧ b1 = (y.1 : Nat) ∧ b2 = -((y.2 : Nat) : Int))
theorem heapSeen_0 (m : List (Nat × Nat)) (n : Nat) : HeapSeen m n 0 n (-1) (-1) := ⟨by rw [List.take_zero]; exact .nil, (fun y h => by rw [List.take_zero] at h; cases h), .inl rfl, .inl ⟨rfl, rfl⟩⟩
section
variable {m : List (Nat × Nat)} {n i L : Nat} {b1 b2 : Int} {z : Nat × Nat}
theorem HeapSeen.same (h : HeapSeen m n i L b1 b2) (hz : m[i]? = some z) (h1 : b1 = (z.1 : Nat)) (h2 : b2 = -((z.2 : Nat) : Int)) : ¬ fallQ m := fun hf => by
  obtain ⟨_, _, _, g⟩ := h
  rcases g with ⟨_, g⟩ | ⟨y, g1, g2, g3, g4⟩
  · omega
  · have e : y = z := Prod.ext (by omega) (by omega)
    obtain ⟨q1, r1⟩ := List.getElem?_eq_some_iff.mp g1
    obtain ⟨q2, r2⟩ := List.getElem?_eq_some_iff.mp hz
    have := (List.pairwise_iff_getElem.mp hf (i - 1) i q1 q2 (by omega)).2
    rw [r1, r2] at this
    exact this e
theorem HeapSeen.high (h : HeapSeen m n i L b1 b2) (hz : m[i]? = some z) (hn : z.2 < n) (hl : L < z.2) : ¬ fallQ m := fun hf => by
  obtain ⟨_, _, g, _⟩ := h
  rcases g with g | ⟨y, g1, g2⟩
  · omega
  · obtain ⟨j, hj⟩ := List.getElem?_of_mem g1
    rw [List.getElem?_take] at hj
    split at hj
    · rename_i hji
      obtain ⟨q1, r1⟩ := List.getElem?_eq_some_iff.mp hj
      obtain ⟨q2, r2⟩ := List.getElem?_eq_some_iff.mp hz
      have := (List.pairwise_iff_getElem.mp hf j i q1 q2 hji).1
      rw [r1, r2] at this
      omega
    · cases hj
theorem HeapSeen.step (h : HeapSeen m n i L b1 b2) (hs : (m.map enN).Pairwise lexI) (hz : m[i]? = some z) (hn : ¬ (b1 = (z.1 : Nat) ∧ b2 = -((z.2 : Nat) : Int))) (hl : z.2 ≤ L) : HeapSeen m n (i + 1) z.2 (z.1 : Nat) (-((z.2 : Nat) : Int)) := by
  obtain ⟨g1, g2, g3, g4⟩ := h
  have tk : m.take (i + 1) = m.take i ++ [z] := by rw [List.take_add_one, hz]; rfl
  refine ⟨?_, ?_, .inr ⟨z, by rw [tk]; simp, rfl⟩, .inr ⟨z, hz, by omega, rfl, rfl⟩⟩
  · rw [tk]
    unfold fallQ
    rw [List.pairwise_append]
    refine ⟨g1, List.pairwise_singleton _ _, fun a ha b hb => ?_⟩
    have : b = z := by simpa using hb
    subst this
    have := g2 a ha
    refine ⟨by omega, fun e => hn ?_⟩
    subst e
    rcases g4 with ⟨g, _⟩ | ⟨y, q1, q2, q3, q4⟩
    · subst g; rw [List.take_zero] at ha; cases ha
    · obtain ⟨j, hj⟩ := List.getElem?_of_mem ha
      rw [List.getElem?_take] at hj
      split at hj
      · rename_i hji
        rw [List.pairwise_map] at hs
        obtain ⟨p1, r1⟩ := List.getElem?_eq_some_iff.mp hj
        obtain ⟨p2, r2⟩ := List.getElem?_eq_some_iff.mp q1
        obtain ⟨p3, r3⟩ := List.getElem?_eq_some_iff.mp hz
        by_cases hjj : j = i - 1
        · subst hjj
          rw [hj] at q1
          cases q1
          exact ⟨q3, q4⟩
        · have w1 := List.pairwise_iff_getElem.mp hs j (i - 1) p1 p2 (by omega)
          have w2 := List.pairwise_iff_getElem.mp hs (i - 1) i p2 p3 (by omega)
          rw [r1, r2] at w1
          rw [r2, r3] at w2
          unfold lexI enN at w1 w2
          dsimp only at w1 w2
          omega
      · cases hj
  · intro y hy
    rw [tk] at hy
    rcases List.mem_append.mp hy with h | h
    · have := g2 y h; omega
    · have : y = z := by simpa using h
      subst this
      exact Nat.le_refl _
end
/-- the thread that is told -/
def thr (s t : List Nat) : Nat → Nat → List (Nat × Nat)
  | 0, _ => []
  | _ + 1, 0 => []
  | n + 1, m + 1 => if Lc s t (n + 1) (m + 1) = Lc s t n (m + 1) then thr s t n (m + 1) else if Lc s t (n + 1) (m + 1) = Lc s t (n + 1) m then thr s t (n + 1) m else thr s t n m ++ [(n, m)]
termination_by n m => n + m
theorem thr_i0 (s t : List Nat) (m : Nat) : thr s t 0 m = [] := by unfold thr; rfl
theorem thr_j0 (s t : List Nat) (n : Nat) : thr s t n 0 = [] := by cases n <;> (unfold thr; rfl)
theorem thr_ss (s t : List Nat) (n m : Nat) : thr s t (n + 1) (m + 1) = if Lc s t (n + 1) (m + 1) = Lc s t n (m + 1) then thr s t n (m + 1) else if Lc s t (n + 1) (m + 1) = Lc s t (n + 1) m then thr s t (n + 1) m else thr s t n m ++ [(n, m)] := by rw [thr]
theorem thr_ok (s t : List Nat) : ∀ n m, n ≤ s.length → m ≤ t.length → (thr s t n m).length = Lc s t n m ∧ (thr s t n m).Pairwise ahP ∧ ∀ q ∈ thr s t n m, q.1 < n ∧ q.2 < m ∧ ∃ c, s[q.1]? = some c ∧ t[q.2]? = some c
  | 0, m, _, _ => by rw [thr_i0, Lc_i0]; exact ⟨rfl, .nil, fun _ h => nomatch h⟩
  | n + 1, 0, _, _ => by rw [thr_j0, Lc_j0]; exact ⟨rfl, .nil, fun _ h => nomatch h⟩
  | n + 1, m + 1, hn, hm => by
    rw [thr_ss]
    by_cases h1 : Lc s t (n + 1) (m + 1) = Lc s t n (m + 1)
    · rw [if_pos h1, h1]
      obtain ⟨a, b, c⟩ := thr_ok s t n (m + 1) (by omega) hm
      exact ⟨a, b, fun q hq => ⟨by have := (c q hq).1; omega, (c q hq).2⟩⟩
    · rw [if_neg h1]
      by_cases h2 : Lc s t (n + 1) (m + 1) = Lc s t (n + 1) m
      · rw [if_pos h2, h2]
        obtain ⟨a, b, c⟩ := thr_ok s t (n + 1) m hn (by omega)
        exact ⟨a, b, fun q hq => ⟨(c q hq).1, by have := (c q hq).2.1; omega, (c q hq).2.2⟩⟩
      · rw [if_neg h2]
        have e : s[n]? = t[m]? := by
          by_cases e : s[n]? = t[m]?
          · exact e
          · exfalso
            rw [Lc_ss, if_neg e] at h1 h2
            omega
        obtain ⟨a, b, c⟩ := thr_ok s t n m (by omega) (by omega)
        obtain ⟨x, hx⟩ : ∃ x, s[n]? = some x := ⟨s[n]'(by omega), List.getElem?_eq_getElem _⟩
        refine ⟨?_, ?_, fun q hq => ?_⟩
        · rw [List.length_append, a, Lc_ss, if_pos e]; rfl
        · rw [List.pairwise_append]
          refine ⟨b, by simp, fun p hp q hq => ?_⟩
          have : q = (n, m) := by simpa using hq
          rw [this]
          exact ⟨(c p hp).1, (c p hp).2.1⟩
        · rcases List.mem_append.mp hq with h | h
          · exact ⟨by have := (c q h).1; omega, by have := (c q h).2.1; omega, (c q h).2.2⟩
          · have : q = (n, m) := by simpa using h
            rw [this]
            exact ⟨Nat.lt_succ_self _, Nat.lt_succ_self _, x, hx, by rw [← e]; exact hx⟩
termination_by n m => n + m
def sp_thread_of (K : PySem.W.Frag) : Sp := fun vs H Q E => ∃ x y, vs = [x, y] ∧ Rows2 K E H x y fun s t => ∀ p (zs : List ZP) H', Ex H H' → H p = none → H' p = some (.lst (zs.map zV)) → TP H' zs → zs.map (·.2) = thr s.cps.toList t.cps.toList s.length t.length → Q (.ref p) H'
theorem ok_thread_of (T : Tx K mg ad fd tk) : FnOk P w K mg base (L2.CX P w) 6 (ad 7) (fd 7) ["side", "top"] (sp_thread_of K) := by
  refine T.d_thread_of.F.okX sc_thread_of (fun vs H Q E h => ?_) (fun cdv A outer s H vs Q E hr h => ?_)
  · obtain ⟨x, y, rfl, _⟩ := h
    rfl
  · obtain ⟨x, y, rfl, hR⟩ := h
    refine ⟨_, (pss_cons (ps_set (i := 2) sc_thread_of.nd rfl (Or.inl rfl) (pe_call (ok_lengths T) (hr.mono (by decide)) rfl T.d_lengths.g T.d_lengths.F.kp T.d_lengths.b .nil (passes_call (takes_of rfl rfl rfl rfl) (fun _ _ _ _ h => h)) (pa_cons (pv 0) (pa_cons (pv 1) pa_nil))))
      (pss_cons (ps_set (i := 3) sc_thread_of.nd rfl (Or.inl rfl) (pe_callB (c_len (K := K)) (by rfl) T.b_len (by decide +kernel) (pa_cons (pv 0) pa_nil)))
      (pss_cons (ps_set (i := 4) sc_thread_of.nd rfl (Or.inl rfl) (pe_callB (c_len (K := K)) (by rfl) T.b_len (by decide +kernel) (pa_cons (pv 1) pa_nil)))
      (pss_cons (ps_set (i := 5) sc_thread_of.nd rfl (Or.inl rfl) (pe_lst pa_nil))
      (pss_cons (ps_while (passes_of rfl) (PW.pt (pw_and (pt_cmpR o_gt (pv 3) pe_int (nomark _)) (pw_and1 (pt_cmpR o_gt (pv 4) pe_int (nomark _))))) (pss_one (ps_if (pt_cmpR (o_eq hr.units) (pe_ix (i_ix (K := K)) (pe_ix (i_ix (K := K)) (pv 2) (pv 3) (fun _ _ => rfl)) (pv 4) (fun _ _ => rfl)) (pe_ix (i_ix (K := K)) (pe_ix (i_ix (K := K)) (pv 2) (pe_op o_sub (pv 3) pe_int) (fun _ _ => rfl)) (pv 4) (fun _ _ => rfl)) (nomark _)) (pss_one (ps_aug (i := 3) sc_thread_of.nd rfl (Or.inl rfl) pe_int ip_sub)) (pss_one (ps_if (pt_cmpR (o_eq hr.units) (pe_ix (i_ix (K := K)) (pe_ix (i_ix (K := K)) (pv 2) (pv 3) (fun _ _ => rfl)) (pv 4) (fun _ _ => rfl)) (pe_ix (i_ix (K := K)) (pe_ix (i_ix (K := K)) (pv 2) (pv 3) (fun _ _ => rfl)) (pe_op o_sub (pv 4) pe_int) (fun _ _ => rfl)) (nomark _)) (pss_one (ps_aug (i := 4) sc_thread_of.nd rfl (Or.inl rfl) pe_int ip_sub)) (pss_cons (ps_aug (i := 3) sc_thread_of.nd rfl (Or.inl rfl) pe_int ip_sub)
      (pss_cons (ps_aug (i := 4) sc_thread_of.nd rfl (Or.inl rfl) pe_int ip_sub)
      (pss_one (ps_expr (pe_bm PySem.F.plainAttrs_list PySem.F.slot_list_append PySem.F.type_list_append mt_append (pv 5) (pa_cons (pe_tup (pa_cons (pv 3) (pa_cons (pv 4) pa_nil))) pa_nil)))))))))))
      (pss_one (ps_ret (pe_slice3 (pv 5) po_none po_none (pe_un un_neg pe_int) (K := K))))))))), ?_⟩
    walk_at "go"
    refine ⟨x, y, rfl, hR.imp fun s t ex ey hs ht k p rs H1 e1 hrs T1 => ?_⟩
    subst ex ey
    have hs1 := hs.len
    have ht1 := ht.len
    have hsl : s.cps.toList.length = s.length := Array.length_toList
    have htl : t.cps.toList.length = t.length := Array.length_toList
    walk_at "go"
    rename_i f G2 n2 e2 v2
    have T2 := T1.ex e2
    generalize hS : s.cps.toList = S at *
    generalize hT : t.cps.toList = T0 at *
    refine while_inv (fun m σ H' => ∃ (n j : Nat) (zs : List ZP), m = n + j ∧ n ≤ s.length ∧ j ≤ t.length ∧ Ex H1 H' ∧ H' f = some (.lst (zs.map zV)) ∧ TP H' zs ∧ zs.length ≤ s.length - n ∧ thr S T0 s.length t.length = thr S T0 n j ++ (zs.map (·.2)).reverse ∧ σ = [some (.str s), some (.str t), some (.ref p), some (.int (n : Nat)), some (.int (j : Nat)), some (.ref f)]) ⟨s.length + t.length, s.length, t.length, [], rfl, Nat.le_refl _, Nat.le_refl _, e2, v2, (fun _ h => nomatch h), by simp, by simp, rfl⟩ ?_
    rintro m σ H3 ⟨n, j, zs, rfl, hn, hj, e3, hf, tp, hzl, hthr, rfl⟩
    have T3 := T1.ex e3
    have hHf : H1 f = none := n2
    -- the end
    have done_ : n = 0 ∨ j = 0 → ∀ H', Ex H1 H' → ∀ q, H' q = some (.lst (zs.map zV).reverse) → H q = none → TP H' zs → Q (.ref q) H' := fun h H' e q hq hn tp => by
      have h0 : thr S T0 n j = [] := by
        rcases h with h | h
        · rw [h, thr_i0]
        · rw [h, thr_j0]
      rw [h0, List.nil_append] at hthr
      refine k q zs.reverse H' (e1.trans e) hn (by rw [hq, List.map_reverse]) (tp.perm (List.reverse_perm _)) ?_
      rw [hthr, List.map_reverse]
    walk_at "go"
    refine st_br2 (fun c => ?_) (fun c => ?_)
    rotate_left
    · refine wh_F rfl ?_
      walk_at "go"
      refine st_revL (lstAt_sq (lst_of hf)) ?_
      walk_at "nw"
      rename_i q G3 n3 e4 v4
      exact done_ (.inl (by omega)) _ (e3.trans e4) _ v4 (Ex.free (e1.trans e3) n3) (tp.ex e4)
    walk_at "go"
    by_cases cj : 0 < j
    rotate_left
    · refine wh_F (decide_eq_false (by omega)) ?_
      walk_at "go"
      refine st_revL (lstAt_sq (lst_of hf)) ?_
      walk_at "nw"
      rename_i q G3 n3 e4 v4
      exact done_ (.inr (by omega)) _ (e3.trans e4) _ v4 (Ex.free (e1.trans e3) n3) (tp.ex e4)
    refine wh_T (decide_eq_true (by omega)) ?_
    obtain ⟨n', rfl⟩ : ∃ n', n = n' + 1 := ⟨n - 1, by omega⟩
    obtain ⟨j', rfl⟩ : ∃ j', j = j' + 1 := ⟨j - 1, by omega⟩
    have row : ∀ i, i ≤ s.length → ∃ r, rs[i]? = some r ∧ atI (rs.map V.ref) (i : Nat) = some (.ref r) ∧ H3 r = some (.lst (lcRow S T0 (t.length + 1) i)) := fun i hi => by
      obtain ⟨r, hr⟩ : ∃ r, rs[i]? = some r := ⟨rs[i]'(by omega), List.getElem?_eq_getElem _⟩
      exact ⟨r, hr, at_mapN hr, T3.rows _ _ hr⟩
    obtain ⟨r1, _, r1a, r1v⟩ := row (n' + 1) hn
    obtain ⟨r0, _, r0a, r0v⟩ := row n' (by omega)
    have c1 : (((n' + 1 : Nat) : Int) - 1) = (n' : Nat) := by omega
    have c2 : (((j' + 1 : Nat) : Int) - 1) = (j' : Nat) := by omega
    walk_at "go"
    refine st_ixL T3.at_ r1a ?_
    walk_at "go"
    refine st_ixL r1v (lcRow_atI (by omega)) ?_
    walk_at "go"
    refine st_ixL T3.at_ (by rw [c1]; exact r0a) ?_
    walk_at "go"
    refine st_ixL r0v (lcRow_atI (by omega)) ?_
    walk_at "go"
    refine st_br2 (fun e => ?_) (fun e => ?_)
    · have e : Lc S T0 (n' + 1) (j' + 1) = Lc S T0 n' (j' + 1) := by omega
      walk_at "go"
      refine ⟨n' + (j' + 1), by omega, n', j' + 1, zs, rfl, by omega, hj, e3, hf, tp, by omega, ?_, ?_⟩
      · rw [hthr, thr_ss, if_pos e]
      · rw [← c1]; rfl
    · have e : ¬ Lc S T0 (n' + 1) (j' + 1) = Lc S T0 n' (j' + 1) := by omega
      walk_at "go"
      refine st_ixL T3.at_ r1a ?_
      walk_at "go"
      refine st_ixL r1v (lcRow_atI (by omega)) ?_
      walk_at "go"
      refine st_ixL T3.at_ r1a ?_
      walk_at "go"
      refine st_ixL r1v (by rw [c2]; exact lcRow_atI (by omega)) ?_
      walk_at "go"
      refine st_br2 (fun e2 => ?_) (fun e2 => ?_)
      · have e2 : Lc S T0 (n' + 1) (j' + 1) = Lc S T0 (n' + 1) j' := by omega
        walk_at "go"
        refine ⟨(n' + 1) + j', by omega, n' + 1, j', zs, rfl, hn, by omega, e3, hf, tp, hzl, ?_, ?_⟩
        · rw [hthr, thr_ss, if_neg e, if_pos e2]
        · rw [← c2]; rfl
      · have e2 : ¬ Lc S T0 (n' + 1) (j' + 1) = Lc S T0 (n' + 1) j' := by omega
        walk_at "go"
        rename_i w G5 n5 e5 v5
        refine st_app (e5.get hf) (by rw [List.length_map]; omega) ?_
        refine ⟨n' + j', by omega, n', j', zs ++ [(w, (n', j'))], rfl, by omega, by omega, (e3.trans e5).mut hHf, by rw [upd_same, List.map_append]; rfl, ?_, by rw [List.length_append, List.length_singleton]; omega, ?_, ?_⟩
        · refine TP.up (TP.app (tp.ex e5) ?_) (e5.get hf)
          intro z hz
          rw [List.mem_singleton.mp hz, v5, c1, c2]
          rfl
        · rw [hthr, thr_ss, if_neg e, if_neg e2, List.map_append, List.reverse_append, List.append_assoc]
          rfl
        · rw [← c1, ← c2]; rfl
def sp_is_pair : Sp := fun vs H Q _ => ∃ (s t : Str) (x : V) (d : PyData), vs = [.str s, .str t, x] ∧ RowS s ∧ RowS t ∧ Rp H x d ∧ ∀ b, (b = true ↔ PairD s.cps.toList t.cps.toList d) → Q (.bl b) H
theorem ok_is_pair (T : Tx K mg ad fd tk) : FnOk P w K mg base CX0 3 (ad 8) (fd 8) ["side", "top", "thing"] sp_is_pair := by
  refine T.d_is_pair.F.ok sc_is_pair (fun vs H Q E h => ?_) (fun cdv A outer s H vs Q E hr h => ?_)
  · obtain ⟨s, t, x, d, rfl, _⟩ := h
    rfl
  · obtain ⟨s, t, x, d, rfl, hs, ht, hx, k⟩ := h
    refine ⟨_, (pss_cons (ps_if (PW.pt (pw_or (pt_not (pt_val (pe_callB c_is (by rfl) T.b_isinstance (by decide +kernel) (pa_cons (pv 2) (pa_cons (pe_bltn (v := .ty "tuple") rfl T.b_tuple (by decide +kernel) rfl) pa_nil))))) (pw_or1 (pt_cmpR (o_ne hr.units) (pe_callB (c_len (K := K)) (by rfl) T.b_len (by decide +kernel) (pa_cons (pv 2) pa_nil)) pe_int (nomark _))))) (pss_one (ps_ret pe_bl)) pss_nil)
      (pss_cons (ps_asg (pv 2) (pg_tup rfl (pgs_cons (pg_name (i := 3) sc_is_pair.nd rfl (Or.inl rfl)) (pgs_cons (pg_name (i := 4) sc_is_pair.nd rfl (Or.inl rfl)) pgs_nil))))
      (pss_cons (ps_if (PW.pt (pw_or (pt_not (pt_val (pe_call (ok_is_within T) (hr.mono (by decide)) rfl T.d_is_within.g T.d_is_within.F.kp T.d_is_within.b .nil pass0 (pa_cons (pv 3) (pa_cons pe_int (pa_cons (pe_op o_sub (pe_callB (c_len (K := K)) (by rfl) T.b_len (by decide +kernel) (pa_cons (pv 0) pa_nil)) pe_int) pa_nil)))))) (pw_or1 (pt_not (pt_val (pe_call (ok_is_within T) (hr.mono (by decide)) rfl T.d_is_within.g T.d_is_within.F.kp T.d_is_within.b .nil pass0 (pa_cons (pv 4) (pa_cons pe_int (pa_cons (pe_op o_sub (pe_callB (c_len (K := K)) (by rfl) T.b_len (by decide +kernel) (pa_cons (pv 1) pa_nil)) pe_int) pa_nil))))))))) (pss_one (ps_ret pe_bl)) pss_nil)
      (pss_one (ps_ret (pe_cmpR (o_eq hr.units) (pe_ix (i_ix (K := K)) (pv 0) (pv 3) (fun _ _ => rfl)) (pe_ix (i_ix (K := K)) (pv 1) (pv 4) (fun _ _ => rfl)) (nomark _))))))), ?_⟩
    have hs1 := hs.len
    have ht1 := ht.len
    have hsl : s.cps.toList.length = s.length := Array.length_toList
    have htl : t.cps.toList.length = t.length := Array.length_toList
    walk_at "go"
    refine st_isTupD hx.rq ?_
    refine ⟨_, rfl, ?_⟩
    have no : (¬ PairD s.cps.toList t.cps.toList d) → Q (.bl false) H := fun n => k false ⟨(fun z => nomatch z), (fun z => (n z).elim)⟩
    by_cases hd : ∃ ds, d = .tuple ds
    · obtain ⟨ds, rfl⟩ := hd
      obtain ⟨a, xs, rfl, h1, h2⟩ := hx.tupAt'
      have hl := h2.len
      refine st_F rfl ?_
      walk_at "go"
      refine st_lenA h1 ?_
      walk_at "go"
      refine st_brn (fun c => ?_) (fun c => ?_)
      · walk_at "go"
        refine no (fun h => ?_)
        obtain ⟨q, e, _⟩ := h
        cases e
        apply c
        rw [hl]
        rfl
      · have c2 : xs.length = 2 := by omega
        obtain ⟨x0, x1, rfl⟩ : ∃ x0 x1, xs = [x0, x1] := by
          match xs, c2 with
          | [x0, x1], _ => exact ⟨x0, x1, rfl⟩
        obtain ⟨d0, d1, rfl, r0, r1⟩ : ∃ d0 d1, ds = [d0, d1] ∧ Rp H x0 d0 ∧ Rp H x1 d1 := by
          match ds, h2 with
          | [d0, d1], .cons r0 (.cons r1 .nil) => exact ⟨d0, d1, rfl, r0, r1⟩
        walk_at "go"
        refine st_gtupA h1 rfl ?_
        walk_at "go"
        refine ⟨x0, 0, (s.length : Int) - 1, rfl, r0.ty, ?_⟩
        rw [within_rp r0]
        walk_at "go"
        refine st_br (fun c0 => ?_) (fun c0 => ?_)
        · walk_at "go"
          refine no (fun h => ?_)
          obtain ⟨q, e, g1, _⟩ := h
          cases e
          simp [withinD] at c0
          omega
        · walk_at "go"
          refine ⟨x1, 0, (t.length : Int) - 1, rfl, r1.ty, ?_⟩
          rw [within_rp r1]
          walk_at "go"
          refine st_br (fun c1 => ?_) (fun c1 => ?_)
          · walk_at "go"
            refine no (fun h => ?_)
            obtain ⟨q, e, _, c, g1, g2⟩ := h
            cases e
            have := (List.getElem?_eq_some_iff.mp g2).1
            simp [withinD] at c1
            omega
          · obtain ⟨i, rfl, i1, i2⟩ := withinD_T (d := d0) (by simpa using c0)
            obtain ⟨j, rfl, j1, j2⟩ := withinD_T (d := d1) (by simpa using c1)
            cases rp_int r0
            cases rp_int r1
            obtain ⟨m, rfl⟩ : ∃ m : Nat, i = m := ⟨i.toNat, by omega⟩
            obtain ⟨n, rfl⟩ : ∃ n : Nat, j = n := ⟨j.toNat, by omega⟩
            have hm : m < s.cps.toList.length := by omega
            have hn : n < t.cps.toList.length := by omega
            walk_at "go"
            refine st_sign (by omega) (at_nat (List.getElem?_eq_getElem hm)) ?_
            walk_at "go"
            refine st_sign (by omega) (at_nat (List.getElem?_eq_getElem hn)) ?_
            walk_at "go"
            refine k _ ⟨fun e => ?_, fun e => ?_⟩
            · have e := of_decide_eq_true e
              refine ⟨(m, n), rfl, hm, _, List.getElem?_eq_getElem hm, ?_⟩
              rw [List.getElem?_eq_getElem hn]
              exact congrArg some (Eq.symm (by simpa [tx_inj] using e))
            · obtain ⟨q, e, _, c, g1, g2⟩ := e
              have e1 : m = q.1 := by injection e with e; injection e with a b; injection a with a; omega
              have e2 : n = q.2 := by injection e with e; injection e with a b; injection b with b d; injection b with b; omega
              rw [← e1, List.getElem?_eq_getElem hm] at g1
              rw [← e2, List.getElem?_eq_getElem hn] at g2
              have g := g1.trans g2.symm
              simpa [tx_inj] using g
    · refine st_T ?_ ?_
      · cases d <;> first | rfl | exact absurd ⟨_, rfl⟩ hd
      walk_at "go"
      refine no (fun h => ?_)
      obtain ⟨q, e, _⟩ := h
      exact hd ⟨_, e⟩
def sp_is_ahead : Sp := fun vs H Q _ => ∃ (T U : Addr) (a b c d : Int), vs = [.ref T, .ref U] ∧ H T = some (.tup [.int a, .int b]) ∧ H U = some (.tup [.int c, .int d]) ∧ Q (.bl (decide (a < c ∧ b < d))) H
theorem ok_is_ahead (T : Tx K mg ad fd tk) : FnOk P w K mg base CX0 1 (ad 9) (fd 9) ["one", "other"] sp_is_ahead := by
  refine T.d_is_ahead.F.ok sc_is_ahead (fun vs H Q E h => ?_) (fun cdv A outer s H vs Q E hr h => ?_)
  · obtain ⟨W, U, a, b, c, d, rfl, _⟩ := h
    rfl
  · obtain ⟨W, U, a, b, c, d, rfl, hT, hU, k⟩ := h
    refine ⟨_, (pss_one (ps_ret (pe_and (pe_cmpR o_lt (pe_ix (i_ix (K := K)) (pv 0) pe_int (fun _ _ => rfl)) (pe_ix (i_ix (K := K)) (pv 1) pe_int (fun _ _ => rfl)) (nomark _)) (pe_one (pe_cmpR o_lt (pe_ix (i_ix (K := K)) (pv 0) pe_int (fun _ _ => rfl)) (pe_ix (i_ix (K := K)) (pv 1) pe_int (fun _ _ => rfl)) (nomark _)))))), ?_⟩
    walk_at "go"
    refine st_br2 (fun e => ?_) (fun e => ?_)
    · walk_at "go"
      have : decide (a < c ∧ b < d) = decide (b < d) := by simp [e]
      rw [this] at k
      exact k
    · have : decide (a < c ∧ b < d) = false := by simp [e]
      rw [this] at k
      exact k
theorem objs_ntup {H : Hp} {p : Addr} {ts : List Addr} {qs : List (Nat × Nat)} {xs : List V} (h : ObjsAt H ts (qs.map tupO)) (hp : H p = some (.lst xs)) : p ∉ ts := fun z => by
  obtain ⟨k, hk⟩ := List.getElem?_of_mem z
  have hk2 : k < (qs.map tupO).length := by rw [← h.len]; exact (List.getElem?_eq_some_iff.mp hk).1
  have := h.at k _ _ hk (List.getElem?_eq_getElem hk2)
  rw [hp, List.getElem_map] at this
  cases this
/-- the pairs of sign i, of the signs ahead of n -/
def prRow (s t : List Nat) (i : Nat) : List (Nat × Nat) := match s[i]? with
  | some c => (posOf c t).map fun j => (i, j)
  | none => []
def prs (s t : List Nat) (n : Nat) : List (Nat × Nat) := (List.range n).flatMap (prRow s t)
theorem prs_zero (s t : List Nat) : prs s t 0 = [] := rfl
theorem prs_succ (s t : List Nat) (n : Nat) : prs s t (n + 1) = prs s t n ++ prRow s t n := by
  unfold prs
  rw [List.range_succ, List.flatMap_append]
  simp
theorem posOf_len (c : Nat) (l : List Nat) : (posOf c l).length ≤ l.length := by
  have := List.length_filter_le (fun j => decide (l[j]? = some c)) (List.range l.length)
  rw [List.length_range] at this
  exact this
theorem prRow_len (s t : List Nat) (i : Nat) : (prRow s t i).length ≤ t.length := by
  unfold prRow
  split
  · rw [List.length_map]; exact posOf_len _ _
  · exact Nat.zero_le _
theorem prs_len (s t : List Nat) (n : Nat) : (prs s t n).length ≤ n * t.length := by
  induction n with
  | zero => simp [prs_zero]
  | succ n ih =>
    rw [prs_succ, List.length_append, Nat.succ_mul]
    have := prRow_len s t n
    omega
theorem posOf_mem {c j : Nat} {l : List Nat} : j ∈ posOf c l ↔ l[j]? = some c := by
  unfold posOf
  rw [List.mem_filter, List.mem_range, decide_eq_true_eq]
  constructor
  · exact fun h => h.2
  · exact fun h => ⟨(List.getElem?_eq_some_iff.mp h).1, h⟩
theorem prRow_mem {s t : List Nat} {i : Nat} {q : Nat × Nat} : q ∈ prRow s t i ↔ q.1 = i ∧ ∃ c, s[i]? = some c ∧ t[q.2]? = some c := by
  obtain ⟨a, b⟩ := q
  unfold prRow
  cases h : s[i]? with
  | none => simp
  | some c =>
    simp only [List.mem_map, posOf_mem, Prod.mk.injEq, Option.some.injEq]
    constructor
    · rintro ⟨j, h1, h2, h3⟩
      exact ⟨h2.symm, c, rfl, by rw [← h3]; exact h1⟩
    · rintro ⟨h1, c', h2, h3⟩
      exact ⟨b, by rw [h2]; exact h3, h1.symm, rfl⟩
theorem prs_mem {s t : List Nat} {n : Nat} {q : Nat × Nat} : q ∈ prs s t n ↔ q.1 < n ∧ ∃ c, s[q.1]? = some c ∧ t[q.2]? = some c := by
  unfold prs
  rw [List.mem_flatMap]
  constructor
  · rintro ⟨i, hi, h⟩
    rw [List.mem_range] at hi
    obtain ⟨h1, h2⟩ := prRow_mem.mp h
    rw [h1]
    exact ⟨hi, h2⟩
  · rintro ⟨h1, h2⟩
    exact ⟨q.1, List.mem_range.mpr h1, prRow_mem.mpr ⟨rfl, h2⟩⟩
/-- the list at p of tuples at ts: these pairs -/
structure PairsAt (H0 H : Hp) (p : Addr) (ts : List Addr) (qs : List (Nat × Nat)) : Prop where
  new : H0 p = none
  at_ : H p = some (.lst (ts.map V.ref))
  tups : ObjsAt H ts (qs.map tupO)
theorem prRow_sorted (s t : List Nat) (i : Nat) : (prRow s t i).Pairwise lexLe := by
  unfold prRow
  split
  · rename_i c hc
    rw [List.pairwise_map]
    unfold posOf
    have : ((List.range t.length).filter fun j => decide (t[j]? = some c)).Pairwise (· < ·) := List.Pairwise.filter _ List.pairwise_lt_range
    exact this.imp fun {a b} h => .inr ⟨rfl, Nat.le_of_lt h⟩
  · exact .nil
theorem prs_sorted (s t : List Nat) (n : Nat) : (prs s t n).Pairwise lexLe := by
  induction n with
  | zero => exact .nil
  | succ n ih =>
    rw [prs_succ, List.pairwise_append]
    refine ⟨ih, prRow_sorted s t n, fun a ha b hb => ?_⟩
    have h1 := (prs_mem.mp ha).1
    have h2 := (prRow_mem.mp hb).1
    exact .inl (by omega)
/-- heaps of all pairs -/
def encHs (hss : List (List (Nat × Nat))) : PyData := .list (hss.map fun l => .list (l.map encQ))
def GoodHeaps (s t : List Nat) (d : PyData) : Prop := ∃ hss : List (List (Nat × Nat)), d = encHs hss ∧ (∀ l ∈ hss, l ≠ [] ∧ AntiQ l) ∧ hss.flatten.Perm (prs s t s.length)
theorem rn_encQ {H : Hp} {x : V} {q : Nat × Nat} (h : Rn H x (encQ q)) : ∃ a, x = .ref a ∧ H a = some (tupO q) := by
  obtain ⟨a, xs, rfl, h1, h2⟩ := h.tupAt
  refine ⟨a, rfl, ?_⟩
  cases h2 with
  | cons r0 r =>
    cases r with
    | cons r1 r2 =>
      cases r2
      cases r0
      cases r1
      exact h1
theorem rn_pairs {H : Hp} : ∀ {xs : List V} {l : List (Nat × Nat)}, RnA H xs (l.map encQ) → ∃ zl : List ZP, xs = zl.map zV ∧ l = zl.map (·.2) ∧ TP H zl
  | xs, [], h => by
    cases h
    exact ⟨[], rfl, rfl, fun _ h => nomatch h⟩
  | xs, q :: l, h => by
    cases h with
    | cons h1 h2 =>
      obtain ⟨zl, rfl, rfl, h3⟩ := rn_pairs h2
      obtain ⟨a, rfl, h4⟩ := rn_encQ h1
      exact ⟨(a, q) :: zl, rfl, rfl, h3.cons h4⟩
/-- what the good heaps are by things -/
structure HeapsIn (H : Hp) (s t : List Nat) (zs : List (V × PyData)) (hs : List Addr) (zss : List (List ZP)) : Prop where
  vs : zs.map (·.1) = hs.map V.ref
  ds : zs.map (·.2) = (zss.map fun l => l.map (·.2)).map fun l => .list (l.map encQ)
  objs : ObjsAt H hs (zss.map fun (l : List ZP) => HO.lst (l.map zV))
  tp : TP H zss.flatten
  ok : ∀ l ∈ zss, l ≠ [] ∧ AntiQ (l.map (·.2)) ∧ ∀ z ∈ l, PairOk s t z.2
theorem heaps_in {H : Hp} {s t : List Nat} : ∀ zs : List (V × PyData), (∀ z ∈ zs, Rn H z.1 z.2) → (∀ z ∈ zs, GoodHeap s t z.2) → ∃ hs zss, HeapsIn H s t zs hs zss
  | [], _, _ => ⟨[], [], rfl, rfl, .nil, (fun _ h => nomatch h), (fun _ h => nomatch h)⟩
  | z :: zs, h, g => by
    obtain ⟨hs, zss, a1, a2, a3, a4, a5⟩ := heaps_in zs (fun z hz => h z (List.mem_cons_of_mem _ hz)) (fun z hz => g z (List.mem_cons_of_mem _ hz))
    have h0 := h z List.mem_cons_self
    obtain ⟨l, e, g1, g2, g3, g4⟩ := g z List.mem_cons_self
    rw [e] at h0
    obtain ⟨a, xs, e1, h1, h2⟩ := h0.listAt
    obtain ⟨zl, rfl, rfl, h3⟩ := rn_pairs h2
    refine ⟨a :: hs, zl :: zss, ?_, ?_, .cons h1 a3, ?_, ?_⟩
    · rw [List.map_cons, List.map_cons, a1, e1]
    · rw [List.map_cons, List.map_cons, List.map_cons, a2, e]
    · rw [List.flatten_cons]
      exact h3.app a4
    · intro l hl
      rcases List.mem_cons.mp hl with e | e
      · subst e
        refine ⟨fun z => g1 (by rw [z]; rfl), g4, fun z hz => g2 _ (List.mem_map.mpr ⟨z, hz, rfl⟩)⟩
      · exact a5 l e
theorem list_inj {a b : List PyData} (h : PyData.list a = .list b) : a = b := by injection h
theorem encHs_inj {a b : List (List (Nat × Nat))} (h : encHs a = encHs b) : a = b :=
  (List.map_inj_right fun x y e => map_encQ_inj (list_inj e)).mp (list_inj h)
theorem prs_ok {s t : List Nat} {q : Nat × Nat} (h : q ∈ prs s t s.length) : PairOk s t q := by
  obtain ⟨h1, h2⟩ := prs_mem.mp h
  exact ⟨h1, h2⟩
theorem prs_nodup (s t : List Nat) (n : Nat) : (prs s t n).Nodup := by
  induction n with
  | zero => exact .nil
  | succ n ih =>
    rw [prs_succ, List.nodup_append]
    refine ⟨ih, ?_, fun a ha b hb e => ?_⟩
    · unfold prRow
      split
      · refine nodup_map (List.Nodup.sublist List.filter_sublist List.nodup_range) fun a b h => ?_
        exact (Prod.mk.inj h).2
      · exact .nil
    · have h1 := (prs_mem.mp ha).1
      have h2 := (prRow_mem.mp hb).1
      rw [e] at h1
      omega
/-- each heap of good heaps is good -/
theorem GoodHeaps.each {s t : List Nat} {ds : List PyData} (h : GoodHeaps s t (.list ds)) : ∀ d ∈ ds, GoodHeap s t d := by
  obtain ⟨hss, e, h1, h2⟩ := h
  intro d hd
  rw [list_inj e] at hd
  obtain ⟨l, hl, rfl⟩ := List.mem_map.mp hd
  refine ⟨l, rfl, (h1 l hl).1, fun q hq => prs_ok (h2.mem_iff.mp (List.mem_flatten.mpr ⟨l, hl, hq⟩)), ?_, (h1 l hl).2⟩
  exact List.Sublist.nodup (List.sublist_flatten_of_mem hl) ((h2.nodup_iff).mpr (prs_nodup s t s.length))
def GoodThread (s t : List Nat) (d : PyData) : Prop := ∃ l : List (Nat × Nat), d = .list (l.map encQ) ∧ (∀ q ∈ l, PairOk s t q) ∧ l.Pairwise ahP
theorem chain_snoc {l : List (Nat × Nat)} {p q : Nat × Nat} (h : (l ++ [p]).Pairwise ahP) (hq : ahP p q) : (l ++ [p] ++ [q]).Pairwise ahP := by
  rw [List.pairwise_append]
  refine ⟨h, by simp, fun a ha b hb => ?_⟩
  have : b = q := by simpa using hb
  subst this
  rcases List.mem_append.mp ha with h1 | h1
  · have := (List.pairwise_append.mp h).2.2 a h1 p (by simp)
    unfold ahP at *
    omega
  · have : a = p := by simpa using h1
    rw [this]; exact hq
/-- what stands when the pairs qs are seen -/
def LastQ (qs : List (Nat × Nat)) (a b : Int) : Prop := (qs = [] ∧ a = -1 ∧ b = -1) ∨ ∃ q qs', qs = qs' ++ [q] ∧ a = (q.1 : Nat) ∧ b = (q.2 : Nat)
theorem lastQ_step {qs : List (Nat × Nat)} {a b : Int} {q : Nat × Nat} (h : LastQ qs a b) (hp : qs.Pairwise ahP) (hq : a < (q.1 : Nat) ∧ b < (q.2 : Nat)) : (qs ++ [q]).Pairwise ahP ∧ LastQ (qs ++ [q]) (q.1 : Nat) (q.2 : Nat) := by
  refine ⟨?_, .inr ⟨q, qs, rfl, rfl, rfl⟩⟩
  rcases h with ⟨rfl, _, _⟩ | ⟨p, qs', rfl, rfl, rfl⟩
  · simp
  · exact chain_snoc hp ⟨by omega, by omega⟩
theorem lastQ_not {qs l : List (Nat × Nat)} {a b : Int} {q : Nat × Nat} {i : Nat} (h : LastQ qs a b) (hl : l.take i = qs) (hq : l[i]? = some q) (hp : l.Pairwise ahP) : a < (q.1 : Nat) ∧ b < (q.2 : Nat) := by
  rcases h with ⟨_, rfl, rfl⟩ | ⟨p, qs', rfl, rfl, rfl⟩
  · omega
  · have hil := (List.getElem?_eq_some_iff.mp hq).1
    have hli : i = qs'.length + 1 := by
      have := congrArg List.length hl
      rw [List.length_take, List.length_append, List.length_singleton] at this
      omega
    have hpi : l[qs'.length]? = some p := by
      have h1 : (l.take i)[qs'.length]? = some p := by rw [hl]; simp
      rw [List.getElem?_take] at h1
      split at h1
      · exact h1
      · cases h1
    obtain ⟨q1, r1⟩ := List.getElem?_eq_some_iff.mp hpi
    obtain ⟨q2, r2⟩ := List.getElem?_eq_some_iff.mp hq
    have := List.pairwise_iff_getElem.mp hp qs'.length i q1 q2 (by omega)
    rw [r1, r2] at this
    unfold ahP at this
    omega
def sp_is_thread (K : PySem.W.Frag) : Sp := fun vs H Q E => ∃ (x0 y0 v : V), vs = [x0, y0, v] ∧ Rows2 K E H x0 y0 fun s t => ∃ d : PyData, Rn H v d ∧ (d.hasDict = true → d = .dict []) ∧
  ∀ H' b, Ex H H' → (b = true ↔ GoodThread s.cps.toList t.cps.toList d) → Q (.bl b) H'
theorem ok_is_thread (T : Tx K mg ad fd tk) : FnOk P w K mg base (L2.CX P w) 5 (ad 10) (fd 10) ["side", "top", "thing"] (sp_is_thread K) := by
  refine T.d_is_thread.F.okX sc_is_thread (fun vs H Q E h => ?_) (fun cdv A outer s H vs Q E hr h => ?_)
  · obtain ⟨x0, y0, v, rfl, _⟩ := h
    rfl
  · obtain ⟨x0, y0, v, rfl, hR⟩ := h
    refine ⟨_, (pss_cons (ps_expr (pe_call (ok_need_rows T) (hr.mono (by decide)) rfl T.d_need_rows.g T.d_need_rows.F.kp T.d_need_rows.b .nil (passes_call (takes_of rfl rfl rfl rfl) (fun _ _ _ _ h => h)) (pa_cons (pv 0) (pa_cons (pv 1) pa_nil))))
      (pss_cons (ps_if (pt_not (pt_val (pe_callB c_is (by rfl) T.b_isinstance (by decide +kernel) (pa_cons (pv 2) (pa_cons (pe_bltn (v := .ty "list") rfl T.b_list (by decide +kernel) rfl) pa_nil))))) (pss_one (ps_ret pe_bl)) pss_nil)
      (pss_cons (ps_set (i := 3) sc_is_thread.nd rfl (Or.inl rfl) (pe_tup (pa_cons (pe_un un_neg pe_int) (pa_cons (pe_un un_neg pe_int) pa_nil))))
      (pss_cons (ps_for (passes_of rfl) rfl (pi_list (pv 2)) (pg_name (i := 4) sc_is_thread.nd rfl (Or.inl rfl)) (pss_cons (ps_if (PW.pt (pw_or (pt_not (pt_val (pe_call (ok_is_pair T) (hr.mono (by decide)) rfl T.d_is_pair.g T.d_is_pair.F.kp T.d_is_pair.b .nil pass0 (pa_cons (pv 0) (pa_cons (pv 1) (pa_cons (pv 4) pa_nil)))))) (pw_or1 (pt_not (pt_val (pe_call (ok_is_ahead T) (hr.mono (by decide)) rfl T.d_is_ahead.g T.d_is_ahead.F.kp T.d_is_ahead.b .nil pass0 (pa_cons (pv 3) (pa_cons (pv 4) pa_nil)))))))) (pss_one (ps_ret pe_bl)) pss_nil)
      (pss_one (ps_set (i := 3) sc_is_thread.nd rfl (Or.inl rfl) (pv 4)))))
      (pss_one (ps_ret pe_bl)))))), ?_⟩
    walk_at "go"
    refine ⟨x0, y0, rfl, hR.imp fun s t ex ey hs ht ⟨d, hx, hdc, k⟩ H1 e1 => ?_⟩
    subst ex ey
    have no : ∀ H', Ex H H' → (¬ GoodThread s.cps.toList t.cps.toList d) → Q (.bl false) H' := fun H' e n => k H' false e ⟨(fun z => nomatch z), (fun z => (n z).elim)⟩
    walk_at "go"
    refine st_isListD (hx.ex e1).rq ?_
    refine ⟨_, rfl, ?_⟩
    by_cases hd : ∃ ds, d = .list ds
    rotate_left
    · refine st_T ?_ ?_
      · cases d <;> first | rfl | exact absurd ⟨_, rfl⟩ hd
      walk_at "go"
      refine no _ e1 (fun h => ?_)
      obtain ⟨q, e, _⟩ := h
      exact hd ⟨_, e⟩
    obtain ⟨ds, rfl⟩ := hd
    have hndc : PyData.hasDictAll ds = false := by
      have : (PyData.list ds).hasDict = false := by
        cases q : (PyData.list ds).hasDict with
        | false => rfl
        | true => cases hdc q
      simpa only [PyData.hasDict] using this
    obtain ⟨a, xs, rfl, ha, hxs⟩ := hx.listAt
    obtain ⟨zs, rfl, rfl, hzs⟩ := hxs.zipped
    refine st_F rfl ?_
    have ha1 := e1.get ha
    walk_at "go"
    rename_i B0 G2 n2 e2 v2
    have e12 := e1.trans e2
    refine for_runs (runs_list K a (zs.map (·.1))) (fun i σ H' => Ex H H' ∧ (∃ (B : Addr) (b1 b2 : Int) (qs : List (Nat × Nat)), H' B = some (.tup [.int b1, .int b2]) ∧ (zs.take i).map (·.2) = qs.map encQ ∧ (∀ q ∈ qs, PairOk s.cps.toList t.cps.toList q) ∧ qs.Pairwise ahP ∧ LastQ qs b1 b2 ∧ ∃ c, σ = [some (.str s), some (.str t), some (.ref a), some (.ref B), c])) ⟨e12, B0, -1, -1, [], v2, by rw [List.take_zero]; rfl, (fun _ h => nomatch h), .nil, .inl ⟨rfl, rfl, rfl⟩, _, rfl⟩ (fun i σ H' _ ⟨e, _⟩ => lst_of (e.get ha)) ?_ ?_
    · rintro i x σ H3 H3' hi ⟨e, B, b1, b2, qs, hB, hqs, hok, hpw, hlast, c, rfl⟩ ⟨rfl, hx1⟩
      rw [List.length_map] at hi
      obtain ⟨z, hz⟩ : ∃ z, zs[i]? = some z := ⟨_, List.getElem?_eq_getElem hi⟩
      rw [List.getElem?_map, hz] at hx1
      cases hx1
      have hzm := List.mem_of_getElem? hz
      have hzmm : z.2 ∈ zs.map (·.2) := List.mem_map.mpr ⟨z, hzm, rfl⟩
      obtain ⟨zv, zd⟩ := z
      have hzr := (hzs _ hzm).ex e
      have hzp := hzr.rp (hasDictA_mem hndc hzmm)
      have tk : zs.take (i + 1) = zs.take i ++ [(zv, zd)] := by rw [List.take_add_one, hz]; rfl
      have good : GoodThread s.cps.toList t.cps.toList (.list (zs.map (·.2))) → ∃ (l : List (Nat × Nat)) (q : Nat × Nat), l.take i = qs ∧ l[i]? = some q ∧ zd = encQ q ∧ PairOk s.cps.toList t.cps.toList q ∧ l.Pairwise ahP := fun g => by
        obtain ⟨l, e, g1, g2⟩ := g
        have e := list_inj e
        have hlen : zs.length = l.length := by have := congrArg List.length e; simpa using this
        obtain ⟨q, hq⟩ : ∃ q, l[i]? = some q := ⟨l[i]'(by omega), List.getElem?_eq_getElem _⟩
        refine ⟨l, q, ?_, hq, ?_, g1 q (List.mem_of_getElem? hq), g2⟩
        · rw [List.map_take, e, ← List.map_take] at hqs
          exact map_encQ_inj hqs
        · have h1 : (zs.map (·.2))[i]? = (l.map encQ)[i]? := by rw [e]
          rw [List.getElem?_map, List.getElem?_map, hz, hq] at h1
          exact Option.some.inj h1
      walk_at "go"
      refine ⟨s, t, zv, zd, rfl, hs, ht, hzp, fun b hb => ?_⟩
      cases b with
      | false =>
        walk_at "go"
        refine no _ e (fun g => ?_)
        obtain ⟨l, q, _, _, g3, g4, _⟩ := good g
        have := hb.mpr ⟨q, g3, g4⟩
        cases this
      | true =>
        obtain ⟨q, hq1, hq2⟩ := hb.mp rfl
        rw [hq1] at hzr
        obtain ⟨p, hp1, hp2⟩ := rn_encQ hzr
        subst hp1
        walk_at "go"
        refine ⟨B, p, b1, b2, _, _, rfl, hB, hp2, ?_⟩
        walk_at "go"
        refine st_brn (fun cc => ?_) (fun cc => ?_)
        · walk_at "go"
          refine no _ e (fun g => cc ?_)
          obtain ⟨l, q', g1, g2, g3, g4, g5⟩ := good g
          have := encQ_inj (hq1.symm.trans g3)
          subst this
          exact lastQ_not hlast g1 g2 g5
        · walk_at "go"
          obtain ⟨h1, h2⟩ := lastQ_step (q := q) hlast hpw cc
          refine ⟨e, p, _, _, qs ++ [q], hp2, ?_, ?_, h1, h2, _, rfl⟩
          · rw [tk, List.map_append, List.map_append, hqs]
            show _ ++ [zd] = _
            rw [hq1]; rfl
          · intro q' hq'
            rcases List.mem_append.mp hq' with h | h
            · exact hok q' h
            · rw [List.mem_singleton.mp h]; exact hq2
    · rintro σ H3 ⟨e, B, b1, b2, qs, hB, hqs, hok, hpw, hlast, c, rfl⟩
      rw [List.length_map, List.take_length] at hqs
      walk_at "go"
      exact k _ _ e ⟨fun _ => ⟨qs, by rw [hqs], hok, hpw⟩, fun _ => rfl⟩
def sp_pairs_of (K : PySem.W.Frag) : Sp := fun vs H Q E => ∃ x y, vs = [x, y] ∧ Rows2 K E H x y fun s t => ∀ p ts H', Ex H H' → PairsAt H H' p ts (prs s.cps.toList t.cps.toList s.length) → Q (.ref p) H'
theorem ok_pairs_of (T : Tx K mg ad fd tk) : FnOk P w K mg base (L2.CX P w) 5 (ad 11) (fd 11) ["side", "top"] (sp_pairs_of K) := by
  refine T.d_pairs_of.F.okX sc_pairs_of (fun vs H Q E h => ?_) (fun cdv A outer s H vs Q E hr h => ?_)
  · obtain ⟨x, y, rfl, _⟩ := h
    rfl
  · obtain ⟨x, y, rfl, hR⟩ := h
    refine ⟨_, (pss_cons (ps_expr (pe_call (ok_need_rows T) (hr.mono (by decide)) rfl T.d_need_rows.g T.d_need_rows.F.kp T.d_need_rows.b .nil (passes_call (takes_of rfl rfl rfl rfl) (fun _ _ _ _ h => h)) (pa_cons (pv 0) (pa_cons (pv 1) pa_nil))))
      (pss_cons (ps_set (i := 2) sc_pairs_of.nd rfl (Or.inl rfl) (pe_call (ok_places_of T) (hr.mono (by decide)) rfl T.d_places_of.g T.d_places_of.F.kp T.d_places_of.b .nil (passes_call (takes_of rfl rfl rfl rfl) (fun _ _ _ _ h => h)) (pa_cons (pv 1) pa_nil)))
      (pss_cons (ps_set (i := 3) sc_pairs_of.nd rfl (Or.inl rfl) (pe_lst pa_nil))
      (pss_cons (ps_for (passes_of rfl) rfl (pi_enumS rfl T.b_enumerate (pa_cons (pv 0) pa_nil)) (pg_tup rfl (pgs_cons (pg_name (i := 4) sc_pairs_of.nd rfl (Or.inr rfl)) (pgs_cons (pg_name (i := 5) sc_pairs_of.nd rfl (Or.inl rfl)) pgs_nil))) (pss_one (ps_expr (pe_bm PySem.F.plainAttrs_list PySem.F.slot_list_extend PySem.F.type_list_extend mt_extend (pv 3) (pa_cons (pe_lc (own := [("j", 6)]) (g := gName 6) rfl sc_pairs_of.nd (pi_list (pe_dget2 (hu_of hr) (pv 2) (pv 5) (pe_lst pa_nil) ⟨rfl, rfl, rfl, rfl⟩)) (blkOk_by (own := [("j", 6)]) (N := N_pairs_of) (sc := defScope s_pairs_of) (by decide +kernel)) (fun _ _ _ _ _ => pg_name (i := 6) sc_pairs_of.nd rfl (Or.inl rfl)) (fun _ _ _ _ _ => pts_nil) (fun _ _ _ _ _ => (pe_tup (pa_cons (pv 4) (pa_cons (pv 6) pa_nil))))) pa_nil)))))
      (pss_one (ps_ret (pv 3))))))), ?_⟩
    walk_at "go"
    refine ⟨x, y, rfl, hR.imp fun s t ex ey hs ht k H1 e1 => ?_⟩
    subst ex ey
    have hs1 := hs.len
    have ht1 := ht.len2
    have hsl : s.cps.toList.length = s.length := Array.length_toList
    walk_at "go"
    refine ⟨.str t, rfl, .inl ⟨t, rfl, ht, fun d rs H2 e2 P => ?_⟩⟩
    walk_at "go"
    rename_i p G3 n3 e3 v3
    have e13 := (e1.trans e2).trans e3
    have hp0 : H p = none := Ex.free (e1.trans e2) n3
    refine for_runs (runs_enumS s) (fun i σ H' => Ex H2 H' ∧ (∃ ts, PairsAt H H' p ts (prs s.cps.toList t.cps.toList i)) ∧ ∃ a b c, σ = [some (.str s), some (.str t), some (.ref d), some (.ref p), a, b, c]) ⟨e3, ⟨[], hp0, v3, .nil⟩, _, _, _, rfl⟩ (fun _ _ _ _ _ => trivial) ?_ ?_
    · rintro i x σ H' H'' hi ⟨e, ⟨ts, PA⟩, a, b, c0, rfl⟩ ⟨T, c, rfl, hT, eT, vT, hc⟩
      have hd : H'' d = _ := eT.get (e.get P.at_)
      have rows := (P.rows.ex e).ex eT
      have hp' : H'' p = _ := eT.get PA.at_
      walk_at "go"
      rename_i q G4 n4 e4 v4
      have hd4 := e4.get hd
      refine st_dget2P (k := Sum.inr (tx [c])) hd4 ?_
      have hrow : prRow s.cps.toList t.cps.toList i = (posOf c t.cps.toList).map fun j => (i, j) := by unfold prRow; rw [hc]
      obtain ⟨r, hr, hr2⟩ : ∃ r, (valV (((firsts t.cps.toList).zip rs).map fun q => ((Sum.inr (tx [q.1]) : Key), V.ref q.2)) (Sum.inr (tx [c]))).getD (.ref q) = .ref r ∧ G4 r = some (.lst ((posOf c t.cps.toList).map fun (j : Nat) => V.int j)) := by
        by_cases z : c ∈ firsts t.cps.toList
        · obtain ⟨kx, hkx⟩ := List.getElem?_of_mem z
          have hkl : kx < rs.length := by rw [P.len]; exact (List.getElem?_eq_some_iff.mp hkx).1
          refine ⟨rs[kx], ?_, ?_⟩
          · rw [places_get P.len (firsts_nodup _) hkx (List.getElem?_eq_getElem hkl)]; rfl
          · exact e4.get (rows.at kx _ _ (List.getElem?_eq_getElem hkl) (by rw [List.getElem?_map, hkx]; rfl))
        · refine ⟨q, by rw [places_none z]; rfl, ?_⟩
          rw [v4]
          have : posOf c t.cps.toList = [] := by
            unfold posOf
            rw [List.filter_eq_nil_iff]
            intro j hj w
            exact z ((firsts_mem _ _).mpr (List.mem_of_getElem? (of_decide_eq_true w)))
          rw [this]
          rfl
      rw [hr]
      walk_at "go"
      refine lc_objs0 (rv_list K r (posOf c t.cps.toList) fun (j : Nat) => V.int j) (fun H' e => lst_of (e.get hr2)) (by have := posOf_len c t.cps.toList; omega) (fun j => tupO (i, j)) ?_ ?_
      · intro j H5 hj e5 B h1
        refine ⟨rfl, ?_⟩
        walk_at "go"
        rename_i T5 G5 n5 e6 v5
        exact h1 T5 G5 n5 e6 v5
      · intro D H5 us hD e5 hd5 tups nd nn news
        have ee : Ex H'' H5 := e4.trans e5
        have hpl := prs_len s.cps.toList t.cps.toList i
        have hpl2 : (prs s.cps.toList t.cps.toList i).length ≤ 48 * 48 := Nat.le_trans hpl (Nat.mul_le_mul (by omega) ht1)
        have l1 := PA.tups.len
        have l2 := tups.len
        have l3 := posOf_len c t.cps.toList
        rw [List.length_map] at l1 l2
        walk_at "go"
        refine st_ext (ee.get hp') hd5 (by rw [List.length_map, List.length_map]; omega) ?_
        have hp5 : H5 p = some (.lst (ts.map V.ref)) := ee.get hp'
        have t1 : ObjsAt H5 (ts ++ us) ((prs s.cps.toList t.cps.toList (i + 1)).map tupO) := by
          rw [prs_succ, List.map_append, hrow, List.map_map]
          exact ((PA.tups.ex eT).ex ee).app tups
        refine ⟨((e.trans eT).trans ee).mut n3, ⟨ts ++ us, hp0, by rw [upd_same, List.map_append], .up (objs_ntup t1 hp5) t1⟩, _, _, _, rfl⟩
    · rintro σ H' ⟨e, ⟨ts, PA⟩, a, b, c, rfl⟩
      walk_at "go"
      exact k p ts H' ((e1.trans e2).trans e) PA
/-- a pair lies below the end -/
theorem Lc_pair {s t : List Nat} {n m : Nat} {q : Nat × Nat} (h : q.1 < n ∧ ∃ c, s[q.1]? = some c ∧ t[q.2]? = some c) (hm : t.length ≤ m) : Lc s t q.1 q.2 < Lc s t n m := by
  obtain ⟨h1, c, h2, h3⟩ := h
  have h4 : q.2 < t.length := (List.getElem?_eq_some_iff.mp h3).1
  have e : Lc s t (q.1 + 1) (q.2 + 1) = Lc s t q.1 q.2 + 1 := by rw [Lc_ss, if_pos (by rw [h2, h3])]
  have := Lc_mono s t (i := q.1 + 1) (i' := n) (j := q.2 + 1) (j' := m) (by omega) (by omega)
  omega
/-- the pairs among qs that end a longest thread of l more -/
def lev (s t : List Nat) (qs : List (Nat × Nat)) (l : Nat) : List (Nat × Nat) := qs.filter fun q => decide (Lc s t q.1 q.2 = l)
theorem lev_snoc (s t : List Nat) (qs : List (Nat × Nat)) (q : Nat × Nat) (l : Nat) : lev s t (qs ++ [q]) l = lev s t qs l ++ (if Lc s t q.1 q.2 = l then [q] else []) := by
  unfold lev
  rw [List.filter_append]
  congr 1
  by_cases h : Lc s t q.1 q.2 = l
  · rw [if_pos h, List.filter_cons_of_pos (by simpa using h), List.filter_nil]
  · rw [if_neg h, List.filter_cons_of_neg (by simpa using h), List.filter_nil]
/-- the list at d of lists at hs of tuples at tss: these pairs, heap by heap -/
structure HeapsAt (H0 H : Hp) (d : Addr) (hs : List Addr) (tss : List (List Addr)) (n : Nat) (lv : Nat → List (Nat × Nat)) : Prop where
  new : H0 d = none
  at_ : H d = some (.lst (hs.map V.ref))
  len : tss.length = n
  rows : ObjsAt H hs (tss.map fun ts => .lst (ts.map V.ref))
  nd : hs.Nodup
  non : d ∉ hs
  news : ∀ h ∈ hs, H0 h = none
  tups : ∀ l ts, tss[l]? = some ts → ObjsAt H ts ((lv l).map tupO)
theorem HeapsAt.ex {H0 H H' : Hp} {d : Addr} {hs : List Addr} {tss : List (List Addr)} {n : Nat} {lv : Nat → List (Nat × Nat)} (h : HeapsAt H0 H d hs tss n lv) (e : Ex H H') : HeapsAt H0 H' d hs tss n lv :=
  ⟨h.new, e.get h.at_, h.len, h.rows.ex e, h.nd, h.non, h.news, fun l ts h1 => (h.tups l ts h1).ex e⟩
/-- one more pair, q, as the tuple at T, into its heap -/
theorem HeapsAt.put {H0 H : Hp} {d : Addr} {hs : List Addr} {tss : List (List Addr)} {n : Nat} {s t : List Nat} {qs : List (Nat × Nat)} {q : Nat × Nat} {T r : Addr} {ts : List Addr} (h : HeapsAt H0 H d hs tss n (lev s t qs)) (hT : H T = some (tupO q)) (hr : hs[Lc s t q.1 q.2]? = some r) (hts : tss[Lc s t q.1 q.2]? = some ts) :
    HeapsAt H0 (upd H r (.lst (ts.map V.ref ++ [V.ref T]))) d hs (tss.set (Lc s t q.1 q.2) (ts ++ [T])) n (lev s t (qs ++ [q])) := by
  have hrm := List.mem_of_getElem? hr
  have hrd : d ≠ r := fun z => h.non (z ▸ hrm)
  have hrr := h.rows.at _ _ _ hr (by rw [List.getElem?_map, hts]; rfl)
  have hTr : T ≠ r := fun z => by
    rw [z, hrr] at hT
    cases hT
  refine ⟨h.new, by rw [upd_ne hrd]; exact h.at_, by rw [List.length_set]; exact h.len, ?_, h.nd, h.non, h.news, ?_⟩
  · have := h.rows.set (u := .lst (ts.map V.ref ++ [V.ref T])) h.nd hr
    rw [List.map_set, List.map_append]
    exact this
  · intro l us hl
    rw [lev_snoc, List.map_append]
    by_cases e : l = Lc s t q.1 q.2
    · subst e
      rw [List.getElem?_set_self (List.getElem?_eq_some_iff.mp hts).1] at hl
      cases hl
      rw [if_pos rfl]
      refine ObjsAt.app (.up (objs_ntup (h.tups _ _ hts) hrr) (h.tups _ _ hts)) (.one ?_)
      rw [upd_ne hTr]
      exact hT
    · rw [List.getElem?_set_ne (Ne.symm e)] at hl
      rw [if_neg (Ne.symm e), List.map_nil, List.append_nil]
      exact .up (objs_ntup (h.tups _ _ hl) hrr) (h.tups _ _ hl)
theorem HeapsAt.mut {H0 H H' : Hp} {d : Addr} {hs : List Addr} {tss : List (List Addr)} {n : Nat} {lv : Nat → List (Nat × Nat)} (h : HeapsAt H0 H d hs tss n lv) (e : Ex H0 H') {r : Addr} {o : HO} (hr : r ∈ hs) : Ex H0 (upd H' r o) := e.mut (h.news r hr)
def sp_heaps_of (K : PySem.W.Frag) : Sp := fun vs H Q E => ∃ x y, vs = [x, y] ∧ Rows2 K E H x y fun s t => ∀ d hs tss H', Ex H H' → HeapsAt H H' d hs tss (Lc s.cps.toList t.cps.toList s.length t.length) (lev s.cps.toList t.cps.toList (prs s.cps.toList t.cps.toList s.length)) → Q (.ref d) H'
theorem ok_heaps_of (T : Tx K mg ad fd tk) : FnOk P w K mg base (L2.CX P w) 6 (ad 12) (fd 12) ["side", "top"] (sp_heaps_of K) := by
  refine T.d_heaps_of.F.okX sc_heaps_of (fun vs H Q E h => ?_) (fun cdv A outer s H vs Q E hr h => ?_)
  · obtain ⟨x, y, rfl, _⟩ := h
    rfl
  · obtain ⟨x, y, rfl, hR⟩ := h
    refine ⟨_, (pss_cons (ps_set (i := 2) sc_heaps_of.nd rfl (Or.inl rfl) (pe_call (ok_lengths T) (hr.mono (by decide)) rfl T.d_lengths.g T.d_lengths.F.kp T.d_lengths.b .nil (passes_call (takes_of rfl rfl rfl rfl) (fun _ _ _ _ h => h)) (pa_cons (pv 0) (pa_cons (pv 1) pa_nil))))
      (pss_cons (ps_setLc (i := 3) (own := [("k", 6)]) (g := gName 6) rfl sc_heaps_of.nd rfl rfl (sw_true rfl rfl rfl (by decide +kernel)) (pi_range1 rfl T.b_range (pa_cons (pe_ix (i_ix (K := K)) (pe_ix (i_ix (K := K)) (pv 2) (pe_un un_neg pe_int) (fun _ _ => rfl)) (pe_un un_neg pe_int) (fun _ _ => rfl)) pa_nil)) (blkOk_by (own := [("k", 6)]) (N := N_heaps_of) (sc := defScope s_heaps_of) (by decide +kernel)) (fun _ _ _ _ _ => pg_name (i := 6) sc_heaps_of.nd rfl (Or.inl rfl)) (fun _ _ _ _ _ => pts_nil) (fun _ _ _ _ _ => (pe_lst pa_nil)))
      (pss_cons (ps_for (passes_of rfl) rfl (pi_list (pe_call (ok_pairs_of T) (hr.mono (by decide)) rfl T.d_pairs_of.g T.d_pairs_of.F.kp T.d_pairs_of.b .nil (passes_call (takes_of rfl rfl rfl rfl) (fun _ _ _ _ h => h)) (pa_cons (pv 0) (pa_cons (pv 1) pa_nil)))) (pg_tup rfl (pgs_cons (pg_name (i := 4) sc_heaps_of.nd rfl (Or.inl rfl)) (pgs_cons (pg_name (i := 5) sc_heaps_of.nd rfl (Or.inl rfl)) pgs_nil))) (pss_one (ps_expr (pe_bm PySem.F.plainAttrs_list PySem.F.slot_list_append PySem.F.type_list_append mt_append (pe_ix (i_ix (K := K)) (pv 3) (pe_ix (i_ix (K := K)) (pe_ix (i_ix (K := K)) (pv 2) (pv 4) (fun _ _ => rfl)) (pv 5) (fun _ _ => rfl)) (fun _ _ => rfl)) (pa_cons (pe_tup (pa_cons (pv 4) (pa_cons (pv 5) pa_nil))) pa_nil)))))
      (pss_one (ps_ret (pv 3)))))), ?_⟩
    walk_at "go"
    refine ⟨x, y, rfl, hR.imp fun s t ex ey hs ht k p rs H1 e1 hrs T1 => ?_⟩
    subst ex ey
    have hs1 := hs.len
    have ht1 := ht.len
    have hsl : s.cps.toList.length = s.length := Array.length_toList
    have htl : t.cps.toList.length = t.length := Array.length_toList
    obtain ⟨r, hr0⟩ : ∃ r, rs[s.length]? = some r := ⟨rs[s.length]'(by omega), List.getElem?_eq_getElem _⟩
    have hle := Lc_le s.cps.toList t.cps.toList s.length t.length
    walk_at "go"
    refine st_ixL T1.at_ (at_last (n := s.length) (v := .ref r) (by rw [List.length_map]; exact hrs) (by rw [List.getElem?_map, hr0]; rfl)) ?_
    walk_at "go"
    refine st_ixL (T1.rows _ _ hr0) (at_last (n := t.length) (by rw [lcRow_len]) (lcRow_at (by omega))) ?_
    walk_at "go"
    refine lc_objs0 (rv_range 0 _) (fun _ _ => trivial) (by rw [List.length_range]; omega) (fun _ => .lst []) ?_ ?_
    · intro i H' hi e B h1
      refine ⟨rfl, ?_⟩
      walk_at "go"
      rename_i q G2 n2 e2 v2
      exact h1 q G2 n2 e2 v2
    · intro d H2 hs' hd0 e2 hd2 rows nd nn news
      rw [Int.toNat_natCast] at rows
      have hh0 : HeapsAt H1 H2 d hs' ((List.range (Lc s.cps.toList t.cps.toList s.length t.length)).map fun _ => []) (Lc s.cps.toList t.cps.toList s.length t.length) (lev s.cps.toList t.cps.toList []) := by
        refine ⟨hd0, hd2, by rw [List.length_map, List.length_range], by rw [List.map_map]; exact rows, nd, nn, news, fun l ts hl => ?_⟩
        rw [List.getElem?_map] at hl
        cases hq : (List.range (Lc s.cps.toList t.cps.toList s.length t.length))[l]? with
        | none => rw [hq] at hl; cases hl
        | some z => rw [hq] at hl; cases hl; exact .nil
      walk_at "go"
      refine ⟨.str s, .str t, rfl, .inl ⟨s, t, rfl, rfl, hs, ht, fun p2 ts H3 e3 PA => ?_⟩⟩
      have hp3 := PA.at_
      have hnp : p2 ∉ hs' := fun z => by
        obtain ⟨kx, hk⟩ := List.getElem?_of_mem z
        have hk2 : kx < ((List.range (Lc s.cps.toList t.cps.toList s.length t.length)).map fun _ => HO.lst []).length := by
          rw [← rows.len]; exact (List.getElem?_eq_some_iff.mp hk).1
        have := rows.at kx _ _ hk (List.getElem?_eq_getElem hk2)
        rw [PA.new] at this
        cases this
      walk_at "go"
      refine for_runs (runs_list K p2 (ts.map V.ref)) (fun i σ H' => Ex H1 H' ∧ H' p2 = some (.lst (ts.map V.ref)) ∧ ObjsAt H' ts ((prs s.cps.toList t.cps.toList s.length).map tupO) ∧ (∃ tss, HeapsAt H1 H' d hs' tss (Lc s.cps.toList t.cps.toList s.length t.length) (lev s.cps.toList t.cps.toList ((prs s.cps.toList t.cps.toList s.length).take i))) ∧ ∃ a b c, σ = [some (.str s), some (.str t), some (.ref p), some (.ref d), a, b, c]) ⟨e2.trans e3, PA.at_, PA.tups, ⟨_, hh0.ex e3⟩, _, _, _, rfl⟩ (fun i σ H' _ ⟨_, h, _⟩ => lst_of h) ?_ ?_
      · rintro i x σ H' H'' hi ⟨e, hp2, tups, ⟨tss, HA⟩, a, b, c, rfl⟩ ⟨rfl, hx⟩
        rw [List.length_map] at hi
        have hl1 := tups.len
        rw [List.length_map] at hl1
        obtain ⟨q, hq⟩ : ∃ q, (prs s.cps.toList t.cps.toList s.length)[i]? = some q := ⟨_, List.getElem?_eq_getElem (by omega)⟩
        obtain ⟨T, hT⟩ : ∃ T, ts[i]? = some T := ⟨_, List.getElem?_eq_getElem hi⟩
        rw [List.getElem?_map, hT] at hx
        cases hx
        have hTv : H'' T = some (.tup [.int (q.1 : Nat), .int (q.2 : Nat)]) := tups.at i _ _ hT (by rw [List.getElem?_map, hq]; rfl)
        have hqm := prs_mem.mp (List.mem_of_getElem? hq)
        have hlt := Lc_pair (m := t.length) hqm (by omega)
        have hq2 : q.2 < t.length := by
          obtain ⟨_, c', _, h3⟩ := hqm
          have := (List.getElem?_eq_some_iff.mp h3).1
          omega
        have T2 := T1.ex e
        obtain ⟨r1, hr1⟩ : ∃ r1, rs[q.1]? = some r1 := ⟨rs[q.1]'(by have := hqm.1; omega), List.getElem?_eq_getElem _⟩
        have hl2 := HA.rows.len
        rw [List.length_map, HA.len] at hl2
        obtain ⟨h9, hh9⟩ : ∃ h9, hs'[Lc s.cps.toList t.cps.toList q.1 q.2]? = some h9 := ⟨_, List.getElem?_eq_getElem (by omega)⟩
        obtain ⟨us, hus⟩ : ∃ us, tss[Lc s.cps.toList t.cps.toList q.1 q.2]? = some us := ⟨_, List.getElem?_eq_getElem (by rw [HA.len]; omega)⟩
        have hrow := HA.rows.at _ _ _ hh9 (by rw [List.getElem?_map, hus]; rfl)
        have hd' := HA.at_
        walk_at "go"
        refine st_ixL T2.at_ (v := .ref r1) (at_mapN hr1) ?_
        walk_at "go"
        refine st_ixL (T2.rows _ _ hr1) (lcRow_atI (by omega)) ?_
        walk_at "go"
        refine st_ixL hd' (v := .ref h9) (at_mapN hh9) ?_
        walk_at "go"
        rename_i T3 G4 n4 e4 v4
        have tl := HA.tups _ _ hus
        have tll := tl.len
        have hpl := prs_len s.cps.toList t.cps.toList s.length
        have hpl2 : (prs s.cps.toList t.cps.toList s.length).length ≤ 48 * 48 := Nat.le_trans hpl (Nat.mul_le_mul hs1 (by omega))
        have hfl : (lev s.cps.toList t.cps.toList ((prs s.cps.toList t.cps.toList s.length).take i) (Lc s.cps.toList t.cps.toList q.1 q.2)).length ≤ 48 * 48 := Nat.le_trans (List.length_filter_le _ _) (by rw [List.length_take]; omega)
        rw [List.length_map] at tll
        refine st_app (e4.get hrow) (by rw [List.length_map]; omega) ?_
        have HA4 := (HA.ex e4).put (q := q) (T := T3) v4 hh9 hus
        have hqt : (prs s.cps.toList t.cps.toList s.length).take (i + 1) = (prs s.cps.toList t.cps.toList s.length).take i ++ [q] := by rw [List.take_add_one, hq]; rfl
        have hp9 : p2 ≠ h9 := fun z => hnp (z ▸ List.mem_of_getElem? hh9)
        refine ⟨HA.mut (e.trans e4) (List.mem_of_getElem? hh9), by rw [upd_ne hp9]; exact e4.get hp2, .up (objs_ntup (tups.ex e4) (e4.get hrow)) (tups.ex e4), ⟨_, by rw [hqt]; exact HA4⟩, _, _, _, rfl⟩
      · rintro σ H' ⟨e, hp2, tups, ⟨tss, HA⟩, a, b, c, rfl⟩
        rw [List.length_map] at HA
        have hl1 := tups.len
        rw [List.length_map] at hl1
        walk_at "go"
        rw [List.take_of_length_le (by omega)] at HA
        refine k d hs' tss H' (e1.trans e) ⟨?_, HA.at_, HA.len, HA.rows, HA.nd, HA.non, fun h hh => Ex.free e1 (HA.news h hh), HA.tups⟩
        exact Ex.free e1 HA.new
def sp_is_heap (K : PySem.W.Frag) : Sp := fun vs H Q _ => ∃ (s t : Str) (x : V) (d : PyData), vs = [.str s, .str t, x] ∧ RowS s ∧ RowS t ∧ Rp H x d ∧ (∀ ds, d = .list ds → ds.length ≤ 999999) ∧ d.depth ≤ 60 ∧
  ∀ H' b, Ex H H' → (b = true ↔ GoodHeap s.cps.toList t.cps.toList d) → Q (.bl b) H'
theorem ok_is_heap (T : Tx K mg ad fd tk) : FnOk P w K mg base CX0 4 (ad 13) (fd 13) ["side", "top", "thing"] (sp_is_heap K) := by
  refine T.d_is_heap.F.ok sc_is_heap (fun vs H Q E h => ?_) (fun cdv A outer s H vs Q E hr h => ?_)
  · obtain ⟨s, t, x, d, rfl, _⟩ := h
    rfl
  · obtain ⟨s, t, x, d, rfl, hs, ht, hx, hsz, hdp, k⟩ := h
    refine ⟨_, (pss_cons (ps_if (PW.pt (pw_or (pt_not (pt_val (pe_callB c_is (by rfl) T.b_isinstance (by decide +kernel) (pa_cons (pv 2) (pa_cons (pe_bltn (v := .ty "list") rfl T.b_list (by decide +kernel) rfl) pa_nil))))) (pw_or1 (pt_cmpR (o_eq hr.units) (pv 2) (pe_lst pa_nil) (nomark _))))) (pss_one (ps_ret pe_bl)) pss_nil)
      (pss_cons (ps_if (pt_not (pt_val (pe_callB (c_all rfl) (by rfl) T.b_all (by decide +kernel) (pa_cons (pe_lc (own := [("pair", 7)]) (g := gName 7) rfl sc_is_heap.nd (pi_list (pv 2)) (blkOk_by (own := [("pair", 7)]) (N := N_is_heap) (sc := defScope s_is_heap) (by decide +kernel)) (fun _ _ _ _ _ => pg_name (i := 7) sc_is_heap.nd rfl (Or.inl rfl)) (fun _ _ _ _ _ => pts_nil) (fun _ _ _ _ _ => (pe_call (ok_is_pair T) (hr.mono (by decide)) rfl T.d_is_pair.g T.d_is_pair.F.kp T.d_is_pair.b .nil pass0 (pa_cons (pv 0) (pa_cons (pv 1) (pa_cons (pv 7) pa_nil)))))) pa_nil)))) (pss_one (ps_ret pe_bl)) pss_nil)
      (pss_cons (ps_set (i := 3) sc_is_heap.nd rfl (Or.inl rfl) (pe_callB (c_len (K := K)) (by rfl) T.b_len (by decide +kernel) (pa_cons (pv 1) pa_nil)))
      (pss_cons (ps_set (i := 4) sc_is_heap.nd rfl (Or.inl rfl) (pe_tup (pa_cons (pe_un un_neg pe_int) (pa_cons (pe_un un_neg pe_int) pa_nil))))
      (pss_cons (ps_for PassesOwn.never rfl (pi_list (pe_callB (c_sortP (K := K)) (by rfl) T.b_sorted (by decide +kernel) (pa_cons (pe_lc (own := [("pair", 7)]) (g := gName 7) rfl sc_is_heap.nd (pi_list (pv 2)) (blkOk_by (own := [("pair", 7)]) (N := N_is_heap) (sc := defScope s_is_heap) (by decide +kernel)) (fun _ _ _ _ _ => pg_name (i := 7) sc_is_heap.nd rfl (Or.inl rfl)) (fun _ _ _ _ _ => pts_nil) (fun _ _ _ _ _ => (pe_tup (pa_cons (pe_ix (i_ix (K := K)) (pv 7) pe_int (fun _ _ => rfl)) (pa_cons (pe_un un_neg (pe_ix (i_ix (K := K)) (pv 7) pe_int (fun _ _ => rfl))) pa_nil))))) pa_nil))) (pg_tup rfl (pgs_cons (pg_name (i := 5) sc_is_heap.nd rfl (Or.inl rfl)) (pgs_cons (pg_name (i := 6) sc_is_heap.nd rfl (Or.inl rfl)) pgs_nil))) (pss_cons (ps_if (PW.pt (pw_or (pt_cmpR (o_eq hr.units) (pe_tup (pa_cons (pv 5) (pa_cons (pv 6) pa_nil))) (pv 4) (nomark _)) (pw_or1 (pt_cmpR o_gt (pe_un un_neg (pv 6)) (pv 3) (nomark _))))) (pss_one (ps_ret pe_bl)) pss_nil)
      (pss_cut (ps_if (pt_cmpR o_lt (pe_un un_neg (pv 6)) (pv 3) (nomark _)) (pss_one (ps_set (i := 3) sc_is_heap.nd rfl (Or.inl rfl) (pe_un un_neg (pv 6)))) pss_nil)
      (pss_one (ps_set (i := 4) sc_is_heap.nd rfl (Or.inl rfl) (pe_tup (pa_cons (pv 5) (pa_cons (pv 6) pa_nil))))))))
      (pss_one (ps_ret pe_bl))))))), ?_⟩
    have htl : t.cps.toList.length = t.length := Array.length_toList
    have ht1 := ht.len
    have no : ∀ H', Ex H H' → (¬ GoodHeap s.cps.toList t.cps.toList d) → Q (.bl false) H' := fun H' e n => k H' false e ⟨(fun z => nomatch z), (fun z => (n z).elim)⟩
    walk_at "go"
    refine st_isListD hx.rq ?_
    refine ⟨_, rfl, ?_⟩
    by_cases hd : ∃ ds, d = .list ds
    · obtain ⟨ds, rfl⟩ := hd
      obtain ⟨p, xs, rfl, hp1, hp2⟩ := hx.listAt
      obtain ⟨zs, rfl, rfl, hzs⟩ := RpA.zipped hp2
      have hzl := hsz _ rfl
      rw [List.length_map] at hzl
      refine st_F rfl ?_
      walk_at "go"
      rename_i w0 G0 n0 e0 v0
      refine st_eqD (hx.ex e0) (.lst (lst_of v0) .nil) (by simp only [PyData.depth, PyData.depthAll] at hdp ⊢; omega) ?_
      have he : PyData.eqv (.list (zs.map (·.2))) (.list []) = decide (zs = []) := by cases zs <;> rfl
      rw [he]
      refine ⟨_, rfl, ?_⟩
      refine st_br2 (fun c => ?_) (fun hne => ?_)
      · walk_at "go"
        refine no _ e0 (fun h => ?_)
        obtain ⟨l, e, h2, _⟩ := h
        subst c
        cases l with
        | nil => exact h2 rfl
        | cons _ _ => cases e
      have hp1' := lstAt_ex e0 hp1
      walk_at "go"
      refine st_isList hp1' ?_
      refine lc_map (rv_list K p zs (·.1)) (fun H' e => lstAt_ex e hp1') (by omega) (fun z => .bl (@decide (PairD s.cps.toList t.cps.toList z.2) (Classical.propDecidable _))) ?_ ?_
      · intro z H' hzm e B h1
        refine ⟨rfl, ?_⟩
        have h1' := h1 _ (Fr.refl _)
        have hz := (hzs z hzm).ex (e0.trans e)
        walk_at "go"
        refine ⟨s, t, z.1, z.2, rfl, hs, ht, hz, fun b hb => ?_⟩
        have : b = @decide (PairD s.cps.toList t.cps.toList z.2) (Classical.propDecidable _) := by
          rw [Bool.eq_iff_iff, hb]
          simp
        rw [this]
        exact h1'
      · intro D H1 hD e1 hd
        have e01 := e0.trans e1
        walk_at "go"
        refine st_all (bs := zs.map fun z => @decide (PairD s.cps.toList t.cps.toList z.2) (Classical.propDecidable _)) hd (by rw [List.map_map]; rfl) ?_
        walk_at "go"
        refine st_br (fun c => ?_) (fun c => ?_)
        · walk_at "go"
          refine no _ e01 (fun h => ?_)
          obtain ⟨l, e, _, h3, _⟩ := h
          simp at c
          obtain ⟨z1, z2, hz, hn⟩ := c
          apply hn
          have e : zs.map (·.2) = l.map encQ := by injection e
          have hm : z2 ∈ l.map encQ := by rw [← e]; exact List.mem_map.mpr ⟨_, hz, rfl⟩
          obtain ⟨q, hq, rfl⟩ := List.mem_map.mp hm
          exact ⟨q, rfl, h3 q hq⟩
        have hall : ∀ z ∈ zs, PairD s.cps.toList t.cps.toList z.2 := fun z hz => by
          simp at c
          exact c _ _ hz
        obtain ⟨gs, rfl, hok⟩ := pairs_in _ _ zs hall
        have hp3 : lstAt H1 p = some (gs.map (·.1)) := by
          have := lstAt_ex e1 hp1'
          rwa [List.map_map] at this
        have hrp : ∀ g ∈ gs, Rp H g.1 (encQ g.2) := fun g hg => hzs _ (List.mem_map.mpr ⟨g, hg, rfl⟩)
        rw [List.length_map] at hzl
        have hgd : GoodHeap s.cps.toList t.cps.toList (PyData.list ((gs.map fun g => (g.1, encQ g.2)).map (·.2))) ↔ (gs.map (·.2)).Nodup ∧ AntiQ (gs.map (·.2)) := by
          have e3 : (gs.map fun g => (g.1, encQ g.2)).map (·.2) = (gs.map (·.2)).map encQ := by simp
          rw [e3]
          constructor
          · rintro ⟨l, e, _, _, h4, h5⟩
            have e : (gs.map (·.2)).map encQ = l.map encQ := by injection e
            rw [map_encQ_inj e]
            exact ⟨h4, h5⟩
          · intro ⟨h1, h2⟩
            refine ⟨_, rfl, fun z => hne ?_, fun q hq => ?_, h1, h2⟩
            · cases gs with
              | nil => rfl
              | cons _ _ => cases z
            · obtain ⟨g, hg, rfl⟩ := List.mem_map.mp hq
              exact hok g hg
        walk_at "go"
        rename_i B0 G2 n2 e2 v2
        have hp4 := lstAt_ex e2 hp3
        refine st_isList hp4 ?_
        refine lc_objs0 (rv_list K p gs (·.1)) (fun H' e => lstAt_ex e hp4) (by omega) (fun z => .tup [.int (z.2.1 : Nat), .int (-((z.2.2 : Nat) : Int))]) ?_ ?_
        · intro z H' hzm e B h1
          refine ⟨rfl, ?_⟩
          obtain ⟨a, e5, hz0⟩ := rp_encQ ((hrp z hzm).ex ((e01.trans e2).trans e))
          rw [e5]
          walk_at "go"
          refine st_ixA2 hz0 (by rfl) ?_
          walk_at "go"
          refine st_ixA2 hz0 (by rfl) ?_
          walk_at "go"
          rename_i T5 G5 n5 e6 v5
          exact h1 T5 G5 n5 e6 v5
        · intro D2 H3 us hD2 e3 hd2 objs nd nn news
          walk_at "go"
          have hul : us.length = gs.length := by have := objs.len; rwa [List.length_map] at this
          obtain ⟨hs', hhs⟩ : ∃ hs' : List (GP (Nat × Nat)), hs' = us.zip (gs.map (·.2)) := ⟨_, rfl⟩
          have hgV : hs'.map gV = us.map V.ref := by
            rw [hhs]
            have : (us.zip (gs.map (·.2))).map Prod.fst = us := List.map_fst_zip (by rw [List.length_map]; omega)
            rw [show (gV : GP (Nat × Nat) → V) = V.ref ∘ Prod.fst from rfl, ← List.map_map, this]
          have hgS : hs'.map (·.2) = gs.map (·.2) := by rw [hhs]; exact List.map_snd_zip (by rw [List.length_map]; omega)
          have tg : TG2 enN H3 hs' := by
            intro g hg
            obtain ⟨j, hj⟩ := List.getElem?_of_mem hg
            rw [hhs, List.getElem?_zip_eq_some] at hj
            obtain ⟨j1, j2⟩ := hj
            rw [List.getElem?_map] at j2
            cases hq : gs[j]? with
            | none => rw [hq] at j2; cases j2
            | some z =>
              rw [hq] at j2
              have e : z.2 = g.2 := Option.some.inj j2
              have := objs.at j _ _ j1 (by rw [List.getElem?_map, hq]; rfl)
              rw [this]
              show some (HO.tup [V.int (z.2.1 : Nat), V.int (-((z.2.2 : Nat) : Int))]) = _
              rw [e]
              rfl
          refine st_sortG enN (zs := hs') (lstAt_sq (lst_of (by rw [hgV]; exact hd2))) tg (fun ys q H4 hpm hlx n4 e4 v4 => ?_)
          have hpm2 : (ys.map (·.2)).Perm (gs.map (·.2)) := by have := hpm.map (·.2); rwa [hgS] at this
          have tg4 : TG2 enN H4 ys := fun z hz => e4.get (tg z (hpm.mem_iff.mp hz))
          obtain ⟨m, hm⟩ : ∃ m, m = ys.map (·.2) := ⟨_, rfl⟩
          rw [← hm] at hpm2
          have hsm : (m.map enN).Pairwise lexI := by rw [hm, List.map_map]; exact hlx
          have hml : m.length = ys.length := by rw [hm, List.length_map]
          have hmt : ∀ y ∈ m, y.2 < t.length := fun y hy => by
            obtain ⟨z, hzm, e⟩ := List.mem_map.mp (hpm2.mem_iff.mp hy)
            obtain ⟨_, c, _, h3⟩ := hok z hzm
            have := (List.getElem?_eq_some_iff.mp h3).1
            rw [← e]
            omega
          have bad : ∀ H', Ex H H' → ¬ fallQ m → Q (.bl false) H' := fun H' e n => no H' e fun h => n (by
            obtain ⟨h1, h2⟩ := hgd.mp h
            exact fall_of hpm2 hsm h1 h2)
          have e14 : Ex H H4 := ((e01.trans e2).trans e3).trans e4
          have hB4 := e4.get (e3.get v2)
          walk_at "go"
          refine for_runs (runs_list K q (ys.map gV)) (fun i σ H' => Ex H4 H' ∧ (∃ (L : Nat) (B : Addr) (b1 b2 : Int), H' B = some (.tup [.int b1, .int b2]) ∧ HeapSeen m t.length i L b1 b2 ∧ ∃ c e f, σ = [some (.str s), some (.str t), some (.ref p), some (.int L), some (.ref B), c, e, f])) ⟨Fr.refl _, t.length, B0, -1, -1, hB4, heapSeen_0 m _, _, _, _, rfl⟩ (fun i σ H' _ ⟨e, _⟩ => lst_of (e.get v4)) ?_ ?_
          · rintro i x σ H5 H5' hi ⟨e5, L, B, b1, b2, hB, hseen, c, e, f, rfl⟩ ⟨rfl, hx⟩
            rw [List.length_map] at hi
            obtain ⟨z, hz'⟩ : ∃ z, ys[i]? = some z := ⟨_, List.getElem?_eq_getElem hi⟩
            rw [List.getElem?_map, hz'] at hx
            cases hx
            have hmi : m[i]? = some z.2 := by rw [hm, List.getElem?_map, hz']; rfl
            have hzv : H5' z.1 = some (.tup [.int (z.2.1 : Nat), .int (-((z.2.2 : Nat) : Int))]) := e5.get (tg4 z (List.mem_of_getElem? hz'))
            walk_at "go"
            rename_i T6 G6 n6 e6 v6
            refine st_eqD (.tup (tup_of v6) (.cons (.int _) (.cons (.int _) .nil))) (.tup (tup_of (e6.get hB)) (.cons (.int _) (.cons (.int _) .nil))) (by simp [PyData.depth, PyData.depthAll]) ?_
            refine ⟨_, rfl, ?_⟩
            have hev : (PyData.tuple [PyData.int (z.2.1 : Nat), PyData.int (-((z.2.2 : Nat) : Int))]).eqv (PyData.tuple [PyData.int b1, PyData.int b2]) = decide (b1 = (z.2.1 : Nat) ∧ b2 = -((z.2.2 : Nat) : Int)) := by
              simp only [PyData.eqv, PyData.eqvAll, Bool.and_true]
              rw [Bool.eq_iff_iff]
              simp
              omega
            have hzt := hmt z.2 (List.mem_of_getElem? hmi)
            rw [hev]
            refine st_br2 (fun c1 => ?_) (fun c1 => ?_)
            · walk_at "go"
              exact bad _ ((e14.trans e5).trans e6) (hseen.same hmi c1.1 c1.2)
            walk_at "go"
            refine st_br2 (fun c2 => ?_) (fun c2 => ?_)
            · walk_at "go"
              exact bad _ ((e14.trans e5).trans e6) (hseen.high hmi hzt (by omega))
            walk_at "go"
            have hst := hseen.step hsm hmi c1 (by omega)
            refine ⟨fun σ' H' => H' = G6 ∧ σ' = [some (.str s), some (.str t), some (.ref p), some (.int (z.2.2 : Nat)), some (.ref B), some (.int (z.2.1 : Nat)), some (.int (-((z.2.2 : Nat) : Int))), f], ?_, ?_⟩
            · refine st_ifS ?_
              walk_at "go"
              refine st_br2 (fun c3 => ?_) (fun c3 => ?_)
              · walk_at "go"
                refine ⟨rfl, ?_⟩
                rw [Int.neg_neg]
                rfl
              · walk_at "go"
                refine ⟨rfl, ?_⟩
                have : L = z.2.2 := by omega
                rw [this]
                rfl
            · rintro σ' H' ⟨rfl, rfl⟩
              walk_at "go"
              rename_i T7 G7 n7 e7 v7
              exact ⟨(e5.trans e6).trans e7, _, T7, _, _, v7, hst, _, _, _, rfl⟩
          · rintro σ H5 ⟨e5, L, B, b1, b2, hB, hseen, c, e, f, rfl⟩
            walk_at "go"
            refine k _ _ (e14.trans e5) ⟨(fun _ => ?_), (fun _ => rfl)⟩
            have hf := hseen.1
            rw [List.take_of_length_le (by rw [List.length_map]; omega)] at hf
            exact hgd.mpr (of_fall hpm2 hsm hf)
    · refine st_T ?_ ?_
      · cases d <;> first | rfl | exact absurd ⟨_, rfl⟩ hd
      walk_at "go"
      refine no _ (Fr.refl _) (fun h => ?_)
      obtain ⟨q, e, _⟩ := h
      exact hd ⟨_, e⟩
def sp_are_heaps (K : PySem.W.Frag) : Sp := fun vs H Q E => ∃ (x0 y0 x : V), vs = [x0, y0, x] ∧ Rows2 K E H x0 y0 fun s t => ∃ d : PyData, Rn H x d ∧ (d.hasDict = true → d = .dict []) ∧ szD d ≤ 999999 ∧ d.depth ≤ 59 ∧
  ∀ H' b, Ex H H' → (b = true ↔ GoodHeaps s.cps.toList t.cps.toList d) → Q (.bl b) H'
theorem ok_are_heaps (T : Tx K mg ad fd tk) : FnOk P w K mg base (L2.CX P w) 6 (ad 14) (fd 14) ["side", "top", "thing"] (sp_are_heaps K) := by
  refine T.d_are_heaps.F.okX sc_are_heaps (fun vs H Q E h => ?_) (fun cdv A outer s H vs Q E hr h => ?_)
  · obtain ⟨x0, y0, x, rfl, _⟩ := h
    rfl
  · obtain ⟨x0, y0, x, rfl, hR⟩ := h
    refine ⟨_, (pss_cons (ps_set (i := 3) sc_are_heaps.nd rfl (Or.inl rfl) (pe_call (ok_pairs_of T) (hr.mono (by decide)) rfl T.d_pairs_of.g T.d_pairs_of.F.kp T.d_pairs_of.b .nil (passes_call (takes_of rfl rfl rfl rfl) (fun _ _ _ _ h => h)) (pa_cons (pv 0) (pa_cons (pv 1) pa_nil))))
      (pss_cons (ps_if (PW.pt (pw_or (pt_not (pt_val (pe_callB c_is (by rfl) T.b_isinstance (by decide +kernel) (pa_cons (pv 2) (pa_cons (pe_bltn (v := .ty "list") rfl T.b_list (by decide +kernel) rfl) pa_nil))))) (pw_or1 (pt_not (pt_val (pe_callB (c_all rfl) (by rfl) T.b_all (by decide +kernel) (pa_cons (pe_lc (own := [("heap", 5)]) (g := gName 5) rfl sc_are_heaps.nd (pi_list (pv 2)) (blkOk_by (own := [("heap", 5)]) (N := N_are_heaps) (sc := defScope s_are_heaps) (by decide +kernel)) (fun _ _ _ _ _ => pg_name (i := 5) sc_are_heaps.nd rfl (Or.inl rfl)) (fun _ _ _ _ _ => pts_nil) (fun _ _ _ _ _ => (pe_call (ok_is_heap T) (hr.mono (by decide)) rfl T.d_is_heap.g T.d_is_heap.F.kp T.d_is_heap.b .nil pass0 (pa_cons (pv 0) (pa_cons (pv 1) (pa_cons (pv 5) pa_nil)))))) pa_nil))))))) (pss_one (ps_ret pe_bl)) pss_nil)
      (pss_cons (ps_set (i := 4) sc_are_heaps.nd rfl (Or.inl rfl) (pe_lst pa_nil))
      (pss_cons (ps_for (passes_of rfl) rfl (pi_list (pv 2)) (pg_name (i := 5) sc_are_heaps.nd rfl (Or.inl rfl)) (pss_one (ps_expr (pe_bm PySem.F.plainAttrs_list PySem.F.slot_list_extend PySem.F.type_list_extend mt_extend (pv 4) (pa_cons (pv 5) pa_nil)))))
      (pss_one (ps_ret (pe_cmpR (o_eq hr.units) (pe_callB (c_sortP (K := K)) (by rfl) T.b_sorted (by decide +kernel) (pa_cons (pv 4) pa_nil)) (pv 3) (nomark _)))))))), ?_⟩
    walk_at "go"
    refine ⟨x0, y0, rfl, hR.imp fun s t ex ey hs ht ⟨d, hx, hdc, hsz, hdp, k⟩ p ts H1 e1 PA => ?_⟩
    subst ex ey
    have no : ∀ H', Ex H H' → (¬ GoodHeaps s.cps.toList t.cps.toList d) → Q (.bl false) H' := fun H' e n => k H' false e ⟨(fun z => nomatch z), (fun z => (n z).elim)⟩
    walk_at "go"
    refine st_isListD (hx.ex e1).rq ?_
    refine ⟨_, rfl, ?_⟩
    by_cases hd : ∃ ds, d = .list ds
    · obtain ⟨ds, rfl⟩ := hd
      have hndc : PyData.hasDictAll ds = false := by
        have : (PyData.list ds).hasDict = false := by
          cases q : (PyData.list ds).hasDict with
          | false => rfl
          | true => cases hdc q
        simpa only [PyData.hasDict] using this
      obtain ⟨a, xs, rfl, ha, hxs⟩ := hx.listAt
      obtain ⟨zs, rfl, rfl, hzs⟩ := hxs.zipped
      have hsz2 : szA (zs.map (·.2)) ≤ 999999 := by simp only [szD] at hsz; omega
      have hdp2 : PyData.depthAll (zs.map (·.2)) ≤ 59 := by simp only [PyData.depth] at hdp; omega
      have hzl : zs.length ≤ 999999 := by
        have := szA_len (zs.map (·.2))
        rw [List.length_map] at this
        omega
      have ha1 := e1.get ha
      refine st_F rfl ?_
      walk_at "go"
      refine lc_map (rv_list K a zs (·.1)) (fun H' e => lst_of (e.get ha1)) (by omega) (fun z => .bl (@decide (GoodHeap s.cps.toList t.cps.toList z.2) (Classical.propDecidable _))) ?_ ?_
      · intro z H' hzm e B h1
        refine ⟨rfl, ?_⟩
        have h1' := h1
        have hz := (hzs z hzm).ex (e1.trans e)
        have hmem : z.2 ∈ zs.map (·.2) := List.mem_map.mpr ⟨z, hzm, rfl⟩
        walk_at "go"
        refine ⟨s, t, z.1, z.2, rfl, hs, ht, hz.rp (hasDictA_mem hndc hmem), ?_, ?_, fun H'' b e3 hb => ?_⟩
        · intro ds e5
          have h1 := szA_mem hmem
          have h2 := szA_len ds
          rw [e5] at h1
          simp only [szD] at h1
          omega
        · have := depthA_mem hmem
          omega
        · have : b = @decide (GoodHeap s.cps.toList t.cps.toList z.2) (Classical.propDecidable _) := by
            rw [Bool.eq_iff_iff, hb]
            simp
          rw [this]
          exact h1' _ e3
      · intro D H2 hD e2 hd2
        walk_at "go"
        refine st_all (bs := zs.map fun z => @decide (GoodHeap s.cps.toList t.cps.toList z.2) (Classical.propDecidable _)) hd2 (by rw [List.map_map]; rfl) ?_
        walk_at "go"
        have e12 := e1.trans e2
        refine st_br (fun c => ?_) (fun c => ?_)
        · walk_at "go"
          refine no _ e12 (fun h => ?_)
          simp at c
          obtain ⟨z1, z2, hz, hn⟩ := c
          exact hn (h.each z2 (List.mem_map.mpr ⟨_, hz, rfl⟩))
        have hall : ∀ z ∈ zs, GoodHeap s.cps.toList t.cps.toList z.2 := fun z hz => by
          simp at c
          exact c _ _ hz
        obtain ⟨hh, zss, HI⟩ := heaps_in zs hzs hall
        have hgd : GoodHeaps s.cps.toList t.cps.toList (PyData.list (zs.map (·.2))) ↔ (zss.flatten.map (·.2)).Perm (prs s.cps.toList t.cps.toList s.length) := by
          have hds := HI.ds
          have e5 : zss.flatten.map (·.2) = (zss.map fun l => l.map (·.2)).flatten := by rw [List.map_flatten]
          rw [e5]
          constructor
          · rintro ⟨hss, e, h1, h2⟩
            have e6 : encHs (zss.map fun l => l.map (·.2)) = encHs hss := by rw [← e, hds]; rfl
            rw [encHs_inj e6]
            exact h2
          · intro h
            refine ⟨zss.map fun l => l.map (·.2), by rw [hds]; rfl, fun l hl => ?_, h⟩
            obtain ⟨l', hl', rfl⟩ := List.mem_map.mp hl
            obtain ⟨g1, g2, _⟩ := HI.ok l' hl'
            exact ⟨fun z => g1 (by cases l' with | nil => rfl | cons _ _ => cases z), g2⟩
        have rows := HI.objs
        have htp := HI.tp
        have hlen : zss.length = zs.length := by have := congrArg List.length HI.ds; simp at this; omega
        have hhl : hh.length = zss.length := by have := rows.len; rwa [List.length_map] at this
        have hfl : zss.flatten.length ≤ 999999 := by
          have : szA (zs.map (·.2)) = _ := congrArg szA HI.ds
          have h2 : ∀ w : List (List ZP), w.flatten.length ≤ szA ((w.map fun l => l.map (·.2)).map fun l => PyData.list (l.map encQ)) := by
            intro w
            induction w with
            | nil => simp [szA]
            | cons l w ih =>
              have := szA_len ((l.map (·.2)).map encQ)
              simp only [List.length_map] at this
              simp only [List.map_cons, szA, szD, List.flatten_cons, List.length_append]
              omega
          have := h2 zss
          omega
        have ha2 : H2 a = some (.lst (hh.map V.ref)) := by rw [← HI.vs]; exact e2.get ha1
        walk_at "go"
        rename_i f G3 n3 e3 v3
        refine for_runs (runs_list K a (hh.map V.ref)) (fun i σ H' => Ex H2 H' ∧ H' f = some (.lst ((zss.take i).flatten.map zV)) ∧ ∃ c, σ = [some (.str s), some (.str t), some (.ref a), some (.ref p), some (.ref f), c]) ⟨e3, v3, _, rfl⟩ (fun i σ H' _ ⟨e, _⟩ => lst_of (e.get ha2)) ?_ ?_
        · rintro i x σ H4 H4' hi ⟨e4, hf, c, rfl⟩ ⟨rfl, hx⟩
          rw [List.length_map] at hi
          obtain ⟨r, hr⟩ : ∃ r, hh[i]? = some r := ⟨_, List.getElem?_eq_getElem hi⟩
          obtain ⟨l, hl'⟩ : ∃ l, zss[i]? = some l := ⟨zss[i]'(by omega), List.getElem?_eq_getElem _⟩
          rw [List.getElem?_map, hr] at hx
          cases hx
          have hrow := rows.at i _ _ hr (by rw [List.getElem?_map, hl']; rfl)
          have hrow4 := Ex.get (e12.trans e4) hrow
          have tk : zss.take (i + 1) = zss.take i ++ [l] := by rw [List.take_add_one, hl']; rfl
          have htk : (zss.take (i + 1)).flatten.length ≤ zss.flatten.length := by
            have : zss.flatten = (zss.take (i + 1)).flatten ++ (zss.drop (i + 1)).flatten := by rw [← List.flatten_append, List.take_append_drop]
            rw [this, List.length_append]; omega
          rw [tk, List.flatten_append, List.length_append] at htk
          have hll : [l].flatten.length = l.length := by simp
          walk_at "go"
          refine st_ext hf hrow4 (by rw [List.length_map, List.length_map]; omega) ?_
          refine ⟨e4.mut n3, ?_, _, rfl⟩
          rw [upd_same, ← List.map_append, tk, List.flatten_append]
          simp
        · rintro σ H4 ⟨e4, hf, c, rfl⟩
          rw [List.length_map, hhl, List.take_length] at hf
          have e14 := e12.trans e4
          walk_at "go"
          refine st_sortZ (lstAt_sq (lst_of hf)) (htp.ex e14) (fun ys q H5 hpm hlx n5 e5 v5 => ?_)
          have hl1 := PA.tups.len
          rw [List.length_map] at hl1
          obtain ⟨gz, hgz⟩ : ∃ gz : List ZP, gz = ts.zip (prs s.cps.toList t.cps.toList s.length) := ⟨_, rfl⟩
          have hgV : gz.map zV = ts.map V.ref := by
            rw [hgz]
            have : (ts.zip (prs s.cps.toList t.cps.toList s.length)).map Prod.fst = ts := List.map_fst_zip (by omega)
            rw [show (zV : ZP → V) = V.ref ∘ Prod.fst from rfl, ← List.map_map, this]
          have hgS : gz.map (·.2) = prs s.cps.toList t.cps.toList s.length := by rw [hgz]; exact List.map_snd_zip (by omega)
          have tpg : TP H1 gz := by
            intro g hg
            obtain ⟨j, hj⟩ := List.getElem?_of_mem hg
            rw [hgz, List.getElem?_zip_eq_some] at hj
            obtain ⟨j1, j2⟩ := hj
            exact PA.tups.at j _ _ j1 (by rw [List.getElem?_map, j2]; rfl)
          have e15 := (e2.trans e4).trans e5
          have hpq : H5 p = some (.lst (gz.map zV)) := by rw [hgV]; exact e15.get PA.at_
          walk_at "go"
          refine st_eqD ((((htp.ex e14).ex e5).perm hpm).rpL v5) ((tpg.ex e15).rpL hpq) ?_ ?_
          · have := zs_depth ys
            omega
          · rw [eqv_zs, hgS]
            refine k H5 _ (e14.trans e5) ?_
            rw [hgd]
            have hp2 := hpm.map (·.2)
            constructor
            · intro hb
              rw [← of_decide_eq_true hb]
              exact hp2.symm
            · intro hb
              exact decide_eq_true (sorted_uniq hlx (prs_sorted _ _ _) (hp2.trans hb))
    · refine st_T ?_ ?_
      · cases d <;> first | rfl | exact absurd ⟨_, rfl⟩ hd
      walk_at "go"
      refine no _ e1 (fun h => ?_)
      obtain ⟨q, e, _⟩ := h
      exact hd ⟨_, e⟩
def sp_paper_of (K : PySem.W.Frag) : Sp := fun vs H Q E => ∃ x y, vs = [x, y] ∧ Rows2 K E H x y fun s t => ∀ U p (zs : List ZP) d hs tss H1 H2 H', Ex H H1 → Ex H1 H2 → Ex H2 H' → H U = none → H' U = some (.tup [.ref p, .ref d]) → H p = none → H1 p = some (.lst (zs.map zV)) → TP H1 zs → zs.map (·.2) = thr s.cps.toList t.cps.toList s.length t.length →
  HeapsAt H1 H2 d hs tss (Lc s.cps.toList t.cps.toList s.length t.length) (lev s.cps.toList t.cps.toList (prs s.cps.toList t.cps.toList s.length)) → Q (.ref U) H'
theorem ok_paper_of (T : Tx K mg ad fd tk) : FnOk P w K mg base (L2.CX P w) 7 (ad 15) (fd 15) ["side", "top"] (sp_paper_of K) := by
  refine T.d_paper_of.F.okX sc_paper_of (fun vs H Q E h => ?_) (fun cdv A outer s H vs Q E hr h => ?_)
  · obtain ⟨x, y, rfl, _⟩ := h
    rfl
  · obtain ⟨x, y, rfl, hR⟩ := h
    refine ⟨_, (pss_one (ps_ret (pe_tup (pa_cons (pe_call (ok_thread_of T) (hr.mono (by decide)) rfl T.d_thread_of.g T.d_thread_of.F.kp T.d_thread_of.b .nil (passes_call (takes_of rfl rfl rfl rfl) (fun _ _ _ _ h => h)) (pa_cons (pv 0) (pa_cons (pv 1) pa_nil))) (pa_cons (pe_call (ok_heaps_of T) (hr.mono (by decide)) rfl T.d_heaps_of.g T.d_heaps_of.F.kp T.d_heaps_of.b .nil (passes_call (takes_of rfl rfl rfl rfl) (fun _ _ _ _ h => h)) (pa_cons (pv 0) (pa_cons (pv 1) pa_nil))) pa_nil))))), ?_⟩
    walk_at "go"
    rcases hR with ⟨s, t, rfl, rfl, hs, ht, k⟩ | hR
    · refine ⟨.str s, .str t, rfl, .inl ⟨s, t, rfl, rfl, hs, ht, fun p zs H1 e1 hp hpv tp hthr => ?_⟩⟩
      walk_at "go"
      refine ⟨.str s, .str t, rfl, .inl ⟨s, t, rfl, rfl, hs, ht, fun d hs' tss H2 e2 HZ => ?_⟩⟩
      walk_at "go"
      rename_i U G3 n3 e3 v3
      exact k U p zs d hs' tss H1 H2 G3 e1 e2 e3 (Ex.free (e1.trans e2) n3) v3 hp hpv tp hthr HZ
    · exact ⟨x, y, rfl, .inr hR⟩
/-- a thread and as many heaps -/
def GoodPaper (s t : List Nat) (d : PyData) : Prop := ∃ as bs : List PyData, d = .tuple [.list as, .list bs] ∧ GoodThread s t (.list as) ∧ GoodHeaps s t (.list bs) ∧ as.length = bs.length
def sp_shows (K : PySem.W.Frag) : Sp := fun vs H Q E => ∃ (x0 y0 v : V), vs = [x0, y0, v] ∧ Rows2 K E H x0 y0 fun s t => ∃ d : PyData, Sd H v d ∧ ∀ H' b, Ex H H' → (b = true ↔ GoodPaper s.cps.toList t.cps.toList d) → Q (.bl b) H'
theorem ok_shows (T : Tx K mg ad fd tk) : FnOk P w K mg base (L2.CX P w) 7 (ad 16) (fd 16) ["side", "top", "thing"] (sp_shows K) := by
  refine T.d_shows.F.okX sc_shows (fun vs H Q E h => ?_) (fun cdv A outer s H vs Q E hr h => ?_)
  · obtain ⟨x0, y0, v, rfl, _⟩ := h
    rfl
  · obtain ⟨x0, y0, v, rfl, hR⟩ := h
    refine ⟨_, (pss_cons (ps_expr (pe_call (ok_need_rows T) (hr.mono (by decide)) rfl T.d_need_rows.g T.d_need_rows.F.kp T.d_need_rows.b .nil (passes_call (takes_of rfl rfl rfl rfl) (fun _ _ _ _ h => h)) (pa_cons (pv 0) (pa_cons (pv 1) pa_nil))))
      (pss_cons (ps_if (PW.pt (pw_or (pt_not (pt_val (pe_callB c_is (by rfl) T.b_isinstance (by decide +kernel) (pa_cons (pv 2) (pa_cons (pe_bltn (v := .ty "tuple") rfl T.b_tuple (by decide +kernel) rfl) pa_nil))))) (pw_or1 (pt_cmpR (o_ne hr.units) (pe_callB (c_len (K := K)) (by rfl) T.b_len (by decide +kernel) (pa_cons (pv 2) pa_nil)) pe_int (nomark _))))) (pss_one (ps_ret pe_bl)) pss_nil)
      (pss_cons (ps_asg (pv 2) (pg_tup rfl (pgs_cons (pg_name (i := 3) sc_shows.nd rfl (Or.inl rfl)) (pgs_cons (pg_name (i := 4) sc_shows.nd rfl (Or.inl rfl)) pgs_nil))))
      (pss_cons (ps_if (PW.pt (pw_or (pt_not (pt_val (pe_call (ok_is_thread T) (hr.mono (by decide)) rfl T.d_is_thread.g T.d_is_thread.F.kp T.d_is_thread.b .nil (passes_call (takes_of rfl rfl rfl rfl) (fun _ _ _ _ h => h)) (pa_cons (pv 0) (pa_cons (pv 1) (pa_cons (pv 3) pa_nil)))))) (pw_or1 (pt_not (pt_val (pe_call (ok_are_heaps T) (hr.mono (by decide)) rfl T.d_are_heaps.g T.d_are_heaps.F.kp T.d_are_heaps.b .nil (passes_call (takes_of rfl rfl rfl rfl) (fun _ _ _ _ h => h)) (pa_cons (pv 0) (pa_cons (pv 1) (pa_cons (pv 4) pa_nil))))))))) (pss_one (ps_ret pe_bl)) pss_nil)
      (pss_one (ps_ret (pe_cmpR (o_eq hr.units) (pe_callB (c_len (K := K)) (by rfl) T.b_len (by decide +kernel) (pa_cons (pv 3) pa_nil)) (pe_callB (c_len (K := K)) (by rfl) T.b_len (by decide +kernel) (pa_cons (pv 4) pa_nil)) (nomark _)))))))), ?_⟩
    walk_at "go"
    refine ⟨x0, y0, rfl, hR.imp fun s t ex ey hs ht ⟨d, hx, k⟩ H1 e1 => ?_⟩
    subst ex ey
    have no : ∀ H', Ex H H' → (¬ GoodPaper s.cps.toList t.cps.toList d) → Q (.bl false) H' := fun H' e n => k H' false e ⟨(fun z => nomatch z), (fun z => (n z).elim)⟩
    have hx1 := hx.ex e1
    walk_at "go"
    refine st_isTupD hx1.rn.rq ?_
    refine ⟨_, rfl, ?_⟩
    by_cases hd : ∃ ds, d = .tuple ds
    rotate_left
    · refine st_T ?_ ?_
      · cases d <;> first | rfl | exact absurd ⟨_, rfl⟩ hd
      walk_at "go"
      refine no _ e1 (fun h => ?_)
      obtain ⟨as, bs, e, _⟩ := h
      exact hd ⟨_, e⟩
    obtain ⟨ds, rfl⟩ := hd
    obtain ⟨a, xs, hv, h1, h2⟩ := hx1.rn.tupAt
    subst hv
    have hl := h2.len
    refine st_F rfl ?_
    walk_at "go"
    refine st_brn (fun c => ?_) (fun c => ?_)
    · walk_at "go"
      refine no _ e1 (fun h => ?_)
      obtain ⟨as, bs, e, _⟩ := h
      injection e with e
      apply c
      rw [hl, e]
      rfl
    have c2 : xs.length = 2 := by omega
    obtain ⟨x0, x1, rfl⟩ : ∃ x0 x1, xs = [x0, x1] := by
      match xs, c2 with
      | [x0, x1], _ => exact ⟨x0, x1, rfl⟩
    obtain ⟨d0, d1, rfl, r0, r1⟩ : ∃ d0 d1, ds = [d0, d1] ∧ Rn H1 x0 d0 ∧ Rn H1 x1 d1 := by
      match ds, h2 with
      | [d0, d1], .cons r0 (.cons r1 .nil) => exact ⟨d0, d1, rfl, r0, r1⟩
    have hdn : d0.hasDict = false ∧ d1.hasDict = false := by
      have : (PyData.tuple [d0, d1]).hasDict = false := by
        cases q : (PyData.tuple [d0, d1]).hasDict with
        | false => rfl
        | true => cases hx.hd q
      simp only [PyData.hasDict, PyData.hasDictAll, Bool.or_false, Bool.or_eq_false_iff] at this
      exact this
    have hsz := hx.sz
    have hdp := hx.dp
    simp only [szD, szA] at hsz
    simp only [PyData.depth, PyData.depthAll] at hdp
    walk_at "go"
    refine ⟨.str s, .str t, x0, rfl, .inl ⟨s, t, rfl, rfl, hs, ht, d0, r0, (fun z => by rw [hdn.1] at z; cases z), fun H2 b e2 hb => ?_⟩⟩
    have e12 := e1.trans e2
    cases b with
    | false =>
      walk_at "go"
      refine no _ e12 (fun h => ?_)
      obtain ⟨as, bs, e, g1, _⟩ := h
      injection e with e
      injection e with ea eb
      have := hb.mpr (by rw [ea]; exact g1)
      cases this
    | true =>
      have g1 := hb.mp rfl
      walk_at "go"
      refine ⟨.str s, .str t, x1, rfl, .inl ⟨s, t, rfl, rfl, hs, ht, d1, r1.ex e2, (fun z => by rw [hdn.2] at z; cases z), by omega, by omega, fun H3 b e3 hb3 => ?_⟩⟩
      have e13 := e12.trans e3
      cases b with
      | false =>
        walk_at "go"
        refine no _ e13 (fun h => ?_)
        obtain ⟨as, bs, e, _, g2, _⟩ := h
        injection e with e
        injection e with ea eb
        injection eb with eb _
        have := hb3.mpr (by rw [eb]; exact g2)
        cases this
      | true =>
        have g2 := hb3.mp rfl
        obtain ⟨l, el, _⟩ := id g1
        obtain ⟨hss, eh, _⟩ := id g2
        subst el
        unfold encHs at eh
        subst eh
        obtain ⟨a0, xs0, hx0, p0, q0⟩ := (r0.ex (e2.trans e3)).listAt
        obtain ⟨a1, xs1, hx1', p1, q1⟩ := (r1.ex (e2.trans e3)).listAt
        subst hx0 hx1'
        have l0 := q0.len
        have l1 := q1.len
        walk_at "go"
        refine k _ _ e13 ⟨fun e => ⟨_, _, rfl, g1, g2, ?_⟩, fun h => ?_⟩
        · have e := of_decide_eq_true e
          omega
        · obtain ⟨as, bs, e, _, _, g3⟩ := h
          injection e with e
          injection e with ea eb
          injection eb with eb _
          injection ea with ea
          injection eb with eb
          refine decide_eq_true ?_
          rw [l0, l1, ea, eb, g3]
def sp__law_cell (K : PySem.W.Frag) : Sp := fun vs H Q _ => ∃ (a : Addr) (ns : List Int) (j : Int), vs = [.ref a, .int j] ∧ SqL K H a (ns.map V.int) ∧ (0 ≤ j ∧ j < 1000000) ∧ ns.length ≤ 63 ∧ ∀ z : Int, Q (.int z) H
theorem ok__law_cell (T : Tx K mg ad fd tk) : FnOk P w K mg base CX0 1 (ad 17) (fd 17) ["_law_script", "_law_k"] (sp__law_cell K) := by
  refine T.d__law_cell.F.ok sc__law_cell (fun vs H Q E h => ?_) (fun cdv A outer s H vs Q E hr h => ?_)
  · obtain ⟨a, ns, j, rfl, _⟩ := h
    rfl
  · obtain ⟨a, ns, j, rfl, hs, hj, hl, k⟩ := h
    refine ⟨_, (pss_cons (ps_if (pt_cmpR o_lt (pv 1) (pe_callB (c_len (K := K)) (by rfl) T.b_len (by decide +kernel) (pa_cons (pv 0) pa_nil)) (nomark _)) (pss_one (ps_ret (pe_ix (i_ix (K := K)) (pv 0) (pv 1) (fun _ _ => rfl)))) pss_nil)
      (pss_one (ps_ret (pe_op o_add (pe_op o_mul pe_int (pv 1)) pe_int)))), ?_⟩
    walk_at "go"
    refine st_lenK hs ?_
    walk_at "go"
    refine st_br2 (fun c => ?_) (fun c => ?_)
    · walk_at "go"
      rw [List.length_map] at c
      obtain ⟨v, h2, h3⟩ := at_in (xs := ns.map V.int) hj.1 (by rw [List.length_map]; exact c)
      rw [List.getElem?_map] at h3
      cases q : ns[j.toNat]? with
      | none => rw [q] at h3; cases h3
      | some z =>
        rw [q] at h3
        cases h3
        exact st_ixK hs h2 (k z)
    · walk_at "go"
      exact k _
def sp__law_purse : Sp := fun vs H Q _ => ∃ c : Int, vs = [.int c] ∧ ∀ (p : Addr) (H' : Hp), H p = none → Ex H H' → Purse H' p → Q (.ref p) H'
theorem ok__law_purse (T : Tx K mg ad fd tk) : FnOk P w K mg base CX0 1 (ad 18) (fd 18) ["_law_cell_here"] sp__law_purse := by
  refine T.d__law_purse.F.ok sc__law_purse (fun vs H Q E h => ?_) (fun cdv A outer s H vs Q E hr h => ?_)
  · obtain ⟨c, rfl, _⟩ := h
    rfl
  · obtain ⟨c, rfl, k⟩ := h
    refine ⟨_, (pss_one (ps_ret (pe_lst (pa_cons (pe_callB (c_max rfl) (by rfl) T.b_max (by decide +kernel) (pa_cons pe_int (pa_cons (pe_op o_sub (pv 0) (pe_op o_pow pe_int pe_int)) pa_nil))) (pa_cons (pe_op o_mod (pv 0) pe_int) (pa_cons pe_int pa_nil)))))), ?_⟩
    walk_at "go"
    exact k _ _ (by assumption) (by assumption) ⟨_, _, _, by assumption⟩
def sp__law_take : Sp := fun vs H Q _ => ∃ (a : Addr) (m : Int), vs = [.ref a, .int m] ∧ Purse H a ∧ 0 < m ∧ m < 1073741824 ∧ ∀ (d : Int) (H' : Hp), 0 ≤ d → d < m → FrP a H H' → Purse H' a → Q (.int d) H'
theorem ok__law_take (T : Tx K mg ad fd tk) : FnOk P w K mg base CX0 1 (ad 19) (fd 19) ["_law_purse_here", "_law_many"] sp__law_take := by
  refine T.d__law_take.F.ok sc__law_take (fun vs H Q E h => ?_) (fun cdv A outer s H vs Q E hr h => ?_)
  · obtain ⟨a, m, rfl, _⟩ := h
    rfl
  · obtain ⟨a, m, rfl, ⟨x, y, z, ha⟩, h0, h1, k⟩ := h
    refine ⟨_, (pss_cons (ps_asg (pe_op o_add (pe_ix (i_ix (K := K)) (pv 0) pe_int (fun _ _ => rfl)) pe_int) (pg_sub (pv 0) pe_int set_list))
      (pss_cons (ps_if (pt_cmpR o_gt (pe_ix (i_ix (K := K)) (pv 0) pe_int (fun _ _ => rfl)) pe_int (nomark _)) (pss_cons (ps_set (i := 2) sc__law_take.nd rfl (Or.inl rfl) (pe_op o_mod (pe_ix (i_ix (K := K)) (pv 0) pe_int (fun _ _ => rfl)) (pv 1)))
      (pss_cons (ps_asg (pe_op o_div (pe_ix (i_ix (K := K)) (pv 0) pe_int (fun _ _ => rfl)) (pv 1)) (pg_sub (pv 0) pe_int set_list))
      (pss_one (ps_ret (pv 2))))) pss_nil)
      (pss_cons (ps_set (i := 3) sc__law_take.nd rfl (Or.inl rfl) (pe_op o_mod (pe_op o_add (pe_op o_add (pe_op o_mul (pe_ix (i_ix (K := K)) (pv 0) pe_int (fun _ _ => rfl)) pe_int) (pe_op o_mul pe_int (pe_ix (i_ix (K := K)) (pv 0) pe_int (fun _ _ => rfl)))) pe_int) pe_int))
      (pss_cons (ps_set (i := 3) sc__law_take.nd rfl (Or.inl rfl) (pe_op o_mod (pe_op o_mul (pv 3) (pv 3)) pe_int))
      (pss_cons (ps_set (i := 3) sc__law_take.nd rfl (Or.inl rfl) (pe_op o_mod (pe_op o_mul (pe_op o_add (pv 3) (pe_op o_mul pe_int (pe_ix (i_ix (K := K)) (pv 0) pe_int (fun _ _ => rfl)))) pe_int) pe_int))
      (pss_one (ps_ret (pe_op o_mod (pe_op o_div (pe_op o_mod (pe_op o_mul (pv 3) (pv 3)) pe_int) pe_int) (pv 1))))))))), ?_⟩
    walk_at "go"
    refine st_br2 (fun c => ?_) (fun c => ?_)
    · walk_at "go"
      exact k _ _ (Int.emod_nonneg _ (by omega)) (Int.emod_lt_of_pos _ h0) (FrP.at.trans FrP.at) ⟨_, _, _, upd_same⟩
    · walk_at "go"
      exact k _ _ (Int.emod_nonneg _ (by omega)) (Int.emod_lt_of_pos _ h0) FrP.at ⟨_, _, _, upd_same⟩
def isLet (c : Nat) : Prop := 97 ≤ c ∧ c ≤ 122
def vSign (c : Nat) : V := .str (tx [c])
def sp__law_letters : Sp := fun vs H Q _ => ∃ a : Addr, vs = [.ref a] ∧ Purse H a ∧ ∀ (q : Addr) (ss : List Nat) (H' : Hp), H q = none → FrP a H H' → Purse H' a → H' q = some (.lst (ss.map vSign)) → 1 ≤ ss.length → ss.length ≤ 26 → (∀ c ∈ ss, isLet c) → Q (.ref q) H'
theorem at_letters (i : Int) (h0 : 0 ≤ i) (h1 : i < 26) : atI ("abcdefghijklmnopqrstuvwxyz" : Str).cps.toList i = some (97 + i.toNat) := by
  rw [letters_eq]
  unfold atI ixN
  rw [List.length_range', if_pos h0, if_pos (by omega)]
  show (List.range' 97 26)[i.toNat]? = _
  rw [List.getElem?_range' (by omega), Nat.one_mul]
theorem letters_len : ("abcdefghijklmnopqrstuvwxyz" : Str).length = 26 := by decide +kernel
theorem ok__law_letters (T : Tx K mg ad fd tk) : FnOk P w K mg base CX0 2 (ad 20) (fd 20) ["_law_purse_here"] sp__law_letters := by
  refine T.d__law_letters.F.ok sc__law_letters (fun vs H Q E h => ?_) (fun cdv A outer s H vs Q E hr h => ?_)
  · obtain ⟨a, rfl, _⟩ := h
    rfl
  · obtain ⟨a, rfl, hp, k⟩ := h
    refine ⟨_, (pss_cons (ps_set (i := 1) sc__law_letters.nd rfl (Or.inr rfl) pe_str)
      (pss_cons (ps_set (i := 2) sc__law_letters.nd rfl (Or.inr rfl) (pe_call (ok__law_take T) (hr.mono (by decide)) rfl T.d__law_take.g T.d__law_take.F.kp T.d__law_take.b .nil pass0 (pa_cons (pv 0) (pa_cons pe_int pa_nil))))
      (pss_cons (ps_set (i := 3) sc__law_letters.nd rfl (Or.inr rfl) (pe_ix (i_ix (K := K)) (pe_lst (pa_cons pe_int (pa_cons pe_int (pa_cons pe_int (pa_cons pe_int (pa_cons pe_int (pa_cons pe_int pa_nil))))))) (pe_call (ok__law_take T) (hr.mono (by decide)) rfl T.d__law_take.g T.d__law_take.F.kp T.d__law_take.b .nil pass0 (pa_cons (pv 0) (pa_cons pe_int pa_nil))) (fun _ _ => rfl)))
      (pss_cons (ps_set (i := 4) sc__law_letters.nd rfl (Or.inl rfl) (pe_ix (i_ix (K := K)) (pe_lst (pa_cons pe_int (pa_cons pe_int (pa_cons pe_int (pa_cons pe_int (pa_cons pe_int (pa_cons pe_int (pa_cons pe_int (pa_cons pe_int pa_nil))))))))) (pe_call (ok__law_take T) (hr.mono (by decide)) rfl T.d__law_take.g T.d__law_take.F.kp T.d__law_take.b .nil pass0 (pa_cons (pv 0) (pa_cons pe_int pa_nil))) (fun _ _ => rfl)))
      (pss_one (ps_ret (pe_lc (own := [("_law_k", 5)]) (g := gName 5) rfl sc__law_letters.nd (pi_range1 rfl T.b_range (pa_cons (pv 4) pa_nil)) (blkOk_by (own := [("_law_k", 5)]) (N := N__law_letters) (sc := defScope s__law_letters) (by decide +kernel)) (fun _ _ _ _ _ => pg_name (i := 5) sc__law_letters.nd rfl (Or.inl rfl)) (fun _ _ _ _ _ => pts_nil) (fun _ _ _ _ _ => (pe_ix (i_ix (K := K)) (pv 1) (pe_op o_mod (pe_op o_add (pv 2) (pe_op o_mul (pv 3) (pv 5))) pe_int) (fun _ _ => rfl)))))))))), ?_⟩
    walk_at "go"
    refine ⟨a, 26, rfl, hp, by decide, by decide, fun d1 H1 a0 a1 f1 p1 => ?_⟩
    walk_at "go"
    refine ⟨a, 6, rfl, by walk_at "pu", by decide, by decide, fun d2 H3 b0 b1 f2 p2 => ?_⟩
    walk_at "go"
    refine st_ixI [1, 3, 5, 7, 9, 11] (by walk_at "hp") rfl b0 b1 (fun st _ hst => ?_)
    walk_at "go"
    refine ⟨a, 8, rfl, by walk_at "pu", by decide, by decide, fun d3 H5 c0 c1 f3 p3 => ?_⟩
    walk_at "go"
    refine st_ixI [1, 2, 2, 3, 3, 4, 5, 26] (by walk_at "hp") rfl c0 c1 (fun mn _ hmn => ?_)
    have hm : 1 ≤ mn ∧ mn ≤ 26 := by simp at hmn; omega
    have hs : 1 ≤ st ∧ st ≤ 11 := by simp at hst; omega
    walk_at "go"
    refine lc_map (rv_range 0 mn.toNat) (fun _ _ => trivial) (by rw [List.length_range]; omega) (fun (i : Nat) => vSign (97 + ((d1 + st * (i : Int)) % 26).toNat)) ?_ ?_
    · intro i H' hi e B h1
      refine ⟨rfl, ?_⟩
      have h1' := h1 _ (Fr.refl _)
      walk_at "go"
      rw [Int.zero_add]
      refine st_sign (by rw [letters_len]; decide) (at_letters _ (Int.emod_nonneg _ (by decide)) (Int.emod_lt_of_pos _ (by decide))) ?_
      exact h1'
    · intro D H' hD e hd
      have hd' : H' D = some (.lst (((List.range mn.toNat).map fun (i : Nat) => 97 + ((d1 + st * (i : Int)) % 26).toNat).map vSign)) := by rw [hd, List.map_map]; rfl
      have fr : FrP a H H' := by walk_at "fr"
      refine k D _ H' ?_ fr (by walk_at "pu") hd' (by rw [List.length_map, List.length_range]; omega) (by rw [List.length_map, List.length_range]; omega) ?_
      · exact (show FrP a H H5 by walk_at "fr").free (Purse.ne p3 hD) hD
      · intro c hc
        obtain ⟨i, _, rfl⟩ := List.mem_map.mp hc
        have h0 : 0 ≤ (d1 + st * (i : Int)) % 26 := Int.emod_nonneg _ (by decide)
        have h1 : (d1 + st * (i : Int)) % 26 < 26 := Int.emod_lt_of_pos _ (by decide)
        unfold isLet
        omega
def sp__law_drawn : Sp := fun vs H Q _ => ∃ (a q : Addr) (ss : List Nat) (m : Int), vs = [.ref a, .ref q, .int m] ∧ Purse H a ∧ H q = some (.lst (ss.map vSign)) ∧ (1 ≤ ss.length ∧ ss.length ≤ 1000) ∧ q ≠ a ∧ (0 ≤ m ∧ m ≤ 1000) ∧
  ∀ (cs : List Nat) (H' : Hp), FrP a H H' → Purse H' a → (cs.length ≤ 12 ∨ (cs.length : Int) ≤ m) → (∀ c ∈ cs, c ∈ ss) → Q (.str (tx cs)) H'
theorem ok__law_drawn (T : Tx K mg ad fd tk) : FnOk P w K mg base CX0 2 (ad 21) (fd 21) ["_law_purse_here", "_law_signs", "_law_most"] sp__law_drawn := by
  refine T.d__law_drawn.F.ok sc__law_drawn (fun vs H Q E h => ?_) (fun cdv A outer s H vs Q E hr h => ?_)
  · obtain ⟨a, q, ss, m, rfl, _⟩ := h
    rfl
  · obtain ⟨a, q, ss, m, rfl, hp, hq, hl, hqa, hm, k⟩ := h
    refine ⟨_, (pss_cons (ps_set (i := 3) sc__law_drawn.nd rfl (Or.inl rfl) (pe_call (ok__law_take T) (hr.mono (by decide)) rfl T.d__law_take.g T.d__law_take.F.kp T.d__law_take.b .nil pass0 (pa_cons (pv 0) (pa_cons (pe_ix (i_ix (K := K)) (pe_lst (pa_cons pe_int (pa_cons pe_int (pa_cons pe_int (pa_cons pe_int (pa_cons pe_int (pa_cons pe_int (pa_cons pe_int (pa_cons (pe_op o_add (pv 2) pe_int) pa_nil))))))))) (pe_call (ok__law_take T) (hr.mono (by decide)) rfl T.d__law_take.g T.d__law_take.F.kp T.d__law_take.b .nil pass0 (pa_cons (pv 0) (pa_cons pe_int pa_nil))) (fun _ _ => rfl)) pa_nil))))
      (pss_one (ps_ret (pe_join pe_str (pe_lc (own := [("_law_k", 4)]) (g := gName 4) rfl sc__law_drawn.nd (pi_range1 rfl T.b_range (pa_cons (pv 3) pa_nil)) (blkOk_by (own := [("_law_k", 4)]) (N := N__law_drawn) (sc := defScope s__law_drawn) (by decide +kernel)) (fun _ _ _ _ _ => pg_name (i := 4) sc__law_drawn.nd rfl (Or.inl rfl)) (fun _ _ _ _ _ => pts_nil) (fun _ _ _ _ _ => (pe_ix (i_ix (K := K)) (pv 1) (pe_call (ok__law_take T) (hr.mono (by decide)) rfl T.d__law_take.g T.d__law_take.F.kp T.d__law_take.b .nil pass0 (pa_cons (pv 0) (pa_cons (pe_callB (c_len (K := K)) (by rfl) T.b_len (by decide +kernel) (pa_cons (pv 1) pa_nil)) pa_nil))) (fun _ _ => rfl)))))))), ?_⟩
    walk_at "go"
    refine ⟨a, 8, rfl, by walk_at "pu", by decide, by decide, fun d1 H2 a0 a1 f1 p1 => ?_⟩
    walk_at "go"
    refine st_ixI [3, 5, 7, 9, 9, 9, 13, m + 1] (by walk_at "hp") rfl a0 a1 (fun sz _ hsz => ?_)
    have hs : 1 ≤ sz ∧ (sz ≤ 13 ∨ sz ≤ m + 1) := by simp at hsz; omega
    walk_at "go"
    refine ⟨a, sz, rfl, by walk_at "pu", by omega, by omega, fun d2 H3 b0 b1 f2 p2 => ?_⟩
    walk_at "go"
    rw [Zb.tx_nil]
    walk_at "go"
    have hq3 : H3 q = some (.lst (ss.map vSign)) := by walk_at "hp"
    refine lc_runs (runs_range 0 d2.toNat) (fun b => b = a) (fun i acc H' => Purse H' a ∧ ∃ cs : List Nat, acc = cs.map vSign ∧ cs.length = i ∧ ∀ c ∈ cs, c ∈ ss) (fun b e => by subst e; obtain ⟨x, y, z, h⟩ := p2; rw [h]; simp) ⟨p2, [], rfl, rfl, by simp⟩ ?_ (fun _ _ _ _ _ => trivial) ?_ ?_
    · rintro i acc H' D o hD e ⟨⟨x, y, z, h1⟩, h2⟩
      exact ⟨⟨x, y, z, by rw [upd_ne (Ne.symm (Purse.ne p2 hD))]; exact h1⟩, h2⟩
    · rintro D i acc x H' H'' hi L ⟨pu, cs, rfl, hc, hm'⟩ ⟨rfl, rfl⟩
      refine ⟨rfl, ?_⟩
      have hq4 : H'' q = some (.lst (ss.map vSign)) := L.fr _ _ hqa hq3
      walk_at "go"
      refine ⟨a, (ss.map vSign).length, rfl, pu, by rw [List.length_map]; omega, by rw [List.length_map]; omega, fun d3 H5 c0 c1 f3 p3 => ?_⟩
      rw [List.length_map] at c1
      have hq5 : H5 q = some (.lst (ss.map vSign)) := f3 _ _ hqa hq4
      walk_at "go"
      refine st_ixS (ss.map fun c => tx [c]) hq5 (by rw [List.map_map]; rfl) c0 (by rw [List.length_map]; exact c1) (fun z hz hz2 => ?_)
      obtain ⟨c, hc2, rfl⟩ := List.mem_map.mp hz2
      refine lc_yes (acc := cs.map vSign) L ?_ f3 (by rw [List.length_map]; omega) ⟨p3, cs ++ [c], by rw [List.map_append]; rfl, by rw [List.length_append, hc]; rfl, ?_⟩
      · rintro i acc H' D o hD e ⟨⟨x, y, z, h1⟩, h2⟩
        exact ⟨⟨x, y, z, by rw [upd_ne (Ne.symm (Purse.ne p2 hD))]; exact h1⟩, h2⟩
      · intro c' hc'
        rcases List.mem_append.mp hc' with h | h
        · exact hm' c' h
        · rw [List.mem_singleton.mp h]; exact hc2
    · rintro D acc H' hD e hat ⟨pu, cs, rfl, hc, hm'⟩
      walk_at "go"
      refine st_join (ys := cs.map fun c => tx [c]) hat (by rw [List.map_map]; rfl) (by rw [sum_signs, List.length_map, tx_length]; simp; omega) ?_
      have kk := k cs H' ((show FrP a H H3 by walk_at "fr").trans e) pu (by omega) hm'
      rw [← join_signs] at kk
      rw [← Zb.tx_nil]
      exact kk
/-- a thing that is no row, and may be shown -/
structure BadV (H : Hp) (v : V) : Prop where
  th : Thg H v
  no : isRow v = false
  sh : ∃ d, Sh H v d 100000 5
theorem BadV.ex {H H' : Hp} {v : V} (h : BadV H v) (e : Ex H H') : BadV H' v := ⟨h.th.ex e, h.no, by obtain ⟨d, h⟩ := h.sh; exact ⟨d, h.ex e⟩⟩
theorem isRow_str {z : Str} (h : ∃ c ∈ z.cps.toList, rowSign c = false) : isRow (.str z) = false := by
  obtain ⟨c, h1, h2⟩ := h
  show (decide (z.length ≤ 48) && z.cps.toList.all rowSign) = false
  have : z.cps.toList.all rowSign = false := by
    rw [Bool.eq_false_iff]
    intro h
    rw [List.all_eq_true] at h
    rw [h c h1] at h2
    cases h2
  rw [this, Bool.and_false]
theorem isRow_long {z : Str} (h : 48 < z.length) : isRow (.str z) = false := by
  show (decide (z.length ≤ 48) && z.cps.toList.all rowSign) = false
  rw [decide_eq_false (by omega), Bool.false_and]
theorem log_small {n : Int} (h : n.natAbs < 1000000) : n.natAbs.log2 < 1920 := by
  by_cases h0 : n.natAbs = 0
  · rw [h0]; decide
  · exact (Nat.log2_lt h0).mpr (Nat.lt_of_lt_of_le (Nat.lt_trans h (show 1000000 < 2 ^ 20 by decide)) (Nat.pow_le_pow_right (by decide) (by decide)))
theorem odd_signs : ∀ o ∈ (["A", "0", " ", "-", "_", "\n"] : List Str), ∃ c, o = tx [c] ∧ rowSign c = false ∧ c < 200 := by
  intro o ho
  have : ∀ o ∈ (["A", "0", " ", "-", "_", "\n"] : List Str), o = tx [o.cps.toList.headD 0] ∧ rowSign (o.cps.toList.headD 0) = false ∧ o.cps.toList.headD 0 < 200 := by decide +kernel
  exact ⟨_, this o ho⟩
def sp__law_bad (K : PySem.W.Frag) : Sp := fun vs H Q _ => ∃ (p : Addr) (cs : List Nat), vs = [.ref p, .str (tx cs)] ∧ Purse H p ∧ cs.length ≤ 48 ∧ (∀ c ∈ cs, isLet c) ∧ ∀ v H', FrP p H H' → Purse H' p → BadV (hid p H') v → Q v H'
theorem ok__law_bad (T : Tx K mg ad fd tk) : FnOk P w K mg base CX0 2 (ad 22) (fd 22) ["_law_purse_here", "_law_row"] (sp__law_bad K) := by
  refine T.d__law_bad.F.ok sc__law_bad (fun vs H Q E h => ?_) (fun cdv A outer s H vs Q E hr h => ?_)
  · obtain ⟨p, cs, rfl, _⟩ := h
    rfl
  · obtain ⟨p, cs, rfl, hp, hl, hc, k⟩ := h
    refine ⟨_, (pss_cons (ps_set (i := 2) sc__law_bad.nd rfl (Or.inl rfl) (pe_call (ok__law_take T) (hr.mono (by decide)) rfl T.d__law_take.g T.d__law_take.F.kp T.d__law_take.b .nil pass0 (pa_cons (pv 0) (pa_cons pe_int pa_nil))))
      (pss_cons (ps_set (i := 3) sc__law_bad.nd rfl (Or.inl rfl) (pe_call (ok__law_take T) (hr.mono (by decide)) rfl T.d__law_take.g T.d__law_take.F.kp T.d__law_take.b .nil pass0 (pa_cons (pv 0) (pa_cons (pe_op o_add (pe_callB (c_len (K := K)) (by rfl) T.b_len (by decide +kernel) (pa_cons (pv 1) pa_nil)) pe_int) pa_nil))))
      (pss_cons (ps_if (pt_cmpR (o_eq hr.units) (pv 2) pe_int (nomark _)) (pss_one (ps_ret (pe_op o_add (pe_op o_add (pe_slice (s_sl (K := K)) (pv 1) po_none (po_some (pv 3))) (pe_ix (i_ix (K := K)) (pe_lst (pa_cons pe_str (pa_cons pe_str (pa_cons pe_str (pa_cons pe_str (pa_cons pe_str (pa_cons pe_str pa_nil))))))) (pe_call (ok__law_take T) (hr.mono (by decide)) rfl T.d__law_take.g T.d__law_take.F.kp T.d__law_take.b .nil pass0 (pa_cons (pv 0) (pa_cons pe_int pa_nil))) (fun _ _ => rfl))) (pe_slice (s_sl (K := K)) (pv 1) (po_some (pv 3)) po_none)))) pss_nil)
      (pss_cons (ps_if (pt_cmpR (o_eq hr.units) (pv 2) pe_int (nomark _)) (pss_one (ps_ret (pe_slice (s_sl (K := K)) (pe_op o_mul (pe_op o_add (pv 1) pe_str) pe_int) po_none (po_some pe_int)))) pss_nil)
      (pss_cons (ps_set (i := 4) sc__law_bad.nd rfl (Or.inl rfl) (pe_lst (pa_cons (pe_callTy (c_list rfl (K := K)) (by rfl) T.b_list (by decide +kernel) (pa_cons (pv 1) pa_nil)) (pa_cons (pe_tup (pa_cons (pv 1) pa_nil)) (pa_cons (pe_callB (c_len (K := K)) (by rfl) T.b_len (by decide +kernel) (pa_cons (pv 1) pa_nil)) (pa_cons pe_bl (pa_cons pe_non (pa_cons pe_dnewK (pa_cons (pe_lst pa_nil) (pa_cons (pe_disp (pps_cons (pv 1) (pv 1) pps_nil) (by rfl) (by rfl) (fun z => by cases z) (by decide)) (pa_cons (pe_op o_pow pe_int pe_int) pa_nil)))))))))))
      (pss_one (ps_ret (pe_ix (i_ix (K := K)) (pv 4) (pe_call (ok__law_take T) (hr.mono (by decide)) rfl T.d__law_take.g T.d__law_take.F.kp T.d__law_take.b .nil pass0 (pa_cons (pv 0) (pa_cons pe_int pa_nil))) (fun _ _ => rfl))))))))), ?_⟩
    have hlen : (tx cs).length ≤ 48 := by rw [tx_length]; exact hl
    have hsm : ∀ c ∈ (tx cs).cps.toList, c < 16 ^ 8 := fun c h => by
      rw [tx_toList] at h
      have := hc c h
      unfold isLet at this
      omega
    walk_at "go"
    refine ⟨p, 4, rfl, hp, by decide, by decide, fun w H1 w0 w1 f1 pu1 => ?_⟩
    walk_at "go"
    refine ⟨p, _, rfl, pu1, by omega, by omega, fun t H2 t0 t1 f2 pu2 => ?_⟩
    have f02 : FrP p H H2 := f1.trans f2
    walk_at "go"
    refine st_br2 (fun c => ?_) (fun c => ?_)
    · walk_at "go"
      refine ⟨p, 6, rfl, by walk_at "pu", by decide, by decide, fun u H6 c0 c1 f5 p5 => ?_⟩
      walk_at "go"
      refine st_ixS ["A", "0", " ", "-", "_", "\n"] (by walk_at "hp") rfl c0 c1 (fun o _ ho => ?_)
      obtain ⟨c, rfl, hc1, hc2⟩ := odd_signs o ho
      walk_at "go"
      have l1 := cutS_len (tx cs) none (some t)
      have l2 := cutS_len (tx cs) (some t) none
      have l3 := tx_length [c]
      refine st_addS (by rw [l3]; simp; omega) ?_
      walk_at "go"
      refine st_addS (by rw [Str.length_append, l3]; simp; omega) ?_
      have hlz : (cutS (tx cs) none (some t) ++ tx [c] ++ cutS (tx cs) (some t) none).length ≤ 100 := by rw [Str.length_append, Str.length_append, l3]; simp; omega
      have hmem : ∀ x ∈ (cutS (tx cs) none (some t) ++ tx [c] ++ cutS (tx cs) (some t) none).cps.toList, x = c ∨ x ∈ cs := fun x hx => by
        have hcut : ∀ lo hi, ∀ x ∈ (cutS (tx cs) lo hi).cps.toList, x ∈ cs := fun lo hi x hx => by
          have : (cutS (tx cs) lo hi).cps.toList = (((tx cs).cps.toList.drop (HT.sIx (tx cs).length 0 lo)).take (HT.sIx (tx cs).length (tx cs).length hi - HT.sIx (tx cs).length 0 lo)) := by simp [cutS]
          rw [this] at hx
          have := List.mem_of_mem_drop (List.mem_of_mem_take hx)
          rwa [tx_toList] at this
        have : (cutS (tx cs) none (some t) ++ tx [c] ++ cutS (tx cs) (some t) none).cps.toList = (cutS (tx cs) none (some t)).cps.toList ++ [c] ++ (cutS (tx cs) (some t) none).cps.toList := by
          show ((cutS (tx cs) none (some t)).cps ++ (tx [c]).cps ++ (cutS (tx cs) (some t) none).cps).toList = _
          simp [tx]
        rw [this] at hx
        rcases List.mem_append.mp hx with h | h
        · rcases List.mem_append.mp h with h | h
          · exact .inr (hcut _ _ x h)
          · exact .inl (List.mem_singleton.mp h)
        · exact .inr (hcut _ _ x h)
      refine k _ _ (by walk_at "fr") (by walk_at "pu") ⟨thg_str (by omega), isRow_str ⟨c, ?_, hc1⟩, _, (Sh.str fun x hx => ?_).up (by omega) (by decide)⟩
      · have : (cutS (tx cs) none (some t) ++ tx [c] ++ cutS (tx cs) (some t) none).cps.toList = (cutS (tx cs) none (some t)).cps.toList ++ [c] ++ (cutS (tx cs) (some t) none).cps.toList := by
          show ((cutS (tx cs) none (some t)).cps ++ (tx [c]).cps ++ (cutS (tx cs) (some t) none).cps).toList = _
          simp [tx]
        rw [this]
        simp
      · rcases hmem x hx with h | h
        · omega
        · have := hc x h
          unfold isLet at this
          omega
    walk_at "go"
    refine st_br2 (fun c => ?_) (fun c => ?_)
    · walk_at "go"
      have hab : ("a." : Str) = tx [97, 46] := by decide +kernel
      have habl := tx_length [97, 46]
      rw [hab]
      refine st_addS (by rw [habl]; simp; omega) ?_
      walk_at "go"
      refine st_mulS (by decide) (by decide) (by rw [Str.length_append, habl]; simp; omega) ?_
      have hm : (Txt.mul (tx cs ++ tx [97, 46]) 49).length = (tx cs ++ tx [97, 46]).length * 49 := fold_len' (tx cs ++ tx [97, 46]) 49 (by decide) (by rw [Str.length_append, habl]; simp)
      rw [Str.length_append, habl] at hm
      simp only [List.length_cons, List.length_nil] at hm
      walk_at "go"
      have l1 : (cutS (Txt.mul (tx cs ++ tx [97, 46]) 49) none (some 49)).length = 49 := cutS_to_len _ 49 (by omega)
      refine k _ _ f02 pu2 ⟨thg_str (by omega), isRow_long (by omega), _, (Sh.str fun x hx => ?_).up (n' := 100000) (by omega) (by decide)⟩
      have h1 : x ∈ (Txt.mul (tx cs ++ tx [97, 46]) 49).cps.toList := by
        have : (cutS (Txt.mul (tx cs ++ tx [97, 46]) 49) none (some 49)).cps.toList = (((Txt.mul (tx cs ++ tx [97, 46]) 49).cps.toList.drop (HT.sIx (Txt.mul (tx cs ++ tx [97, 46]) 49).length 0 none)).take (HT.sIx (Txt.mul (tx cs ++ tx [97, 46]) 49).length (Txt.mul (tx cs ++ tx [97, 46]) 49).length (some 49) - HT.sIx (Txt.mul (tx cs ++ tx [97, 46]) 49).length 0 none)) := by simp [cutS]
        rw [this] at hx
        exact List.mem_of_mem_drop (List.mem_of_mem_take hx)
      rw [app_tx] at h1
      have h2 := mul_mem h1
      rw [tx_toList] at h2
      rcases List.mem_append.mp h2 with h | h
      · have := hc x h
        unfold isLet at this
        omega
      · have : x = 97 ∨ x = 46 := by simpa using h
        omega
    walk_at "go"
    rename_i q1 G1 n1 e1 v1 ne1 pp1 q2 G2 n2 e2 v2 ne2 pp2 q3 G3 n3 e3 v3 ne3 pp3 q4 G4 n4 e4 v4 ne4 pp4 q5 G5 n5 e5 v5 ne5 pp5
    refine st_dispEnd e5 n5 v5 [(Sum.inr (tx cs), .str (tx cs))] rfl (by simp) (fun G6 e6 v6 => ?_)
    have pp6 := pp4.ex e6
    have v1' := e6.get (e4.get (e3.get (e2.get v1)))
    have v2' := e6.get (e4.get (e3.get v2))
    have v3' := e6.get (e4.get v3)
    have v4' := e6.get v4
    have f26 : FrP p H2 G6 := Fr.ex ((((e1.trans e2).trans e3).trans e4).trans e6)
    walk_at "go"
    rename_i q7 G7 n7 e7 v7 ne7 pp7
    refine ⟨p, 9, rfl, pp7, by decide, by decide, fun u G8 c0 c1 f8 p8 => ?_⟩
    walk_at "go"
    refine st_ixA (seq_l (f8.get ne7 v7)) c0 (by simp only [List.length_cons, List.length_nil]; omega) (fun v hv hm => ?_)
    refine k v _ (f02.trans (f26.trans ((Fr.ex e7).trans f8))) p8 ?_
    have w1 := hid_get (p := p) (f8.get ne1 (e7.get v1')) ne1
    have w2 := hid_get (p := p) (f8.get ne2 (e7.get v2')) ne2
    have w3 := hid_get (p := p) (f8.get ne3 (e7.get v3')) ne3
    have w4 := hid_get (p := p) (f8.get ne4 (e7.get v4')) ne4
    have w5 : hid p G8 q5 = some (.dK [(.inr (tx cs), .str (tx cs))]) := hid_get (f8.get ne5 (e7.get v6)) ne5
    have hcl : (tx cs).cps.toList.length ≤ 48 := by rw [tx_toList]; exact hl
    clear hv; revert v
    refine allE_cons ⟨⟨ty_lst w1, fun z e => by cases e⟩, rfl, _, (ShA.lst w1 (ShA.map (m := 12) (enc := fun c => .str (tx [c])) fun c hx => (Sh.str (fun x h => by
      rw [tx_toList] at h
      rw [List.mem_singleton.mp h]
      exact hsm c hx)).up (by rw [tx_length]; simp) (Nat.le_refl _))).up (by omega) (by decide)⟩ ?_
    refine allE_cons ⟨⟨ty_tup w2, fun z e => by cases e⟩, rfl, _, (ShA.tup w2 (.cons (Sh.str hsm) .nil)).up (by omega) (by decide)⟩ ?_
    refine allE_cons ⟨⟨ty_int _, fun z e => by cases e⟩, rfl, _, (Sh.int (m := 6) (by decide) (by omega) (log_small (by omega))).up (by decide) (by decide)⟩ ?_
    refine allE_cons ⟨⟨ty_bl _, fun z e => by cases e⟩, rfl, _, (Sh.bl _).up (by decide) (by decide)⟩ ?_
    refine allE_cons ⟨⟨ty_non, fun z e => by cases e⟩, rfl, _, Sh.non.up (by decide) (by decide)⟩ ?_
    refine allE_cons ⟨⟨ty_dK w3, fun z e => by cases e⟩, rfl, _, (Sh.dk0 w3).up (by decide) (by decide)⟩ ?_
    refine allE_cons ⟨⟨ty_lst w4, fun z e => by cases e⟩, rfl, _, (ShA.lst (k := 0) w4 .nil).up (by decide) (by decide)⟩ ?_
    refine allE_cons ⟨⟨ty_dK w5, fun z e => by cases e⟩, rfl, _, (Sh.dk1 hsm w5 (Sh.str hsm)).up (by omega) (by decide)⟩ ?_
    exact allE_cons ⟨⟨ty_int _, fun z e => by cases e⟩, rfl, _, (Sh.int (m := 40) (by decide) (by decide) (by decide)).up (by decide) (by decide)⟩ allE_nil
def RefV (H : Hp) (x y v : V) (k0 : Hp → Prop) (k1 : V → Addr → Hp → Prop) : Prop := (∃ s t d, x = .str s ∧ y = .str t ∧ RowS s ∧ RowS t ∧ Sd H v d ∧ ∀ H', Ex H H' → k0 H') ∨
  (Thg H x ∧ Thg H y ∧ ((isRow x = false ∧ ∀ p H', Ex H H' → H' p = some (.lst [.bl true, .bl false, .bl true, x]) → k1 x p H') ∨ (isRow x = true ∧ isRow y = false ∧ ∀ p H', Ex H H' → H' p = some (.lst [.bl true, .bl false, .bl true, y]) → k1 y p H')))
def sp__law_refused (K : PySem.W.Frag) : Sp := fun vs H Q _ => ∃ (w : Int) (x y v : V), vs = [.int w, x, y, v] ∧ RefV H x y v (fun H' => Q .non H') (fun _ p H' => Q (.ref p) H')
theorem ok__law_refused (T : Tx K mg ad fd tk) : FnOk P w K mg base CX0 8 (ad 23) (fd 23) ["_law_way", "_law_one", "_law_other", "_law_thing"] (sp__law_refused K) := by
  refine T.d__law_refused.F.ok sc__law_refused (fun vs H Q E h => ?_) (fun cdv A outer s H vs Q E hr h => ?_)
  · obtain ⟨w, x, y, v, rfl, _⟩ := h
    rfl
  · obtain ⟨w, x, y, v, rfl, hR⟩ := h
    refine ⟨_, (pss_cons (ps_set (i := 4) sc__law_refused.nd rfl (Or.inl rfl) pe_non)
      (pss_cons (ps_tryG rfl rfl takes0 (fun W pn xe tk hp => (pss_one (ps_if (pt_cmpR (o_eq hr.units) (pv 0) pe_int (nomark _)) (pss_one (ps_expr (pe_callS (E := WE W) (ok_pairs_of T) (hr.mono (by decide)) rfl T.d_pairs_of.g T.d_pairs_of.F.kp T.d_pairs_of.b (fun σ => passAt tk σ) (pa_cons (pv 1) (pa_cons (pv 2) pa_nil))))) (pss_one (ps_if (pt_cmpR (o_eq hr.units) (pv 0) pe_int (nomark _)) (pss_one (ps_expr (pe_callS (E := WE W) (ok_heaps_of T) (hr.mono (by decide)) rfl T.d_heaps_of.g T.d_heaps_of.F.kp T.d_heaps_of.b (fun σ => passAt tk σ) (pa_cons (pv 1) (pa_cons (pv 2) pa_nil))))) (pss_one (ps_if (pt_cmpR (o_eq hr.units) (pv 0) pe_int (nomark _)) (pss_one (ps_expr (pe_callS (E := WE W) (ok_are_heaps T) (hr.mono (by decide)) rfl T.d_are_heaps.g T.d_are_heaps.F.kp T.d_are_heaps.b (fun σ => passAt tk σ) (pa_cons (pv 1) (pa_cons (pv 2) (pa_cons (pv 3) pa_nil)))))) (pss_one (ps_if (pt_cmpR (o_eq hr.units) (pv 0) pe_int (nomark _)) (pss_one (ps_expr (pe_callS (E := WE W) (ok_paper_of T) (hr.mono (by decide)) rfl T.d_paper_of.g T.d_paper_of.F.kp T.d_paper_of.b (fun σ => passAt tk σ) (pa_cons (pv 1) (pa_cons (pv 2) pa_nil))))) (pss_one (ps_expr (pe_callS (E := WE W) (ok_shows T) (hr.mono (by decide)) rfl T.d_shows.g T.d_shows.F.kp T.d_shows.b (fun σ => passAt tk σ) (pa_cons (pv 1) (pa_cons (pv 2) (pa_cons (pv 3) pa_nil)))))))))))))))
      (.named (i := 5) sc__law_refused.nd rfl rfl ⟨rfl, by decide, Or.inl T.e_NoRow.g⟩ (fun a oe cls d pn hz hf => (pss_one (ps_set (i := 4) sc__law_refused.nd rfl (Or.inl rfl) (pe_lst (pa_cons (pe_callB (call_isX hz hf) (by rfl) T.b_isinstance (by decide +kernel) (pa_cons (pv 5) (pa_cons (pe_glob (v := .ref (clsA K "PaneError")) rfl T.e_PaneError.g rfl) pa_nil))) (pa_cons (pe_callB (call_isXs hz hf) (by rfl) T.b_isinstance (by decide +kernel) (pa_cons (pv 5) (pa_cons (pe_tup (pa_cons (pe_glob (v := .ref (clsA K "NoPlain")) rfl T.e_NoPlain.g rfl) (pa_cons (pe_glob (v := .ref (clsA K "NoThread")) rfl T.e_NoThread.g rfl) pa_nil))) pa_nil))) (pa_cons (pe_callB (call_isX hz hf) (by rfl) T.b_isinstance (by decide +kernel) (pa_cons (pv 5) (pa_cons (pe_bltn (v := .ty "ValueError") rfl T.b_ValueError (by decide +kernel) rfl) pa_nil))) (pa_cons (pe_xe hz hf (pv 5)) pa_nil)))))))) (.one ⟨rfl, by decide, Or.inl T.e_PaneError.g⟩ (fun a oe cls d pn hz hf => (pss_one (ps_set (i := 4) sc__law_refused.nd rfl (Or.inl rfl) (pe_lst (pa_cons pe_str pa_nil))))) .nil)) pss_nil)
      (pss_one (ps_ret (pv 4))))), ?_⟩
    rcases hR with ⟨s, t, d, rfl, rfl, hs, ht, hd, k0⟩ | ⟨h1, h2, ⟨hb, k1⟩ | ⟨hx, hb, k1⟩⟩
    · walk_at "go"
      refine st_br2 (fun c => ?_) (fun c => ?_)
      · walk_at "go"
        refine ⟨.str s, .str t, rfl, .inl ⟨s, t, rfl, rfl, hs, ht, fun p ts H1 e1 PA => ?_⟩⟩
        walk_at "go"
        exact k0 _ e1
      walk_at "go"
      refine st_br2 (fun c => ?_) (fun c => ?_)
      · walk_at "go"
        refine ⟨.str s, .str t, rfl, .inl ⟨s, t, rfl, rfl, hs, ht, fun d1 hs1 tss H1 e1 HA => ?_⟩⟩
        walk_at "go"
        exact k0 _ e1
      walk_at "go"
      refine st_br2 (fun c => ?_) (fun c => ?_)
      · walk_at "go"
        refine ⟨.str s, .str t, v, rfl, .inl ⟨s, t, rfl, rfl, hs, ht, d, hd.rn, hd.hd, hd.sz, hd.dp, fun H1 b e1 hb => ?_⟩⟩
        walk_at "go"
        exact k0 _ e1
      walk_at "go"
      refine st_br2 (fun c => ?_) (fun c => ?_)
      · walk_at "go"
        refine ⟨.str s, .str t, rfl, .inl ⟨s, t, rfl, rfl, hs, ht, fun U p zs d1 hs1 tss H1 H2 H3 e1 e2 e3 _ _ _ _ _ _ _ => ?_⟩⟩
        walk_at "go"
        exact k0 _ ((e1.trans e2).trans e3)
      walk_at "go"
      refine ⟨.str s, .str t, v, rfl, .inl ⟨s, t, rfl, rfl, hs, ht, d, hd, fun H1 b e1 hb => ?_⟩⟩
      walk_at "go"
      exact k0 _ e1
    · walk_at "go"
      refine st_br2 (fun c => ?_) (fun c => ?_)
      · walk_at "go"
        refine ⟨x, y, rfl, .inr ⟨h1, h2, .inl ⟨hb, fun d H1 hd e1 hv => ?_⟩⟩⟩
        walk_at "go"
        rename_i q9 G9 n9 e9 v9
        exact k1 _ _ ((e1.trans (by walk_at "fr")).trans e9) v9
      walk_at "go"
      refine st_br2 (fun c => ?_) (fun c => ?_)
      · walk_at "go"
        refine ⟨x, y, rfl, .inr ⟨h1, h2, .inl ⟨hb, fun d H1 hd e1 hv => ?_⟩⟩⟩
        walk_at "go"
        rename_i q9 G9 n9 e9 v9
        exact k1 _ _ ((e1.trans (by walk_at "fr")).trans e9) v9
      walk_at "go"
      refine st_br2 (fun c => ?_) (fun c => ?_)
      · walk_at "go"
        refine ⟨x, y, v, rfl, .inr ⟨h1, h2, .inl ⟨hb, fun d H1 hd e1 hv => ?_⟩⟩⟩
        walk_at "go"
        rename_i q9 G9 n9 e9 v9
        exact k1 _ _ ((e1.trans (by walk_at "fr")).trans e9) v9
      walk_at "go"
      refine st_br2 (fun c => ?_) (fun c => ?_)
      · walk_at "go"
        refine ⟨x, y, rfl, .inr ⟨h1, h2, .inl ⟨hb, fun d H1 hd e1 hv => ?_⟩⟩⟩
        walk_at "go"
        rename_i q9 G9 n9 e9 v9
        exact k1 _ _ ((e1.trans (by walk_at "fr")).trans e9) v9
      walk_at "go"
      refine ⟨x, y, v, rfl, .inr ⟨h1, h2, .inl ⟨hb, fun d H1 hd e1 hv => ?_⟩⟩⟩
      walk_at "go"
      rename_i q9 G9 n9 e9 v9
      exact k1 _ _ ((e1.trans (by walk_at "fr")).trans e9) v9
    · walk_at "go"
      refine st_br2 (fun c => ?_) (fun c => ?_)
      · walk_at "go"
        refine ⟨x, y, rfl, .inr ⟨h1, h2, .inr ⟨hx, hb, fun d H1 hd e1 hv => ?_⟩⟩⟩
        walk_at "go"
        rename_i q9 G9 n9 e9 v9
        exact k1 _ _ ((e1.trans (by walk_at "fr")).trans e9) v9
      walk_at "go"
      refine st_br2 (fun c => ?_) (fun c => ?_)
      · walk_at "go"
        refine ⟨x, y, rfl, .inr ⟨h1, h2, .inr ⟨hx, hb, fun d H1 hd e1 hv => ?_⟩⟩⟩
        walk_at "go"
        rename_i q9 G9 n9 e9 v9
        exact k1 _ _ ((e1.trans (by walk_at "fr")).trans e9) v9
      walk_at "go"
      refine st_br2 (fun c => ?_) (fun c => ?_)
      · walk_at "go"
        refine ⟨x, y, v, rfl, .inr ⟨h1, h2, .inr ⟨hx, hb, fun d H1 hd e1 hv => ?_⟩⟩⟩
        walk_at "go"
        rename_i q9 G9 n9 e9 v9
        exact k1 _ _ ((e1.trans (by walk_at "fr")).trans e9) v9
      walk_at "go"
      refine st_br2 (fun c => ?_) (fun c => ?_)
      · walk_at "go"
        refine ⟨x, y, rfl, .inr ⟨h1, h2, .inr ⟨hx, hb, fun d H1 hd e1 hv => ?_⟩⟩⟩
        walk_at "go"
        rename_i q9 G9 n9 e9 v9
        exact k1 _ _ ((e1.trans (by walk_at "fr")).trans e9) v9
      walk_at "go"
      refine ⟨x, y, v, rfl, .inr ⟨h1, h2, .inr ⟨hx, hb, fun d H1 hd e1 hv => ?_⟩⟩⟩
      walk_at "go"
      rename_i q9 G9 n9 e9 v9
      exact k1 _ _ ((e1.trans (by walk_at "fr")).trans e9) v9
def sp_law (K : PySem.W.Frag) : Sp := fun vs H Q _ => ∃ (a : Addr) (ns : List Int), vs = [.ref a] ∧ Scr K H a ns ∧ ns.length ≤ 63 ∧ ∀ H', Q (.bl true) H'
theorem cells_of {ns : List Int} {z : Int} {k : Option Int} : ∃ cells : List Int, cutV (ns.map V.int) none k ++ [V.int z] = cells.map V.int := by
  refine ⟨((ns.drop (HT.sIx (ns.map V.int).length 0 none)).take (HT.sIx (ns.map V.int).length (ns.map V.int).length k - HT.sIx (ns.map V.int).length 0 none)) ++ [z], ?_⟩
  unfold cutV
  rw [List.map_append, List.map_take, List.map_drop]
  rfl
theorem rowS_of {ss cs : List Nat} (hs : ∀ c ∈ ss, isLet c) (hl : cs.length ≤ 48) (hc : ∀ c ∈ cs, c ∈ ss ∨ c = 46) : RowS (tx cs) := by
  show (decide ((tx cs).length ≤ 48) && (tx cs).cps.toList.all rowSign) = true
  rw [tx_length, tx_toList, decide_eq_true hl, Bool.true_and, List.all_eq_true]
  intro c hx
  unfold rowSign
  rw [Bool.or_eq_true, decide_eq_true_eq, decide_eq_true_eq]
  rcases hc c hx with h | h
  · exact .inl (hs c h)
  · exact .inr h
theorem ok_law (T : Tx K mg ad fd tk) : FnG P w K mg base CX0 9 (ad 24) (fd 24) ["_law_script"] (sp_law K) := by
  refine okG T.d_law.F sc_law (fun vs H Q E h => ?_) (fun cdv A outer s H vs Q E hg hr h => ?_)
  · obtain ⟨a, ns, rfl, _⟩ := h
    rfl
  · obtain ⟨a, ns, rfl, hs, hl, k⟩ := h
    refine ⟨_, (pss_cons (ps_for PassesOwn.never rfl (pi_list (pe_op o_add (pe_slice (s_sl (K := K)) (pv 0) po_none (po_some pe_int)) (pe_lst (pa_cons (pe_call (ok__law_cell T) (hr.mono (by decide)) rfl T.d__law_cell.g T.d__law_cell.F.kp T.d__law_cell.b .nil pass0 (pa_cons (pv 0) (pa_cons pe_int pa_nil))) pa_nil)))) (pg_name (i := 1) sc_law.nd rfl (Or.inl rfl)) (pss_cons (ps_set (i := 2) sc_law.nd rfl (Or.inl rfl) (pe_call (ok__law_purse T) (hr.mono (by decide)) rfl T.d__law_purse.g T.d__law_purse.F.kp T.d__law_purse.b .nil pass0 (pa_cons (pv 1) pa_nil)))
      (pss_cons (ps_set (i := 3) sc_law.nd rfl (Or.inl rfl) (pe_call (ok__law_drawn T) (hr.mono (by decide)) rfl T.d__law_drawn.g T.d__law_drawn.F.kp T.d__law_drawn.b .nil pass0 (pa_cons (pv 2) (pa_cons (pe_call (ok__law_letters T) (hr.mono (by decide)) rfl T.d__law_letters.g T.d__law_letters.F.kp T.d__law_letters.b .nil pass0 (pa_cons (pv 2) pa_nil)) (pa_cons pe_int pa_nil)))))
      (pss_cons (ps_set (i := 4) sc_law.nd rfl (Or.inl rfl) (pe_call (ok__law_bad T) (hr.mono (by decide)) rfl T.d__law_bad.g T.d__law_bad.F.kp T.d__law_bad.b .nil pass0 (pa_cons (pv 2) (pa_cons (pv 3) pa_nil))))
      (pss_cons (ps_set (i := 5) sc_law.nd rfl (Or.inl rfl) (pe_call (ok__law_bad T) (hr.mono (by decide)) rfl T.d__law_bad.g T.d__law_bad.F.kp T.d__law_bad.b .nil pass0 (pa_cons (pv 2) (pa_cons (pv 3) pa_nil))))
      (pss_cons (ps_set (i := 6) sc_law.nd rfl (Or.inl rfl) (pe_ix (i_ix (K := K)) (pe_lst (pa_cons pe_non (pa_cons (pe_lst pa_nil) (pa_cons (pe_tup (pa_cons (pe_lst pa_nil) (pa_cons (pe_lst pa_nil) pa_nil))) (pa_cons (pe_lst (pa_cons (pe_lst (pa_cons (pe_tup (pa_cons pe_int (pa_cons pe_int pa_nil))) pa_nil)) pa_nil)) (pa_cons (pe_tup (pa_cons (pe_lst (pa_cons (pe_tup (pa_cons pe_int (pa_cons pe_int pa_nil))) pa_nil)) (pa_cons (pe_lst (pa_cons (pe_lst (pa_cons (pe_tup (pa_cons pe_int (pa_cons pe_int pa_nil))) pa_nil)) pa_nil)) pa_nil))) (pa_cons pe_int pa_nil))))))) (pe_call (ok__law_take T) (hr.mono (by decide)) rfl T.d__law_take.g T.d__law_take.F.kp T.d__law_take.b .nil pass0 (pa_cons (pv 2) (pa_cons pe_int pa_nil))) (fun _ _ => rfl)))
      (pss_one (ps_for PassesOwn.never rfl (pi_range1 rfl T.b_range (pa_cons pe_int pa_nil)) (pg_name (i := 7) sc_law.nd rfl (Or.inl rfl)) (pss_cons (ps_set (i := 8) sc_law.nd rfl (Or.inl rfl) (pe_callB (c_repr hg hr.units) (by rfl) T.b_repr (by decide +kernel) (pa_cons (pe_lst (pa_cons pe_bl (pa_cons pe_bl (pa_cons pe_bl (pa_cons (pv 4) pa_nil))))) pa_nil)))
      (pss_cons (ps_if (PW.pt (pw_or (pt_cmpR (o_ne hr.units) (pe_callB (c_repr hg hr.units) (by rfl) T.b_repr (by decide +kernel) (pa_cons (pe_call (ok__law_refused T) (hr.mono (by decide)) rfl T.d__law_refused.g T.d__law_refused.F.kp T.d__law_refused.b .nil pass0 (pa_cons (pv 7) (pa_cons (pv 4) (pa_cons (pv 5) (pa_cons (pv 6) pa_nil))))) pa_nil)) (pv 8) (nomark _)) (pw_or1 (pt_cmpR (o_ne hr.units) (pe_callB (c_repr hg hr.units) (by rfl) T.b_repr (by decide +kernel) (pa_cons (pe_call (ok__law_refused T) (hr.mono (by decide)) rfl T.d__law_refused.g T.d__law_refused.F.kp T.d__law_refused.b .nil pass0 (pa_cons (pv 7) (pa_cons (pv 3) (pa_cons (pv 4) (pa_cons (pv 6) pa_nil))))) pa_nil)) (pv 8) (nomark _))))) (pss_one (ps_ret pe_bl)) pss_nil)
      (pss_one (ps_if (pt_cmpR o_notN (pe_call (ok__law_refused T) (hr.mono (by decide)) rfl T.d__law_refused.g T.d__law_refused.F.kp T.d__law_refused.b .nil pass0 (pa_cons (pv 7) (pa_cons (pv 3) (pa_cons (pv 3) (pa_cons (pv 6) pa_nil))))) pe_non (nomark _)) (pss_one (ps_ret pe_bl)) pss_nil))))))))))))
      (pss_one (ps_ret pe_bl))), ?_⟩
    walk_at "go"
    refine st_slK hs.sq ?_
    walk_at "nw"
    rename_i q1 G1 n1 e1 v1
    walk_at "go"
    refine ⟨a, ns, 20, rfl, (hs.ex e1).sq, by decide, hl, fun z => ?_⟩
    walk_at "go"
    have hcut : (cutV (ns.map V.int) none (some 20)).length ≤ 63 := Nat.le_trans (cutV_length _ _ _) (by rw [List.length_map]; exact hl)
    rename_i q2 G2 n2 e2 v2
    refine st_addL (e2.get v1) v2 (by rw [List.length_singleton]; omega) ?_
    walk_at "nw"
    rename_i q3 G3 n3 e3 v3
    walk_at "go"
    obtain ⟨cells, hcells⟩ : ∃ cells : List Int, cutV (ns.map V.int) none (some 20) ++ [V.int z] = cells.map V.int := cells_of
    rw [hcells] at v3
    refine for_runs (rv_list K q3 cells V.int) (fun i σ H' => Ex G3 H' ∧ ∃ b1 b2 b3 b4 b5 b6 b7 b8, σ = [some (.ref a), b1, b2, b3, b4, b5, b6, b7, b8]) ⟨Fr.refl _, _, _, _, _, _, _, _, _, rfl⟩ (fun i σ H' _ ⟨e, _⟩ => lst_of (e.get v3)) ?_ ?_
    rotate_left
    · rintro σ H' ⟨e, b1, b2, b3, b4, b5, b6, b7, b8, rfl⟩
      walk_at "go"
      exact k _
    rintro i x σ H' H'' hi ⟨e, b1, b2, b3, b4, b5, b6, b7, b8, rfl⟩ ⟨rfl, y, hy, rfl⟩
    walk_at "go"
    refine ⟨y, rfl, fun p1 H1 hp1 e1' pu1 => ?_⟩
    walk_at "go"
    refine ⟨p1, rfl, pu1, fun q ss H2 hqn f2 pu2 hq hs1 hs2 hlet => ?_⟩
    have hqp : q ≠ p1 := fun z => by
      obtain ⟨x, y, z', h⟩ := pu1
      rw [z, h] at hqn
      cases hqn
    walk_at "go"
    refine ⟨p1, q, ss, 24, rfl, pu2, hq, by omega, hqp, by decide, fun cs H3 f3 pu3 hcl hcm => ?_⟩
    have hc24 : cs.length ≤ 24 := by omega
    have hcs := rowS_of hlet (cs := cs) (by omega) (fun c h => .inl (hcm c h))
    have hcl2 : ∀ c ∈ cs, isLet c := fun c h => hlet c (hcm c h)
    walk_at "go"
    refine ⟨p1, cs, rfl, pu3, by omega, hcl2, fun v4 H4 f4 pu4 hv4 => ?_⟩
    walk_at "go"
    refine ⟨p1, cs, rfl, pu4, by omega, hcl2, fun v5 H5 f5 pu5 hv5 => ?_⟩
    have hb4 : BadV H5 v4 := (hv4.ex (hid_frp f5)).ex (hid_ex _ _)
    have hb5 : BadV H5 v5 := hv5.ex (hid_ex _ _)
    have f15 : FrP p1 H1 H5 := f2.trans (f3.trans (f4.trans f5))
    walk_at "go"
    refine ⟨p1, 6, rfl, by walk_at "pu", by decide, by decide, fun u H6 c0 c1 f6 pu6 => ?_⟩
    walk_at "go"
    refine st_ixA (seq_l (by walk_at "hp")) c0 (by simp only [List.length_cons, List.length_nil]; omega) (fun v hv hm => ?_)
    obtain ⟨dv, hdv⟩ : SdE H6 v := by
      clear hv; revert v
      have T0 : ∀ {t : Addr}, H6 t = some (.tup [.int 0, .int 0]) → Sm H6 (.ref t) 3 3 := fun h => (SmA.tup (k := 0) h (SmA.cons (Sm.int (by decide)) (SmA.cons (Sm.int (by decide)) SmA.nil))).up (by decide) (by decide)
      have L1 : ∀ {t a : Addr}, H6 a = some (.lst [.ref t]) → H6 t = some (.tup [.int 0, .int 0]) → Sm H6 (.ref a) 4 4 := fun h2 h1 => (SmA.lst (k := 3) h2 (SmA.cons (T0 h1) SmA.nil)).up (by decide) (by decide)
      have L2 : ∀ {t a b : Addr}, H6 b = some (.lst [.ref a]) → H6 a = some (.lst [.ref t]) → H6 t = some (.tup [.int 0, .int 0]) → Sm H6 (.ref b) 5 5 := fun h3 h2 h1 => (SmA.lst (k := 4) h3 (SmA.cons (L1 h2 h1) SmA.nil)).up (by decide) (by decide)
      have E0 : ∀ {a : Addr}, H6 a = some (.lst []) → Sm H6 (.ref a) 1 1 := fun h => (SmA.lst (k := 0) h SmA.nil).up (by decide) (by decide)
      refine allE_cons (SdE.of Sm.non (by decide) (by decide)) ?_
      refine allE_cons (SdE.of (E0 (by walk_at "hp")) (by decide) (by decide)) ?_
      refine allE_cons (SdE.of (SmA.tup (by walk_at "hp") (SmA.cons (E0 (by walk_at "hp")) (SmA.cons (E0 (by walk_at "hp")) SmA.nil))) (by decide) (by decide)) ?_
      refine allE_cons (SdE.of (L2 (by walk_at "hp") (by walk_at "hp") (by walk_at "hp")) (by decide) (by decide)) ?_
      refine allE_cons (SdE.of (SmA.tup (by walk_at "hp") (SmA.cons ((L1 (by walk_at "hp") (by walk_at "hp")).up (Nat.le_refl _) (by decide)) (SmA.cons (L2 (by walk_at "hp") (by walk_at "hp") (by walk_at "hp")) SmA.nil))) (by decide) (by decide)) ?_
      exact allE_cons (SdE.of (Sm.int (by decide)) (by decide) (by decide)) allE_nil
    have f56 : FrP p1 H5 H6 := by walk_at "fr"
    have hb4 : BadV H6 v4 := ((hv4.ex (hid_frp f5)).ex (hid_frp f56)).ex (hid_ex _ _)
    have hb5 : BadV H6 v5 := (hv5.ex (hid_frp f56)).ex (hid_ex _ _)
    obtain ⟨d4, hd4⟩ := hb4.sh
    walk_at "go"
    refine for_runs (runs_range 0 5) (fun i σ H' => Ex H6 H' ∧ ∃ b7 b8, σ = [some (.ref a), some (.int y), some (.ref p1), some (.str (tx cs)), some v4, some v5, some v, b7, b8]) ⟨Fr.refl _, _, _, rfl⟩ (fun _ _ _ _ _ => trivial) ?_ ?_
    rotate_left
    · rintro σ K0 ⟨e9, b7', b8', rfl⟩
      exact ⟨e.trans (FrP.fresh e1' hp1 (f15.trans (f56.trans (Fr.ex e9)))), _, _, _, _, _, _, _, _, rfl⟩
    rintro i x σ K0 K0' hi ⟨e9, b7', b8', rfl⟩ ⟨rfl, rfl⟩
    have shL : ∀ {H : Hp} {q : Addr} {z : V} {d : PyData}, H q = some (.lst [.bl true, .bl false, .bl true, z]) → Sh H z d 100000 5 → Sh H (.ref q) (.list [.bool true, .bool false, .bool true, d]) 16777216 60 := fun h hz =>
      (ShA.lst (k := 5) h (.cons ((Sh.bl _).up (Nat.le_refl _) (by decide)) (.cons ((Sh.bl _).up (Nat.le_refl _) (by decide)) (.cons ((Sh.bl _).up (Nat.le_refl _) (by decide)) (.cons hz .nil))))).up (by decide) (by decide)
    walk_at "go"
    rename_i L7 G7 n7 e7 v7
    have e97 := e9.trans e7
    refine st_reprS (shL v7 (hd4.ex e97)) ?_
    walk_at "go"
    refine ⟨_, v4, v5, v, rfl, .inr ⟨hb4.th.ex e97, hb5.th.ex e97, .inl ⟨hb4.no, fun q10 G10 e10 v10 => ?_⟩⟩⟩
    have e910 := e97.trans e10
    walk_at "go"
    refine st_reprS (shL v10 (hd4.ex e910)) ?_
    walk_at "go"
    refine st_F (by simp) ?_
    walk_at "go"
    refine ⟨_, .str (tx cs), v4, v, rfl, .inr ⟨hcs.thg, hb4.th.ex e910, .inr ⟨hcs, hb4.no, fun q11 G11 e11 v11 => ?_⟩⟩⟩
    have e911 := e910.trans e11
    walk_at "go"
    refine st_reprS (shL v11 (hd4.ex e911)) ?_
    walk_at "go"
    refine st_F (by simp) ?_
    walk_at "go"
    refine ⟨_, .str (tx cs), .str (tx cs), v, rfl, .inl ⟨tx cs, tx cs, dv, rfl, rfl, hcs, hcs, hdv.ex e911, fun G12 e12 => ?_⟩⟩
    walk_at "go"
    exact ⟨e911.trans e12, _, _, rfl⟩
end
/-! ### what the top has written, the end -/
theorem all_mk {P : Program} {w : World} {K : PySem.W.Frag} {h : Heap} {mg : Str → Option Value} {fa f0 f1 f2 f3 f4 f5 f6 f7 f8 f9 f10 f11 f12 f13 f14 f15 f16 f17 f18 f19 f20 f21 f22 f23 f24 : Addr} (X : K.In h) (G : h.Ns mainGlobals mg) (hfa : mg "law" = some (.ref fa))
    {od0 od1 od2 od3 od4 od5 od6 od7 od8 od9 od10 od11 od12 od13 od14 od15 od16 od17 od18 od19 od20 od21 od22 od23 od24 an0 an1 an2 an3 an4 an5 an6 an7 an8 an9 an10 an11 an12 an13 an14 an15 an16 an17 an18 an19 an20 an21 an22 an23 an24 : Option Addr} {sl0 sl1 sl2 sl3 sl4 sl5 sl6 sl7 sl8 sl9 sl10 sl11 sl12 sl13 sl14 sl15 sl16 sl17 sl18 sl19 sl20 sl21 sl22 sl23 sl24 : Array (Option Value)} {oc0 oc1 oc2 oc3 oc4 oc5 oc6 oc7 oc8 oc9 oc10 oc11 oc12 oc13 oc14 oc15 oc16 oc17 oc18 oc19 oc20 oc21 oc22 oc23 oc24 kV0 kV1 kV2 kV3 kV4 kV5 kV6 kV7 kV8 kV9 kV10 kV11 kV12 kV13 kV14 kV15 kV16 kV17 kV18 kV19 kV20 kV21 kV22 kV23 kV24 dc0 dc1 dc2 dc3 dc4 dc5 dc6 dc7 dc8 dc9 dc10 dc11 dc12 dc13 dc14 dc15 dc16 dc17 dc18 dc19 dc20 dc21 dc22 dc23 dc24 pm0 pm1 pm2 pm3 pm4 pm5 pm6 pm7 pm8 pm9 pm10 pm11 pm12 pm13 pm14 pm15 pm16 pm17 pm18 pm19 pm20 pm21 pm22 pm23 pm24 cd0 cd1 cd2 cd3 cd4 cd5 cd6 cd7 cd8 cd9 cd10 cd11 cd12 cd13 cd14 cd15 cd16 cd17 cd18 cd19 cd20 cd21 cd22 cd23 cd24 ct0 ct1 ct2 ct3 ct4 ct5 ct6 ct7 ct8 ct9 ct10 ct11 ct12 ct13 ct14 ct15 ct16 ct17 ct18 ct19 ct20 ct21 ct22 ct23 ct24 : Value} {t0 t1 : Tok}{C_NoRow C_PaneError C_NoPlain C_NoThread I_NoRow : Addr} {xn_NoRow xq_NoRow : Str} {xN_NoRow : Addr} {xb_NoRow xu_NoRow : List Value} {xs_NoRow : List Str} {xa_NoRow : Bool} {xc_NoRow : Option Bool} {xd_NoRow Iod_NoRow Ian_NoRow : Option Addr} {xk0_NoRow xk1_NoRow xk2_NoRow xk3_NoRow xk5_NoRow : Option Value} {Ioc_NoRow IkV_NoRow Idc_NoRow Ipm_NoRow Icd_NoRow Ict_NoRow : Value} {Isl_NoRow : Array (Option Value)} 
    (a0 : PySem.W.nsIn K mainGlobals "is_whole" = some (some (.ref f0)))
    (l0 : K.lookup f0 = some ⟨oc0, od0, .func (PySem.W.fnOf "is_whole" "is_whole" (defArgs s_is_whole) (defBody s_is_whole) (defScope s_is_whole) .none kV0 dc0 pm0 an0 cd0 ct0), sl0⟩)
    (c0 : PySem.W.codeIn K cd0 "is_whole" = true) (k0 : PySem.W.keepIn K (.ref f0) = true)
    (a1 : PySem.W.nsIn K mainGlobals "is_within" = some (some (.ref f1)))
    (l1 : K.lookup f1 = some ⟨oc1, od1, .func (PySem.W.fnOf "is_within" "is_within" (defArgs s_is_within) (defBody s_is_within) (defScope s_is_within) .none kV1 dc1 pm1 an1 cd1 ct1), sl1⟩)
    (c1 : PySem.W.codeIn K cd1 "is_within" = true) (k1 : PySem.W.keepIn K (.ref f1) = true)
    (a2 : PySem.W.nsIn K mainGlobals "is_row" = some (some (.ref f2)))
    (l2 : K.lookup f2 = some ⟨oc2, od2, .func (PySem.W.fnOf "is_row" "is_row" (defArgs s_is_row) (defBody s_is_row) (defScope s_is_row) .none kV2 dc2 pm2 an2 cd2 ct2), sl2⟩)
    (c2 : PySem.W.codeIn K cd2 "is_row" = true) (k2 : PySem.W.keepIn K (.ref f2) = true)
    (a3 : PySem.W.nsIn K mainGlobals "need_row" = some (some (.ref f3)))
    (l3 : K.lookup f3 = some ⟨oc3, od3, .func (PySem.W.fnOf "need_row" "need_row" (defArgs s_need_row) (defBody s_need_row) (defScope s_need_row) .none kV3 dc3 pm3 an3 cd3 ct3), sl3⟩)
    (c3 : PySem.W.codeIn K cd3 "need_row" = true) (k3 : PySem.W.keepIn K (.ref f3) = true)
    (a4 : PySem.W.nsIn K mainGlobals "need_rows" = some (some (.ref f4)))
    (l4 : K.lookup f4 = some ⟨oc4, od4, .func (PySem.W.fnOf "need_rows" "need_rows" (defArgs s_need_rows) (defBody s_need_rows) (defScope s_need_rows) .none kV4 dc4 pm4 an4 cd4 ct4), sl4⟩)
    (c4 : PySem.W.codeIn K cd4 "need_rows" = true) (k4 : PySem.W.keepIn K (.ref f4) = true)
    (a5 : PySem.W.nsIn K mainGlobals "places_of" = some (some (.ref f5)))
    (l5 : K.lookup f5 = some ⟨oc5, od5, .func (PySem.W.fnOf "places_of" "places_of" (defArgs s_places_of) (defBody s_places_of) (defScope s_places_of) .none kV5 dc5 pm5 an5 cd5 ct5), sl5⟩)
    (c5 : PySem.W.codeIn K cd5 "places_of" = true) (k5 : PySem.W.keepIn K (.ref f5) = true)
    (a6 : PySem.W.nsIn K mainGlobals "lengths" = some (some (.ref f6)))
    (l6 : K.lookup f6 = some ⟨oc6, od6, .func (PySem.W.fnOf "lengths" "lengths" (defArgs s_lengths) (defBody s_lengths) (defScope s_lengths) .none kV6 dc6 pm6 an6 cd6 ct6), sl6⟩)
    (c6 : PySem.W.codeIn K cd6 "lengths" = true) (k6 : PySem.W.keepIn K (.ref f6) = true)
    (a7 : PySem.W.nsIn K mainGlobals "thread_of" = some (some (.ref f7)))
    (l7 : K.lookup f7 = some ⟨oc7, od7, .func (PySem.W.fnOf "thread_of" "thread_of" (defArgs s_thread_of) (defBody s_thread_of) (defScope s_thread_of) .none kV7 dc7 pm7 an7 cd7 ct7), sl7⟩)
    (c7 : PySem.W.codeIn K cd7 "thread_of" = true) (k7 : PySem.W.keepIn K (.ref f7) = true)
    (a8 : PySem.W.nsIn K mainGlobals "is_pair" = some (some (.ref f8)))
    (l8 : K.lookup f8 = some ⟨oc8, od8, .func (PySem.W.fnOf "is_pair" "is_pair" (defArgs s_is_pair) (defBody s_is_pair) (defScope s_is_pair) .none kV8 dc8 pm8 an8 cd8 ct8), sl8⟩)
    (c8 : PySem.W.codeIn K cd8 "is_pair" = true) (k8 : PySem.W.keepIn K (.ref f8) = true)
    (a9 : PySem.W.nsIn K mainGlobals "is_ahead" = some (some (.ref f9)))
    (l9 : K.lookup f9 = some ⟨oc9, od9, .func (PySem.W.fnOf "is_ahead" "is_ahead" (defArgs s_is_ahead) (defBody s_is_ahead) (defScope s_is_ahead) .none kV9 dc9 pm9 an9 cd9 ct9), sl9⟩)
    (c9 : PySem.W.codeIn K cd9 "is_ahead" = true) (k9 : PySem.W.keepIn K (.ref f9) = true)
    (a10 : PySem.W.nsIn K mainGlobals "is_thread" = some (some (.ref f10)))
    (l10 : K.lookup f10 = some ⟨oc10, od10, .func (PySem.W.fnOf "is_thread" "is_thread" (defArgs s_is_thread) (defBody s_is_thread) (defScope s_is_thread) .none kV10 dc10 pm10 an10 cd10 ct10), sl10⟩)
    (c10 : PySem.W.codeIn K cd10 "is_thread" = true) (k10 : PySem.W.keepIn K (.ref f10) = true)
    (a11 : PySem.W.nsIn K mainGlobals "pairs_of" = some (some (.ref f11)))
    (l11 : K.lookup f11 = some ⟨oc11, od11, .func (PySem.W.fnOf "pairs_of" "pairs_of" (defArgs s_pairs_of) (defBody s_pairs_of) (defScope s_pairs_of) .none kV11 dc11 pm11 an11 cd11 ct11), sl11⟩)
    (c11 : PySem.W.codeIn K cd11 "pairs_of" = true) (k11 : PySem.W.keepIn K (.ref f11) = true)
    (a12 : PySem.W.nsIn K mainGlobals "heaps_of" = some (some (.ref f12)))
    (l12 : K.lookup f12 = some ⟨oc12, od12, .func (PySem.W.fnOf "heaps_of" "heaps_of" (defArgs s_heaps_of) (defBody s_heaps_of) (defScope s_heaps_of) .none kV12 dc12 pm12 an12 cd12 ct12), sl12⟩)
    (c12 : PySem.W.codeIn K cd12 "heaps_of" = true) (k12 : PySem.W.keepIn K (.ref f12) = true)
    (a13 : PySem.W.nsIn K mainGlobals "is_heap" = some (some (.ref f13)))
    (l13 : K.lookup f13 = some ⟨oc13, od13, .func (PySem.W.fnOf "is_heap" "is_heap" (defArgs s_is_heap) (defBody s_is_heap) (defScope s_is_heap) .none kV13 dc13 pm13 an13 cd13 ct13), sl13⟩)
    (c13 : PySem.W.codeIn K cd13 "is_heap" = true) (k13 : PySem.W.keepIn K (.ref f13) = true)
    (a14 : PySem.W.nsIn K mainGlobals "are_heaps" = some (some (.ref f14)))
    (l14 : K.lookup f14 = some ⟨oc14, od14, .func (PySem.W.fnOf "are_heaps" "are_heaps" (defArgs s_are_heaps) (defBody s_are_heaps) (defScope s_are_heaps) .none kV14 dc14 pm14 an14 cd14 ct14), sl14⟩)
    (c14 : PySem.W.codeIn K cd14 "are_heaps" = true) (k14 : PySem.W.keepIn K (.ref f14) = true)
    (a15 : PySem.W.nsIn K mainGlobals "paper_of" = some (some (.ref f15)))
    (l15 : K.lookup f15 = some ⟨oc15, od15, .func (PySem.W.fnOf "paper_of" "paper_of" (defArgs s_paper_of) (defBody s_paper_of) (defScope s_paper_of) .none kV15 dc15 pm15 an15 cd15 ct15), sl15⟩)
    (c15 : PySem.W.codeIn K cd15 "paper_of" = true) (k15 : PySem.W.keepIn K (.ref f15) = true)
    (a16 : PySem.W.nsIn K mainGlobals "shows" = some (some (.ref f16)))
    (l16 : K.lookup f16 = some ⟨oc16, od16, .func (PySem.W.fnOf "shows" "shows" (defArgs s_shows) (defBody s_shows) (defScope s_shows) .none kV16 dc16 pm16 an16 cd16 ct16), sl16⟩)
    (c16 : PySem.W.codeIn K cd16 "shows" = true) (k16 : PySem.W.keepIn K (.ref f16) = true)
    (a17 : PySem.W.nsIn K mainGlobals "_law_cell" = some (some (.ref f17)))
    (l17 : K.lookup f17 = some ⟨oc17, od17, .func (PySem.W.fnOf "_law_cell" "_law_cell" (defArgs s__law_cell) (defBody s__law_cell) (defScope s__law_cell) .none kV17 dc17 pm17 an17 cd17 ct17), sl17⟩)
    (c17 : PySem.W.codeIn K cd17 "_law_cell" = true) (k17 : PySem.W.keepIn K (.ref f17) = true)
    (a18 : PySem.W.nsIn K mainGlobals "_law_purse" = some (some (.ref f18)))
    (l18 : K.lookup f18 = some ⟨oc18, od18, .func (PySem.W.fnOf "_law_purse" "_law_purse" (defArgs s__law_purse) (defBody s__law_purse) (defScope s__law_purse) .none kV18 dc18 pm18 an18 cd18 ct18), sl18⟩)
    (c18 : PySem.W.codeIn K cd18 "_law_purse" = true) (k18 : PySem.W.keepIn K (.ref f18) = true)
    (a19 : PySem.W.nsIn K mainGlobals "_law_take" = some (some (.ref f19)))
    (l19 : K.lookup f19 = some ⟨oc19, od19, .func (PySem.W.fnOf "_law_take" "_law_take" (defArgs s__law_take) (defBody s__law_take) (defScope s__law_take) .none kV19 dc19 pm19 an19 cd19 ct19), sl19⟩)
    (c19 : PySem.W.codeIn K cd19 "_law_take" = true) (k19 : PySem.W.keepIn K (.ref f19) = true)
    (a20 : PySem.W.nsIn K mainGlobals "_law_letters" = some (some (.ref f20)))
    (l20 : K.lookup f20 = some ⟨oc20, od20, .func (PySem.W.fnOf "_law_letters" "_law_letters" (defArgs s__law_letters) (defBody s__law_letters) (defScope s__law_letters) .none kV20 dc20 pm20 an20 cd20 ct20), sl20⟩)
    (c20 : PySem.W.codeIn K cd20 "_law_letters" = true) (k20 : PySem.W.keepIn K (.ref f20) = true)
    (a21 : PySem.W.nsIn K mainGlobals "_law_drawn" = some (some (.ref f21)))
    (l21 : K.lookup f21 = some ⟨oc21, od21, .func (PySem.W.fnOf "_law_drawn" "_law_drawn" (defArgs s__law_drawn) (defBody s__law_drawn) (defScope s__law_drawn) .none kV21 dc21 pm21 an21 cd21 ct21), sl21⟩)
    (c21 : PySem.W.codeIn K cd21 "_law_drawn" = true) (k21 : PySem.W.keepIn K (.ref f21) = true)
    (a22 : PySem.W.nsIn K mainGlobals "_law_bad" = some (some (.ref f22)))
    (l22 : K.lookup f22 = some ⟨oc22, od22, .func (PySem.W.fnOf "_law_bad" "_law_bad" (defArgs s__law_bad) (defBody s__law_bad) (defScope s__law_bad) .none kV22 dc22 pm22 an22 cd22 ct22), sl22⟩)
    (c22 : PySem.W.codeIn K cd22 "_law_bad" = true) (k22 : PySem.W.keepIn K (.ref f22) = true)
    (a23 : PySem.W.nsIn K mainGlobals "_law_refused" = some (some (.ref f23)))
    (l23 : K.lookup f23 = some ⟨oc23, od23, .func (PySem.W.fnOf "_law_refused" "_law_refused" (defArgs s__law_refused) (defBody s__law_refused) (defScope s__law_refused) .none kV23 dc23 pm23 an23 cd23 ct23), sl23⟩)
    (c23 : PySem.W.codeIn K cd23 "_law_refused" = true) (k23 : PySem.W.keepIn K (.ref f23) = true)
    (a24 : PySem.W.nsIn K mainGlobals "law" = some (some (.ref f24)))
    (l24 : K.lookup f24 = some ⟨oc24, od24, .func (PySem.W.fnOf "law" "law" (defArgs s_law) (defBody s_law) (defScope s_law) .none kV24 dc24 pm24 an24 cd24 ct24), sl24⟩)
    (c24 : PySem.W.codeIn K cd24 "law" = true) (k24 : PySem.W.keepIn K (.ref f24) = true)
    (cn0 : PySem.W.nsIn K mainGlobals "MOST_SIGNS" = some (some (.int 48 t0)))
    (cn1 : PySem.W.nsIn K mainGlobals "LETTERS" = some (some (.str "abcdefghijklmnopqrstuvwxyz" t1)))
    (z0 : PySem.W.nsIn K mainGlobals "isinstance" = some none)
    (z1 : PySem.W.nsIn K mainGlobals "int" = some none)
    (z2 : PySem.W.nsIn K mainGlobals "bool" = some none)
    (z3 : PySem.W.nsIn K mainGlobals "all" = some none)
    (z4 : PySem.W.nsIn K mainGlobals "str" = some none)
    (z5 : PySem.W.nsIn K mainGlobals "len" = some none)
    (z6 : PySem.W.nsIn K mainGlobals "enumerate" = some none)
    (z7 : PySem.W.nsIn K mainGlobals "max" = some none)
    (z8 : PySem.W.nsIn K mainGlobals "tuple" = some none)
    (z9 : PySem.W.nsIn K mainGlobals "list" = some none)
    (z10 : PySem.W.nsIn K mainGlobals "range" = some none)
    (z11 : PySem.W.nsIn K mainGlobals "sorted" = some none)
    (z12 : PySem.W.nsIn K mainGlobals "ValueError" = some none)
    (z13 : PySem.W.nsIn K mainGlobals "repr" = some none)
    (g_NoRow : PySem.W.nsIn K mainGlobals "NoRow" = some (some (.ref C_NoRow)))
    (g_PaneError : PySem.W.nsIn K mainGlobals "PaneError" = some (some (.ref C_PaneError)))
    (g_NoPlain : PySem.W.nsIn K mainGlobals "NoPlain" = some (some (.ref C_NoPlain)))
    (g_NoThread : PySem.W.nsIn K mainGlobals "NoThread" = some (some (.ref C_NoThread)))
    (sb_NoRow : PySem.W.subIn K (.ref C_NoRow) (.type "BaseException") = some true)
    (hd_NoRow : PySem.W.hasDictIn K C_NoRow = true)
    (ty_NoRow : PySem.W.typeIn K (.ref C_NoRow) = some (.type "type"))
    (sb_PaneError : PySem.W.subIn K (.ref C_PaneError) (.type "BaseException") = some true)
    (hd_PaneError : PySem.W.hasDictIn K C_PaneError = true)
    (ty_PaneError : PySem.W.typeIn K (.ref C_PaneError) = some (.type "type"))
    (sb_NoPlain : PySem.W.subIn K (.ref C_NoPlain) (.type "BaseException") = some true)
    (hd_NoPlain : PySem.W.hasDictIn K C_NoPlain = true)
    (ty_NoPlain : PySem.W.typeIn K (.ref C_NoPlain) = some (.type "type"))
    (sb_NoThread : PySem.W.subIn K (.ref C_NoThread) (.type "BaseException") = some true)
    (hd_NoThread : PySem.W.hasDictIn K C_NoThread = true)
    (ty_NoThread : PySem.W.typeIn K (.ref C_NoThread) = some (.type "type"))
    (lk_NoRow : K.lookup C_NoRow = some (excClassObj xn_NoRow xq_NoRow C_NoRow xN_NoRow xb_NoRow [.ref C_PaneError, .type "ValueError", .type "Exception", .type "BaseException", .type "object"] true xs_NoRow xu_NoRow xa_NoRow xc_NoRow xd_NoRow xk0_NoRow xk1_NoRow xk2_NoRow xk3_NoRow xk5_NoRow "ValueError.__new__"))
    (f_setattr_NoRow : PySem.W.findIn K (.ref C_NoRow) "__setattr__" = some (some (.builtin "object.__setattr__")))
    (k_NoRow : PySem.W.keepIn K (.ref C_NoRow) = true)
    (f_found_NoRow : PySem.W.findIn K (.ref C_NoRow) "found" = some none)
    (ini_NoRow : PySem.W.findIn K (.ref C_NoRow) "__init__" = some (some (.ref I_NoRow)))
    (int_NoRow : PySem.W.typeIn K (.ref I_NoRow) = some (.type "function"))
    (il_NoRow : K.lookup I_NoRow = some ⟨Ioc_NoRow, Iod_NoRow, .func (PySem.W.fnOf "__init__" "NoRow.__init__" (defArgs si_NoRow) (defBody si_NoRow) (defScope si_NoRow) .none IkV_NoRow Idc_NoRow Ipm_NoRow Ian_NoRow Icd_NoRow Ict_NoRow), Isl_NoRow⟩)
    (ic_NoRow : PySem.W.codeIn K Icd_NoRow "NoRow.__init__" = true)
    (ik_NoRow : PySem.W.keepIn K (.ref I_NoRow) = true)
    (ct_ : PySem.W.specialIn K (.builtin "object.__class__") "__get__" = some (some (.builtin "getset_descriptor.__get__")))
    (cu_ : PySem.W.takesIn K (.builtin "object.__class__") = some true)
    (f_getattribute_NoRow : PySem.W.findIn K (.ref C_NoRow) "__getattribute__" = some (some (.builtin "BaseException.__getattribute__")))
    (f_getattr_NoRow : PySem.W.findIn K (.ref C_NoRow) "__getattr__" = some none)
    (f_class_NoRow : PySem.W.findIn K (.ref C_NoRow) "__class__" = some (some (.builtin "object.__class__")))
    (cm_NoRow : PySem.W.mroIn K C_NoRow (.type "object") = some true)
    (s_NoRow_NoRow : PySem.W.subIn K (.ref C_NoRow) (.ref C_NoRow) = some true)
    (s_NoRow_PaneError : PySem.W.subIn K (.ref C_NoRow) (.ref C_PaneError) = some true)
    (s_NoRow_NoPlain : PySem.W.subIn K (.ref C_NoRow) (.ref C_NoPlain) = some false)
    (s_NoRow_NoThread : PySem.W.subIn K (.ref C_NoRow) (.ref C_NoThread) = some false)
    (v_NoRow : PySem.W.subIn K (.ref C_NoRow) (.type "ValueError") = some true)
    (s_NoPlain_NoPlain : PySem.W.subIn K (.ref C_NoPlain) (.ref C_NoPlain) = some true)
    (s_NoThread_NoThread : PySem.W.subIn K (.ref C_NoThread) (.ref C_NoThread) = some true)
    (s_PaneError_PaneError : PySem.W.subIn K (.ref C_PaneError) (.ref C_PaneError) = some true)
    (ba_PaneError : PySem.W.specialIn K (.ref C_PaneError) "__getattribute__" = some (some (.builtin "type.__getattribute__")))
    (br_PaneError : PySem.W.readsIn K C_PaneError (.type "type") = true)
    (bf_PaneError : PySem.W.findCls K (.ref C_PaneError) (.type "type") "__init__" = some (.val (.builtin "ValueError.__init__")))
    : ∃ fd : FuncData, (∀ (s : Shared) (v : Value), BindsTo s fd ⟨[v], []⟩ [("_law_script", v)]) ∧ ∀ base : Heap, K.In base → base.Ns mainGlobals mg → FnG P w K mg base CX0 9 fa fd ["_law_script"] (sp_law K) := by
  have e := hfa.symm.trans (PySem.W.mg_of X G a24)
  cases e
  have q_NoRow := clsA_of g_NoRow
  subst q_NoRow
  have q_PaneError := clsA_of g_PaneError
  subst q_PaneError
  have q_NoPlain := clsA_of g_NoPlain
  subst q_NoPlain
  have q_NoThread := clsA_of g_NoThread
  subst q_NoThread
  have T : Tx K mg (fun i => match i with | 0 => f0 | 1 => f1 | 2 => f2 | 3 => f3 | 4 => f4 | 5 => f5 | 6 => f6 | 7 => f7 | 8 => f8 | 9 => f9 | 10 => f10 | 11 => f11 | 12 => f12 | 13 => f13 | 14 => f14 | 15 => f15 | 16 => f16 | 17 => f17 | 18 => f18 | 19 => f19 | 20 => f20 | 21 => f21 | 22 => f22 | 23 => f23 | 24 => fa | _ => f0) (fun i => match i with | 0 => PySem.W.fnOf "is_whole" "is_whole" (defArgs s_is_whole) (defBody s_is_whole) (defScope s_is_whole) .none kV0 dc0 pm0 an0 cd0 ct0 | 1 => PySem.W.fnOf "is_within" "is_within" (defArgs s_is_within) (defBody s_is_within) (defScope s_is_within) .none kV1 dc1 pm1 an1 cd1 ct1 | 2 => PySem.W.fnOf "is_row" "is_row" (defArgs s_is_row) (defBody s_is_row) (defScope s_is_row) .none kV2 dc2 pm2 an2 cd2 ct2 | 3 => PySem.W.fnOf "need_row" "need_row" (defArgs s_need_row) (defBody s_need_row) (defScope s_need_row) .none kV3 dc3 pm3 an3 cd3 ct3 | 4 => PySem.W.fnOf "need_rows" "need_rows" (defArgs s_need_rows) (defBody s_need_rows) (defScope s_need_rows) .none kV4 dc4 pm4 an4 cd4 ct4 | 5 => PySem.W.fnOf "places_of" "places_of" (defArgs s_places_of) (defBody s_places_of) (defScope s_places_of) .none kV5 dc5 pm5 an5 cd5 ct5 | 6 => PySem.W.fnOf "lengths" "lengths" (defArgs s_lengths) (defBody s_lengths) (defScope s_lengths) .none kV6 dc6 pm6 an6 cd6 ct6 | 7 => PySem.W.fnOf "thread_of" "thread_of" (defArgs s_thread_of) (defBody s_thread_of) (defScope s_thread_of) .none kV7 dc7 pm7 an7 cd7 ct7 | 8 => PySem.W.fnOf "is_pair" "is_pair" (defArgs s_is_pair) (defBody s_is_pair) (defScope s_is_pair) .none kV8 dc8 pm8 an8 cd8 ct8 | 9 => PySem.W.fnOf "is_ahead" "is_ahead" (defArgs s_is_ahead) (defBody s_is_ahead) (defScope s_is_ahead) .none kV9 dc9 pm9 an9 cd9 ct9 | 10 => PySem.W.fnOf "is_thread" "is_thread" (defArgs s_is_thread) (defBody s_is_thread) (defScope s_is_thread) .none kV10 dc10 pm10 an10 cd10 ct10 | 11 => PySem.W.fnOf "pairs_of" "pairs_of" (defArgs s_pairs_of) (defBody s_pairs_of) (defScope s_pairs_of) .none kV11 dc11 pm11 an11 cd11 ct11 | 12 => PySem.W.fnOf "heaps_of" "heaps_of" (defArgs s_heaps_of) (defBody s_heaps_of) (defScope s_heaps_of) .none kV12 dc12 pm12 an12 cd12 ct12 | 13 => PySem.W.fnOf "is_heap" "is_heap" (defArgs s_is_heap) (defBody s_is_heap) (defScope s_is_heap) .none kV13 dc13 pm13 an13 cd13 ct13 | 14 => PySem.W.fnOf "are_heaps" "are_heaps" (defArgs s_are_heaps) (defBody s_are_heaps) (defScope s_are_heaps) .none kV14 dc14 pm14 an14 cd14 ct14 | 15 => PySem.W.fnOf "paper_of" "paper_of" (defArgs s_paper_of) (defBody s_paper_of) (defScope s_paper_of) .none kV15 dc15 pm15 an15 cd15 ct15 | 16 => PySem.W.fnOf "shows" "shows" (defArgs s_shows) (defBody s_shows) (defScope s_shows) .none kV16 dc16 pm16 an16 cd16 ct16 | 17 => PySem.W.fnOf "_law_cell" "_law_cell" (defArgs s__law_cell) (defBody s__law_cell) (defScope s__law_cell) .none kV17 dc17 pm17 an17 cd17 ct17 | 18 => PySem.W.fnOf "_law_purse" "_law_purse" (defArgs s__law_purse) (defBody s__law_purse) (defScope s__law_purse) .none kV18 dc18 pm18 an18 cd18 ct18 | 19 => PySem.W.fnOf "_law_take" "_law_take" (defArgs s__law_take) (defBody s__law_take) (defScope s__law_take) .none kV19 dc19 pm19 an19 cd19 ct19 | 20 => PySem.W.fnOf "_law_letters" "_law_letters" (defArgs s__law_letters) (defBody s__law_letters) (defScope s__law_letters) .none kV20 dc20 pm20 an20 cd20 ct20 | 21 => PySem.W.fnOf "_law_drawn" "_law_drawn" (defArgs s__law_drawn) (defBody s__law_drawn) (defScope s__law_drawn) .none kV21 dc21 pm21 an21 cd21 ct21 | 22 => PySem.W.fnOf "_law_bad" "_law_bad" (defArgs s__law_bad) (defBody s__law_bad) (defScope s__law_bad) .none kV22 dc22 pm22 an22 cd22 ct22 | 23 => PySem.W.fnOf "_law_refused" "_law_refused" (defArgs s__law_refused) (defBody s__law_refused) (defScope s__law_refused) .none kV23 dc23 pm23 an23 cd23 ct23 | 24 => PySem.W.fnOf "law" "law" (defArgs s_law) (defBody s_law) (defScope s_law) .none kV24 dc24 pm24 an24 cd24 ct24 | _ => PySem.W.fnOf "is_whole" "is_whole" (defArgs s_is_whole) (defBody s_is_whole) (defScope s_is_whole) .none kV0 dc0 pm0 an0 cd0 ct0) (fun i => match i with | 0 => t0 | 1 => t1 | _ => t0) := {
    d_is_whole := df_mk X G a0 l0 c0 k0 (fun _ _ _ _ _ _ us hl => match us, hl with | [_], _ => rfl)
    d_is_within := df_mk X G a1 l1 c1 k1 (fun _ _ _ _ _ _ us hl => match us, hl with | [_, _, _], _ => rfl)
    d_is_row := df_mk X G a2 l2 c2 k2 (fun _ _ _ _ _ _ us hl => match us, hl with | [_], _ => rfl)
    d_need_row := df_mk X G a3 l3 c3 k3 (fun _ _ _ _ _ _ us hl => match us, hl with | [_], _ => rfl)
    d_need_rows := df_mk X G a4 l4 c4 k4 (fun _ _ _ _ _ _ us hl => match us, hl with | [_, _], _ => rfl)
    d_places_of := df_mk X G a5 l5 c5 k5 (fun _ _ _ _ _ _ us hl => match us, hl with | [_], _ => rfl)
    d_lengths := df_mk X G a6 l6 c6 k6 (fun _ _ _ _ _ _ us hl => match us, hl with | [_, _], _ => rfl)
    d_thread_of := df_mk X G a7 l7 c7 k7 (fun _ _ _ _ _ _ us hl => match us, hl with | [_, _], _ => rfl)
    d_is_pair := df_mk X G a8 l8 c8 k8 (fun _ _ _ _ _ _ us hl => match us, hl with | [_, _, _], _ => rfl)
    d_is_ahead := df_mk X G a9 l9 c9 k9 (fun _ _ _ _ _ _ us hl => match us, hl with | [_, _], _ => rfl)
    d_is_thread := df_mk X G a10 l10 c10 k10 (fun _ _ _ _ _ _ us hl => match us, hl with | [_, _, _], _ => rfl)
    d_pairs_of := df_mk X G a11 l11 c11 k11 (fun _ _ _ _ _ _ us hl => match us, hl with | [_, _], _ => rfl)
    d_heaps_of := df_mk X G a12 l12 c12 k12 (fun _ _ _ _ _ _ us hl => match us, hl with | [_, _], _ => rfl)
    d_is_heap := df_mk X G a13 l13 c13 k13 (fun _ _ _ _ _ _ us hl => match us, hl with | [_, _, _], _ => rfl)
    d_are_heaps := df_mk X G a14 l14 c14 k14 (fun _ _ _ _ _ _ us hl => match us, hl with | [_, _, _], _ => rfl)
    d_paper_of := df_mk X G a15 l15 c15 k15 (fun _ _ _ _ _ _ us hl => match us, hl with | [_, _], _ => rfl)
    d_shows := df_mk X G a16 l16 c16 k16 (fun _ _ _ _ _ _ us hl => match us, hl with | [_, _, _], _ => rfl)
    d__law_cell := df_mk X G a17 l17 c17 k17 (fun _ _ _ _ _ _ us hl => match us, hl with | [_, _], _ => rfl)
    d__law_purse := df_mk X G a18 l18 c18 k18 (fun _ _ _ _ _ _ us hl => match us, hl with | [_], _ => rfl)
    d__law_take := df_mk X G a19 l19 c19 k19 (fun _ _ _ _ _ _ us hl => match us, hl with | [_, _], _ => rfl)
    d__law_letters := df_mk X G a20 l20 c20 k20 (fun _ _ _ _ _ _ us hl => match us, hl with | [_], _ => rfl)
    d__law_drawn := df_mk X G a21 l21 c21 k21 (fun _ _ _ _ _ _ us hl => match us, hl with | [_, _, _], _ => rfl)
    d__law_bad := df_mk X G a22 l22 c22 k22 (fun _ _ _ _ _ _ us hl => match us, hl with | [_, _], _ => rfl)
    d__law_refused := df_mk X G a23 l23 c23 k23 (fun _ _ _ _ _ _ us hl => match us, hl with | [_, _, _, _], _ => rfl)
    d_law := df_mk X G a24 l24 c24 k24 (fun _ _ _ _ _ _ us hl => match us, hl with | [_], _ => rfl)
    c_MOST_SIGNS := PySem.W.mg_of X G cn0
    c_LETTERS := PySem.W.mg_of X G cn1
    b_isinstance := PySem.W.mg_none_of X G z0
    b_int := PySem.W.mg_none_of X G z1
    b_bool := PySem.W.mg_none_of X G z2
    b_all := PySem.W.mg_none_of X G z3
    b_str := PySem.W.mg_none_of X G z4
    b_len := PySem.W.mg_none_of X G z5
    b_enumerate := PySem.W.mg_none_of X G z6
    b_max := PySem.W.mg_none_of X G z7
    b_tuple := PySem.W.mg_none_of X G z8
    b_list := PySem.W.mg_none_of X G z9
    b_range := PySem.W.mg_none_of X G z10
    b_sorted := PySem.W.mg_none_of X G z11
    b_ValueError := PySem.W.mg_none_of X G z12
    b_repr := PySem.W.mg_none_of X G z13
    e_NoRow := ⟨PySem.W.mg_of X G g_NoRow, sb_NoRow, hd_NoRow, ty_NoRow⟩
    e_PaneError := ⟨PySem.W.mg_of X G g_PaneError, sb_PaneError, hd_PaneError, ty_PaneError⟩
    e_NoPlain := ⟨PySem.W.mg_of X G g_NoPlain, sb_NoPlain, hd_NoPlain, ty_NoPlain⟩
    e_NoThread := ⟨PySem.W.mg_of X G g_NoThread, sb_NoThread, hd_NoThread, ty_NoThread⟩
    g_NoRow := PySem.W.mg_of X G g_NoRow
    o_NoRow := ⟨⟨_, _, _, _, _, _, _, _, _, _, _, _, _, _, _, lk_NoRow, rfl⟩, f_setattr_NoRow, sb_NoRow, ty_NoRow, k_NoRow⟩
    n_NoRow_found := f_found_NoRow
    i_NoRow := ini_mk ini_NoRow int_NoRow il_NoRow ic_NoRow ik_NoRow (fun _ _ _ _ _ _ us hl => match us, hl with | [_, _], _ => rfl)
    x_NoRow := xi_mk f_getattribute_NoRow f_getattr_NoRow sb_NoRow hd_NoRow f_class_NoRow ct_ cu_ cm_NoRow
    s_NoRow_NoRow := s_NoRow_NoRow
    s_NoRow_PaneError := s_NoRow_PaneError
    s_NoRow_NoPlain := s_NoRow_NoPlain
    s_NoRow_NoThread := s_NoRow_NoThread
    v_NoRow := v_NoRow
    s_NoPlain_NoPlain := s_NoPlain_NoPlain
    s_NoThread_NoThread := s_NoThread_NoThread
    s_PaneError_PaneError := s_PaneError_PaneError
    bi_PaneError := ⟨PySem.W.mg_of X G g_PaneError, ba_PaneError, br_PaneError, bf_PaneError⟩
  }
  exact ⟨PySem.W.fnOf "law" "law" (defArgs s_law) (defBody s_law) (defScope s_law) .none kV24 dc24 pm24 an24 cd24 ct24, fun s v => .of_eq rfl, fun base _ _ => ok_law T⟩
theorem walk {l : PySem.W.OpenLaw} {q : Program} {loose : List Str} {XP : (Str → Option Value) → Heap → Prop} {YP : World → Heap → Prop} {d : DefRec} {K : Params → PySem.W.Frag} (hn : l.most = some 63) (hdf : d.params.defaults = [])
    (hY : ∀ (w : World) (h : Heap), YP w h → (K w.params).In h)
    (F : ∀ (w : World) (mg : Str → Option Value) (fa : Addr) (h : Heap), (K w.params).In h → h.Ns mainGlobals mg → mg d.name = some (.ref fa) →
      ∃ fd : FuncData, (∀ (s : Shared) (u : Value), BindsTo s fd ⟨[u], []⟩ [("_law_script", u)]) ∧ ∀ base : Heap, (K w.params).In base → base.Ns mainGlobals mg → FnG l.prog w (K w.params) mg base CX0 9 fa fd ["_law_script"] (sp_law (K w.params))) :
    PySem.W.WalkO q loose XP YP l.row.toRowW d [] (fun f vs => PySem.call f vs) :=
  walk_G (k := 9) (x := "_law_script") (spK := sp_law) hn hdf ⟨rfl, by decide, by decide⟩ hY F (fun _ H a ns hl hS => ⟨a, ns, rfl, hS, hl, fun _ => rfl⟩)
end My
open PySem PySem.W PyProof.Rows in
set_option maxRecDepth 100000 in
set_option maxHeartbeats 0 in
theorem PySem.Challenge.cw_panethread_k15_no_rows_for_heaps_holds : PySem.Challenge.rw_panethread_k15_no_rows_for_heaps.Holds := by
  w_on; o_law; k_head; (case hw => w_witness2)
  k_fill
  refine My.walk (l := PySem.Challenge.rw_panethread_k15_no_rows_for_heaps) rfl rfl (fun w h Y => PySem.W.kIn_of Y) ?F
  case F =>
    intro w mg fa h KX G hmg
    refine' My.all_mk KX G hmg ?a0 ?l0 ?c0 ?k0 ?a1 ?l1 ?c1 ?k1 ?a2 ?l2 ?c2 ?k2 ?a3 ?l3 ?c3 ?k3 ?a4 ?l4 ?c4 ?k4 ?a5 ?l5 ?c5 ?k5 ?a6 ?l6 ?c6 ?k6 ?a7 ?l7 ?c7 ?k7 ?a8 ?l8 ?c8 ?k8 ?a9 ?l9 ?c9 ?k9 ?a10 ?l10 ?c10 ?k10 ?a11 ?l11 ?c11 ?k11 ?a12 ?l12 ?c12 ?k12 ?a13 ?l13 ?c13 ?k13 ?a14 ?l14 ?c14 ?k14 ?a15 ?l15 ?c15 ?k15 ?a16 ?l16 ?c16 ?k16 ?a17 ?l17 ?c17 ?k17 ?a18 ?l18 ?c18 ?k18 ?a19 ?l19 ?c19 ?k19 ?a20 ?l20 ?c20 ?k20 ?a21 ?l21 ?c21 ?k21 ?a22 ?l22 ?c22 ?k22 ?a23 ?l23 ?c23 ?k23 ?a24 ?l24 ?c24 ?k24 ?cn0 ?cn1 ?z0 ?z1 ?z2 ?z3 ?z4 ?z5 ?z6 ?z7 ?z8 ?z9 ?z10 ?z11 ?z12 ?z13 ?g_NoRow ?g_PaneError ?g_NoPlain ?g_NoThread ?sb_NoRow ?hd_NoRow ?ty_NoRow ?sb_PaneError ?hd_PaneError ?ty_PaneError ?sb_NoPlain ?hd_NoPlain ?ty_NoPlain ?sb_NoThread ?hd_NoThread ?ty_NoThread ?lk_NoRow ?f_setattr_NoRow ?k_NoRow ?f_found_NoRow ?ini_NoRow ?int_NoRow ?il_NoRow ?ic_NoRow ?ik_NoRow ?ct_ ?cu_ ?f_getattribute_NoRow ?f_getattr_NoRow ?f_class_NoRow ?cm_NoRow ?s_NoRow_NoRow ?s_NoRow_PaneError ?s_NoRow_NoPlain ?s_NoRow_NoThread ?v_NoRow ?s_NoPlain_NoPlain ?s_NoThread_NoThread ?s_PaneError_PaneError ?ba_PaneError ?br_PaneError ?bf_PaneError
    (case a0 => k_is)
    (case l0 => k_is)
    (case c0 => k_is)
    (case k0 => k_is)
    (case a1 => k_is)
    (case l1 => k_is)
    (case c1 => k_is)
    (case k1 => k_is)
    (case a2 => k_is)
    (case l2 => k_is)
    (case c2 => k_is)
    (case k2 => k_is)
    (case a3 => k_is)
    (case l3 => k_is)
    (case c3 => k_is)
    (case k3 => k_is)
    (case a4 => k_is)
    (case l4 => k_is)
    (case c4 => k_is)
    (case k4 => k_is)
    (case a5 => k_is)
    (case l5 => k_is)
    (case c5 => k_is)
    (case k5 => k_is)
    (case a6 => k_is)
    (case l6 => k_is)
    (case c6 => k_is)
    (case k6 => k_is)
    (case a7 => k_is)
    (case l7 => k_is)
    (case c7 => k_is)
    (case k7 => k_is)
    (case a8 => k_is)
    (case l8 => k_is)
    (case c8 => k_is)
    (case k8 => k_is)
    (case a9 => k_is)
    (case l9 => k_is)
    (case c9 => k_is)
    (case k9 => k_is)
    (case a10 => k_is)
    (case l10 => k_is)
    (case c10 => k_is)
    (case k10 => k_is)
    (case a11 => k_is)
    (case l11 => k_is)
    (case c11 => k_is)
    (case k11 => k_is)
    (case a12 => k_is)
    (case l12 => k_is)
    (case c12 => k_is)
    (case k12 => k_is)
    (case a13 => k_is)
    (case l13 => k_is)
    (case c13 => k_is)
    (case k13 => k_is)
    (case a14 => k_is)
    (case l14 => k_is)
    (case c14 => k_is)
    (case k14 => k_is)
    (case a15 => k_is)
    (case l15 => k_is)
    (case c15 => k_is)
    (case k15 => k_is)
    (case a16 => k_is)
    (case l16 => k_is)
    (case c16 => k_is)
    (case k16 => k_is)
    (case a17 => k_is)
    (case l17 => k_is)
    (case c17 => k_is)
    (case k17 => k_is)
    (case a18 => k_is)
    (case l18 => k_is)
    (case c18 => k_is)
    (case k18 => k_is)
    (case a19 => k_is)
    (case l19 => k_is)
    (case c19 => k_is)
    (case k19 => k_is)
    (case a20 => k_is)
    (case l20 => k_is)
    (case c20 => k_is)
    (case k20 => k_is)
    (case a21 => k_is)
    (case l21 => k_is)
    (case c21 => k_is)
    (case k21 => k_is)
    (case a22 => k_is)
    (case l22 => k_is)
    (case c22 => k_is)
    (case k22 => k_is)
    (case a23 => k_is)
    (case l23 => k_is)
    (case c23 => k_is)
    (case k23 => k_is)
    (case a24 => k_is)
    (case l24 => k_is)
    (case c24 => k_is)
    (case k24 => k_is)
    (case cn0 => k_is)
    (case cn1 => k_is)
    (case z0 => k_is)
    (case z1 => k_is)
    (case z2 => k_is)
    (case z3 => k_is)
    (case z4 => k_is)
    (case z5 => k_is)
    (case z6 => k_is)
    (case z7 => k_is)
    (case z8 => k_is)
    (case z9 => k_is)
    (case z10 => k_is)
    (case z11 => k_is)
    (case z12 => k_is)
    (case z13 => k_is)
    (case g_NoRow => k_is)
    (case g_PaneError => k_is)
    (case g_NoPlain => k_is)
    (case g_NoThread => k_is)
    (case sb_NoRow => k_is)
    (case hd_NoRow => k_is)
    (case ty_NoRow => k_is)
    (case sb_PaneError => k_is)
    (case hd_PaneError => k_is)
    (case ty_PaneError => k_is)
    (case sb_NoPlain => k_is)
    (case hd_NoPlain => k_is)
    (case ty_NoPlain => k_is)
    (case sb_NoThread => k_is)
    (case hd_NoThread => k_is)
    (case ty_NoThread => k_is)
    (case lk_NoRow => k_is)
    (case f_setattr_NoRow => k_is)
    (case k_NoRow => k_is)
    (case f_found_NoRow => k_is)
    (case ini_NoRow => k_is)
    (case int_NoRow => k_is)
    (case il_NoRow => k_is)
    (case ic_NoRow => k_is)
    (case ik_NoRow => k_is)
    (case ct_ => k_is)
    (case cu_ => k_is)
    (case f_getattribute_NoRow => k_is)
    (case f_getattr_NoRow => k_is)
    (case f_class_NoRow => k_is)
    (case cm_NoRow => k_is)
    (case s_NoRow_NoRow => k_is)
    (case s_NoRow_PaneError => k_is)
    (case s_NoRow_NoPlain => k_is)
    (case s_NoRow_NoThread => k_is)
    (case v_NoRow => k_is)
    (case s_NoPlain_NoPlain => k_is)
    (case s_NoThread_NoThread => k_is)
    (case s_PaneError_PaneError => k_is)
    (case ba_PaneError => k_is)
    (case br_PaneError => k_is)
    (case bf_PaneError => k_is)
#print axioms PySem.Challenge.cw_panethread_k15_no_rows_for_heaps_holds
