import PyProof.Rows.All
import Wide.All
import OpenK.AllK
import Wide.FinOn
import HandS.ForMost
import HandS.ForExc
import HandS.IsInst
import HandS.Codes
import HandS.Evl
import KE.DataEq
import KE.GoesEnum
import HandS.ExcInit
import HandS.WordsExc
import HandS.ExcOwn
import HandS.TryElse
import HandS.ExcField
import HandS.ExcIs
import KE.KExcIs
import HandS.SetKeys
import HandS.SortRule
import HandS.SortInts
import HandS.TupLe
import PyProof.ReprRoads
import HandS.Ends
import PyProof.ReprLen
import HandS.DeepEq
import HandS.Conv
import PySem.Challenge.RW_panethread_k73_papers_of_stretches_spoil
set_option Elab.async false
set_option linter.all false
set_option maxRecDepth 100000
set_option maxHeartbeats 4000000
namespace Zb
open PySem PySem.Spec PyProof.Rows L2

/-! ### slots -/
def slot : L2.St → Nat → Option V
  | [], _ => none
  | a :: _, 0 => a
  | _ :: r, n + 1 => slot r n
theorem slot_get : ∀ {σ : L2.St} {i : Nat} {v : V}, slot σ i = some v → σ[i]? = some (some v)
  | [], _, _, h => by cases h
  | a :: r, 0, v, h => by have h : a = some v := h; simp [h]
  | a :: r, n + 1, v, h => by have h : slot r n = some v := h; simpa using slot_get h

/-! ### what is read as a row of items -/
def seqAt (H : Hp) (p : Addr) : Option (List V) := match H p with
  | some (.lst xs) => some xs
  | some (.tup xs) => some xs
  | some (.frz _ (.lst xs)) => some xs
  | some (.frz _ (.tup xs)) => some xs
  | _ => none
theorem seqAt_sq {K : PySem.W.Frag} {H : Hp} {p : Addr} {xs : List V} (h : seqAt H p = some xs) : SqL K H p xs ∨ SqT K H p xs := by
  unfold seqAt at h
  split at h
  · rename_i e; cases h; exact .inl (.inl (.inl e))
  · rename_i e; cases h; exact .inr (.inl (.inl e))
  · rename_i e; cases h; exact .inl (.inl (.inr ⟨_, e⟩))
  · rename_i e; cases h; exact .inr (.inl (.inr ⟨_, e⟩))
  · cases h

def lstAt (H : Hp) (p : Addr) : Option (List V) := match H p with
  | some (.lst xs) => some xs
  | some (.frz _ (.lst xs)) => some xs
  | _ => none
theorem lstAt_sq {K : PySem.W.Frag} {H : Hp} {p : Addr} {xs : List V} (h : lstAt H p = some xs) : SqL K H p xs := by
  unfold lstAt at h
  split at h
  · rename_i e; cases h; exact .inl (.inl e)
  · rename_i e; cases h; exact .inl (.inr ⟨_, e⟩)
  · cases h
def tupAt (H : Hp) (p : Addr) : Option (List V) := match H p with
  | some (.tup xs) => some xs
  | some (.frz _ (.tup xs)) => some xs
  | _ => none
theorem tupAt_sq {K : PySem.W.Frag} {H : Hp} {p : Addr} {xs : List V} (h : tupAt H p = some xs) : SqT K H p xs := by
  unfold tupAt at h
  split at h
  · rename_i e; cases h; exact .inl (.inl e)
  · rename_i e; cases h; exact .inl (.inr ⟨_, e⟩)
  · cases h
/-! ### data at any depth -/
mutual
inductive Rp (H : Hp) : V → PyData → Prop
  | non : Rp H .non .none
  | bl (b : Bool) : Rp H (.bl b) (.bool b)
  | int (i : Int) : Rp H (.int i) (.int i)
  | str (x : Str) : Rp H (.str x) (.str x)
  | lst {a : Addr} {xs : List V} {ds : List PyData} : lstAt H a = some xs → RpA H xs ds → Rp H (.ref a) (.list ds)
  | tup {a : Addr} {xs : List V} {ds : List PyData} : tupAt H a = some xs → RpA H xs ds → Rp H (.ref a) (.tuple ds)
inductive RpA (H : Hp) : List V → List PyData → Prop
  | nil : RpA H [] []
  | cons {v : V} {vs : List V} {d : PyData} {ds : List PyData} : Rp H v d → RpA H vs ds → RpA H (v :: vs) (d :: ds)
end
mutual
theorem Rp.dp {K : PySem.W.Frag} {H : Hp} : ∀ {v : V} {d : PyData}, Rp H v d → Dp K H v d
  | _, _, .non => .non
  | _, _, .bl b => .bl b
  | _, _, .int i => .int i
  | _, _, .str x => .str x
  | _, _, .lst h k => .lst (lstAt_sq h) (RpA.dp k)
  | _, _, .tup h k => .tup (tupAt_sq h) (RpA.dp k)
theorem RpA.dp {K : PySem.W.Frag} {H : Hp} : ∀ {vs : List V} {ds : List PyData}, RpA H vs ds → DpAll K H vs ds
  | _, _, .nil => .nil
  | _, _, .cons h k => .cons (Rp.dp h) (RpA.dp k)
end
/-! ### operators by values -/
def rAdd : R2 := fun x y H Q => match x, y with
  | .int i, .int j => Q (.int (i + j)) H
  | .str a, .str b => a.length + b.length ≤ 16777216 ∧ Q (.str (a ++ b)) H
  | .ref p, .ref q => ∃ xs ys, H p = some (.lst xs) ∧ H q = some (.lst ys) ∧ xs.length + ys.length ≤ 16777216 ∧ ∀ r, H r = none → Q (.ref r) (upd H r (.lst (xs ++ ys)))
  | _, _ => False
def rSub : R2 := fun x y H Q => match x, y with
  | .int i, .int j => Q (.int (i - j)) H
  | _, _ => False
def rMul : R2 := fun x y H Q => match x, y with
  | .int i, .int j => CMul i j ∧ Q (.int (i * j)) H
  | .ref p, .int k => ∃ xs, H p = some (.lst xs) ∧ -1000000 ≤ k ∧ k ≤ 1000000 ∧ xs.length * k.toNat ≤ 16777216 ∧ ∀ r, H r = none → Q (.ref r) (upd H r (.lst (List.replicate k.toNat xs).flatten))
  | .str a, .int k => -1000000 ≤ k ∧ k ≤ 1000000 ∧ a.length * k.toNat ≤ 16777216 ∧ Q (.str (Txt.mul a k)) H
  | _, _ => False
def rMod : R2 := fun x y H Q => match x, y with
  | .int i, .int j => 0 < j ∧ Q (.int (i % j)) H
  | _, _ => False
def rDiv : R2 := fun x y H Q => match x, y with
  | .int i, .int j => 0 < j ∧ j < 1073741824 ∧ Q (.int (i / j)) H
  | _, _ => False
def rPow : R2 := fun x y H Q => match x, y with
  | .int i, .int j => 0 ≤ j ∧ j ≤ 1000000 ∧ i.natAbs < 2 ^ 64 ∧ Q (.int (i ^ j.toNat)) H
  | _, _ => False
def rCmpI (f : Int → Int → Bool) : R2 := fun x y H Q => match x, y with
  | .int i, .int j => Q (.bl (f i j)) H
  | _, _ => False
mutual
theorem Rp.plain {H : Hp} : ∀ {v : V} {d : PyData}, Rp H v d → d.plain = true
  | _, _, .non => rfl
  | _, _, .bl b => rfl
  | _, _, .int i => rfl
  | _, _, .str x => rfl
  | _, _, .lst h k => by simp only [PyData.plain]; exact RpA.plain k
  | _, _, .tup h k => by simp only [PyData.plain]; exact RpA.plain k
theorem RpA.plain {H : Hp} : ∀ {vs : List V} {ds : List PyData}, RpA H vs ds → PyData.plainAll ds = true
  | _, _, .nil => rfl
  | _, _, .cons h k => by simp only [PyData.plainAll, Rp.plain h, RpA.plain k, Bool.and_self]
end
/-- == of data at any depth -/
def rEqU : R2 := fun x y H Q => ∃ d e, Rp H x d ∧ Rp H y e ∧ min d.depth e.depth ≤ 64 ∧ Q (.bl (PyData.eqv d e)) H
def rNeU : R2 := fun x y H Q => ∃ d e, Rp H x d ∧ Rp H y e ∧ min d.depth e.depth ≤ 64 ∧ Q (.bl (!PyData.eqv d e)) H
def strIn (a b : Str) : Bool := !(Builtin.Str.occurrences b a 0 a.length 1).isEmpty
section
variable {X : Cx}
theorem sl16 : sizeLine = 16777216 := sizeLine_eq
theorem o_add : OpR X (binaryOp .Add) rAdd := by
  intro pins s σ H x y v u Q I rx ry h
  unfold rAdd at h
  split at h
  · exact op_add pins s σ H _ _ v u Q I rx ry ⟨_, _, rfl, rfl, h⟩
  · exact op_add_str pins s σ H _ _ v u Q I rx ry ⟨_, _, rfl, rfl, by rw [sl16]; exact h.1, h.2⟩
  · obtain ⟨xs, ys, h1, h2, h3, h4⟩ := h
    exact op_cat pins s σ H _ _ v u Q I rx ry ⟨_, _, _, _, rfl, rfl, h1, h2, by rw [sl16]; exact h3, h4⟩
  · exact h.elim
theorem o_sub : OpR X (binaryOp .Sub) rSub := by
  intro pins s σ H x y v u Q I rx ry h
  unfold rSub at h
  split at h
  · exact op_sub pins s σ H _ _ v u Q I rx ry ⟨_, _, rfl, rfl, h⟩
  · exact h.elim
/-- a text by its codes -/
def tx (l : List Nat) : Str := ⟨l.toArray⟩
theorem tx_toList (l : List Nat) : (tx l).cps.toList = l := by simp [tx]
theorem tx_length (l : List Nat) : (tx l).length = l.length := by simp [tx, Str.length]
theorem tx_eta (s : Str) : tx s.cps.toList = s := by cases s; simp [tx]
theorem tx_inj {a b : List Nat} : tx a = tx b ↔ a = b := ⟨fun h => by have := congrArg (fun s => s.cps.toList) h; simpa [tx] using this, fun h => by rw [h]⟩
theorem tx_append (a b : List Nat) : tx a ++ tx b = tx (a ++ b) := by
  show Str.mk _ = _
  simp [tx]
theorem txt_mul_ok {a : Str} {k : Int} (h1 : -1000000 ≤ k) (h2 : k ≤ 1000000) (h3 : a.length * k.toNat ≤ 16777216) : MulOk a k := by
  refine ⟨?_, fun h4 _ => ?_, fun _ _ => ?_⟩
  · have h5 : ¬ k < -(2 ^ 63 : Int) := by omega
    have h6 : ¬ k ≥ (2 ^ 63 : Int) := by omega
    rw [decide_eq_false h5, decide_eq_false h6]
    rfl
  · have e : (a.length : Int) * k ≤ 16777216 := by
      have e1 : ((a.length * k.toNat : Nat) : Int) ≤ ((16777216 : Nat) : Int) := Int.ofNat_le.mpr h3
      have e2 : ((k.toNat : Nat) : Int) = k := by omega
      rw [Int.natCast_mul, e2] at e1
      exact e1
    have : (a.length : Int) ≤ (2 ^ 63 - 1) / k := by
      rw [Int.le_ediv_iff_mul_le (by omega)]
      omega
    omega
  · unfold Builtin.Str.tooLong
    have : ¬ (a.length * k.toNat > sizeLine) := by rw [sl16]; omega
    exact decide_eq_false this
theorem o_mul : OpR X (binaryOp .Mult) rMul := by
  intro pins s σ H x y v u Q I rx ry h
  unfold rMul at h
  split at h
  · exact op_mul pins s σ H _ _ v u Q I rx ry ⟨_, _, rfl, rfl, h.1, h.2⟩
  · obtain ⟨xs, h1, h2, h3, h4, h5⟩ := h
    exact op_rep pins s σ H _ _ v u Q I rx ry ⟨_, _, _, rfl, rfl, h1, by omega, by omega, by rw [sl16]; exact h4, h5⟩
  · obtain ⟨h1, h2, h3, h4⟩ := h
    obtain ⟨t, rfl⟩ := rx
    obtain ⟨t', rfl⟩ := ry
    exact SB.mul (txt_mul_ok h1 h2 h3) fun t' k => ⟨.str _, H, I.tok k, ⟨_, rfl⟩, h4⟩
  · exact h.elim
theorem o_mod : OpR X (binaryOp .Mod) rMod := by
  intro pins s σ H x y v u Q I rx ry h
  unfold rMod at h
  split at h
  · exact op_mod pins s σ H _ _ v u Q I rx ry ⟨_, _, rfl, rfl, h.1, h.2⟩
  · exact h.elim
theorem o_div : OpR X (binaryOp .FloorDiv) rDiv := by
  intro pins s σ H x y v u Q I rx ry h
  unfold rDiv at h
  split at h
  · exact op_fdiv pins s σ H _ _ v u Q I rx ry ⟨_, _, rfl, rfl, ⟨h.1, h.2.1⟩, h.2.2⟩
  · exact h.elim
theorem o_pow : OpR X (binaryOp .Pow) rPow := by
  intro pins s σ H x y v u Q I rx ry h
  unfold rPow at h
  split at h
  · exact op_pow pins s σ H _ _ v u Q I rx ry ⟨_, _, rfl, rfl, ⟨h.1, h.2.1, h.2.2.1⟩, h.2.2.2⟩
  · exact h.elim
theorem cmpI_of {f : Int → Int → Bool} {op : Value → Value → Sem Value} (ho : OpR X op (rI0 fun i j => .bl (f i j))) : OpR X op (rCmpI f) := by
  intro pins s σ H x y v u Q I rx ry h
  unfold rCmpI at h
  split at h
  · exact ho pins s σ H _ _ v u Q I rx ry ⟨_, _, rfl, rfl, h⟩
  · exact h.elim
theorem o_lt : OpR X (compareOp .Lt) (rCmpI fun i j => decide (i < j)) := cmpI_of op_lt
theorem o_le : OpR X (compareOp .LtE) (rCmpI fun i j => decide (i ≤ j)) := cmpI_of op_le
theorem o_gt : OpR X (compareOp .Gt) (rCmpI fun i j => decide (j < i)) := cmpI_of op_gt
theorem o_ge : OpR X (compareOp .GtE) (rCmpI fun i j => decide (j ≤ i)) := cmpI_of op_ge
theorem o_eq (hu : X.A.units + 64 < cLine) : OpR X (compareOp .Eq) rEqU := by
  intro pins s σ H x y v u Q I rx ry h
  obtain ⟨d, e, h1, h2, h3, q⟩ := h
  obtain ⟨as, r1⟩ := Dp.reads I d x v h1.dp rx
  obtain ⟨bs, r2⟩ := Dp.reads I e y u h2.dp ry
  exact SeqAt.eq_plain r1 r2 h1.plain h2.plain (by omega) ⟨.bl _, H, I, rfl, q⟩
theorem o_ne (hu : X.A.units + 64 < cLine) : OpR X (compareOp .NotEq) rNeU := by
  intro pins s σ H x y v u Q I rx ry h
  obtain ⟨d, e, h1, h2, h3, q⟩ := h
  obtain ⟨as, r1⟩ := Dp.reads I d x v h1.dp rx
  obtain ⟨bs, r2⟩ := Dp.reads I e y u h2.dp ry
  exact SeqAt.ne_plain r1 r2 h1.plain h2.plain (by omega) ⟨.bl _, H, I, rfl, q⟩

/-! ### subscripts, slices, len, in -/
def rIxU (K : PySem.W.Frag) : R2 := fun x y H Q => match x, y with
  | .str z, .int i => z.length ≤ 16777216 ∧ ∃ c, atI z.cps.toList i = some c ∧ Q (.str (tx [c])) H
  | .ref p, .int i => ∃ xs, (SqL K H p xs ∨ SqT K H p xs) ∧ ∃ v, atI xs i = some v ∧ Q v H
  | _, _ => False
theorem i_ix {K : PySem.W.Frag} (hK : X.K = K := by rfl) : IxR X (rIxU K) := by
  subst hK
  intro value slice pins s σ H x y v u Q I rx ry h hs
  unfold rIxU at h
  split at h
  · obtain ⟨h1, c, h2, h3⟩ := h
    exact ix_str value slice pins s σ H _ _ v u Q I rx ry ⟨_, _, _, rfl, rfl, by rw [sl16]; exact h1, h2, h3⟩ hs
  · obtain ⟨xs, h1, v, h2, h3⟩ := h
    rcases h1 with h1 | h1
    · exact ix_list value slice pins s σ H _ _ _ u Q I rx ry ⟨_, _, _, _, rfl, rfl, h1, h2, h3⟩ hs
    · exact ix_tup value slice pins s σ H _ _ _ u Q I rx ry ⟨_, _, _, _, rfl, rfl, h1, h2, h3⟩ hs
  · exact h.elim
/-- a[lo:hi] of a text or a list -/
def rSlU (K : PySem.W.Frag) : V → Option Int → Option Int → Hp → VK → Prop := fun x lo hi H Q => match x with
  | .str z => z.length ≤ 16777216 ∧ Q (.str (cutS z lo hi)) H
  | .ref p => ∃ xs, SqL K H p xs ∧ ∀ q, H q = none → Q (.ref q) (upd H q (.lst (cutV xs lo hi)))
  | _ => False
theorem s_sl {K : PySem.W.Frag} (hK : X.K = K := by rfl) : SlR X (rSlU K) := by
  subst hK
  intro pins s σ H x v vl vu lo hi sl Q I rx hs pl pu h
  unfold rSlU at h
  split at h
  · exact sl_str pins s σ H _ v vl vu lo hi sl Q I rx hs pl pu ⟨_, rfl, by rw [sl16]; exact h.1, h.2⟩
  · obtain ⟨xs, h1, h2⟩ := h
    exact sl_list pins s σ H _ v vl vu lo hi sl Q I rx hs pl pu ⟨_, _, rfl, h1, h2⟩
  · exact h.elim
def rLen (K : PySem.W.Frag) : List V → Hp → VK → Prop := fun vs H Q => match vs with
  | [.str z] => z.length ≤ 16777216 ∧ Q (.int z.length) H
  | [.ref p] => (∃ xs, (SqL K H p xs ∨ SqT K H p xs) ∧ Q (.int xs.length) H)
  | _ => False
theorem c_len {K : PySem.W.Frag} (hK : X.K = K := by rfl) : CallR X (.builtin "len") (rLen K) := by
  subst hK
  intro pins s σ H xs us Q I r h
  unfold rLen at h
  split at h
  · exact call_len pins s σ H _ us Q I r ⟨_, _, rfl, ⟨by rw [sl16]; exact h.1, rfl⟩, h.2⟩
  · obtain ⟨ys, h1, h2⟩ := h
    rcases h1 with h1 | h1
    · exact call_len pins s σ H _ us Q I r ⟨_, _, rfl, .inl ⟨_, h1, rfl⟩, h2⟩
    · exact call_len pins s σ H _ us Q I r ⟨_, _, rfl, .inr ⟨_, h1, rfl⟩, h2⟩
  · exact h.elim
def rInU (neg : Bool) : R2 := fun x y H Q => match y with
  | .str b => ∃ a, x = .str a ∧ Q (.bl (if neg then !(!(Builtin.Str.occurrences b a 0 b.length 1).isEmpty) else !(Builtin.Str.occurrences b a 0 b.length 1).isEmpty)) H
  | .ref p => ∃ xs ds d, seqAt H p = some xs ∧ RpA H xs ds ∧ Rp H x d ∧ min (PyData.depthAll ds) d.depth ≤ 60 ∧ Q (.bl (if neg then !(ds.any fun y => PyData.eqv y d) else ds.any fun y => PyData.eqv y d)) H
  | _ => False
theorem seqAt_cases {H : Hp} {p : Addr} {xs : List V} (h : seqAt H p = some xs) : lstAt H p = some xs ∨ tupAt H p = some xs := by
  unfold seqAt at h
  unfold lstAt tupAt
  split at h <;> rename_i e <;> first | (cases h; rw [e]; first | exact .inl rfl | exact .inr rfl) | cases h
theorem o_in (hu : X.A.units + 64 < cLine) : OpR X (compareOp .In) (rInU false) := by
  intro pins s σ H x y v u Q I rx ry h
  unfold rInU at h
  split at h
  · obtain ⟨a, rfl, h⟩ := h
    exact op_in_str pins s σ H _ _ v u Q I rx ry ⟨_, _, rfl, rfl, h⟩
  · obtain ⟨xs, ds, d, h1, h2, h3, h4, q⟩ := h
    obtain ⟨bs, r2⟩ := Dp.reads I d x v h3.dp rx
    rcases seqAt_cases h1 with h1 | h1
    · obtain ⟨as, r1⟩ := Dp.reads I (.list ds) _ u (Rp.lst h1 h2).dp ry
      exact SeqAt.in_list_data r1 r2 h2.plain h3.plain (by omega) ⟨.bl _, H, I, rfl, q⟩
    · obtain ⟨as, r1⟩ := Dp.reads I (.tuple ds) _ u (Rp.tup h1 h2).dp ry
      exact SeqAt.in_tuple_data r1 r2 h2.plain h3.plain (by omega) ⟨.bl _, H, I, rfl, q⟩
  · exact h.elim
theorem o_nin (hu : X.A.units + 64 < cLine) : OpR X (compareOp .NotIn) (rInU true) := by
  intro pins s σ H x y v u Q I rx ry h
  unfold rInU at h
  split at h
  · obtain ⟨a, rfl, h⟩ := h
    exact op_notIn_str pins s σ H _ _ v u Q I rx ry ⟨_, _, rfl, rfl, h⟩
  · obtain ⟨xs, ds, d, h1, h2, h3, h4, q⟩ := h
    obtain ⟨bs, r2⟩ := Dp.reads I d x v h3.dp rx
    rcases seqAt_cases h1 with h1 | h1
    · obtain ⟨as, r1⟩ := Dp.reads I (.list ds) _ u (Rp.lst h1 h2).dp ry
      exact SeqAt.notIn_list_data r1 r2 h2.plain h3.plain (by omega) ⟨.bl _, H, I, rfl, q⟩
    · obtain ⟨as, r1⟩ := Dp.reads I (.tuple ds) _ u (Rp.tup h1 h2).dp ry
      exact SeqAt.notIn_tuple_data r1 r2 h2.plain h3.plain (by omega) ⟨.bl _, H, I, rfl, q⟩
  · exact h.elim
/-! ### isinstance -/
def tyO : Option HO → Option String
  | some (.lst _) => some "list"
  | some (.tup _) => some "tuple"
  | some (.dK _) => some "dict"
  | some (.dT _) => some "dict"
  | some (.frz _ (.lst _)) => some "list"
  | some (.frz _ (.tup _)) => some "tuple"
  | some (.frz _ (.dK _)) => some "dict"
  | _ => none
def tyN (H : Hp) : V → Option String
  | .non => some "NoneType"
  | .bl _ => some "bool"
  | .int _ => some "int"
  | .str _ => some "str"
  | .ref p => tyO (H p)
  | _ => none
theorem tyN_ok {K : PySem.W.Frag} {H : Hp} {v : V} {n : String} (h : tyN H v = some n) : TyX K H v (.type n) := by
  cases v with
  | non => cases h; exact .base .non
  | bl b => cases h; exact .base (.bl _)
  | int i => cases h; exact .base (.int _)
  | str x => cases h; exact .base (.str _)
  | ref p =>
    have h : tyO (H p) = some n := h
    unfold tyO at h
    split at h <;> rename_i e
    · cases h; exact .base (.lst e)
    · cases h; exact .base (.tup e)
    · cases h; exact .base (.dK e)
    · cases h; exact .base (.dT e)
    · cases h; exact .base (.frz e)
    · cases h; exact .fTuple e
    · cases h; exact .fDict e
    · cases h
  | _ => cases h
def rIs : List V → Hp → VK → Prop := fun vs H Q => match vs with
  | [x, .ty n] => ∃ t, tyN H x = some t ∧ ∃ b, kitB t n = some b ∧ Q (.bl b) H
  | _ => False
theorem c_is : CallR X (.builtin "isinstance") rIs := by
  intro pins s σ H xs us Q I r h
  unfold rIs at h
  split at h
  · obtain ⟨t, h1, b, h2, h3⟩ := h
    exact call_isi pins s σ H _ us Q I r ⟨_, _, _, _, _, rfl, .ty _, tyN_ok h1, kit_ty h2, h3⟩
  · exact h.elim
def rMax2 : List V → Hp → VK → Prop := fun vs H Q => match vs with
  | [.int i, .int j] => Q (.int (if j > i then j else i)) H
  | _ => False
def rMin2 : List V → Hp → VK → Prop := fun vs H Q => match vs with
  | [.int i, .int j] => Q (.int (if j < i then j else i)) H
  | _ => False
theorem c_max (hc : X.calm = true) : CallR X (.builtin "max") rMax2 := by
  intro pins s σ H xs us Q I r h
  unfold rMax2 at h
  split at h
  · exact call_max2 hc pins s σ H _ us Q I r ⟨_, _, rfl, h⟩
  · exact h.elim
theorem c_min (hc : X.calm = true) : CallR X (.builtin "min") rMin2 := by
  intro pins s σ H xs us Q I r h
  unfold rMin2 at h
  split at h
  · exact call_min2 hc pins s σ H _ us Q I r ⟨_, _, rfl, h⟩
  · exact h.elim
def rAllU : List V → Hp → VK → Prop := fun vs H Q => match vs with
  | [.ref p] => ∃ bs : List Bool, lstAt H p = some (bs.map V.bl) ∧ Q (.bl (bs.all id)) H
  | _ => False
theorem c_all (hc : X.calm = true) : CallR X (.builtin "all") rAllU := by
  intro pins s σ H xs us Q I r h
  unfold rAllU at h
  split at h
  · obtain ⟨bs, h1, h2⟩ := h
    exact cr_all hc pins s σ H _ us Q I r ⟨_, _, rfl, lstAt_sq h1, h2⟩
  · exact h.elim
theorem vals_of : ∀ {xs : List V} {us : List Value}, xs.length = us.length → (∀ (j : Nat) x u, xs[j]? = some x → us[j]? = some u → RelV x u) → Vals xs us
  | [], [], _, _ => .nil
  | [], _ :: _, h, _ => by simp at h
  | _ :: _, [], h, _ => by simp at h
  | a :: r, b :: s, h, k => .cons (k 0 a b rfl rfl) (vals_of (by simpa using h) fun j x u h1 h2 => k (j + 1) x u (by simpa using h1) (by simpa using h2))
theorem vals_signs {x : Str} {acc : Array Value} (h : ItemsOf (SignAt x) acc x.cps.size) : Vals (x.cps.toList.map fun c => V.str (tx [c])) acc.toList := by
  refine vals_of (by rw [List.length_map]; simp [h.1]) fun j v u h1 h2 => ?_
  obtain ⟨c, t, hc, rfl⟩ := h.2 j u (by simpa using h2)
  rw [List.getElem?_map, Array.getElem?_toList, hc] at h1
  cases h1
  exact ⟨t, rfl⟩
def rListU (K : PySem.W.Frag) : List V → Hp → VK → Prop := fun vs H Q => match vs with
  | [.str z] => z.length ≤ 16777216 ∧ ∀ p, H p = none → Q (.ref p) (upd H p (.lst (z.cps.toList.map fun c => V.str (tx [c]))))
  | [.ref p] => ∃ ys, (SqL K H p ys ∨ SqT K H p ys) ∧ ∀ l, H l = none → Q (.ref l) (upd H l (.lst ys))
  | _ => False
theorem c_list (hc : X.calm = true) {K : PySem.W.Frag} (hK : X.K = K := by rfl) : CallR X (.type "list") (rListU K) := by
  subst hK
  intro pins s σ H xs us Q I r h
  unfold rListU at h
  split at h
  · rename_i z
    obtain ⟨hz, q⟩ := h
    obtain ⟨u, rfl, t, rfl⟩ := vals1 r
    refine call_list_str (I.ok.hd hc) z t (fun h' tk acc c' kp e hacc => ?_) (by rw [sl16]; exact hz)
    have hl : (z.cps.toList.map fun c => V.str (tx [c])).length ≤ sizeLine := by rw [List.length_map, Array.length_toList, sl16]; exact hz
    exact ⟨.ref s.heap.objs.size, _, I.laid (t' := tk) kp (Nat.le_refl _) (show ObjOk X.prog X.w _ h' _ (.lst _) from ⟨hl, acc.toList, c', vals_signs hacc, by simpa using e⟩), rfl, q _ (I.hok.fresh (Nat.le_refl _))⟩
  · obtain ⟨ys, h1, h2⟩ := h
    exact call_list_of pins s σ H _ us Q I r ⟨_, _, rfl, h1, h2⟩
  · exact h.elim
def rTupU (K : PySem.W.Frag) : List V → Hp → VK → Prop := fun vs H Q => match vs with
  | [.str z] => z.length ≤ 16777216 ∧ ∀ p, H p = none → Q (.ref p) (upd H p (.tup (z.cps.toList.map fun c => V.str (tx [c]))))
  | [.ref p] => ∃ ys, (SqL K H p ys ∧ ∀ l, H l = none → Q (.ref l) (upd H l (.tup ys))) ∨ (SqT K H p ys ∧ Q (.ref p) H)
  | _ => False
theorem c_tuple (hc : X.calm = true) {K : PySem.W.Frag} (hK : X.K = K := by rfl) : CallR X (.type "tuple") (rTupU K) := by
  subst hK
  intro pins s σ H xs us Q I r h
  unfold rTupU at h
  split at h
  · rename_i z
    obtain ⟨hz, q⟩ := h
    obtain ⟨u, rfl, t, rfl⟩ := vals1 r
    refine call_tuple_str (I.ok.hd hc) z t (fun h' tk acc kp hacc => ?_) (by rw [sl16]; exact hz)
    have hl : (z.cps.toList.map fun c => V.str (tx [c])).length ≤ sizeLine := by rw [List.length_map, Array.length_toList, sl16]; exact hz
    have I1 : Inv X pins σ H { s with heap := h' } := I.kept (t' := s.toks) kp
    have ob : ObjOk X.prog X.w (upd H h'.objs.size (.tup (z.cps.toList.map fun c => V.str (tx [c])))) (h'.push { cls := .type "tuple", data := .seq acc }) h'.objs.size (.tup (z.cps.toList.map fun c => V.str (tx [c]))) := by
      have e : acc.toList.toArray = acc := by simp
      exact ⟨hl, acc.toList, vals_signs hacc, by rw [e]; exact IsTup.new _ _⟩
    exact ⟨.ref h'.objs.size, _, I1.laid (t' := tk) (fun b o e => Heap.get?_push_of_some _ e) (Nat.le_refl _) ob, rfl, q _ (I1.hok.fresh (Nat.le_refl _))⟩
  · obtain ⟨ys, h1⟩ := h
    exact call_tuple_of pins s σ H _ us Q I r ⟨_, _, rfl, h1⟩
  · exact h.elim
end
end Zb

namespace Zb
open PySem PySem.Spec PyProof.Rows L2
open Evl (tCut pss_cut)
/-! ### frames: all but M stands -/
def Fr (M : Addr → Prop) (H H' : Hp) : Prop := ∀ b o, ¬ M b → H b = some o → H' b = some o
abbrev Ex (H H' : Hp) : Prop := Fr (fun _ => False) H H'
theorem Fr.refl {M : Addr → Prop} (H : Hp) : Fr M H H := fun _ _ _ e => e
theorem Fr.trans {M : Addr → Prop} {H H1 H2 : Hp} (a : Fr M H H1) (b : Fr M H1 H2) : Fr M H H2 := fun x o n e => b x o n (a x o n e)
theorem Fr.new {M : Addr → Prop} {H : Hp} {p : Addr} {o : HO} (h : H p = none) : Fr M H (upd H p o) := fun b u _ e => by
  rw [upd_ne (ne_of_none e h)]
  exact e
theorem Fr.at {M : Addr → Prop} {H : Hp} {p : Addr} {o : HO} (h : M p) : Fr M H (upd H p o) := fun b u n e => by
  rw [upd_ne fun z => n (by rw [z]; exact h)]
  exact e
theorem Fr.up {M M' : Addr → Prop} {H H' : Hp} (e : Fr M' H H') (h : ∀ b, M' b → M b) : Fr M H H' := fun b o n q => e b o (fun m => n (h b m)) q
theorem Fr.ex {M : Addr → Prop} {H H' : Hp} (e : Ex H H') : Fr M H H' := e.up fun _ z => z.elim
/-- an object that was not there at H may change -/
theorem Fr.mut {M : Addr → Prop} {H H' : Hp} {p : Addr} {o : HO} (e : Fr M H H') (h : H p = none) : Fr M H (upd H' p o) := fun b u n q => by
  rw [upd_ne (ne_of_none q h)]
  exact e b u n q
theorem Fr.get {M : Addr → Prop} {H H' : Hp} {a : Addr} {o : HO} (e : Fr M H H') (n : ¬ M a) (h : H a = some o) : H' a = some o := e a o n h
theorem Ex.get {H H' : Hp} {a : Addr} {o : HO} (e : Ex H H') (h : H a = some o) : H' a = some o := e a o (fun z => z) h
theorem Ex.free {H H' : Hp} (e : Ex H H') {p : Addr} (h : H' p = none) : H p = none := by
  cases q : H p with
  | none => rfl
  | some o =>
    rw [e p o (fun z => z) q] at h
    cases h
theorem Fr.free {M : Addr → Prop} {H H' : Hp} (e : Fr M H H') {p : Addr} (n : ¬ M p) (h : H' p = none) : H p = none := by
  cases q : H p with
  | none => rfl
  | some o =>
    rw [e p o n q] at h
    cases h
theorem upd_old {H : Hp} {p a : Addr} {o u : HO} (hp : H p = none) (ha : H a = some u) : upd H p o a = some u := by
  rw [upd_ne (ne_of_none ha hp)]
  exact ha
theorem upd_free {H : Hp} {p q : Addr} {o : HO} (h : upd H p o q = none) : H q = none := by
  by_cases e : q = p
  · rw [e, upd_same] at h
    cases h
  · rwa [upd_ne e] at h
theorem lst_of {H : Hp} {p : Addr} {xs : List V} (h : H p = some (.lst xs)) : lstAt H p = some xs := by unfold lstAt; rw [h]
theorem tup_of {H : Hp} {p : Addr} {xs : List V} (h : H p = some (.tup xs)) : tupAt H p = some xs := by unfold tupAt; rw [h]
theorem seq_l {H : Hp} {p : Addr} {xs : List V} (h : H p = some (.lst xs)) : seqAt H p = some xs := by unfold seqAt; rw [h]
theorem seq_t {H : Hp} {p : Addr} {xs : List V} (h : H p = some (.tup xs)) : seqAt H p = some xs := by unfold seqAt; rw [h]
/-! ### one step of a reading -/
section
variable {D : Ends} {σ : L2.St} {H : Hp} {Q : VK} {K : PySem.W.Frag} {R : L2.St → Hp → Prop} {B : Bool → Hp → Prop}
theorem st_seq {t u : TS} (h : t { D with nx := u D } σ H) : tSeq t u D σ H := h
theorem st_next (h : D.nx σ H) : tNext D σ H := h
theorem st_brk (h : D.bk σ H) : tBreak D σ H := h
theorem st_cont (h : D.ct σ H) : tCont D σ H := h
theorem st_drop {te : TE} (h : te σ H (fun _ H1 => D.nx σ H1)) : tDrop te D σ H := h
theorem st_ret {te : TE} (h : te σ H D.rt) : tRet te D σ H := h
theorem st_retN (h : D.rt .non H) : tRetN D σ H := h
theorem st_ifS {c : TT} {t u : TS} (h : c σ H (fun b H1 => if b = true then t D σ H1 else u D σ H1)) : tIfS c t u D σ H := h
theorem st_asg {te : TE} {g : TG} (h : te σ H (fun x H1 => g x σ H1 D.nx)) : tAsg te g D σ H := h
theorem st_name {i : Nat} {v : V} (h : R (σ.set i (some v)) H) : gName i v σ H R := h
theorem st_sub {to ti : TE} {t : TSet} {v : V} (h : to σ H (fun o H1 => ti σ H1 fun i H2 => t o i v H2 fun H3 => R σ H3)) : gSub to ti t v σ H R := h
theorem st_augI {i : Nat} {te : TE} {f : Int → Int → Int} {z : Int} (hx : σ[i]? = some (some (.int z))) (h : te σ H (fun y H1 => ipI f (.int z) y H1 fun z H2 => D.nx (σ.set i (some z)) H2)) : tAug i te (ipI f) D σ H := ⟨_, hx, h⟩
theorem st_ipI {f : Int → Int → Int} {x y : Int} (h : Q (.int (f x y)) H) : ipI f (.int x) (.int y) H Q := ⟨_, _, rfl, rfl, h⟩
theorem st_par {i j : Nat} {ta : TA} (h : ta σ H (fun vs H1 => ∃ v w, vs = [v, w] ∧ D.nx ((σ.set i (some v)).set j (some w)) H1)) : tPar i j ta D σ H := h
theorem st_par2 {v w : V} {P : V → V → Prop} (h : P v w) : ∃ v' w', [v, w] = [v', w'] ∧ P v' w' := ⟨v, w, rfl, h⟩
theorem st_var {i : Nat} {v : V} (hv : σ[i]? = some (some v)) (h : Q v H) : tVar i σ H Q := ⟨v, hv, h⟩
theorem st_c {v : V} (h : Q v H) : tC v σ H Q := h
theorem st_op {r : R2} {ta tb : TE} (h : ta σ H (fun x H1 => tb σ H1 fun y H2 => r x y H2 Q)) : tOp r ta tb σ H Q := h
theorem st_un {r : V → Hp → VK → Prop} {ta : TE} (h : ta σ H (fun x H1 => r x H1 Q)) : tUn r ta σ H Q := h
theorem st_rU {g : Int → V} {i : Int} (h : Q (g i) H) : rU g (.int i) H Q := ⟨i, rfl, h⟩
theorem st_B {t : TE} (h : t σ H (fun x H1 => ∃ c, x = .bl c ∧ B c H1)) : tB t σ H B := h
theorem st_test {t : TE} (h : t σ H (fun x H1 => ∃ c, x = .bl c ∧ B c H1)) : tTest t σ H B := h
theorem st_isb {b : Bool} {P : Bool → Prop} (h : P b) : ∃ c, V.bl b = .bl c ∧ P c := ⟨b, rfl, h⟩
theorem st_and {t u : TT} (h : t σ H (fun c H1 => if c = true then u σ H1 B else B false H1)) : tAnd t u σ H B := h
theorem st_or {t u : TT} (h : t σ H (fun c H1 => if c = true then B true H1 else u σ H1 B)) : tOr t u σ H B := h
theorem st_not {t : TT} (h : t σ H (fun c H1 => B (!c) H1)) : tNot t σ H B := h
theorem st_andV {ta tb : TE} (h : ta σ H (fun x H1 => ∃ c, x = .bl c ∧ if c = true then tb σ H1 Q else Q (.bl false) H1)) : tAndV ta tb σ H Q := h
theorem st_orV {ta tb : TE} (h : ta σ H (fun x H1 => ∃ c, x = .bl c ∧ if c = true then Q (.bl true) H1 else tb σ H1 Q)) : tOrV ta tb σ H Q := h
theorem st_notV {ta : TE} (h : ta σ H (fun x H1 => ∃ c, x = .bl c ∧ Q (.bl (!c)) H1)) : tNotV ta σ H Q := h
theorem st_if {t : TT} {ta tb : TE} (h : t σ H (fun c H1 => if c = true then ta σ H1 Q else tb σ H1 Q)) : tIf t ta tb σ H Q := h
theorem st_nil {P : List V → Hp → Prop} (h : P [] H) : tNil σ H P := h
theorem st_cons {ta : TE} {tr : TA} {P : List V → Hp → Prop} (h : ta σ H (fun x H1 => tr σ H1 fun xs H2 => P (x :: xs) H2)) : tCons ta tr σ H P := h
def NewO (o : List V → HO) (xs : List V) (Q : VK) (H : Hp) : Prop := xs.length ≤ sizeLine ∧ ∀ p, H p = none → Q (.ref p) (upd H p (o xs))
theorem st_tup {t : TA} (h : t σ H (fun xs H1 => NewO .tup xs Q H1)) : tTup t σ H Q := h
theorem st_lst {t : TA} (h : t σ H (fun xs H1 => NewO .lst xs Q H1)) : tLst t σ H Q := h
/-- a new object: from then on the heap is a letter -/
theorem st_new {xs : List V} {o : List V → HO} (hz : xs.length ≤ 16777216) (h : ∀ p H', H p = none → Ex H H' → H' p = some (o xs) → Q (.ref p) H') : NewO o xs Q H :=
  ⟨by rw [sl16]; exact hz, fun p hp => h p _ hp (Fr.new hp) upd_same⟩
theorem st_cb {r : List V → Hp → VK → Prop} {t : TA} (h : t σ H (fun vs H1 => r vs H1 Q)) : tCB r t σ H Q := h
theorem st_call {sp : Sp} {dvs : List V} {E : XK} {t : TA} (h : t σ H (fun vs H1 => sp (vs ++ dvs) H1 Q E)) : tCall sp dvs E t σ H Q := h
theorem st_sl {r : V → Option Int → Option Int → Hp → VK → Prop} {te : TE} {tl th : TO} (h : te σ H (fun x H1 => tl σ H1 fun l H2 => th σ H2 fun u H3 => r x l u H3 Q)) : tSl r te tl th σ H Q := h
theorem st_part {te : TE} {P : Option Int → Hp → Prop} (h : te σ H (fun x H1 => ∃ i, x = .int i ∧ P (some i) H1)) : tPart te σ H P := h
theorem st_isi {i : Int} {P : Int → Prop} (h : P i) : ∃ j, V.int i = .int j ∧ P j := ⟨i, rfl, h⟩
theorem st_nopart {P : Option Int → Hp → Prop} (h : P none H) : tNoPart σ H P := h
/-! values -/
theorem st_addI {i j : Int} (h : Q (.int (i + j)) H) : rAdd (.int i) (.int j) H Q := h
theorem st_addS {a b : Str} (hz : a.length + b.length ≤ 16777216) (h : Q (.str (a ++ b)) H) : rAdd (.str a) (.str b) H Q := ⟨hz, h⟩
theorem st_addL {p q : Addr} {xs ys : List V} (h1 : H p = some (.lst xs)) (h2 : H q = some (.lst ys)) (hz : xs.length + ys.length ≤ 16777216) (h : ∀ r H', H r = none → Ex H H' → H' r = some (.lst (xs ++ ys)) → Q (.ref r) H') : rAdd (.ref p) (.ref q) H Q :=
  ⟨xs, ys, h1, h2, hz, fun r hr => h r _ hr (Fr.new hr) upd_same⟩
theorem st_subI {i j : Int} (h : Q (.int (i - j)) H) : rSub (.int i) (.int j) H Q := h
theorem st_mulI {i j : Int} (hc : (-(2 ^ 64) < i ∧ i < 2 ^ 64) ∨ (-(2 ^ 64) < j ∧ j < 2 ^ 64)) (h : Q (.int (i * j)) H) : rMul (.int i) (.int j) H Q := ⟨hc, h⟩
theorem st_mulL {p : Addr} {k : Int} {xs : List V} (h1 : H p = some (.lst xs)) (h2 : -1000000 ≤ k) (h3 : k ≤ 1000000) (hz : xs.length * k.toNat ≤ 16777216) (h : ∀ r H', H r = none → Ex H H' → H' r = some (.lst (List.replicate k.toNat xs).flatten) → Q (.ref r) H') : rMul (.ref p) (.int k) H Q :=
  ⟨xs, h1, h2, h3, hz, fun r hr => h r _ hr (Fr.new hr) upd_same⟩
theorem st_mulS {a : Str} {k : Int} (h2 : -1000000 ≤ k) (h3 : k ≤ 1000000) (hz : a.length * k.toNat ≤ 16777216) (h : Q (.str (Txt.mul a k)) H) : rMul (.str a) (.int k) H Q := ⟨h2, h3, hz, h⟩
theorem st_modI {i j : Int} (hc : 0 < j) (h : Q (.int (i % j)) H) : rMod (.int i) (.int j) H Q := ⟨hc, h⟩
theorem st_divI {i j : Int} (hc : 0 < j ∧ j < 1073741824) (h : Q (.int (i / j)) H) : rDiv (.int i) (.int j) H Q := ⟨hc.1, hc.2, h⟩
theorem st_powI {i j : Int} (hc : 0 ≤ j ∧ j ≤ 1000000 ∧ i.natAbs < 2 ^ 64) (h : Q (.int (i ^ j.toNat)) H) : rPow (.int i) (.int j) H Q := ⟨hc.1, hc.2.1, hc.2.2, h⟩
theorem st_cmpI {f : Int → Int → Bool} {i j : Int} (h : Q (.bl (f i j)) H) : rCmpI f (.int i) (.int j) H Q := h
theorem st_eqI {i j : Int} (h : Q (.bl (decide (i = j))) H) : rEqU (.int i) (.int j) H Q := ⟨_, _, .int i, .int j, by simp [PyData.depth], by
  have e : PyData.eqv (.int i) (.int j) = decide (i = j) := by simp only [PyData.eqv]; rfl
  rw [e]; exact h⟩
theorem st_neI {i j : Int} (h : Q (.bl (!decide (i = j))) H) : rNeU (.int i) (.int j) H Q := ⟨_, _, .int i, .int j, by simp [PyData.depth], by
  have e : PyData.eqv (.int i) (.int j) = decide (i = j) := by simp only [PyData.eqv]; rfl
  rw [e]; exact h⟩
theorem st_eqS {i j : Str} (h : Q (.bl (decide (i = j))) H) : rEqU (.str i) (.str j) H Q := ⟨_, _, .str i, .str j, by simp [PyData.depth], by
  have e : PyData.eqv (.str i) (.str j) = decide (i = j) := by simp only [PyData.eqv]; rfl
  rw [e]; exact h⟩
theorem st_neS {i j : Str} (h : Q (.bl (!decide (i = j))) H) : rNeU (.str i) (.str j) H Q := ⟨_, _, .str i, .str j, by simp [PyData.depth], by
  have e : PyData.eqv (.str i) (.str j) = decide (i = j) := by simp only [PyData.eqv]; rfl
  rw [e]; exact h⟩
theorem st_eqB {i j : Bool} (h : Q (.bl (i == j)) H) : rEqU (.bl i) (.bl j) H Q := ⟨_, _, .bl i, .bl j, by simp [PyData.depth], by
  have e : PyData.eqv (.bool i) (.bool j) = (i == j) := by simp only [PyData.eqv]
  rw [e]; exact h⟩
theorem st_neB {i j : Bool} (h : Q (.bl (!(i == j))) H) : rNeU (.bl i) (.bl j) H Q := ⟨_, _, .bl i, .bl j, by simp [PyData.depth], by
  have e : PyData.eqv (.bool i) (.bool j) = (i == j) := by simp only [PyData.eqv]
  rw [e]; exact h⟩
theorem st_eqD {x y : V} {d e : PyData} (h1 : Rp H x d) (h2 : Rp H y e) (hd : min d.depth e.depth ≤ 64) (h : Q (.bl (PyData.eqv d e)) H) : rEqU x y H Q := ⟨d, e, h1, h2, hd, h⟩
theorem st_neD {x y : V} {d e : PyData} (h1 : Rp H x d) (h2 : Rp H y e) (hd : min d.depth e.depth ≤ 64) (h : Q (.bl (!PyData.eqv d e)) H) : rNeU x y H Q := ⟨d, e, h1, h2, hd, h⟩
theorem st_ixL {p : Addr} {i : Int} {v : V} {xs : List V} (h1 : H p = some (.lst xs)) (h2 : atI xs i = some v) (h : Q v H) : rIxU K (.ref p) (.int i) H Q := ⟨xs, seqAt_sq (seq_l h1), v, h2, h⟩
theorem st_ixT {p : Addr} {i : Int} {v : V} {xs : List V} (h1 : H p = some (.tup xs)) (h2 : atI xs i = some v) (h : Q v H) : rIxU K (.ref p) (.int i) H Q := ⟨xs, seqAt_sq (seq_t h1), v, h2, h⟩
theorem st_ixQ {p : Addr} {i : Int} {v : V} {xs : List V} (h1 : seqAt H p = some xs) (h2 : atI xs i = some v) (h : Q v H) : rIxU K (.ref p) (.int i) H Q := ⟨xs, seqAt_sq h1, v, h2, h⟩
theorem st_ixK {p : Addr} {i : Int} {v : V} {xs : List V} (h1 : SqL K H p xs) (h2 : atI xs i = some v) (h : Q v H) : rIxU K (.ref p) (.int i) H Q := ⟨xs, .inl h1, v, h2, h⟩
theorem at_in {α : Type} {xs : List α} {i : Int} (h0 : 0 ≤ i) (h1 : i < xs.length) : ∃ v, atI xs i = some v ∧ xs[i.toNat]? = some v := by
  have hj : i.toNat < xs.length := by omega
  refine ⟨xs[i.toNat], ?_, List.getElem?_eq_getElem hj⟩
  unfold atI ixN
  rw [if_pos h0, if_pos h1]
  exact List.getElem?_eq_getElem hj
/-- an item of a row of numbers, of texts, at some place -/
theorem st_ixI {p : Addr} {i : Int} {xs : List V} (ns : List Int) (h1 : H p = some (.lst xs)) (e : xs = ns.map V.int) (h0 : 0 ≤ i) (hi : i < ns.length) (h : ∀ z, ns[i.toNat]? = some z → z ∈ ns → Q (.int z) H) : rIxU K (.ref p) (.int i) H Q := by
  subst e
  obtain ⟨v, h2, h3⟩ := at_in (xs := ns.map V.int) h0 (by rw [List.length_map]; exact hi)
  rw [List.getElem?_map] at h3
  cases q : ns[i.toNat]? with
  | none => rw [q] at h3; cases h3
  | some z =>
    rw [q] at h3
    cases h3
    exact st_ixL h1 h2 (h z q (List.mem_of_getElem? q))
theorem st_ixS {p : Addr} {i : Int} {xs : List V} (ns : List Str) (h1 : H p = some (.lst xs)) (e : xs = ns.map V.str) (h0 : 0 ≤ i) (hi : i < ns.length) (h : ∀ z, ns[i.toNat]? = some z → z ∈ ns → Q (.str z) H) : rIxU K (.ref p) (.int i) H Q := by
  subst e
  obtain ⟨v, h2, h3⟩ := at_in (xs := ns.map V.str) h0 (by rw [List.length_map]; exact hi)
  rw [List.getElem?_map] at h3
  cases q : ns[i.toNat]? with
  | none => rw [q] at h3; cases h3
  | some z =>
    rw [q] at h3
    cases h3
    exact st_ixL h1 h2 (h z q (List.mem_of_getElem? q))
/-- a sign of a text -/
theorem st_sign {z : Str} {i : Int} {c : Nat} (hz : z.length ≤ 16777216) (h2 : atI z.cps.toList i = some c) (h : Q (.str (tx [c])) H) : rIxU K (.str z) (.int i) H Q := ⟨hz, c, h2, h⟩
theorem st_slS {z : Str} {lo hi : Option Int} (hz : z.length ≤ 16777216) (h : Q (.str (cutS z lo hi)) H) : rSlU K (.str z) lo hi H Q := ⟨hz, h⟩
theorem st_slL {p : Addr} {xs : List V} {lo hi : Option Int} (h1 : lstAt H p = some xs) (h : ∀ q H', H q = none → Ex H H' → H' q = some (.lst (cutV xs lo hi)) → Q (.ref q) H') : rSlU K (.ref p) lo hi H Q := ⟨xs, lstAt_sq h1, fun q hq => h q _ hq (Fr.new hq) upd_same⟩
theorem st_slK {p : Addr} {xs : List V} {lo hi : Option Int} (h1 : SqL K H p xs) (h : ∀ q H', H q = none → Ex H H' → H' q = some (.lst (cutV xs lo hi)) → Q (.ref q) H') : rSlU K (.ref p) lo hi H Q := ⟨xs, h1, fun q hq => h q _ hq (Fr.new hq) upd_same⟩
theorem st_lenS {z : Str} (hz : z.length ≤ 16777216) (h : Q (.int z.length) H) : rLen K [.str z] H Q := ⟨hz, h⟩
theorem st_lenL {p : Addr} {xs : List V} (h1 : H p = some (.lst xs)) (h : Q (.int xs.length) H) : rLen K [.ref p] H Q := ⟨xs, seqAt_sq (seq_l h1), h⟩
theorem st_lenT {p : Addr} {xs : List V} (h1 : H p = some (.tup xs)) (h : Q (.int xs.length) H) : rLen K [.ref p] H Q := ⟨xs, seqAt_sq (seq_t h1), h⟩
theorem st_lenQ {p : Addr} {xs : List V} (h1 : seqAt H p = some xs) (h : Q (.int xs.length) H) : rLen K [.ref p] H Q := ⟨xs, seqAt_sq h1, h⟩
theorem st_lenK {p : Addr} {xs : List V} (h1 : SqL K H p xs) (h : Q (.int xs.length) H) : rLen K [.ref p] H Q := ⟨xs, .inl h1, h⟩
theorem st_max2 {i j : Int} (h : Q (.int (if j > i then j else i)) H) : Zb.rMax2 [.int i, .int j] H Q := h
theorem st_min2 {i j : Int} (h : Q (.int (if j < i then j else i)) H) : Zb.rMin2 [.int i, .int j] H Q := h
theorem st_is {x : V} {n t : String} {b : Bool} (h1 : tyN H x = some t) (h2 : kitB t n = some b) (h : Q (.bl b) H) : rIs [x, .ty n] H Q := ⟨t, h1, b, h2, h⟩
/-- xs[i] = e -/
theorem st_setL {p : Addr} {k : Int} {v : V} {xs : List V} {j : Nat} {R : Hp → Prop} (h1 : H p = some (.lst xs)) (h2 : ixN xs.length k = some j) (h : R (upd H p (.lst (xs.set j v)))) : rSetL (.ref p) (.int k) v H R := ⟨p, xs, k, j, rfl, rfl, h1, h2, h⟩
theorem st_T {A B : Prop} {b : Bool} (hb : b = true) (h : A) : if b = true then A else B := by rw [if_pos hb]; exact h
theorem st_F {A B : Prop} {b : Bool} (hb : b = false) (h : B) : if b = true then A else B := by rw [hb, if_neg Bool.false_ne_true]; exact h
theorem st_br {A B : Prop} {b : Bool} (h1 : b = true → A) (h2 : b = false → B) : if b = true then A else B := by
  cases b with
  | true => exact h1 rfl
  | false => exact h2 rfl
theorem st_br2 {A B : Prop} {p : Prop} [Decidable p] (h1 : p → A) (h2 : ¬ p → B) : if decide p = true then A else B := by
  by_cases q : p
  · rw [decide_eq_true q]; exact h1 q
  · rw [decide_eq_false q, if_neg Bool.false_ne_true]; exact h2 q
theorem st_brn {A B : Prop} {p : Prop} [Decidable p] (h1 : ¬ p → A) (h2 : p → B) : if (!decide p) = true then A else B := by
  by_cases q : p
  · rw [decide_eq_true q]; exact h2 q
  · rw [decide_eq_false q]; exact h1 q
end
/-! ### a law's purse: three numbers that each drawing changes -/
def Purse (H : Hp) (a : Addr) : Prop := ∃ x y z : Int, H a = some (.lst [.int x, .int y, .int z])
abbrev FrP (p : Addr) (H H' : Hp) : Prop := Fr (fun b => b = p) H H'
theorem FrP.at {H : Hp} {p : Addr} {o : HO} : FrP p H (upd H p o) := Fr.at (M := fun b => b = p) rfl
theorem Purse.ne {H : Hp} {p q : Addr} (h : Purse H p) (hq : H q = none) : q ≠ p := fun e => by
  obtain ⟨x, y, z, h⟩ := h
  rw [e, h] at hq
  cases hq
theorem Purse.ex {H H' : Hp} {p : Addr} (h : Purse H p) (e : Ex H H') : Purse H' p := by
  obtain ⟨x, y, z, h⟩ := h
  exact ⟨x, y, z, e.get h⟩
end Zb

namespace Zb
open PySem PySem.Spec PyProof.Rows L2
open Evl (tCut pss_cut)
/-! ### what is walked: n turns, while S stands -/
structure Runs (J : It) (n : Nat) (S : Hp → Prop) (item : Nat → V → Hp → Hp → Prop) : Prop where
  go : ∀ i H, i < n → S H → J.go i H
  stop : ∀ H, S H → J.stop n H
  yld : ∀ i H x H', i < n → S H → J.yld i H x H' → item i x H H'
theorem runs_range (lo : Int) (n : Nat) : Runs (Itr lo n) n (fun _ => True) (fun i x H H' => H' = H ∧ x = .int (lo + i)) :=
  ⟨fun _ _ h _ => h, fun _ _ => Nat.le_refl _, fun _ _ _ _ _ _ y => y⟩
theorem runs_str (z : Str) : Runs (Its z) z.length (fun _ => True) (fun i x H H' => H' = H ∧ ∃ c, z.cps.toList[i]? = some c ∧ x = .str (tx [c])) :=
  ⟨fun _ _ h _ => h, fun _ _ => Nat.le_refl _, fun _ _ _ _ _ _ y => by
    obtain ⟨h, c, e1, e2⟩ := y
    exact ⟨h, c, by rw [Array.getElem?_toList]; exact e1, e2⟩⟩
theorem runs_list (K : PySem.W.Frag) (a : Addr) (xs : List V) : Runs (Itl K a) xs.length (fun H => lstAt H a = some xs) (fun i x H H' => H' = H ∧ xs[i]? = some x) :=
  ⟨fun i H h s => ⟨xs, xs[i], lstAt_sq s, by simp [h]⟩, fun _ s => ⟨xs, lstAt_sq s, Nat.le_refl _⟩, fun _ _ _ _ _ s y => ⟨y.1, y.2 xs (lstAt_sq s)⟩⟩
theorem runs_tup (K : PySem.W.Frag) (a : Addr) (xs : List V) : Runs (Itt K a) xs.length (fun H => tupAt H a = some xs) (fun i x H H' => H' = H ∧ xs[i]? = some x) :=
  ⟨fun i H h s => ⟨xs, xs[i], tupAt_sq s, by simp [h]⟩, fun _ s => ⟨xs, tupAt_sq s, Nat.le_refl _⟩, fun _ _ _ _ _ s y => ⟨y.1, y.2 xs (tupAt_sq s)⟩⟩
theorem runs_enum (K : PySem.W.Frag) (a : Addr) (xs : List V) : Runs (Ite K a) xs.length (fun H => lstAt H a = some xs) (fun i x H H' => ∃ T v, x = .ref T ∧ H T = none ∧ Ex H H' ∧ H' T = some (.tup [.int (i : Nat), v]) ∧ xs[i]? = some v) :=
  ⟨fun i H h s => ⟨xs, xs[i], lstAt_sq s, by simp [h]⟩, fun _ s => ⟨xs, lstAt_sq s, Nat.le_refl _⟩, fun i H x H' _ s y => by
    obtain ⟨T, v, e1, e2, e3, e4⟩ := y
    subst e3
    exact ⟨T, v, e1, e2, Fr.new e2, upd_same, e4 xs (lstAt_sq s)⟩⟩
theorem runs_zip (K : PySem.W.Frag) (a b : Addr) (xs ys : List V) : Runs (Itz K a b) (min xs.length ys.length) (fun H => lstAt H a = some xs ∧ lstAt H b = some ys) (fun i x H H' => ∃ T v u, x = .ref T ∧ H T = none ∧ Ex H H' ∧ H' T = some (.tup [v, u]) ∧ xs[i]? = some v ∧ ys[i]? = some u) :=
  ⟨fun i H h s => ⟨xs, ys, xs[i]'(by omega), ys[i]'(by omega), lstAt_sq s.1, lstAt_sq s.2, by rw [List.getElem?_eq_getElem], by rw [List.getElem?_eq_getElem]⟩, fun _ s => ⟨xs, ys, lstAt_sq s.1, lstAt_sq s.2, by omega⟩, fun i H x H' _ s y => by
    obtain ⟨T, v, u, e1, e2, e3, e4, e5⟩ := y
    subst e3
    exact ⟨T, v, u, e1, e2, Fr.new e2, upd_same, e4 xs (lstAt_sq s.1), e5 ys (lstAt_sq s.2)⟩⟩
def LcGoal (J : It) (g : TG) (tt : TT) (te : TE) (vs : List Nat) (σ : L2.St) (Q : VK) (H1 : Hp) : Prop := ∀ D, H1 D = none → ∃ W : Nat → Nat → Hp → Prop, (∃ m, W 0 m (upd H1 D (.lst []))) ∧ ∀ i m H, W i m H →
      (J.stop i H ∧ Q (.ref D) H) ∨ (J.go i H ∧ ∃ Nx : Hp → Prop, (∀ H', Nx H' → ∃ m', m' < m ∧ W (i + 1) m' H') ∧ ∀ x H', J.yld i H x H' → g x (wipe σ vs) H' fun σ2 H2 => wipe σ2 vs = wipe σ vs ∧ tt σ2 H2 fun b H3 =>
        if b = true then te σ2 H3 fun y H4 => ∃ acc, H4 D = some (.lst acc) ∧ acc.length < sizeLine ∧ Nx (upd H4 D (.lst (acc ++ [y]))) else Nx H3)
def ForGoal (J : It) (g : TG) (tb : TS) (D : Ends) (σ : L2.St) (H : Hp) : Prop := ∃ W : Nat → Nat → L2.St → Hp → Prop, (∃ m, W 0 m σ H) ∧ ∀ i m σ H, W i m σ H →
      (J.stop i H ∧ D.nx σ H) ∨ (J.go i H ∧ ∃ N : L2.St → Hp → Prop, (∀ σ' H', N σ' H' → ∃ m', m' < m ∧ W (i + 1) m' σ' H') ∧ ∀ x H', J.yld i H x H' → g x σ H' fun σ2 H2 => tb { D with nx := N, ct := N, bk := D.nx } σ2 H2)
section
variable {J : It} {n : Nat} {S : Hp → Prop} {item : Nat → V → Hp → Hp → Prop} {g : TG} {σ : L2.St} {H H1 : Hp} {K : PySem.W.Frag}
/-- a for loop by its word Pv -/
theorem for_runs {tb : TS} {D : Ends} (hR : Runs J n S item) (Pv : Nat → L2.St → Hp → Prop) (h0 : Pv 0 σ H) (hS : ∀ i σ H, i ≤ n → Pv i σ H → S H)
    (hs : ∀ i x σ H H', i < n → Pv i σ H → item i x H H' → g x σ H' fun σ2 H2 => tb { D with nx := Pv (i + 1), ct := Pv (i + 1), bk := D.nx } σ2 H2) (hd : ∀ σ H, Pv n σ H → D.nx σ H) :
    ForGoal J g tb D σ H := by
  refine ⟨fun i m σ H => m = n - i ∧ i ≤ n ∧ Pv i σ H, ⟨n, by simp, Nat.zero_le _, h0⟩, ?_⟩
  rintro i m σ H ⟨rfl, hi, p⟩
  by_cases hlt : i < n
  · refine .inr ⟨hR.go i H hlt (hS i σ H hi p), Pv (i + 1), fun σ' H' p' => ⟨n - (i + 1), by omega, rfl, hlt, p'⟩, fun x H' y => ?_⟩
    exact hs i x σ H H' hlt p (hR.yld i H x H' hlt (hS i σ H hi p) y)
  · have e : i = n := by omega
    subst e
    exact .inl ⟨hR.stop H (hS i σ H hi p), hd σ H p⟩
/-- the list of a comprehension on its way -/
structure LcAt (M : Addr → Prop) (H1 : Hp) (D : Addr) (acc : List V) (H : Hp) : Prop where
  new : H1 D = none
  non : ¬ M D
  at_ : H D = some (.lst acc)
  fr : Fr M H1 H
def LcW (M : Addr → Prop) (H1 : Hp) (Pv : Nat → List V → Hp → Prop) (D : Addr) (i : Nat) (H : Hp) : Prop := ∃ acc, LcAt M H1 D acc H ∧ Pv i acc H
/-- Pv does not look at the list itself -/
def LcSt (M : Addr → Prop) (H1 : Hp) (Pv : Nat → List V → Hp → Prop) : Prop := ∀ i acc H' D o, H1 D = none → Fr M H1 H' → Pv i acc H' → Pv i acc (upd H' D o)
theorem lc_yes {M : Addr → Prop} {Pv : Nat → List V → Hp → Prop} {D : Addr} {i : Nat} {acc : List V} {H' H4 : Hp} {y : V} (L : LcAt M H1 D acc H') (hst : LcSt M H1 Pv) (e : Fr M H' H4) (hz : acc.length < 1000000) (p : Pv (i + 1) (acc ++ [y]) H4) :
    ∃ acc, H4 D = some (.lst acc) ∧ acc.length < sizeLine ∧ LcW M H1 Pv D (i + 1) (upd H4 D (.lst (acc ++ [y]))) :=
  ⟨acc, e D _ L.non L.at_, by rw [sl16]; omega, acc ++ [y], ⟨L.new, L.non, upd_same, (L.fr.trans e).mut L.new⟩, hst _ _ _ _ _ L.new (L.fr.trans e) p⟩
theorem lc_no {M : Addr → Prop} {Pv : Nat → List V → Hp → Prop} {D : Addr} {i : Nat} {acc : List V} {H' H4 : Hp} (L : LcAt M H1 D acc H') (e : Fr M H' H4) (p : Pv (i + 1) acc H4) : LcW M H1 Pv D (i + 1) H4 :=
  ⟨acc, ⟨L.new, L.non, e D _ L.non L.at_, L.fr.trans e⟩, p⟩
theorem lc_runs {tt : TT} {te : TE} {vs : List Nat} {Q : VK} (hR : Runs J n S item) (M : Addr → Prop) (Pv : Nat → List V → Hp → Prop) (hM : ∀ b, M b → H1 b ≠ none) (h0 : Pv 0 [] H1) (hst : LcSt M H1 Pv) (hS : ∀ i acc H', Fr M H1 H' → Pv i acc H' → S H')
    (hs : ∀ D i acc x H' H'', i < n → LcAt M H1 D acc H' → Pv i acc H' → item i x H' H'' → g x (wipe σ vs) H'' fun σ2 H2 => wipe σ2 vs = wipe σ vs ∧ tt σ2 H2 fun b H3 => if b = true then te σ2 H3 fun y H4 => ∃ acc, H4 D = some (.lst acc) ∧ acc.length < sizeLine ∧ LcW M H1 Pv D (i + 1) (upd H4 D (.lst (acc ++ [y]))) else LcW M H1 Pv D (i + 1) H3)
    (hd : ∀ D acc H', H1 D = none → Fr M H1 H' → H' D = some (.lst acc) → Pv n acc H' → Q (.ref D) H') :
    LcGoal J g tt te vs σ Q H1 := by
  intro D hD
  refine ⟨fun i m H => m = n - i ∧ i ≤ n ∧ LcW M H1 Pv D i H, ⟨n, by simp, Nat.zero_le _, [], ⟨hD, fun m => hM D m hD, upd_same, Fr.new hD⟩, hst _ _ _ _ _ hD (Fr.refl _) h0⟩, ?_⟩
  rintro i m H ⟨rfl, hi, acc, L, p⟩
  by_cases hlt : i < n
  · refine .inr ⟨hR.go i H hlt (hS i acc H L.fr p), LcW M H1 Pv D (i + 1), fun H' p' => ⟨n - (i + 1), by omega, rfl, hlt, p'⟩, fun x H' y => ?_⟩
    exact hs D i acc x H H' hlt L p (hR.yld i H x H' hlt (hS i acc H L.fr p) y)
  · have e : i = n := by omega
    subst e
    exact .inl ⟨hR.stop H (hS i acc H L.fr p), hd D acc H hD L.fr L.at_ p⟩
/-! a comprehension whose turns make nothing that lasts but values -/
abbrev RunsV {α : Type} (J : It) (ys : List α) (val : α → V) (S : Hp → Prop) : Prop := Runs J ys.length S (fun i x H H' => H' = H ∧ ∃ y, ys[i]? = some y ∧ x = val y)
theorem rv_str (z : Str) : RunsV (Its z) z.cps.toList (fun c => .str (tx [c])) (fun _ => True) :=
  ⟨fun i _ h _ => by show i < z.cps.size; simpa using h, fun _ _ => by show z.cps.size ≤ z.cps.toList.length; simp, fun _ _ _ _ _ _ y => by
    obtain ⟨h, c, e1, e2⟩ := y
    exact ⟨h, c, by rw [Array.getElem?_toList]; exact e1, e2⟩⟩
theorem rv_list (K : PySem.W.Frag) (a : Addr) {α : Type} (ys : List α) (val : α → V) : RunsV (Itl K a) ys val (fun H => lstAt H a = some (ys.map val)) :=
  ⟨fun i H h s => ⟨ys.map val, val ys[i], lstAt_sq s, by simp [h]⟩, fun _ s => ⟨ys.map val, lstAt_sq s, by simp⟩, fun i H x H' h s y => by
    have e := y.2 _ (lstAt_sq s)
    rw [List.getElem?_map, List.getElem?_eq_getElem h] at e
    exact ⟨y.1, ys[i], List.getElem?_eq_getElem h, (Option.some.inj e).symm⟩⟩
theorem rv_tup (K : PySem.W.Frag) (a : Addr) {α : Type} (ys : List α) (val : α → V) : RunsV (Itt K a) ys val (fun H => tupAt H a = some (ys.map val)) :=
  ⟨fun i H h s => ⟨ys.map val, val ys[i], tupAt_sq s, by simp [h]⟩, fun _ s => ⟨ys.map val, tupAt_sq s, by simp⟩, fun i H x H' h s y => by
    have e := y.2 _ (tupAt_sq s)
    rw [List.getElem?_map, List.getElem?_eq_getElem h] at e
    exact ⟨y.1, ys[i], List.getElem?_eq_getElem h, (Option.some.inj e).symm⟩⟩
theorem rv_range (lo : Int) (n : Nat) : RunsV (Itr lo n) (List.range n) (fun i => .int (lo + i)) (fun _ => True) :=
  ⟨fun _ _ h _ => by rw [List.length_range] at h; exact h, fun _ _ => by rw [List.length_range]; exact Nat.le_refl _, fun i _ _ _ h _ y => by
    rw [List.length_range] at h
    exact ⟨y.1, i, by rw [List.getElem?_range h], y.2⟩⟩
theorem lc_pure {α : Type} {ys : List α} {val : α → V} {tt : TT} {te : TE} {vs : List Nat} {Q : VK} (hR : RunsV J ys val S) (hS : ∀ H', Ex H1 H' → S H') (hz : ys.length < 1000000) (p : α → Bool) (f : α → V)
    (hs : ∀ y H', y ∈ ys → Ex H1 H' → ∀ (B : V → Hp → Prop) (A : Hp → Prop), (p y = true → ∀ H'', Ex H' H'' → B (f y) H'') → (p y = false → ∀ H'', Ex H' H'' → A H'') → g (val y) (wipe σ vs) H' fun σ2 H2 => wipe σ2 vs = wipe σ vs ∧ tt σ2 H2 fun b H3 => if b = true then te σ2 H3 B else A H3)
    (hd : ∀ D H', H1 D = none → Ex H1 H' → H' D = some (.lst ((ys.filter p).map f)) → Q (.ref D) H') :
    LcGoal J g tt te vs σ Q H1 := by
  have tk : ∀ {i : Nat} {y : α}, ys[i]? = some y → ys.take (i + 1) = ys.take i ++ [y] := fun {i y} e => by
    rw [List.take_succ, e]
    rfl
  refine lc_runs hR (fun _ => False) (fun i acc _ => acc = ((ys.take i).filter p).map f) (fun _ z => z.elim) (by simp) (fun i acc H' D o _ _ e => e) (fun i acc H' e _ => hS H' e) ?_ ?_
  · rintro D i acc x H' H'' hi L rfl ⟨rfl, y, hy, rfl⟩
    have hl : (((ys.take i).filter p).map f).length < 1000000 := by
      rw [List.length_map]
      have := List.length_filter_le p (ys.take i)
      rw [List.length_take] at this
      omega
    refine hs y H'' (List.mem_of_getElem? hy) L.fr _ _ (fun hp H3 e => ?_) (fun hp H3 e => ?_)
    · refine lc_yes L (fun i acc H' D o _ _ e => e) e hl ?_
      rw [tk hy, List.filter_append, List.map_append, List.filter_cons, if_pos hp]
      rfl
    · refine lc_no L e ?_
      rw [tk hy, List.filter_append, List.map_append, List.filter_cons, if_neg (by rw [hp]; decide)]
      simp
  · rintro D acc H' hD e h rfl
    rw [List.take_length] at h
    exact hd D H' hD e h
/-- no test -/
theorem lc_map {α : Type} {ys : List α} {val : α → V} {te : TE} {vs : List Nat} {Q : VK} (hR : RunsV J ys val S) (hS : ∀ H', Ex H1 H' → S H') (hz : ys.length < 1000000) (f : α → V)
    (hs : ∀ y H', y ∈ ys → Ex H1 H' → ∀ (B : V → Hp → Prop), (∀ H'', Ex H' H'' → B (f y) H'') → g (val y) (wipe σ vs) H' fun σ2 H2 => wipe σ2 vs = wipe σ vs ∧ te σ2 H2 B)
    (hd : ∀ D H', H1 D = none → Ex H1 H' → H' D = some (.lst (ys.map f)) → Q (.ref D) H')
    (hg : ∀ v σ H (P P' : L2.St → Hp → Prop), (∀ σ H, P σ H → P' σ H) → g v σ H P → g v σ H P' := by intro _ _ _ _ _ k h; exact k _ _ h) : LcGoal J g tYes te vs σ Q H1 := by
  refine lc_pure hR hS hz (fun _ => true) f (fun y H' hy e B A h1 h2 => ?_) (fun D H' hD e h => hd D H' hD e ?_)
  · exact hg _ _ _ _ _ (fun σ2 H2 h => ⟨h.1, h.2⟩) (hs y H' hy e B (h1 rfl))
  · rwa [List.filter_eq_self.mpr (fun _ _ => rfl)] at h
/-! how the walked thing begins -/
theorem st_yes {P : Bool → Hp → Prop} (h : P true H) : tYes σ H P := h
/-- isinstance(b, bool) -/
theorem st_isBool {Q : VK} {b : Bool} (h : Q (.bl true) H) : rIs [.bl b, .ty "bool"] H Q := ⟨"bool", rfl, true, by decide +kernel, h⟩
theorem st_iStr {te : TE} {R : It → Hp → Prop} (h : te σ H (fun v H1 => ∃ x, v = .str x ∧ R (Its x) H1)) : iStr te σ H R := h
theorem st_isStr {x : Str} {P : Str → Prop} (h : P x) : ∃ y, V.str x = .str y ∧ P y := ⟨x, rfl, h⟩
theorem st_iList {tl : TE} {R : It → Hp → Prop} (h : tl σ H (fun x H1 => ∃ a, x = .ref a ∧ (∃ xs, SqL K H1 a xs) ∧ R (Itl K a) H1)) : iList K tl σ H R := h
theorem st_isList {a : Addr} {xs : List V} {P : Addr → Prop} (h1 : lstAt H a = some xs) (h : P a) : ∃ b, V.ref a = .ref b ∧ (∃ xs, SqL K H b xs) ∧ P b := ⟨a, rfl, ⟨xs, lstAt_sq h1⟩, h⟩
theorem st_iTup {tl : TE} {R : It → Hp → Prop} (h : tl σ H (fun x H1 => ∃ a, x = .ref a ∧ (∃ xs, SqT K H1 a xs) ∧ R (Itt K a) H1)) : iTup K tl σ H R := h
theorem st_isTup {a : Addr} {xs : List V} {P : Addr → Prop} (h1 : tupAt H a = some xs) (h : P a) : ∃ b, V.ref a = .ref b ∧ (∃ xs, SqT K H b xs) ∧ P b := ⟨a, rfl, ⟨xs, tupAt_sq h1⟩, h⟩
theorem st_iR1 {ta : TA} {R : It → Hp → Prop} (h : ta σ H (fun vs H1 => ∃ j : Int, vs = [.int j] ∧ -(2 ^ 62) ≤ j ∧ j < 2 ^ 62 ∧ R (Itr 0 j.toNat) H1)) : iRng1 ta σ H R := h
theorem st_isR1 {j : Int} {P : Int → Prop} (h1 : -1000000000000 ≤ j ∧ j < 1000000000000) (h : P j) : ∃ i : Int, [V.int j] = [.int i] ∧ -(2 ^ 62) ≤ i ∧ i < 2 ^ 62 ∧ P i := ⟨j, rfl, by omega, by omega, h⟩
theorem st_iR2 {ta : TA} {R : It → Hp → Prop} (h : ta σ H (fun vs H1 => ∃ i j : Int, vs = [.int i, .int j] ∧ (-(2 ^ 62) ≤ i ∧ i < 2 ^ 62 ∧ -(2 ^ 62) ≤ j ∧ j < 2 ^ 62) ∧ R (Itr i (j - i).toNat) H1)) : iRng2 ta σ H R := h
theorem st_isR2 {i j : Int} {P : Int → Int → Prop} (h1 : -1000000000000 ≤ i ∧ i < 1000000000000 ∧ -1000000000000 ≤ j ∧ j < 1000000000000) (h : P i j) : ∃ i' j' : Int, [V.int i, V.int j] = [.int i', .int j'] ∧ (-(2 ^ 62) ≤ i' ∧ i' < 2 ^ 62 ∧ -(2 ^ 62) ≤ j' ∧ j' < 2 ^ 62) ∧ P i' j' := ⟨i, j, rfl, ⟨by omega, by omega, by omega, by omega⟩, h⟩
theorem st_iEn {ta : TA} {R : It → Hp → Prop} (h : ta σ H (fun vs H1 => ∃ a xs, vs = [.ref a] ∧ SqL K H1 a xs ∧ R (Ite K a) H1)) : iEnum K ta σ H R := h
theorem st_isEn {a : Addr} {xs : List V} {P : Addr → Prop} (h1 : lstAt H a = some xs) (h : P a) : ∃ b xs, [V.ref a] = [.ref b] ∧ SqL K H b xs ∧ P b := ⟨a, xs, rfl, lstAt_sq h1, h⟩
theorem st_iZp {ta : TA} {R : It → Hp → Prop} (h : ta σ H (fun vs H1 => ∃ a b xs ys, vs = [.ref a, .ref b] ∧ SqL K H1 a xs ∧ SqL K H1 b ys ∧ R (Itz K a b) H1)) : iZip K ta σ H R := h
theorem st_isZp {a b : Addr} {xs ys : List V} {P : Addr → Addr → Prop} (h1 : lstAt H a = some xs) (h2 : lstAt H b = some ys) (h : P a b) : ∃ a' b' xs ys, [V.ref a, V.ref b] = [.ref a', .ref b'] ∧ SqL K H a' xs ∧ SqL K H b' ys ∧ P a' b' := ⟨a, b, xs, ys, rfl, lstAt_sq h1, lstAt_sq h2, h⟩
theorem st_lc {wi : TI} {tt : TT} {te : TE} {vs : List Nat} {Q : VK} (h : wi σ H fun J H1 => LcGoal J g tt te vs σ Q H1) : tLc wi g tt te vs σ H Q := h
theorem st_for {wi : TI} {tb : TS} {D : Ends} (h : wi σ H fun J H1 => ForGoal J g tb D σ H1) : tFor wi g tb D σ H := h
end
/-! ### more values -/
section
variable {H : Hp} {Q : VK} {σ : L2.St}
theorem st_inC {c : Nat} {z : Str} (h : Q (.bl (decide (c ∈ z.cps.toList))) H) : rInU false (.str (tx [c])) (.str z) H Q := by
  refine ⟨_, rfl, ?_⟩
  show Q (.bl (!(Builtin.Str.occurrences z ⟨#[c]⟩ 0 z.length 1).isEmpty)) H
  rw [PySem.StrLaws.found_one]
  exact h
theorem st_ninC {c : Nat} {z : Str} (h : Q (.bl (!decide (c ∈ z.cps.toList))) H) : rInU true (.str (tx [c])) (.str z) H Q := by
  refine ⟨_, rfl, ?_⟩
  show Q (.bl (!(!(Builtin.Str.occurrences z ⟨#[c]⟩ 0 z.length 1).isEmpty))) H
  rw [PySem.StrLaws.found_one]
  exact h
theorem st_inL {x : V} {p : Addr} {xs : List V} {ds : List PyData} {d : PyData} (h1 : seqAt H p = some xs) (h2 : RpA H xs ds) (h3 : Rp H x d) (hd : min (PyData.depthAll ds) d.depth ≤ 60) (h : Q (.bl (ds.any fun y => PyData.eqv y d)) H) : rInU false x (.ref p) H Q := ⟨xs, ds, d, h1, h2, h3, hd, h⟩
theorem st_ninL {x : V} {p : Addr} {xs : List V} {ds : List PyData} {d : PyData} (h1 : seqAt H p = some xs) (h2 : RpA H xs ds) (h3 : Rp H x d) (hd : min (PyData.depthAll ds) d.depth ≤ 60) (h : Q (.bl (!(ds.any fun y => PyData.eqv y d))) H) : rInU true x (.ref p) H Q := ⟨xs, ds, d, h1, h2, h3, hd, h⟩
theorem st_all {p : Addr} {bs : List Bool} {xs : List V} (h1 : H p = some (.lst xs)) (e : xs = bs.map V.bl) (h : Q (.bl (bs.all id)) H) : rAllU [.ref p] H Q := ⟨bs, by rw [lst_of h1, e], h⟩
theorem st_join {a : Str} {p : Addr} {ys : List Str} {xs : List V} {K : PySem.W.Frag} (h1 : H p = some (.lst xs)) (e : xs = ys.map V.str) (hz : (ys.map (·.length)).sum + ys.length * a.length ≤ 16777216) (h : Q (.str (Txt.join a ys)) H) :
    ∃ a' p', ∃ ys : List Str, V.str a = .str a' ∧ [V.ref p] = [.ref p'] ∧ (SqL K H p' (ys.map V.str) ∨ SqT K H p' (ys.map V.str)) ∧ (ys.map (·.length)).sum + ys.length * a'.length ≤ 16777216 ∧ Q (.str (Txt.join a' ys)) H :=
  ⟨a, p, ys, rfl, rfl, .inl (lstAt_sq (by rw [lst_of h1, e])), hz, h⟩
theorem st_gtup {K : PySem.W.Frag} {a : Addr} {xs : List V} {n : Nat} {t : TGs} {R : L2.St → Hp → Prop} (h1 : H a = some (.tup xs)) (hn : xs.length = n) (h : t xs σ H R) : gTup K n t (.ref a) σ H R := ⟨a, xs, rfl, tupAt_sq (tup_of h1), hn, h⟩
theorem st_glst {K : PySem.W.Frag} {a : Addr} {xs : List V} {n : Nat} {t : TGs} {R : L2.St → Hp → Prop} (h1 : H a = some (.lst xs)) (hn : xs.length = n) (h : t xs σ H R) : gLst K n t (.ref a) σ H R := ⟨a, xs, rfl, lstAt_sq (lst_of h1), hn, h⟩
theorem st_gcons {v : V} {r : List V} {t : TG} {u : TGs} {R : L2.St → Hp → Prop} (h : t v σ H fun σ' H' => u r σ' H' R) : gCons t u (v :: r) σ H R := ⟨v, r, rfl, h⟩
theorem st_gnil {R : L2.St → Hp → Prop} (h : R σ H) : gNil [] σ H R := ⟨rfl, h⟩
theorem st_m1 {r : V → List V → Hp → VK → Prop} {to te : TE} (h : to σ H (fun x H1 => (∃ a, x = .str a) ∧ te σ H1 fun y H2 => r x [y] H2 Q)) : tM1 r to te σ H Q := h
theorem st_isS {a : Str} {P : Prop} (h : P) : (∃ b, V.str a = .str b) ∧ P := ⟨⟨a, rfl⟩, h⟩
theorem st_bm {K : PySem.W.Frag} {T : String} {r : V → List V → Hp → VK → Prop} {to : TE} {t : TA} (h : to σ H (fun x H1 => tyV K T x H1 ∧ t σ H1 fun xs H2 => r x xs H2 Q)) : tBM K T r to t σ H Q := h
theorem st_bm0 {K : PySem.W.Frag} {T : String} {r : V → List V → Hp → VK → Prop} {to : TE} (h : to σ H (fun x H1 => tyV K T x H1 ∧ r x [] H1 Q)) : tBM0 K T r to σ H Q := h
theorem st_tyL {K : PySem.W.Frag} {p : Addr} {xs : List V} {P : Prop} (h1 : H p = some (.lst xs)) (h : P) : tyV K "list" (.ref p) H ∧ P := ⟨.inl ⟨rfl, xs, lstAt_sq (lst_of h1)⟩, h⟩
theorem st_app {p : Addr} {xs : List V} {y : V} (h1 : H p = some (.lst xs)) (hz : xs.length < 16777216) (h : Q .non (upd H p (.lst (xs ++ [y])))) : rAppend (.ref p) [y] H Q := ⟨p, xs, y, rfl, rfl, h1, by rw [sl16]; exact hz, h⟩
theorem st_listS {K : PySem.W.Frag} {z : Str} (hz : z.length ≤ 16777216) (h : ∀ p H', H p = none → Ex H H' → H' p = some (.lst (z.cps.toList.map fun c => V.str (tx [c]))) → Q (.ref p) H') : rListU K [.str z] H Q := ⟨hz, fun p hp => h p _ hp (Fr.new hp) upd_same⟩
theorem st_listQ {K : PySem.W.Frag} {a : Addr} {ys : List V} (h1 : seqAt H a = some ys) (h : ∀ p H', H p = none → Ex H H' → H' p = some (.lst ys) → Q (.ref p) H') : rListU K [.ref a] H Q := ⟨ys, seqAt_sq h1, fun p hp => h p _ hp (Fr.new hp) upd_same⟩
theorem st_tupS {K : PySem.W.Frag} {z : Str} (hz : z.length ≤ 16777216) (h : ∀ p H', H p = none → Ex H H' → H' p = some (.tup (z.cps.toList.map fun c => V.str (tx [c]))) → Q (.ref p) H') : rTupU K [.str z] H Q := ⟨hz, fun p hp => h p _ hp (Fr.new hp) upd_same⟩
theorem st_tupL {K : PySem.W.Frag} {a : Addr} {ys : List V} (h1 : lstAt H a = some ys) (h : ∀ p H', H p = none → Ex H H' → H' p = some (.tup ys) → Q (.ref p) H') : rTupU K [.ref a] H Q := ⟨ys, .inl ⟨lstAt_sq h1, fun p hp => h p _ hp (Fr.new hp) upd_same⟩⟩
theorem st_tupT {K : PySem.W.Frag} {a : Addr} {ys : List V} (h1 : tupAt H a = some ys) (h : Q (.ref a) H) : rTupU K [.ref a] H Q := ⟨ys, .inr ⟨tupAt_sq h1, h⟩⟩
def DispEnd (p : Addr) (Q : VK) (ps : List (V × V)) (H2 : Hp) : Prop := H2 p = some (.dK []) ∧ ∃ kvs : List (Key × V), ps = kvs.map (fun kv => (kV kv.1, kv.2)) ∧ kvs.length ≤ 15 ∧ Q (.ref p) (upd H2 p (.dK (mergeK [] kvs)))
theorem st_disp {trs : List (TE × TE)} (h : ∀ p H', H p = none → Ex H H' → H' p = some (.dK []) → tPairs trs σ H' (DispEnd p Q)) : tDisp trs σ H Q := fun p hp => h p _ hp (Fr.new hp) upd_same
theorem st_pair {tk tv : TE} {r : List (TE × TE)} {P : List (V × V) → Hp → Prop} (h : tk σ H fun x H1 => tv σ H1 fun y H2 => tPairs r σ H2 fun ps H3 => P ((x, y) :: ps) H3) : tPairs ((tk, tv) :: r) σ H P := h
theorem st_pairs0 {P : List (V × V) → Hp → Prop} (h : P [] H) : tPairs [] σ H P := h
theorem st_dispEnd {p : Addr} {ps : List (V × V)} {H0 : Hp} (e0 : Ex H0 H) (hp : H0 p = none) (h1 : H p = some (.dK [])) (kvs : List (Key × V)) (e : ps = kvs.map (fun kv => (kV kv.1, kv.2))) (hl : kvs.length ≤ 15) (h : ∀ H', Ex H0 H' → H' p = some (.dK (mergeK [] kvs)) → Q (.ref p) H') : DispEnd p Q ps H :=
  ⟨h1, kvs, e, hl, h _ (e0.mut hp) upd_same⟩
theorem st_ixA {K : PySem.W.Frag} {p : Addr} {i : Int} {xs : List V} (h1 : seqAt H p = some xs) (h0 : 0 ≤ i) (hi : i < xs.length) (h : ∀ v, xs[i.toNat]? = some v → v ∈ xs → Q v H) : rIxU K (.ref p) (.int i) H Q := by
  obtain ⟨v, h2, h3⟩ := at_in h0 hi
  exact st_ixQ h1 h2 (h v h3 (List.mem_of_getElem? h3))
theorem st_clear {p : Addr} {xs : List V} (h1 : H p = some (.lst xs)) (h : Q .non (upd H p (.lst []))) : rClear (.ref p) [] H Q := ⟨p, xs, rfl, rfl, h1, h⟩
theorem st_isL {p : Addr} {xs : List V} {n : String} {b : Bool} (h1 : H p = some (.lst xs)) (h2 : kitB "list" n = some b) (h : Q (.bl b) H) : rIs [.ref p, .ty n] H Q := ⟨"list", by show tyO (H p) = _; rw [h1]; rfl, b, h2, h⟩
theorem st_isT {p : Addr} {xs : List V} {n : String} {b : Bool} (h1 : H p = some (.tup xs)) (h2 : kitB "tuple" n = some b) (h : Q (.bl b) H) : rIs [.ref p, .ty n] H Q := ⟨"tuple", by show tyO (H p) = _; rw [h1]; rfl, b, h2, h⟩
theorem st_isI {i : Int} {n : String} {b : Bool} (h2 : kitB "int" n = some b) (h : Q (.bl b) H) : rIs [.int i, .ty n] H Q := ⟨"int", rfl, b, h2, h⟩
theorem st_isB {i : Bool} {n : String} {b : Bool} (h2 : kitB "bool" n = some b) (h : Q (.bl b) H) : rIs [.bl i, .ty n] H Q := ⟨"bool", rfl, b, h2, h⟩
theorem st_isS' {i : Str} {n : String} {b : Bool} (h2 : kitB "str" n = some b) (h : Q (.bl b) H) : rIs [.str i, .ty n] H Q := ⟨"str", rfl, b, h2, h⟩
theorem kit_ii : kitB "int" "int" = some true := by decide +kernel
theorem kit_ib : kitB "int" "bool" = some false := by decide +kernel
theorem kit_il : kitB "int" "list" = some false := by decide +kernel
theorem kit_is : kitB "int" "str" = some false := by decide +kernel
theorem kit_it : kitB "int" "tuple" = some false := by decide +kernel
theorem kit_ll : kitB "list" "list" = some true := by decide +kernel
theorem kit_lt : kitB "list" "tuple" = some false := by decide +kernel
theorem kit_tt : kitB "tuple" "tuple" = some true := by decide +kernel
theorem kit_tl : kitB "tuple" "list" = some false := by decide +kernel
theorem kit_ss : kitB "str" "str" = some true := by decide +kernel
theorem kit_bb : kitB "bool" "bool" = some true := by decide +kernel
theorem kit_bi : kitB "bool" "int" = some true := by decide +kernel
theorem cutV_from (xs : List V) (k : Nat) : cutV xs (some (k : Int)) none = xs.drop k := by
  unfold cutV
  rw [HT.sIx_nat, HT.sIx_none]
  by_cases h : k ≤ xs.length
  · rw [Nat.min_eq_left h, List.take_of_length_le (by rw [List.length_drop]; exact Nat.le_refl _)]
  · rw [Nat.min_eq_right (by omega), List.drop_of_length_le (Nat.le_refl _), List.drop_of_length_le (by omega)]
    simp
theorem cutV_to (xs : List V) (k : Nat) : cutV xs none (some (k : Int)) = xs.take k := by
  unfold cutV
  rw [HT.sIx_nat, HT.sIx_none, Nat.sub_zero, List.drop_zero]
  by_cases h : k ≤ xs.length
  · rw [Nat.min_eq_left h]
  · rw [Nat.min_eq_right (by omega), List.take_of_length_le (Nat.le_refl _), List.take_of_length_le (by omega)]
theorem cutV_mid (xs : List V) (i j : Nat) : cutV xs (some (i : Int)) (some (j : Int)) = (xs.take j).drop i := by
  unfold cutV
  rw [HT.sIx_nat, HT.sIx_nat, List.drop_take]
  by_cases h : i ≤ xs.length
  · rw [Nat.min_eq_left h]
    by_cases h2 : j ≤ xs.length
    · rw [Nat.min_eq_left h2]
    · rw [Nat.min_eq_right (by omega), List.take_of_length_le (by rw [List.length_drop]; exact Nat.le_refl _), List.take_of_length_le (by rw [List.length_drop]; omega)]
  · rw [show min i xs.length = xs.length by omega, List.drop_of_length_le (Nat.le_refl xs.length), List.drop_of_length_le (show xs.length ≤ i by omega)]
    simp
/-- a table that is read -/
structure TabR (H : Hp) (p : Addr) (rs : List Addr) (row : Nat → List V) : Prop where
  at_ : H p = some (.lst (rs.map V.ref))
  rows : ∀ k r, rs[k]? = some r → H r = some (.lst (row k))
theorem TabR.ex {H H' : Hp} {p : Addr} {rs : List Addr} {row : Nat → List V} (T : TabR H p rs row) (e : Ex H H') : TabR H' p rs row := ⟨e.get T.at_, fun k r h => e.get (T.rows k r h)⟩
theorem refs_at {rs : List Addr} {i : Nat} {r : Addr} (h : rs[i]? = some r) : atI (rs.map V.ref) (i : Int) = some (V.ref r) := by
  unfold atI
  rw [Evl.ixN_nat (by rw [List.length_map]; exact (List.getElem?_eq_some_iff.mp h).1)]
  show (rs.map V.ref)[i]? = _
  rw [List.getElem?_map, h]
  rfl
theorem at_last {xs : List V} {n : Nat} {v : V} (hl : xs.length = n + 1) (h : xs[n]? = some v) : atI xs (-1) = some v := by
  unfold atI ixN
  rw [if_neg (by decide), hl, if_pos (by omega)]
  have e : (-1 + ((n + 1 : Nat) : Int)).toNat = n := by omega
  show xs[(-1 + ((n + 1 : Nat) : Int)).toNat]? = _
  rw [e]
  exact h
/-- x is a thing whose type is known -/
def Ty (H : Hp) (v : V) : Prop := ∃ t, tyN H v = some t
theorem ty_lst {p : Addr} {xs : List V} (h : H p = some (.lst xs)) : Ty H (.ref p) := ⟨"list", by show tyO (H p) = _; rw [h]; rfl⟩
theorem ty_tup {p : Addr} {xs : List V} (h : H p = some (.tup xs)) : Ty H (.ref p) := ⟨"tuple", by show tyO (H p) = _; rw [h]; rfl⟩
theorem ty_dK {p : Addr} {xs : List (Key × V)} (h : H p = some (.dK xs)) : Ty H (.ref p) := ⟨"dict", by show tyO (H p) = _; rw [h]; rfl⟩
theorem ty_str (z : Str) : Ty H (.str z) := ⟨"str", rfl⟩
theorem ty_int (z : Int) : Ty H (.int z) := ⟨"int", rfl⟩
theorem ty_bl (z : Bool) : Ty H (.bl z) := ⟨"bool", rfl⟩
theorem ty_non : Ty H .non := ⟨"NoneType", rfl⟩
theorem tyN_ex {H' : Hp} {v : V} {t : String} (e : Ex H H') (h : tyN H v = some t) : tyN H' v = some t := by
  cases v with
  | ref p =>
    have h : tyO (H p) = some t := h
    show tyO (H' p) = some t
    cases q : H p with
    | none => rw [q] at h; cases h
    | some o =>
      rw [e p o (fun z => z) q]
      rw [q] at h
      exact h
  | _ => exact h
theorem Ty.ex {H' : Hp} {v : V} (h : Ty H v) (e : Ex H H') : Ty H' v := by
  obtain ⟨t, h⟩ := h
  exact ⟨t, tyN_ex e h⟩
theorem cutS_len (z : Str) (lo hi : Option Int) : (cutS z lo hi).length ≤ z.length := by
  show ((z.cps.toList.drop _).take _).toArray.size ≤ z.cps.size
  simp only [List.size_toArray, List.length_take, List.length_drop, Array.length_toList]
  omega
theorem fold_len (a : Array Nat) : ∀ (n : Nat) (b : Array Nat), ((List.replicate n a).foldl (· ++ ·) b).size = b.size + n * a.size
  | 0, b => by simp
  | n + 1, b => by
    rw [List.replicate_succ, List.foldl_cons, fold_len a n, Array.size_append, Nat.succ_mul]
    omega
theorem mulS_len (z : Str) (n : Int) : (Txt.mul z n).length ≤ z.length * n.toNat := by
  unfold Txt.mul
  by_cases h : n < 1
  · rw [if_pos h]; exact Nat.zero_le _
  · rw [if_neg h]
    by_cases h2 : (n == 1 || z.length == 0) = true
    · rw [if_pos h2]
      exact Nat.le_mul_of_pos_right _ (by omega)
    · rw [if_neg h2]
      show ((List.replicate n.toNat z.cps).foldl (· ++ ·) #[]).size ≤ _
      rw [fold_len, Nat.mul_comm]
      simp
      exact Nat.le_refl _
def isStrV : V → Bool
  | .str _ => true
  | _ => false
theorem tyN_in {v : V} {t : String} (h : tyN H v = some t) : t = "NoneType" ∨ t = "bool" ∨ t = "int" ∨ t = "str" ∨ t = "list" ∨ t = "tuple" ∨ t = "dict" := by
  cases v with
  | ref p =>
    have h : tyO (H p) = some t := h
    unfold tyO at h
    split at h <;> first | (cases h; simp) | cases h
  | _ => first | (cases h; simp) | cases h
theorem kb_str : kitB "NoneType" "str" = some false ∧ kitB "bool" "str" = some false ∧ kitB "int" "str" = some false ∧ kitB "str" "str" = some true ∧ kitB "list" "str" = some false ∧ kitB "tuple" "str" = some false ∧ kitB "dict" "str" = some false := by decide +kernel
theorem kb_bool : kitB "NoneType" "bool" = some false ∧ kitB "bool" "bool" = some true ∧ kitB "int" "bool" = some false ∧ kitB "str" "bool" = some false ∧ kitB "list" "bool" = some false ∧ kitB "tuple" "bool" = some false ∧ kitB "dict" "bool" = some false := by decide +kernel
theorem st_isStrT {x : V} (h1 : Ty H x) (h : Q (.bl (isStrV x)) H) : rIs [x, .ty "str"] H Q := by
  obtain ⟨t, h1⟩ := h1
  obtain ⟨k1, k2, k3, k4, k5, k6, k7⟩ := kb_str
  refine st_is h1 (b := isStrV x) ?_ h
  cases x with
  | ref p =>
    have h1 : tyO (H p) = some t := h1
    unfold tyO at h1
    split at h1 <;> first | (cases h1; assumption) | cases h1
  | _ => first | (cases h1; assumption) | cases h1
end
/-! ### data: how lists of one kind read -/
theorem lstAt_ex {H H' : Hp} {a : Addr} {xs : List V} (e : Ex H H') (h : lstAt H a = some xs) : lstAt H' a = some xs := by
  unfold lstAt at h ⊢
  cases q : H a with
  | none => rw [q] at h; cases h
  | some o => rw [e a o (fun z => z) q]; rw [q] at h; exact h
theorem tupAt_ex {H H' : Hp} {a : Addr} {xs : List V} (e : Ex H H') (h : tupAt H a = some xs) : tupAt H' a = some xs := by
  unfold tupAt at h ⊢
  cases q : H a with
  | none => rw [q] at h; cases h
  | some o => rw [e a o (fun z => z) q]; rw [q] at h; exact h
mutual
theorem Rp.ex {H H' : Hp} (e : Ex H H') : ∀ {v : V} {d : PyData}, Rp H v d → Rp H' v d
  | _, _, .non => .non
  | _, _, .bl b => .bl b
  | _, _, .int i => .int i
  | _, _, .str x => .str x
  | _, _, .lst h k => .lst (lstAt_ex e h) (RpA.ex e k)
  | _, _, .tup h k => .tup (tupAt_ex e h) (RpA.ex e k)
theorem RpA.ex {H H' : Hp} (e : Ex H H') : ∀ {vs : List V} {ds : List PyData}, RpA H vs ds → RpA H' vs ds
  | _, _, .nil => .nil
  | _, _, .cons h k => .cons (Rp.ex e h) (RpA.ex e k)
end
theorem rpA_map {H : Hp} {α : Type} {val : α → V} {enc : α → PyData} : ∀ {xs : List α}, (∀ x ∈ xs, Rp H (val x) (enc x)) → RpA H (xs.map val) (xs.map enc)
  | [], _ => .nil
  | a :: r, h => .cons (h a List.mem_cons_self) (rpA_map fun x hx => h x (List.mem_cons_of_mem _ hx))
theorem rpA_ints {H : Hp} (ns : List Int) : RpA H (ns.map V.int) (ns.map PyData.int) := rpA_map fun _ _ => .int _
theorem rpA_strs {H : Hp} (ss : List Str) : RpA H (ss.map V.str) (ss.map PyData.str) := rpA_map fun _ _ => .str _
theorem eqvAll_map {α : Type} [DecidableEq α] {enc : α → PyData} (h : ∀ a b, PyData.eqv (enc a) (enc b) = decide (a = b)) : ∀ xs ys : List α, PyData.eqvAll (xs.map enc) (ys.map enc) = decide (xs = ys)
  | [], [] => by simp [PyData.eqvAll]
  | [], _ :: _ => by simp [PyData.eqvAll]
  | _ :: _, [] => by simp [PyData.eqvAll]
  | a :: r, b :: s => by
    have ih := eqvAll_map h r s
    simp only [List.map_cons, PyData.eqvAll, h, ih]
    rw [Bool.eq_iff_iff]
    simp
theorem eqv_int (a b : Int) : PyData.eqv (.int a) (.int b) = decide (a = b) := by simp only [PyData.eqv]; rfl
theorem eqv_str (a b : Str) : PyData.eqv (.str a) (.str b) = decide (a = b) := by simp only [PyData.eqv]; rfl
theorem eqv_list {α : Type} [DecidableEq α] {enc : α → PyData} (h : ∀ a b, PyData.eqv (enc a) (enc b) = decide (a = b)) (xs ys : List α) : PyData.eqv (.list (xs.map enc)) (.list (ys.map enc)) = decide (xs = ys) := by
  simp only [PyData.eqv]
  exact eqvAll_map h xs ys
theorem eqv_nil_r {α : Type} {enc : α → PyData} (xs : List α) : PyData.eqv (.list (xs.map enc)) (.list []) = decide (xs = []) := by
  cases xs <;> simp [PyData.eqv, PyData.eqvAll]
theorem depth_map {α : Type} {enc : α → PyData} {n : Nat} : ∀ {xs : List α}, (∀ x ∈ xs, (enc x).depth ≤ n) → PyData.depthAll (xs.map enc) ≤ n
  | [], _ => by simp [PyData.depthAll]
  | a :: r, h => by
    simp only [List.map_cons, PyData.depthAll]
    exact Nat.max_le.mpr ⟨h a List.mem_cons_self, depth_map fun x hx => h x (List.mem_cons_of_mem _ hx)⟩
/-! ### a def of the text, by its name -/
structure Df (K : PySem.W.Frag) (mg : Str → Option Value) (x : Str) (st : Stmt) (ps : List Str) (f : Addr) (fd : FuncData) : Prop where
  g : mg x = some (.ref f)
  F : Fun K x x st f fd
  b : Binds K fd ps []
theorem df_mk {K : PySem.W.Frag} {h : Heap} {mg : Str → Option Value} {x : Str} {st : Stmt} {ps : List Str} {f : Addr} {oc : Value} {od an : Option Addr} {osl : Array (Option Value)} {kV dc pm cd ct : Value} (X : K.In h) (G : h.Ns mainGlobals mg)
    (a : PySem.W.nsIn K mainGlobals x = some (some (.ref f))) (l : K.lookup f = some ⟨oc, od, .func (PySem.W.fnOf x x (defArgs st) (defBody st) (defScope st) .none kV dc pm an cd ct), osl⟩) (c : PySem.W.codeIn K cd x = true) (k : PySem.W.keepIn K (.ref f) = true)
    (hb : ∀ (kV doc pm : Value) (an : Option Addr) (cdv ct : Value) (us : List Value), us.length = ps.length → bindArgs (PySem.W.fnOf x x (defArgs st) (defBody st) (defScope st) .none kV doc pm an cdv ct) ⟨us, []⟩ = pure (ps.zip us)) :
    Df K mg x st ps f (PySem.W.fnOf x x (defArgs st) (defBody st) (defScope st) .none kV dc pm an cd ct) :=
  have F := fun_mk (st := st) l c k
  ⟨PySem.W.mg_of X G a, F, F.binds hb⟩
/-- the script: a list of ints that is read, never written -/
def Scr (K : PySem.W.Frag) (H : Hp) (a : Addr) (ns : List Int) : Prop :=
  (∃ o, H a = some (.frz o (.lst (ns.map V.int)))) ∨ ∃ (o : Obj) (its : Array Value) (n : Nat), K.lookup a = some o ∧ o.cls = .type "list" ∧ o.dict = none ∧ o.data = .seq its n ∧ its.size ≤ sizeLine ∧ Vals (ns.map V.int) its.toList
theorem FrP.fresh {H0 H1 H2 : Hp} {p : Addr} (e : Ex H0 H1) (h : H0 p = none) (f : FrP p H1 H2) : Ex H0 H2 := fun b o _ q => f b o (ne_of_none q h) (e b o (fun z => z) q)
theorem tx_nil : ("" : Str) = tx [] := by decide +kernel
theorem app_tx (a b : List Nat) : tx a ++ tx b = tx (a ++ b) := tx_append a b
/-- texts joined by nothing -/
theorem join_txs (ls : List (List Nat)) : Txt.join "" (ls.map tx) = tx ls.flatten := by
  show Builtin.Str.glued "" _ = _
  rw [PySem.StrLaws.glued_eq_join]
  induction ls with
  | nil => rfl
  | cons a r ih =>
    cases r with
    | nil => show tx a = tx (a ++ []); rw [List.append_nil]
    | cons b r =>
      show tx a ++ "" ++ Str.join "" ((b :: r).map tx) = tx (a ++ (b :: r).flatten)
      rw [ih, tx_nil, app_tx, app_tx, List.append_nil]
theorem join_signs (cs : List Nat) : Txt.join "" (cs.map fun c => tx [c]) = tx cs := by
  have h := join_txs (cs.map fun c => [c])
  rw [List.map_map] at h
  have e : ∀ l : List Nat, (l.map fun c => [c]).flatten = l := fun l => by
    induction l with
    | nil => rfl
    | cons a r ih => rw [List.map_cons, List.flatten_cons, ih]; rfl
  rw [e cs] at h
  exact h
theorem sum_signs (cs : List Nat) : ((cs.map fun c => tx [c]).map (·.length)).sum = cs.length := by
  induction cs with
  | nil => rfl
  | cons a r ih =>
    rw [List.map_cons, List.map_cons, List.sum_cons, ih, tx_length, List.length_cons, List.length_cons, List.length_nil]
    omega
theorem lst_only {K : PySem.W.Frag} {H : Hp} {a : Addr} {ns : List Int} (hO : Only H) (h : SqL K H a (ns.map V.int)) : Scr K H a ns := by
  rcases h with (h | ⟨o, h⟩) | h
  · rcases hO a with e | ⟨o, xs, e⟩
    · rw [e] at h; cases h
    · rw [e] at h; cases h
  · exact .inl ⟨o, h⟩
  · exact .inr h
theorem Scr.sq {K : PySem.W.Frag} {H : Hp} {a : Addr} {ns : List Int} (h : Scr K H a ns) : SqL K H a (ns.map V.int) := by
  rcases h with ⟨o, h⟩ | h
  · exact .inl (.inr ⟨o, h⟩)
  · exact .inr h
theorem Scr.ex {K : PySem.W.Frag} {H H' : Hp} {a : Addr} {ns : List Int} (h : Scr K H a ns) (e : Ex H H') : Scr K H' a ns := by
  rcases h with ⟨o, h⟩ | h
  · exact .inl ⟨o, e.get h⟩
  · exact .inr h
theorem Scr.frp {K : PySem.W.Frag} {H H' : Hp} {a p : Addr} {ns : List Int} (h : Scr K H a ns) (hp : Purse H p) (e : FrP p H H') : Scr K H' a ns := by
  rcases h with ⟨o, h⟩ | h
  · refine .inl ⟨o, e.get (fun z => ?_) h⟩
    obtain ⟨x, y, z', q⟩ := hp
    rw [z, q] at h
    cases h
  · exact .inr h
end Zb

/-! enumerate of a text -/
namespace Zb
open PySem PySem.Spec PyProof.Rows L2
def Ites (x : Str) : It := ⟨fun i _ => i < x.cps.size, fun i H v H' => ∃ T c, v = .ref T ∧ H T = none ∧ H' = upd H T (.tup [.int (i : Nat), .str (tx [c])]) ∧ x.cps[i]? = some c, fun i _ => i = x.cps.size⟩
theorem turn_enumS {P : Program} {w : World} {K : PySem.W.Frag} {elts : List Expr} {kk : Nat} {tpos : Pos} (x : Str) (t : Tok) (e it : Addr) (hne : e ≠ it) :
    Turn P w K (.Tuple elts kk tpos) (Ites x) [e, it] e (fun i h => (∃ old, IsEnum h e it ((0 : Int) + ((i : Nat) : Int)) old) ∧ h.IsStrIter it (strIterType x) x t i) where
  mem := by simp
  obj := fun i h st b hb => by
    obtain ⟨⟨old, he⟩, ⟨o, ho, hc, hd⟩⟩ := st
    have e' : b = e ∨ b = it := by simpa using hb
    rcases e' with z | z
    · rw [z]; exact ⟨_, he, fun v q => nomatch q⟩
    · rw [z]; exact ⟨o, ho, fun v q => by rw [hd] at q; cases q⟩
  keep := fun i h h' st k => let ⟨⟨old, he⟩, o, ho, r⟩ := st; ⟨⟨old, k e (by simp) _ he⟩, o, k it (by simp) o ho, r⟩
  item := by
    intro X hP hw hK hc i pins s σ H E I hf st hg
    subst hP hw hK
    have D : Draws X.prog X.w X.A.in1 it [it] x.cps.size (fun i v => ∃ c u, x.cps[i]? = some c ∧ v = .str ⟨#[c]⟩ u) (fun i h => h.IsStrIter it (strIterType x) x t i) := Draws.text (A := X.A.in1) (I.ok.hd hc) it x t
    have W := WalksT.enumFrom (A := X.A) 0 D e hne (by simpa using hne) (by simp)
    have hel : e < s.heap.objs.size := by obtain ⟨⟨_, he⟩, _⟩ := st; exact Heap.lt_size he
    have hil : it < s.heap.objs.size := by obtain ⟨_, _, q, _⟩ := st; exact Heap.lt_size q
    refine W.item i s _ _ hg st fun T vals h' tk hP hTn hT hM kp => ?_
    obtain ⟨t2, v, ⟨c, u, hcx, rfl⟩, rfl⟩ := hP
    refine ⟨_, rfl, W.go elts kk tpos i T { s with heap := h', toks := tk } _ _ hM fun h'' st2 kp2 => ?_⟩
    have hTa := W.apart i T h' hM
    obtain ⟨oT, hoT, hcT, nT, hdT⟩ := hT
    have new : ObjOk X.prog X.w (upd H T (.tup [.int (i : Nat), .str (tx [c])])) h'' T (.tup [.int (i : Nat), .str (tx [c])]) :=
      ⟨by show 2 ≤ sizeLine; rw [sl16]; decide, [.int ((0 : Int) + (i : Int)) t2, .str ⟨#[c]⟩ u], .cons ⟨t2, by rw [Int.zero_add]⟩ (.cons ⟨u, rfl⟩ .nil), ⟨oT, kp2 T oT hTa hoT, hcT, nT, hdT⟩⟩
    have I1 : Inv X pins σ (upd H T (.tup [.int (i : Nat), .str (tx [c])])) { s with heap := h'', toks := tk } :=
      I.turnedNew (ch := [e, it]) (fun b ob hb q => kp2 b ob hb (kp b ob hb q)) hf hTn new
    refine ⟨.ref T, _, I1, rfl, ⟨T, c, rfl, I.hok.fresh hTn, rfl, hcx⟩, st2, fun b hb => ?_⟩
    have hb' : b < s.heap.objs.size := by
      have e' : b = e ∨ b = it := by simpa using hb
      rcases e' with z | z
      · rw [z]; exact hel
      · rw [z]; exact hil
    rw [upd_ne (Nat.ne_of_lt (Nat.lt_of_lt_of_le hb' hTn))]
    exact (hf b hb).1
  done := by
    intro X hP hw hK hc i pins s σ H E I hf st hg
    subst hP hw hK
    obtain ⟨f0, f1, f2, f3, f4, f5⟩ := hf it (by simp)
    obtain ⟨⟨old, he⟩, hit⟩ := st
    have D := Draws.text (prog := X.prog) (w := X.w) (A := X.A.in1) (I.ok.hd hc) it x t
    have hg : i = x.cps.size := hg
    subst hg
    exact wpAny_pyNext_enum_endD D he hit fun h' eb => ⟨rfl, I.turned (t' := s.toks) (fun b o hb q => eb b o hb q) f0 f1 f3 f4 f5⟩
  self := fun A i s Q E st h => let ⟨⟨_, he⟩, _⟩ := st; wpAny_pyIter_enum he h
def iEnS (ta : TA) : TI := fun σ H R => ta σ H fun vs H1 => ∃ x, vs = [.str x] ∧ R (Ites x) H1
theorem pi_enumS {X : Cx} {e : Expr} {ta : TA} {p pos tpos : Pos} {elts : List Expr} {kk : Nat} (hg : Gl X "enumerate") (hm : X.mg "enumerate" = none) (ha : PA X [e] ta) (hs : starEach [e] X.env = [(false, eval e X.env)] := by rfl) :
    PI X (.Tuple elts kk tpos) (.Call (.Name "enumerate" p) [e] [] pos) (iEnS ta) := by
  refine ⟨fun pins s σ H R I h => ?_⟩
  refine Call_ (ld_blt I hg hm boot_enumerate (PyProof.Rows.callWith_type1 (thn (ha.run pos pins s σ H _ I h) fun us s1 ⟨vs, H1, I1, r1, q1⟩ => ?_) hs rfl))
  obtain ⟨x, ex, q⟩ := q1
  subst ex
  obtain ⟨u, rfl, t, rfl⟩ := vals1 r1
  refine call_enumerate_str fun h' he hit hsz hk => wpAny_pyIter_enum he ?_
  have I2 : Inv X pins σ H1 { s1 with heap := h' } := I1.kept (t' := s1.toks) hk
  refine ⟨s1.heap.objs.size + 1, [s1.heap.objs.size + 1, s1.heap.objs.size], _, _, H1, rfl, I2, turn_enumS x t (s1.heap.objs.size + 1) s1.heap.objs.size (Nat.succ_ne_self _), ⟨⟨.none, he⟩, hit⟩, fun b hb => ?_, q⟩
  have e' : b = s1.heap.objs.size + 1 ∨ b = s1.heap.objs.size := by simpa using hb
  have hle : s1.heap.objs.size ≤ b := by
    rcases e' with z | z
    · rw [z]; exact Nat.le_add_right _ _
    · rw [z]; exact Nat.le_refl _
  exact I1.fpOk hle (I1.hok.fresh hle)
theorem runs_enumS (z : Str) : Runs (Ites z) z.length (fun _ => True) (fun i x H H' => ∃ T c, x = .ref T ∧ H T = none ∧ Ex H H' ∧ H' T = some (.tup [.int (i : Nat), .str (tx [c])]) ∧ z.cps.toList[i]? = some c) :=
  ⟨fun _ _ h _ => h, fun _ _ => rfl, fun i H x H' _ _ y => by
    obtain ⟨T, c, e1, e2, e3, e4⟩ := y
    subst e3
    exact ⟨T, c, e1, e2, Fr.new e2, upd_same, by rw [Array.getElem?_toList]; exact e4⟩⟩
theorem st_iEnS {ta : TA} {σ : L2.St} {H : Hp} {R : It → Hp → Prop} (h : ta σ H (fun vs H1 => ∃ x, vs = [.str x] ∧ R (Ites x) H1)) : iEnS ta σ H R := h
theorem st_isEnS {x : Str} {P : Str → Prop} (h : P x) : ∃ y, [V.str x] = [.str y] ∧ P y := ⟨x, rfl, h⟩
end Zb

/-! exceptions: own classes over ValueError, by name -/
namespace Zb
open PySem PySem.Spec PyProof.Rows L2
def clsA (K : PySem.W.Frag) (nm : Str) : Addr := match PySem.W.nsIn K mainGlobals nm with
  | some (some (.ref C)) => C
  | _ => 0
theorem clsA_of {K : PySem.W.Frag} {nm : Str} {C : Addr} (h : PySem.W.nsIn K mainGlobals nm = some (some (.ref C))) : clsA K nm = C := by unfold clsA; rw [h]
/-- a class that is named in an except clause -/
structure EC (K : PySem.W.Frag) (mg : Str → Option Value) (nm : Str) : Prop where
  g : mg nm = some (.ref (clsA K nm))
  sb : PySem.W.subIn K (.ref (clsA K nm)) (.type "BaseException") = some true
  hd : PySem.W.hasDictIn K (clsA K nm) = true
  ty : PySem.W.typeIn K (.ref (clsA K nm)) = some (.type "type")
/-- what an isinstance, a field, of an exception in hand wants -/
structure XI (K : PySem.W.Frag) (C : Addr) : Prop where
  hc : (PySem.W.clsIn K C).isSome = true
  ga : PySem.W.findIn K (.ref C) "__getattribute__" = some (some (.builtin "BaseException.__getattribute__"))
  gg : PySem.W.findIn K (.ref C) "__getattr__" = some none
  sb : PySem.W.subIn K (.ref C) (.type "BaseException") = some true
  hd : PySem.W.hasDictIn K C = true
  ca : PySem.W.findIn K (.ref C) "__class__" = some (some (.builtin "object.__class__"))
  cn : PySem.W.specialIn K (.builtin "object.__class__") "__get__" = some (some (.builtin "getset_descriptor.__get__"))
  ct : PySem.W.takesIn K (.builtin "object.__class__") = some true
  cm : PySem.W.mroIn K C (.type "object") = some true
theorem EC.xm {K : PySem.W.Frag} {mg : Str → Option Value} {nm : Str} {cls : Value} {b : Bool} (e : EC K mg nm) (h : PySem.W.subIn K cls (.ref (clsA K nm)) = some b) : PySem.W.exmOne K cls (.ref (clsA K nm)) = some b := PySem.W.exm_ref e.sb e.hd e.ty h
theorem EC.kit {K : PySem.W.Frag} {mg : Str → Option Value} {nm : Str} {D : Addr} {b : Bool} (e : EC K mg nm) (h : PySem.W.subIn K (.ref D) (.ref (clsA K nm)) = some b) (hs : PySem.W.subIn K (.ref (clsA K nm)) (.ref (clsA K nm)) = some true) : PySem.W.kitOne K (.ref D) (.ref (clsA K nm)) = some b := by
  unfold PySem.W.kitOne
  by_cases q : D = clsA K nm
  · subst q
    rw [hs] at h
    cases h
    rw [if_pos (beq_self_eq_true _)]
  · have hq : ((Value.ref D) == (Value.ref (clsA K nm))) = false := beq_eq_false_iff_ne.mpr fun z => q (Value.ref.inj z)
    rw [hq, if_neg Bool.false_ne_true]
    show (if ((PySem.W.clsIn K (clsA K nm)).isSome && PySem.W.typeIn K (.ref (clsA K nm)) == some (.type "type")) = true then PySem.W.subIn K (.ref D) (.ref (clsA K nm)) else none) = some b
    obtain ⟨cd, hc, _⟩ := PySem.W.any_some e.hd
    rw [hc, e.ty]
    exact h
theorem kit_ve {K : PySem.W.Frag} {D : Addr} {b : Bool} (h : PySem.W.subIn K (.ref D) (.type "ValueError") = some b) : PySem.W.kitOne K (.ref D) (.type "ValueError") = some b := by
  unfold PySem.W.kitOne
  have hq : ((Value.ref D) == (Value.type "ValueError")) = false := rfl
  rw [hq, if_neg Bool.false_ne_true]
  show (if PySem.W.kitMeta "ValueError" = true then PySem.W.subIn K (.ref D) (.type "ValueError") else none) = some b
  rw [if_pos (by decide +kernel)]
  exact h
/-! ### several clauses, each with a name or none -/
abbrev Cl := Value × Option Nat × (Addr → Value → Option Addr → TS)
def goneD (i : Nat) (D : Ends) : Ends := { nx := fun σ' H' => D.nx (σ'.set i none) H', rt := D.rt, bk := fun σ' H' => D.bk (σ'.set i none) H', ct := fun σ' H' => D.ct (σ'.set i none) H' }
def clD : Option Nat → Ends → Ends
  | none, D => D
  | some i, D => goneD i D
def clS : Option Nat → Addr → L2.St → L2.St
  | none, _, σ => σ
  | some i, a, σ => σ.set i (some (.ref a))
def wG (K : PySem.W.Frag) (Wout : WX) (D : Ends) : List Cl → WX
  | [] => Wout
  | (c, i, ts) :: r => fun cls d σ H => ∃ b, PySem.W.exmOne K cls c = some b ∧ (b = true → ∀ a, H a = none → ts a cls d (clD i D) (clS i a σ) H) ∧ (b = false → wG K Wout D r cls d σ H)
inductive HdG (X : Cx) : List ExceptHandler → List Cl → Prop
  | nil : HdG X [] []
  | one {x : Str} {c : Value} {ts : Addr → Value → Option Addr → TS} {b₀ : Stmt} {suite : List Stmt} {np pos' : Pos} {hds : List ExceptHandler} {l : List Cl} (hc : Names X x c)
      (hsu : ∀ (a : Addr) (oe : Obj) (cls : Value) (d : Option Addr) (pn : List (Addr × Obj)), Zc cls d oe → (∃ vs, oe.data = .fields vs) → PSs (X.suite a ((a, oe) :: pn)) (b₀ :: suite) (ts a cls d)) (r : HdG X hds l) :
      HdG X (.ExceptHandler (some (.Name x np)) none (b₀ :: suite) pos' :: hds) ((c, none, ts) :: l)
  | named {x n : Str} {c : Value} {i : Nat} {ts : Addr → Value → Option Addr → TS} {b₀ : Stmt} {suite : List Stmt} {np pos' : Pos} {hds : List ExceptHandler} {l : List Cl} (hN : X.N.Nodup) (hi : X.N[i]? = some n) (hln : X.env.kindOf n = some .local) (hc : Names X x c)
      (hsu : ∀ (a : Addr) (oe : Obj) (cls : Value) (d : Option Addr) (pn : List (Addr × Obj)), Zc cls d oe → (∃ vs, oe.data = .fields vs) → PSs (X.suite a ((a, oe) :: pn)) (b₀ :: suite) (ts a cls d)) (r : HdG X hds l) :
      HdG X (.ExceptHandler (some (.Name x np)) (some n) (b₀ :: suite) pos' :: hds) ((c, some i, ts) :: l)
section
variable {X : Cx} {body orelse : List Stmt} {h₀ : ExceptHandler} {hds : List ExceptHandler} {l : List Cl} {pos : Pos} {tb : WX → TS} {u : TS} {Wout : WX}
def tTry (K : PySem.W.Frag) (Wout : WX) (tb : WX → TS) (u : TS) (l : List Cl) : TS := fun D σ H => tb (wG K Wout D l) { D with nx := u D } σ H
theorem ps_tryG (hs : X.stack = X.env :: X.outer) (hf : X.env.frame = some X.env.locals) (tk : Takes X Wout)
    (hb : ∀ (W : WX) (pn : List (Addr × Obj)) (xe : Value → Shared → Prop), Takes (X.tr pn xe) W → PassesOwn (model X.prog X.w) X.A X.env xe → PSs (X.tr pn xe) body (tb W))
    (hh : HdG X (h₀ :: hds) l) (ho : PSs X orelse u) : PS X (.Try body (h₀ :: hds) orelse [] pos) (tTry X.K Wout tb u l) := by
  refine ⟨fun pins s σ H D I h => ?_⟩
  have ok := I.ok
  have hfr : X.A.frames = some (X.env :: X.outer) := by rw [ok.frames, hs]
  refine wpAny_Try_except ?_
  refine wpAny_mono ((hb (wG X.K Wout D l) (X.pn ++ pins) (fun e s₁ => wpAny (model X.prog X.w) X.A (noteFrame e X.env) (fun _ s₂ => wpAny (model X.prog X.w) X.A (setFlight e none) (fun _ s₃ =>
    wpAny (model X.prog X.w) X.A (handleBy e X.env (h₀ :: hds)) (SP X pins D) X.xe s₃) X.xe s₂) X.xe s₁) (fun u s' xx => ?_) PassesOwn.looking).run [] s σ H { D with nx := u D } (I.toTry _) h) (fun f s1 hsp => ?_) (fun e s1 he => he)
  · obtain ⟨a, B, sI, pins', σ', H', cls, d, rfl, J', nb, up, sky, na, os, ag, w⟩ := xx
    have J : Inv X pins σ' H' sI := J'.ofTry ok
    have sky' : Sky B (X.env :: X.outer) a (Zc cls d) X.env.locals s'.heap := by rw [← hs]; exact sky
    show wpAny (model X.prog X.w) X.A (noteFrame (.ref a) X.env) _ _ _
    refine Sky.land Zc.steady hfr hf sky' fun h3 fl3 up3 => ?_
    have J3 : Inv X pins σ' H' { s' with heap := h3 } := J.landed nb fl3.1 (up.trans up3) os ag
    obtain ⟨oe3, vs3, he3, hz3, hd3⟩ := fl3.there
    have notFr : ∀ {h : Heap} {o : Obj} {vs : Array Value}, h.FunFrames B (X.env :: X.outer) → h.get? a = some o → o.data = .fields vs → a ∉ frs (X.env :: X.outer) := fun {h o vs} ff e dd hm => by
      obtain ⟨_, o', e', hnf⟩ := ff.mem hm
      rw [e] at e'; cases e'
      exact hnf _ dd
    have nfr := notFr fl3.2.2.1 he3 hd3
    have nL : a ≠ X.env.locals := fun z => nfr (List.mem_filterMap.mpr ⟨X.env, List.mem_cons_self, by rw [hf, z]⟩)
    have nF : a ∉ X.fs := fun hm => by
      obtain ⟨e, he, q⟩ := List.mem_filterMap.mp hm
      exact nfr (List.mem_filterMap.mpr ⟨e, List.mem_cons_of_mem _ he, q⟩)
    have S3 := J3.suite he3 hd3 na nL nF
    have LT : PySem.W.Looks (model X.prog X.w) h3 (typeOf (.ref a)) cls := fun A Q E s k q => wpAny_typeOf_ref (k _ _ he3) (by rw [hz3.1]; exact q)
    have test : ∀ {x : Str} {c : Value} {np : Pos} {Q : Value → Shared → Prop} {E : Value → Shared → Prop}, Names X x c → Q c { s' with heap := h3 } → wpAny (model X.prog X.w) (X.A.mark (some (.ref a))) (eval (.Name x np) X.env) Q E { s' with heap := h3 } := fun {x c np Q E} hc q => by
      obtain ⟨hg, hdbg, hm | ⟨hm, hv, hnn⟩⟩ := hc
      · exact ld_glob (X := X.suite a ((a, oe3) :: (X.pn ++ pins))) S3 hg hm q hdbg
      · exact ld_blt (X := X.suite a ((a, oe3) :: (X.pn ++ pins))) S3 hg hm hv q hnn hdbg
    have go : ∀ {hds' : List ExceptHandler} {l' : List Cl}, HdG X hds' l' → wG X.K Wout D l' cls d σ' H' →
        wpAny (model X.prog X.w) X.A (handleBy (.ref a) X.env hds') (SP X pins D) X.xe { s' with heap := h3 } := by
      intro hds' l' hk
      induction hk with
      | nil =>
        intro w
        refine wpAny_handleBy_nil ?_
        obtain ⟨k1, k2, k3, oe, vs, T, oT, ts', he, hz, hd, h1, hr⟩ := id fl3
        unfold PySem.passOn
        refine wpAny_bind (wpAny_field he hd h1 ?_)
        rw [if_neg (show ¬ ((Value.ref T == Value.none) = true) from by simp)]
        have fin : wpAny (model X.prog X.w) X.A (setFlight (.ref a) X.env.frame) (fun _ s4 => wpAny (model X.prog X.w) X.A (throw (.ref a) : Sem Flow) (SP X pins D) X.xe s4) X.xe { s' with heap := h3 } := by
          rw [hf]
          refine HandSPX.setFlight_upZ fl3 fun h4 hh4 up4 => wpAny_throw (tk _ _ ?_)
          exact ⟨a, B, sI, pins, σ', H', cls, d, rfl, J, nb, (up.trans up3).trans up4, .inr (.inr (by rw [hs]; exact hh4)), na, os, ag, w⟩
        first
          | exact wpAny_bind (wpAny_pure (wpAny_bind fin))
          | exact wpAny_bind fin
      | @one x c ts b₀ suite np pos' hds2 l2 hc hsu r ih =>
        intro w
        obtain ⟨b, hb1, hyes, hno⟩ := w
        refine wpAny_handleBy_cons (codeAny_handlers_test ?_) (by intro q; cases q)
        have LM := PySem.W.exm_one (M := model X.prog X.w) (J3.kIn) LT hb1
        refine test hc (LM.here ?_)
        cases b with
        | true =>
          refine codeAny_handlers_suite ?_
          refine HandSPX.lands_againZ fl3 fun h4 fl4 up4 => ?_
          have J4 : Inv X pins σ' H' { s' with heap := h4 } := J.landed nb fl4.1 ((up.trans up3).trans up4) os ag
          obtain ⟨oe4, vs4, he4, hz4, hd4⟩ := fl4.there
          have S4 := J4.suite he4 hd4 na nL nF
          refine wpAny_mono ((hsu a oe4 cls d (X.pn ++ pins) hz4 ⟨_, hd4⟩).run [] _ _ H' _ S4 (hyes rfl a na)) (fun f s6 hsp => ?_) (fun _ _ z => False.elim z)
          cases f with
          | next =>
            obtain ⟨σ6, H6, S6, q6⟩ := hsp
            exact ⟨_, _, S6.unsuite ok, q6⟩
          | brk =>
            obtain ⟨σ6, H6, S6, q6⟩ := hsp
            exact ⟨_, _, S6.unsuite ok, q6⟩
          | cont =>
            obtain ⟨σ6, H6, S6, q6⟩ := hsp
            exact ⟨_, _, S6.unsuite ok, q6⟩
          | ret u =>
            obtain ⟨v6, σ6, H6, S6, r6, q6⟩ := hsp
            exact ⟨_, _, _, S6.unsuite ok, r6, q6⟩
        | false =>
          show wpAny _ X.A (handleBy (.ref a) X.env hds2) _ _ _
          exact ih (hno rfl)
      | @named x n c i ts b₀ suite np pos' hds2 l2 hN hi hln hc hsu r ih =>
        intro w
        obtain ⟨b, hb1, hyes, hno⟩ := w
        refine wpAny_handleBy_cons (codeAny_handlers_test ?_) (by intro q; cases q)
        have LM := PySem.W.exm_one (M := model X.prog X.w) (J3.kIn) LT hb1
        refine test hc (LM.here ?_)
        have hloc : Loc X.env.scope n := .inl hln
        cases b with
        | true =>
          refine codeAny_handlers_suite_as ?_
          refine HandSPX.lands_againZ fl3 fun h4 fl4 up4 => ?_
          have J4 : Inv X pins σ' H' { s' with heap := h4 } := J.landed nb fl4.1 ((up.trans up3).trans up4) os ag
          obtain ⟨oe4, vs4, he4, hz4, hd4⟩ := fl4.there
          have S4 := J4.suite he4 hd4 na nL nF
          refine store_ok (X := X.suite a ((a, oe4) :: (X.pn ++ pins))) (v := .ref a) S4 hN hi hloc rfl (fun s5 S5 => ?_) (.inr hln)
          refine wpAny_mono ((hsu a oe4 cls d (X.pn ++ pins) hz4 ⟨_, hd4⟩).run [] s5 _ H' _ S5 (hyes rfl a na)) (fun f s6 hsp => ?_) (fun _ _ z => False.elim z)
          have end_ : ∀ {σ6 : L2.St} {H6 : Hp} {Q : Shared → Prop}, Inv (X.suite a ((a, oe4) :: (X.pn ++ pins))) [] σ6 H6 s6 → (∀ s7, Inv X pins (σ6.set i none) H6 s7 → Q s7) →
              wpAny (model X.prog X.w) X.A (do bindName X.env n .none; unbindBehindTheSuite X.env n pos') (fun _ s7 => Q s7) X.xe s6 := fun {σ6 H6 Q} S6 hq => gone_ok (S6.unsuite ok) hN hi hln hq
          cases f with
          | next =>
            obtain ⟨σ6, H6, S6, q6⟩ := hsp
            exact end_ S6 fun s7 J7 => ⟨_, _, J7, q6⟩
          | brk =>
            obtain ⟨σ6, H6, S6, q6⟩ := hsp
            exact end_ S6 fun s7 J7 => ⟨_, _, J7, q6⟩
          | cont =>
            obtain ⟨σ6, H6, S6, q6⟩ := hsp
            exact end_ S6 fun s7 J7 => ⟨_, _, J7, q6⟩
          | ret u =>
            obtain ⟨v6, σ6, H6, S6, r6, q6⟩ := hsp
            exact end_ S6 fun s7 J7 => ⟨_, _, _, J7, r6, q6⟩
        | false =>
          show wpAny _ X.A (handleBy (.ref a) X.env hds2) _ _ _
          exact ih (hno rfl)
    exact go hh w
  · cases f with
    | next =>
      obtain ⟨σ', H', J', q⟩ := hsp
      exact ho.run pins s1 σ' H' D (J'.ofTry ok) q
    | brk =>
      obtain ⟨σ', H', J', q⟩ := hsp
      exact ⟨σ', H', J'.ofTry ok, q⟩
    | cont =>
      obtain ⟨σ', H', J', q⟩ := hsp
      exact ⟨σ', H', J'.ofTry ok, q⟩
    | ret u =>
      obtain ⟨v, σ', H', J', r, q⟩ := hsp
      exact ⟨v, σ', H', J'.ofTry ok, r, q⟩
end
/-! ### in a suite: a field, isinstance -/
def XeP (K : PySem.W.Frag) (a : Addr) (cls : Value) (d : Option Addr) (n : Str) (Q : VK) : VK := fun x H1 => x = .ref a ∧ ∃ C, cls = .ref C ∧ XI K C ∧ PySem.W.findIn K (.ref C) n = some none ∧ ∃ (dd : Addr) (fs : List (Str × V)) (v : V), d = some dd ∧ H1 dd = some (.xd fs) ∧ fs.lookup n = some v ∧ Q v H1
def tXe (K : PySem.W.Frag) (a : Addr) (cls : Value) (d : Option Addr) (n : Str) (te : TE) : TE := fun σ H Q => te σ H (XeP K a cls d n Q)
theorem pe_xe {X : Cx} {a : Addr} {oe : Obj} {cls : Value} {d : Option Addr} {pn : List (Addr × Obj)} {e : Expr} {te : TE} {pos : Pos} {n : Str}
    (hz : Zc cls d oe) (hf : ∃ vs, oe.data = .fields vs) (he : PE (X.suite a ((a, oe) :: pn)) e te) (hb : attributeBase e n X.env (eval e X.env) = eval e X.env := by rfl) :
    PE (X.suite a ((a, oe) :: pn)) (.Attribute e n pos) (tXe X.K a cls d n te) := by
  refine ⟨fun pins s σ H Q I h => ?_⟩
  refine attr_of hb (thn (he.run pins s σ H _ I h) fun u s1 hh => ?_)
  obtain ⟨x, H1, I1, rx, ex, C, ec, T, hno, dd, fs, v, ed, ea, l, q⟩ := hh
  subst ex
  obtain rfl : u = Value.ref a := rx
  subst ec
  subst ed
  obtain ⟨ha, _⟩ := I1.pin (a, oe) (List.mem_append_left _ List.mem_cons_self)
  obtain ⟨vs, hd⟩ := hf
  have hx : ObjOk X.prog X.w H1 s1.heap dd (.xd fs) := I1.hok dd _ ea
  obtain ⟨mA, hns, hr⟩ := hx
  obtain ⟨od, ho, hl⟩ := lookIn_ns hns
  obtain ⟨u, hu, ru⟩ := RelO.some_of (v := v) (o := mA n) (by rw [← l]; exact hr n)
  have J : PySem.W.InstAt s1.heap a oe C (some od) := ⟨ha, hz.1, by unfold PySem.W.notCls; rw [hd] <;> rfl, by rw [hz.2]; exact ho⟩
  exact HandSPX.exc_get I1.kIn J T.ga T.gg T.sb (PySem.W.findObj_own T.hd hno rfl (by rw [hl, hu])) (handed_of ru) ⟨v, H1, I1.tok _, ru, q⟩
def rIsX (K : PySem.W.Frag) (a : Addr) (cls : Value) (d : Option Addr) : List V → Hp → VK → Prop := fun xs H Q => ∃ (c : V) (cv : Value) (b : Bool) (C dd : Addr) (fs : List (Str × V)), xs = [.ref a, c] ∧ (∀ u, RelV c u → u = cv) ∧ cls = .ref C ∧ XI K C ∧ d = some dd ∧ H dd = some (.xd fs) ∧ PySem.W.kitOne K (.ref C) cv = some b ∧ Q (.bl b) H
theorem call_isX {X : Cx} {a : Addr} {cls : Value} {d : Option Addr} {oe : Obj} {pn : List (Addr × Obj)} (hz : Zc cls d oe) (hf : ∃ vs, oe.data = .fields vs) : CallR (X.suite a ((a, oe) :: pn)) (.builtin "isinstance") (rIsX X.K a cls d) := by
  intro pins s σ H xs us Q I r h
  obtain ⟨c, cv, b, C, dd, fs, rfl, hcv, ec, T, ed, ea, e, q⟩ := h
  subst ec
  subst ed
  cases r with
  | cons rx rr =>
    cases rr with
    | cons rt rr =>
      cases rr
      cases rx
      have ecv := hcv _ rt
      subst ecv
      obtain ⟨hget, _⟩ := I.pin (a, oe) (List.mem_append.mpr (.inl List.mem_cons_self))
      obtain ⟨vs, hv⟩ := hf
      have hx : ObjOk X.prog X.w H s.heap dd (.xd fs) := I.hok dd _ ea
      obtain ⟨mA, hns, hr⟩ := hx
      obtain ⟨od, ho, hl⟩ := lookIn_ns hns
      have J : PySem.W.InstAt s.heap a oe C (some od) := ⟨hget, hz.1, by unfold PySem.W.notCls; rw [hv] <;> rfl, by rw [hz.2]; exact ho⟩
      exact PySem.W.kia_one (PySem.W.kitx_exc T.hc T.ga T.gg T.sb T.ca T.cn T.ct T.cm) I.kIn J e (fun z => nomatch z) fun tk => ⟨.bl b, H, I.kept (t' := tk) fun _ _ z => z, rfl, q⟩
/-! ### Base.__init__(self, ..), a class of the text that has none of its own -/
structure BI (K : PySem.W.Frag) (mg : Str → Option Value) (nm : Str) : Prop where
  g : mg nm = some (.ref (clsA K nm))
  ga : PySem.W.specialIn K (.ref (clsA K nm)) "__getattribute__" = some (some (.builtin "type.__getattribute__"))
  rd : PySem.W.readsIn K (clsA K nm) (.type "type") = true
  fi : PySem.W.findCls K (.ref (clsA K nm)) (.type "type") "__init__" = some (.val (.builtin "ValueError.__init__"))
section
variable {X : Cx} {e : Expr} {es : List Expr} {ta : TA} {p1 p2 pos : Pos} {nm : Str}
theorem pe_oinit {pl : Sem Bool} (B : BI X.K X.mg nm) (hg : Gl X nm) (ha : PA X (e :: es) ta) (hdb : (nm == ("__debug__" : Str)) = false := by decide)
    (hc : eval (.Call (.Attribute (.Name nm p1) "__init__" p2) (e :: es) [] pos) X.env = (do
      let ov ← eval (.Name nm p1) X.env
      standAt p2.atName
      let (f, first) ← holding [ov] (getMethod ov "__init__" pl)
      callWith pos f first (backTo pos (starEach (e :: es) X.env)) (backToKw pos (keywordEach [] X.env))) := by rfl)
    (he : starEach (e :: es) X.env = (false, eval e X.env) :: starEach es X.env := by rfl) (hpl : (backTo pos (starEach es X.env)).any (·.1) = false := by rfl) :
    PE X (.Call (.Attribute (.Name nm p1) "__init__" p2) (e :: es) [] pos) (tVeI X.K ta) := by
  refine ⟨fun pins s σ H Q I h => ?_⟩
  refine PySem.W.methodCall_KW (ld_glob I hg B.g ?_ hdb) hc
  refine PySem.W.method_cls I.kIn B.ga (PySem.W.cls_value I.kIn B.rd B.fi (by decide +kernel) ?_)
  show wpAny _ _ (callWith pos (Value.builtin "ValueError.__init__") [] (backTo pos (starEach (e :: es) X.env)) []) _ _ _
  refine PyProof.Rows.callWith_method1 (thn (ha.run pos pins _ σ H _ (I.tok _) h) fun us s1 ⟨vs, H1, I1, r1, a, C, ws, ev, hl, T, ea, q⟩ => ?_) he hpl
  subst ev
  cases r1 with
  | @cons _ u0 _ ur ra rw' =>
    obtain rfl : u0 = Value.ref a := ra
    have hlen : ur.length ≤ sizeLine := by
      rw [← Paired.length rw', sizeLine_eq]
      omega
    exact oinit_ok T I1 ea hlen fun s' J => ⟨.non, H1, J, rfl, q⟩
end
/-! ### a class that is raised -/
/-- its __init__ of one field, of two -/
def spI1 (K : PySem.W.Frag) (f : Str) : Sp := fun vs H Q _ => ∃ (a C : Addr) (y : V), vs = [.ref a, y] ∧ OexC K C ∧ PySem.W.findIn K (.ref C) f = some none ∧ H a = some (exo a C none) ∧
  ∀ dx, H dx = none → dx ≠ a → Q .non (upd (upd H dx (exd dx [(f, y)])) a (exo a C (some dx)))
def spI2 (K : PySem.W.Frag) (f g : Str) : Sp := fun vs H Q _ => ∃ (a C : Addr) (y z : V), vs = [.ref a, y, z] ∧ OexC K C ∧ PySem.W.findIn K (.ref C) f = some none ∧ PySem.W.findIn K (.ref C) g = some none ∧ H a = some (exo a C none) ∧
  ∀ dx, H dx = none → dx ≠ a → Q .non (upd (upd (upd H dx (exd dx [(f, y)])) a (exo a C (some dx))) dx (exd dx [(g, z), (f, y)]))
structure EX (P : Program) (w : World) (K : PySem.W.Frag) (mg : Str → Option Value) (base : Heap) (nm : Str) (ps : List Str) (sp : Sp) : Prop where
  g : mg nm = some (.ref (clsA K nm))
  o : OexC K (clsA K nm)
  i : ∃ (fI : Addr) (fd : FuncData), PySem.W.findIn K (.ref (clsA K nm)) "__init__" = some (some (.ref fI)) ∧ PySem.W.typeIn K (.ref fI) = some (.type "function") ∧ FnOk P w K mg base CX0 1 fI fd ps sp ∧ Binds K fd ps []
def MkG (C : Addr) (sp : Sp) (vs : List V) (Q : XK) (H1 : Hp) : Prop := vs.length ≤ 1000 ∧ ∀ a, H1 a = none → sp (.ref a :: (vs ++ [])) (upd H1 a (exo a C none))
  (fun v H2 => v = .non ∧ ∃ (d : Addr) (fs : List (Str × V)), H2 a = some (exo a C (some d)) ∧ H2 d = some (exd d fs) ∧ H1 d = none ∧ Q (.ref C) (some d) (upd (del H2 a) d (.xd fs))) (fun _ _ _ => False)
def tRaise (C : Addr) (sp : Sp) (W : WX) (ta : TA) : TS := fun _ σ H => ta σ H fun vs H1 => MkG C sp vs (fun cls d H' => W cls d σ H') H1
section
variable {X : Cx} {e : Expr} {es : List Expr} {ta : TA} {p pos pos2 : Pos} {nm : Str} {ps : List Str} {sp : Sp} {W : WX}
theorem ps_raiseG (hc : X.calm = true) (T : EX X.prog X.w X.K X.mg X.base nm ps sp) (hr : Room 2 X.A) (tk : Takes X W) (hg : Gl X nm) (ha : PA X (e :: es) ta)
    (hdb : (nm == ("__debug__" : Str)) = false := by decide) (he : starEach (e :: es) X.env = (false, eval e X.env) :: starEach es X.env := by rfl) (hpl : (backTo pos (starEach es X.env)).any (·.1) = false := by rfl) :
    PS X (.Raise (some (.Call (.Name nm p) (e :: es) [] pos)) none pos2) (tRaise (clsA X.K nm) sp W ta) := by
  obtain ⟨fI, fd, i1, i2, i3, i4⟩ := T.i
  exact ps_raise hc tk (pmk_oex (dvs := []) T.o i1 i2 i3 hr i4 .nil pass0 hg T.g ha hdb he hpl)
end
theorem mk_heap {H1 : Hp} {a dx : Addr} {o1 o2 o3 u : HO} (hn : H1 a = none) (ne : dx ≠ a) : upd (del (upd (upd (upd H1 a o1) dx o2) a o3) a) dx u = upd H1 dx u := by
  funext b
  by_cases h1 : b = dx
  · rw [h1, upd_same, upd_same]
  · rw [upd_ne h1, upd_ne h1]
    by_cases h2 : b = a
    · rw [h2, del_same, hn]
    · rw [del_ne h2, upd_ne h2, upd_ne h1, upd_ne h2]
theorem mk_heap2 {H1 : Hp} {a dx : Addr} {o1 o2 o3 o4 u : HO} (hn : H1 a = none) (ne : dx ≠ a) : upd (del (upd (upd (upd (upd H1 a o1) dx o2) a o3) dx o4) a) dx u = upd H1 dx u := by
  funext b
  by_cases h1 : b = dx
  · rw [h1, upd_same, upd_same]
  · rw [upd_ne h1, upd_ne h1]
    by_cases h2 : b = a
    · rw [h2, del_same, hn]
    · rw [del_ne h2, upd_ne h1, upd_ne h2, upd_ne h1, upd_ne h2]
section
variable {K : PySem.W.Frag} {C : Addr} {Q : XK} {H : Hp} {f g : Str}
theorem st_mk1 {v : V} (T : OexC K C) (hf : PySem.W.findIn K (.ref C) f = some none) (h : ∀ d H', H d = none → Ex H H' → H' d = some (.xd [(f, v)]) → Q (.ref C) (some d) H') : MkG C (spI1 K f) [v] Q H := by
  refine ⟨(by decide : 1 ≤ 1000), fun a ha => ⟨a, C, v, rfl, T, hf, upd_same, fun dx hdx ne => ⟨rfl, dx, [(f, v)], upd_same, ?_, ?_, ?_⟩⟩⟩
  · rw [upd_ne ne]; exact upd_same
  · rw [upd_ne ne] at hdx; exact hdx
  · rw [upd_ne ne] at hdx
    rw [mk_heap ha ne]
    exact h dx _ hdx (Fr.new hdx) upd_same
theorem st_mk2 {v z : V} (T : OexC K C) (hf : PySem.W.findIn K (.ref C) f = some none) (hg : PySem.W.findIn K (.ref C) g = some none) (h : ∀ d H', H d = none → Ex H H' → H' d = some (.xd [(g, z), (f, v)]) → Q (.ref C) (some d) H') : MkG C (spI2 K f g) [v, z] Q H := by
  refine ⟨(by decide : 2 ≤ 1000), fun a ha => ⟨a, C, v, z, rfl, T, hf, hg, upd_same, fun dx hdx ne => ⟨rfl, dx, [(g, z), (f, v)], ?_, upd_same, ?_, ?_⟩⟩⟩
  · rw [upd_ne (Ne.symm ne)]; exact upd_same
  · rw [upd_ne ne] at hdx; exact hdx
  · rw [upd_ne ne] at hdx
    rw [mk_heap2 ha ne]
    exact h dx _ hdx (Fr.new hdx) upd_same
end
structure IniF (K : PySem.W.Frag) (nm qual : Str) (st : Stmt) (ps : List Str) : Prop where
  ex : ∃ (fI : Addr) (fd : FuncData), PySem.W.findIn K (.ref (clsA K nm)) "__init__" = some (some (.ref fI)) ∧ PySem.W.typeIn K (.ref fI) = some (.type "function") ∧ Fun K "__init__" qual st fI fd ∧ Binds K fd ps []
theorem ini_mk {K : PySem.W.Frag} {nm qual : Str} {st : Stmt} {ps : List Str} {f : Addr} {oc : Value} {od an : Option Addr} {osl : Array (Option Value)} {kV dc pm cd ct : Value} (i : PySem.W.findIn K (.ref (clsA K nm)) "__init__" = some (some (.ref f))) (t : PySem.W.typeIn K (.ref f) = some (.type "function"))
    (l : K.lookup f = some ⟨oc, od, .func (PySem.W.fnOf "__init__" qual (defArgs st) (defBody st) (defScope st) .none kV dc pm an cd ct), osl⟩) (c : PySem.W.codeIn K cd qual = true) (k : PySem.W.keepIn K (.ref f) = true)
    (hb : ∀ (kV doc pm : Value) (an : Option Addr) (cdv ct : Value) (us : List Value), us.length = ps.length → bindArgs (PySem.W.fnOf "__init__" qual (defArgs st) (defBody st) (defScope st) .none kV doc pm an cdv ct) ⟨us, []⟩ = pure (ps.zip us)) : IniF K nm qual st ps :=
  have F := fun_mk (st := st) l c k
  ⟨f, _, i, t, F, F.binds hb⟩
theorem xi_mk {K : PySem.W.Frag} {C : Addr} (ga : PySem.W.findIn K (.ref C) "__getattribute__" = some (some (.builtin "BaseException.__getattribute__"))) (gg : PySem.W.findIn K (.ref C) "__getattr__" = some none) (sb : PySem.W.subIn K (.ref C) (.type "BaseException") = some true) (hd : PySem.W.hasDictIn K C = true)
    (ca : PySem.W.findIn K (.ref C) "__class__" = some (some (.builtin "object.__class__"))) (cn : PySem.W.specialIn K (.builtin "object.__class__") "__get__" = some (some (.builtin "getset_descriptor.__get__"))) (ct : PySem.W.takesIn K (.builtin "object.__class__") = some true) (cm : PySem.W.mroIn K C (.type "object") = some true) : XI K C :=
  ⟨by obtain ⟨cd, hc, _⟩ := PySem.W.any_some hd; rw [hc]; rfl, ga, gg, sb, hd, ca, cn, ct, cm⟩
theorem ini1_go {K : PySem.W.Frag} {f tx : Str} {a C : Addr} {y : V} {H : Hp} {Q : VK} (hO : OexC K C) (hn : PySem.W.findIn K (.ref C) f = some none) (ha : H a = some (exo a C none))
    (k : ∀ dx, H dx = none → dx ≠ a → Q .non (upd (upd H dx (exd dx [(f, y)])) a (exo a C (some dx)))) :
    tSeq (tDrop (tVeI K (tCons (tVar 0) (tCons (tC (.str tx)) tNil)))) (tOst K f (tVar 0) (tVar 1)) { nx := fun _ H' => Q .non H', rt := Q } [some (.ref a), some y] H :=
  ⟨.ref a, rfl, a, C, [.str tx], rfl, Nat.le_of_ble_eq_true rfl, hO, ha, y, rfl, .ref a, rfl, a, C, rfl, hO, hn, .inl ⟨ha, k⟩⟩
theorem ini2_go {K : PySem.W.Frag} {f g tx : Str} {a C : Addr} {y z : V} {H : Hp} {Q : VK} (hO : OexC K C) (hn : PySem.W.findIn K (.ref C) f = some none) (hg : PySem.W.findIn K (.ref C) g = some none) (ha : H a = some (exo a C none))
    (k : ∀ dx, H dx = none → dx ≠ a → Q .non (upd (upd (upd H dx (exd dx [(f, y)])) a (exo a C (some dx))) dx (exd dx [(g, z), (f, y)]))) :
    tSeq (tDrop (tVeI K (tCons (tVar 0) (tCons (tC (.str tx)) tNil)))) (tSeq (tOst K f (tVar 0) (tVar 1)) (tOst K g (tVar 0) (tVar 2))) { nx := fun _ H' => Q .non H', rt := Q } [some (.ref a), some y, some z] H :=
  ⟨.ref a, rfl, a, C, [.str tx], rfl, Nat.le_of_ble_eq_true rfl, hO, ha, y, rfl, .ref a, rfl, a, C, rfl, hO, hn, .inl ⟨ha, fun dx h1 h2 => ⟨z, rfl, .ref a, rfl, a, C, rfl, hO, hg, .inr ⟨dx, [(f, y)], upd_same, by rw [upd_ne h2]; exact upd_same, Nat.le_of_ble_eq_true rfl, k dx h1 h2⟩⟩⟩⟩
/-- a thing of a kind that is known; a text not too long -/
def Thg (H : Hp) (v : V) : Prop := Ty H v ∧ ∀ z, v = .str z → z.length ≤ 16777216
theorem Thg.ex {H H' : Hp} {v : V} (h : Thg H v) (e : Ex H H') : Thg H' v := ⟨h.1.ex e, h.2⟩
theorem thg_str {H : Hp} {z : Str} (h : z.length ≤ 16777216) : Thg H (.str z) := ⟨ty_str _, fun _ e => by cases e; exact h⟩
/-- an error of the class nm that holds these fields is let out -/
def RaF (K : PySem.W.Frag) (E : XK) (H : Hp) (nm : Str) (fs : List (Str × V)) : Prop := ∀ d H', H d = none → Ex H H' → H' d = some (.xd fs) → E (.ref (clsA K nm)) (some d) H'
abbrev RaR (K : PySem.W.Frag) (E : XK) (H : Hp) (nm f : Str) (v : V) : Prop := RaF K E H nm [(f, v)]
theorem RaF.ex {K : PySem.W.Frag} {E : XK} {H H1 : Hp} {nm : Str} {fs : List (Str × V)} (h : RaF K E H nm fs) (e : Ex H H1) : RaF K E H1 nm fs := fun d H' h1 h2 h3 => h d H' (Ex.free e h1) (e.trans h2) h3
/-! ### steps -/
section
variable {D : Ends} {σ : L2.St} {H : Hp} {Q : VK} {K : PySem.W.Frag}
theorem st_raise {C : Addr} {sp : Sp} {W : WX} {ta : TA} (h : ta σ H fun vs H1 => MkG C sp vs (fun cls d H' => W cls d σ H') H1) : tRaise C sp W ta D σ H := h
theorem st_try {Wout : WX} {tb : WX → TS} {u : TS} {l : List Cl} (h : tb (wG K Wout D l) { D with nx := u D } σ H) : tTry K Wout tb u l D σ H := h
theorem st_callS {sp : Sp} {W : WX} {t : TA} (h : t σ H fun vs H1 => sp vs H1 Q (WE W σ)) : tCallS sp (WE W) t σ H Q := h
theorem st_hYn {Wout : WX} {c : Value} {i : Nat} {ts : Addr → Value → Option Addr → TS} {r : List Cl} {cls : Value} {d : Option Addr} (e : PySem.W.exmOne K cls c = some true) (h : ∀ a, H a = none → ts a cls d { nx := fun σ' H' => D.nx (σ'.set i none) H', rt := D.rt, bk := fun σ' H' => D.bk (σ'.set i none) H', ct := fun σ' H' => D.ct (σ'.set i none) H' } (σ.set i (some (.ref a))) H) : wG K Wout D ((c, some i, ts) :: r) cls d σ H := ⟨true, e, fun _ => h, fun z => nomatch z⟩
theorem st_hY0 {Wout : WX} {c : Value} {ts : Addr → Value → Option Addr → TS} {r : List Cl} {cls : Value} {d : Option Addr} (e : PySem.W.exmOne K cls c = some true) (h : ∀ a, H a = none → ts a cls d D σ H) : wG K Wout D ((c, none, ts) :: r) cls d σ H := ⟨true, e, fun _ => h, fun z => nomatch z⟩
theorem st_hY {Wout : WX} {c : Value} {i : Option Nat} {ts : Addr → Value → Option Addr → TS} {r : List Cl} {cls : Value} {d : Option Addr} (e : PySem.W.exmOne K cls c = some true) (h : ∀ a, H a = none → ts a cls d (clD i D) (clS i a σ) H) : wG K Wout D ((c, i, ts) :: r) cls d σ H := ⟨true, e, fun _ => h, fun z => nomatch z⟩
theorem st_hN {Wout : WX} {c : Value} {i : Option Nat} {ts : Addr → Value → Option Addr → TS} {r : List Cl} {cls : Value} {d : Option Addr} (e : PySem.W.exmOne K cls c = some false) (h : wG K Wout D r cls d σ H) : wG K Wout D ((c, i, ts) :: r) cls d σ H := ⟨false, e, (fun z => by cases z), fun _ => h⟩
theorem st_hO {Wout : WX} {cls : Value} {d : Option Addr} (h : Wout cls d σ H) : wG K Wout D [] cls d σ H := h
theorem st_xe {a : Addr} {cls : Value} {d : Option Addr} {n : Str} {te : TE} (h : te σ H (XeP K a cls d n Q)) : tXe K a cls d n te σ H Q := h
theorem st_xeP {a C dd : Addr} {n : Str} {fs : List (Str × V)} {v : V} (T : XI K C) (hno : PySem.W.findIn K (.ref C) n = some none) (h1 : H dd = some (.xd fs)) (h2 : fs.lookup n = some v) (h : Q v H) : XeP K a (.ref C) (some dd) n Q (.ref a) H := ⟨rfl, C, rfl, T, hno, dd, fs, v, rfl, h1, h2, h⟩
theorem st_isX {a C C' dd : Addr} {fs : List (Str × V)} {b : Bool} (T : XI K C) (h1 : H dd = some (.xd fs)) (e : PySem.W.kitOne K (.ref C) (.ref C') = some b) (h : Q (.bl b) H) : rIsX K a (.ref C) (some dd) [.ref a, .ref C'] H Q := ⟨.ref C', .ref C', b, C, dd, fs, rfl, fun _ r => r, rfl, T, rfl, h1, e, h⟩
theorem st_isXT {a C dd : Addr} {fs : List (Str × V)} {n : String} {b : Bool} (T : XI K C) (h1 : H dd = some (.xd fs)) (e : PySem.W.kitOne K (.ref C) (.type n) = some b) (h : Q (.bl b) H) : rIsX K a (.ref C) (some dd) [.ref a, .ty n] H Q := ⟨.ty n, .type n, b, C, dd, fs, rfl, fun _ r => r, rfl, T, rfl, h1, e, h⟩
theorem clD_some {i : Nat} : clD (some i) D = goneD i D := rfl
theorem clD_none : clD none D = D := rfl
end
end Zb

/-! slices with a step -/
namespace Zb
open PySem PySem.Spec PyProof.Rows L2
abbrev ixSt (lo hi : Option Int) (k : Int) (n : Nat) : List Nat := Builtin.Str.strSliceIndices lo hi k n
def pick {α : Type} (is : List Nat) (xs : List α) : List α := is.filterMap (xs[·]?)
theorem vals_pick {xs : List V} {its : List Value} (r : Vals xs its) : ∀ is : List Nat, Vals (pick is xs) (pick is its)
  | [] => .nil
  | i :: is => by
    have ih := vals_pick r is
    unfold pick at ih ⊢
    rw [List.filterMap_cons, List.filterMap_cons]
    cases e : xs[i]? with
    | some v =>
      obtain ⟨u, hu, ru⟩ := r.get e
      rw [hu]
      exact .cons ru ih
    | none =>
      have hl := r.length
      rw [List.getElem?_eq_none (by rw [List.getElem?_eq_none_iff] at e; omega)]
      exact ih
theorem pick_get {α : Type} {xs : List α} : ∀ {is : List Nat}, (∀ j ∈ is, j < xs.length) → ∀ i : Nat, (pick is xs)[i]? = is[i]?.bind (xs[·]?)
  | [], _, i => by simp [pick]
  | j :: is, h, i => by
    have hj := h j List.mem_cons_self
    have ih := pick_get (xs := xs) (is := is) fun k hk => h k (List.mem_cons_of_mem _ hk)
    unfold pick at ih ⊢
    rw [List.filterMap_cons, List.getElem?_eq_getElem hj]
    cases i with
    | zero => simp [hj]
    | succ i => simpa using ih i
theorem pick_rev {α : Type} (xs : List α) : pick (ixSt none none (-1) xs.length) xs = xs.reverse := by
  have e : ixSt none none (-1) xs.length = (List.range xs.length).map fun (i : Nat) => ((xs.length : Int) - 1 + (-1) * (i : Int)).toNat := by
    show sliceRange _ _ _ = _
    unfold sliceRange
    have h0 : ¬ ((-1 : Int) > 0) := by decide
    simp only [h0, if_false]
    by_cases h : xs.length = 0
    · rw [h]; rfl
    · have h1 : ((xs.length : Int) - 1) > -1 := by omega
      simp only [h1, if_true]
      have h2 : (((xs.length : Int) - 1 - -1 - -1 - 1) / - -1).toNat = xs.length := by rw [Int.neg_neg, Int.ediv_one]; omega
      rw [h2]
  apply List.ext_getElem?
  intro i
  rw [pick_get (fun j hj => by
    rw [e, List.mem_map] at hj
    obtain ⟨i, hi, rfl⟩ := hj
    rw [List.mem_range] at hi
    show ((xs.length : Int) - 1 + (-1) * (i : Int)).toNat < xs.length
    omega), e, List.getElem?_map]
  by_cases hi : i < xs.length
  · rw [List.getElem?_range hi, List.getElem?_reverse hi]
    show xs[((xs.length : Int) - 1 + (-1) * (i : Int)).toNat]? = _
    congr 1
    omega
  · rw [List.getElem?_eq_none (l := List.range _) (by rw [List.length_range]; omega), List.getElem?_eq_none (l := xs.reverse) (by rw [List.length_reverse]; omega)]
    rfl
/-- the items at 0, 2, .. ; at 1, 3, .. -/
def evL {α : Type} : List α → List α
  | [] => []
  | [a] => [a]
  | a :: _ :: r => a :: evL r
def odL {α : Type} : List α → List α
  | [] => []
  | [_] => []
  | _ :: b :: r => b :: odL r
theorem evL_get {α : Type} : ∀ (xs : List α) (i : Nat), (evL xs)[i]? = xs[2 * i]?
  | [], i => by simp [evL]
  | [a], i => by cases i <;> simp [evL]
  | a :: b :: r, i => by
    cases i with
    | zero => simp [evL]
    | succ i =>
      have ih := evL_get r i
      show (a :: evL r)[i + 1]? = (a :: b :: r)[2 * (i + 1)]?
      rw [List.getElem?_cons_succ, ih, show 2 * (i + 1) = 2 * i + 1 + 1 from rfl, List.getElem?_cons_succ, List.getElem?_cons_succ]
theorem odL_get {α : Type} : ∀ (xs : List α) (i : Nat), (odL xs)[i]? = xs[2 * i + 1]?
  | [], i => by simp [odL]
  | [a], i => by simp [odL]
  | a :: b :: r, i => by
    cases i with
    | zero => simp [odL]
    | succ i =>
      have ih := odL_get r i
      show (b :: odL r)[i + 1]? = (a :: b :: r)[2 * (i + 1) + 1]?
      rw [List.getElem?_cons_succ, ih, show 2 * (i + 1) + 1 = 2 * i + 1 + 1 + 1 from rfl, List.getElem?_cons_succ, List.getElem?_cons_succ]
theorem pick_ev {α : Type} (xs : List α) : pick (ixSt none none 2 xs.length) xs = evL xs := by
  have e : ixSt none none 2 xs.length = (List.range ((xs.length + 1) / 2)).map fun (i : Nat) => ((0 : Int) + 2 * (i : Int)).toNat := by
    show sliceRange _ _ _ = _
    unfold sliceRange
    have h0 : ((2 : Int) > 0) := by decide
    simp only [h0, if_true]
    by_cases h : xs.length = 0
    · rw [h]; rfl
    · have h1 : (0 : Int) < (xs.length : Int) := by omega
      simp only [h1, if_true]
      have h2 : (((xs.length : Int) - 0 + 2 - 1) / 2).toNat = (xs.length + 1) / 2 := by omega
      rw [h2]
  apply List.ext_getElem?
  intro i
  rw [pick_get (fun j hj => by
    rw [e, List.mem_map] at hj
    obtain ⟨i, hi, rfl⟩ := hj
    rw [List.mem_range] at hi
    show ((0 : Int) + 2 * (i : Int)).toNat < xs.length
    omega), e, List.getElem?_map, evL_get]
  by_cases hi : i < (xs.length + 1) / 2
  · rw [List.getElem?_range hi]
    show xs[((0 : Int) + 2 * (i : Int)).toNat]? = _
    congr 1
    omega
  · rw [List.getElem?_eq_none (l := List.range _) (by rw [List.length_range]; omega), List.getElem?_eq_none (l := xs) (by omega)]
    rfl
theorem pick_od {α : Type} (xs : List α) : pick (ixSt (some 1) none 2 xs.length) xs = odL xs := by
  have e : ixSt (some 1) none 2 xs.length = (List.range (xs.length / 2)).map fun (i : Nat) => ((1 : Int) + 2 * (i : Int)).toNat := by
    show sliceRange _ _ _ = _
    unfold sliceRange
    have h0 : ((2 : Int) > 0) := by decide
    have h9 : ¬ ((1 : Int) < 0) := by decide
    simp only [h0, h9, if_true, if_false]
    by_cases h : xs.length = 0
    · rw [h]; rfl
    · have h3 : (max 0 (min 1 (xs.length : Int))) = 1 := by omega
      rw [h3]
      by_cases h1 : (1 : Int) < (xs.length : Int)
      · simp only [h1, if_true]
        have h2 : (((xs.length : Int) - 1 + 2 - 1) / 2).toNat = xs.length / 2 := by omega
        rw [h2]
      · simp only [h1, if_false]
        have h2 : xs.length / 2 = 0 := by omega
        rw [h2]
        rfl
  apply List.ext_getElem?
  intro i
  rw [pick_get (fun j hj => by
    rw [e, List.mem_map] at hj
    obtain ⟨i, hi, rfl⟩ := hj
    rw [List.mem_range] at hi
    show ((1 : Int) + 2 * (i : Int)).toNat < xs.length
    omega), e, List.getElem?_map, odL_get]
  by_cases hi : i < xs.length / 2
  · rw [List.getElem?_range hi]
    show xs[((1 : Int) + 2 * (i : Int)).toNat]? = _
    congr 1
    omega
  · rw [List.getElem?_eq_none (l := List.range _) (by rw [List.length_range]; omega), List.getElem?_eq_none (l := xs) (by omega)]
    rfl
theorem pick_len {α : Type} (is : List Nat) (xs : List α) : (pick is xs).length ≤ is.length := List.length_filterMap_le _ _
theorem ixSt_len (lo hi : Option Int) (k : Int) (n : Nat) : (ixSt lo hi k n).length ≤ n := by
  have h := PySem.sliceRange_length_le (sliceBounds lo hi (some k) n).1 (sliceBounds lo hi (some k) n).2.1 (sliceBounds lo hi (some k) n).2.2 n (fun hc => ?_) (fun hc => ?_)
  · exact h
  · simp only [sliceBounds, Option.getD_some] at hc ⊢
    simp only [hc, if_true]
    constructor
    · cases lo with
      | none => simp
      | some i => dsimp only; omega
    · cases hi with
      | none => simp
      | some i => dsimp only; omega
  · simp only [sliceBounds, Option.getD_some] at hc ⊢
    simp only [hc, if_false]
    constructor
    · cases lo with
      | none => simp
      | some i => dsimp only; omega
    · cases hi with
      | none => simp
      | some i => dsimp only; omega
def rSt (K : PySem.W.Frag) : V → Option Int → Option Int → Int → Hp → VK → Prop := fun x lo hi k H Q => match x with
  | .str z => z.length ≤ 16777216 ∧ k ≠ 0 ∧ k ≠ 1 ∧ Q (.str (tx (pick (ixSt lo hi k z.length) z.cps.toList))) H
  | .ref p => ∃ xs, SqL K H p xs ∧ k ≠ 0 ∧ ∀ q, H q = none → Q (.ref q) (upd H q (.lst (pick (ixSt lo hi k xs.length) xs)))
  | _ => False
def tSt (r : V → Option Int → Option Int → Int → Hp → VK → Prop) (te : TE) (tl th : TO) (ts : TE) : TE := fun σ H Q => te σ H fun x H1 => tl σ H1 fun l H2 => th σ H2 fun u H3 => ts σ H3 fun s H4 => ∃ k, s = .int k ∧ r x l u k H4 Q
section
variable {X : Cx} {e st : Expr} {te ts : TE} {lo hi : Option Expr} {tl th : TO} {pos p2 : Pos} {K : PySem.W.Frag}
theorem pe_slice3 (he : PE X e te) (hl : PO X lo tl) (hu : PO X hi th) (hs : PE X st ts) (hK : X.K = K := by rfl) : PE X (.Subscript e (.Slice lo hi (some st) p2) pos) (tSt (rSt K) te tl th ts) := by
  subst hK
  refine ⟨fun pins s σ H Q I h => ?_⟩
  rw [eval_Subscript]
  refine wpAny_bind (thn (he.run pins s σ H _ I h) fun v s1 ⟨x, H1, I1, r1, q1⟩ => wpAny_bind (wpAny_holding (wpAny_Slice (thn (hl.run pins s1 σ H1 _ I1 q1) fun vl s2 ⟨l, H2, I2, pl, q2⟩ => thn (hu.run pins s2 σ H2 _ I2 q2) fun vu s3 ⟨u, H3, I3, pu, q3⟩ => ?_))))
  rw [evalPart_some]
  refine thn (hs.run pins s3 σ H3 _ I3 q3) fun vk s4 ⟨xk, H4, I4, rk, q4⟩ => ?_
  obtain ⟨k, ek, q⟩ := q4
  subst ek
  obtain ⟨tk, rfl⟩ := rk
  refine wpAny_bind (wpAny_standAt ?_)
  have I5 : Inv X pins σ H4 { s4 with heap := s4.heap.push { cls := .type "slice", data := .fields #[vl, vu, .int k tk] } } := I4.kept (t' := s4.toks) fun b ob q => Heap.get?_push_of_some _ q
  have go : ∀ {T id : String}, typeLookup (.type T) "__getitem__" = pure (some (.builtin id)) → ({ s4 with heap := s4.heap.push { cls := .type "slice", data := .fields #[vl, vu, .int k tk] } } : Shared).TypeIs v T → wpAny (model X.prog X.w) X.A (getItem v (.ref s4.heap.objs.size)) (EP X pins σ Q) X.xe { s4 with heap := s4.heap.push { cls := .type "slice", data := .fields #[vl, vu, .int k tk] } } →
      wpAny (model X.prog X.w) X.A (subscriptTail e (.Slice lo hi (some st) p2) v (.ref s4.heap.objs.size)) (EP X pins σ Q) X.xe { s4 with heap := s4.heap.push { cls := .type "slice", data := .fields #[vl, vu, .int k tk] } } := by
    intro T id hT ht hg
    exact tail_any (ops := [v, .ref s4.heap.objs.size]) ht hT hg (by with_unfolding_all rfl)
  have hsl : ({ s4 with heap := s4.heap.push { cls := .type "slice", data := .fields #[vl, vu, .int k tk] } } : Shared).heap.IsSliceOf s4.heap.objs.size vl vu (.int k tk) := Heap.IsSliceOf.new ..
  cases x with
  | str z =>
    obtain ⟨hz, hk0, hk1, q⟩ := q
    obtain ⟨tz, rfl⟩ := r1
    obtain ⟨l', rfl, rfl⟩ := IsPart.raw pl
    obtain ⟨u', rfl, rfl⟩ := IsPart.raw pu
    refine go F.slot_str_getitem.lookup (typeIs_str _ _ _) ?_
    refine wpAny_getItem_str_slice (l := l') (u := u') (st := some (k, tk)) hsl (by simpa using hk0) ?_
    have c : ¬ ((k == 1 && (ixSt (l'.map (·.1)) (u'.map (·.1)) k z.length).length == z.length) = true) := by
      intro z
      rw [Bool.and_eq_true] at z
      exact hk1 (by simpa using z.1)
    show Made.post (if (k == 1 && (ixSt (l'.map (·.1)) (u'.map (·.1)) k z.length).length == z.length) = true then Made.val (.str z tz)
      else Made.str ⟨((ixSt (l'.map (·.1)) (u'.map (·.1)) k z.length).filterMap (z.cps[·]?)).toArray⟩) (EP X pins σ Q) _
    rw [if_neg c]
    have e1 : (ixSt (l'.map (·.1)) (u'.map (·.1)) k z.length).filterMap (z.cps[·]?) = pick (ixSt (l'.map (·.1)) (u'.map (·.1)) k z.length) z.cps.toList := by
      unfold pick
      congr 1
      funext j
      rw [Array.getElem?_toList]
    rw [e1]
    refine ⟨?_, .str _, H4, I5.tok _, ⟨_, rfl⟩, q⟩
    show (tx (pick _ _)).length ≤ sizeLine
    rw [tx_length, sl16]
    exact Nat.le_trans (pick_len _ _) (Nat.le_trans (ixSt_len _ _ _ _) hz)
  | ref p =>
    obtain ⟨xs, hx, hk0, q⟩ := q
    obtain rfl : v = Value.ref p := r1
    obtain ⟨its, r, ht, hz⟩ := I5.list hx
    have hlen := r.length
    refine go slot_list_getitem.lookup ht.isList.typeIs ?_
    refine wpAny_getItem_list_slice ht.isList hsl pl pu (.int k tk) (by simpa using hk0) ?_ (by rw [List.size_toArray] <;> omega)
    have e1 : slicePick its.toArray l u (some k) = (pick (ixSt l u k xs.length) its).toArray := by
      unfold slicePick pick
      congr 1
      rw [hlen]
      show (ixSt l u k its.toArray.size).filterMap _ = _
      rw [List.size_toArray]
      congr 1
      funext j
      rw [List.getElem?_toArray]
    rw [e1]
    refine ⟨.ref _, _, I5.laid (t' := s4.toks) (o := .lst (pick (ixSt l u k xs.length) xs)) (fun b ob q => Heap.get?_push_of_some _ q) (Nat.le_refl _) ?_, rfl, q _ (I5.hok.fresh (Nat.le_refl _))⟩
    exact ⟨Nat.le_trans (pick_len _ _) (Nat.le_trans (ixSt_len _ _ _ _) hz), _, 0, vals_pick r _, Heap.get?_push_size _ rfl⟩
  | _ => exact q.elim
end
/-! ### steps -/
section
variable {K : PySem.W.Frag} {H : Hp} {σ : L2.St} {Q : VK}
theorem st_st3 {r : V → Option Int → Option Int → Int → Hp → VK → Prop} {te ts : TE} {tl th : TO} (h : te σ H fun x H1 => tl σ H1 fun l H2 => th σ H2 fun u H3 => ts σ H3 fun s H4 => ∃ k, s = .int k ∧ r x l u k H4 Q) : tSt r te tl th ts σ H Q := h
theorem st_revS {z : Str} (hz : z.length ≤ 16777216) (h : Q (.str (tx z.cps.toList.reverse)) H) : rSt K (.str z) none none (-1) H Q := ⟨hz, by decide, by decide, by
  have e : z.length = z.cps.toList.length := Array.length_toList.symm
  rw [e, pick_rev]; exact h⟩
theorem st_evS {z : Str} (hz : z.length ≤ 16777216) (h : Q (.str (tx (evL z.cps.toList))) H) : rSt K (.str z) none none 2 H Q := ⟨hz, by decide, by decide, by
  have e : z.length = z.cps.toList.length := Array.length_toList.symm
  rw [e, pick_ev]; exact h⟩
theorem st_odS {z : Str} (hz : z.length ≤ 16777216) (h : Q (.str (tx (odL z.cps.toList))) H) : rSt K (.str z) (some 1) none 2 H Q := ⟨hz, by decide, by decide, by
  have e : z.length = z.cps.toList.length := Array.length_toList.symm
  rw [e, pick_od]; exact h⟩
theorem st_revL {p : Addr} {xs : List V} (hx : SqL K H p xs) (h : ∀ q H', H q = none → Ex H H' → H' q = some (.lst xs.reverse) → Q (.ref q) H') : rSt K (.ref p) none none (-1) H Q := ⟨xs, hx, by decide, fun q hq => by
  rw [pick_rev]; exact h q _ hq (Fr.new hq) upd_same⟩
theorem st_evL {p : Addr} {xs : List V} (hx : SqL K H p xs) (h : ∀ q H', H q = none → Ex H H' → H' q = some (.lst (evL xs)) → Q (.ref q) H') : rSt K (.ref p) none none 2 H Q := ⟨xs, hx, by decide, fun q hq => by
  rw [pick_ev]; exact h q _ hq (Fr.new hq) upd_same⟩
theorem st_odL {p : Addr} {xs : List V} (hx : SqL K H p xs) (h : ∀ q H', H q = none → Ex H H' → H' q = some (.lst (odL xs)) → Q (.ref q) H') : rSt K (.ref p) (some 1) none 2 H Q := ⟨xs, hx, by decide, fun q hq => by
  rw [pick_od]; exact h q _ hq (Fr.new hq) upd_same⟩
end
end Zb

/-! == of lists whose items are data, or the very same things -/
namespace Zb
open PySem PySem.Spec PyProof.Rows L2 PySem.SeqAt
inductive PEq (H : Hp) : V → V → Bool → Prop
  | same (a : Addr) : PEq H (.ref a) (.ref a) true
  | dat {x y : V} {d e : PyData} : Rp H x d → Rp H y e → min d.depth e.depth ≤ 60 → PEq H x y (PyData.eqv d e)
inductive PEqs (H : Hp) : List V → List V → List Bool → Prop
  | nil : PEqs H [] [] []
  | cons {x y : V} {b : Bool} {xs ys : List V} {bs : List Bool} : PEq H x y b → PEqs H xs ys bs → PEqs H (x :: xs) (y :: ys) (b :: bs)
theorem PEqs.len {H : Hp} : ∀ {xs ys : List V} {bs : List Bool}, PEqs H xs ys bs → ys.length = xs.length ∧ bs.length = xs.length
  | _, _, _, .nil => ⟨rfl, rfl⟩
  | _, _, _, .cons _ r => ⟨congrArg (· + 1) r.len.1, congrArg (· + 1) r.len.2⟩
theorem PEqs.at {H : Hp} : ∀ {xs ys : List V} {bs : List Bool}, PEqs H xs ys bs → ∀ j (x y : V), xs[j]? = some x → ys[j]? = some y → PEq H x y (bs.getD j true)
  | _, _, _, .nil, j, x, y, h, _ => by simp at h
  | _, _, _, .cons a r, 0, x, y, h, k => by
    have e1 : _ = x := Option.some.inj h
    have e2 : _ = y := Option.some.inj k
    rw [← e1, ← e2]
    exact a
  | _, _, _, .cons a r, j + 1, x, y, h, k => by
    have h : _ = some x := h
    have := r.at j x y (by simpa using h) (by simpa using k)
    simpa using this
theorem all_getD : ∀ bs : List Bool, (List.range bs.length).all (fun j => bs.getD j true) = bs.all id
  | [] => rfl
  | b :: bs => by
    have ih := all_getD bs
    rw [List.length_cons, List.range_succ_eq_map, List.all_cons, List.all_map, List.all_cons]
    rw [← ih]
    rfl
def rEqL : R2 := fun x y H Q => ∃ (p q : Addr) (xs ys : List V) (bs : List Bool), x = .ref p ∧ y = .ref q ∧ lstAt H p = some xs ∧ lstAt H q = some ys ∧ PEqs H xs ys bs ∧ Q (.bl (bs.all id)) H
theorem o_eqL {X : Cx} (hu : X.A.units + 64 < cLine) : OpR X (compareOp .Eq) rEqL := by
  intro pins s σ H x y v u Q I rx ry h
  obtain ⟨p, q, xs, ys, bs, rfl, rfl, hx, hy, hE, k⟩ := h
  obtain rfl : v = Value.ref p := rx
  obtain rfl : u = Value.ref q := ry
  obtain ⟨its, r1, t1, z1⟩ := I.list (lstAt_sq hx)
  obtain ⟨its2, r2, t2, z2⟩ := I.list (lstAt_sq hy)
  have l1 := r1.length
  have l2 := r2.length
  obtain ⟨m1, m2⟩ := hE.len
  have key : RcAt X.A s (.ref p) (.ref q) ((List.range its.toArray.size).all fun j => bs.getD j true) := by
    refine RcAt.lists t1.isList t2.isList (by rw [List.size_toArray, List.size_toArray]; omega) (by omega) fun j h1 h2 => ?_
    rw [List.size_toArray] at h1 h2
    have hj : j < xs.length := by omega
    have hj2 : j < ys.length := by omega
    have e1 := List.getElem?_eq_getElem hj
    have e2 := List.getElem?_eq_getElem hj2
    obtain ⟨u1, g1, ru1⟩ := r1.get e1
    obtain ⟨u2, g2, ru2⟩ := r2.get e2
    have f1 : its.toArray[j]'(by rw [List.size_toArray]; exact h1) = u1 := by
      rw [List.getElem?_eq_getElem h1] at g1
      simpa using g1
    have f2 : its2.toArray[j]'(by rw [List.size_toArray]; exact h2) = u2 := by
      rw [List.getElem?_eq_getElem h2] at g2
      simpa using g2
    rw [f1, f2]
    have hp := hE.at j _ _ e1 e2
    generalize xs[j] = x at ru1 hp
    generalize ys[j] = y at ru2 hp
    generalize bs.getD j true = b at hp
    cases hp with
    | same a =>
      obtain rfl : u1 = Value.ref a := ru1
      obtain rfl : u2 = Value.ref a := ru2
      exact EqAt.same _
    | dat h1 h2 h3 =>
      obtain ⟨as, d1⟩ := Dp.reads I _ x u1 h1.dp ru1
      obtain ⟨bs', d2⟩ := Dp.reads I _ y u2 h2.dp ru2
      refine SeqAt.eqAt_plain _ _ X.A.in1 s u1 u2 _ _ d1 d2 h1.plain h2.plain ?_
      show X.A.units + 1 + _ < _
      omega
  refine key _ _ _ _ ⟨.bl _, H, I, rfl, ?_⟩
  have e : (List.range its.toArray.size).all (fun j => bs.getD j true) = bs.all id := by
    rw [List.size_toArray, show its.length = bs.length by omega]
    exact all_getD bs
  rw [e]
  exact k
/-! ### is None, int(truth), range with a step -/
section
variable {X : Cx} {H : Hp} {Q : VK} {σ : L2.St}
def rIsN : R2 := fun x y H Q => y = .non ∧ Q (.bl (decide (x = .non))) H
def rNotN : R2 := fun x y H Q => y = .non ∧ Q (.bl (!decide (x = .non))) H
theorem o_isN : OpR X (compareOp .Is) Zb.rIsN := op_isN
theorem o_notN : OpR X (compareOp .IsNot) Zb.rNotN := op_notN
theorem st_isN {x : V} (h : Q (.bl (decide (x = .non))) H) : Zb.rIsN x .non H Q := ⟨rfl, h⟩
theorem st_notN {x : V} (h : Q (.bl (!decide (x = .non))) H) : Zb.rNotN x .non H Q := ⟨rfl, h⟩
def rInt1 : List V → Hp → VK → Prop := fun vs H Q => match vs with
  | [.int i] => Q (.int i) H
  | [.bl k] => Q (.int (if k then 1 else 0)) H
  | _ => False
theorem c_int : CallR X (.type "int") rInt1 := by
  intro pins s σ H xs us Q I r h
  unfold rInt1 at h
  split at h
  · exact call_int1 pins s σ H _ us Q I r (.inl ⟨_, rfl, h⟩)
  · exact call_int1 pins s σ H _ us Q I r (.inr ⟨_, rfl, h⟩)
  · exact h.elim
theorem st_intI {i : Int} (h : Q (.int i) H) : rInt1 [.int i] H Q := h
theorem st_intB {k : Bool} (h : Q (.int (if k then 1 else 0)) H) : rInt1 [.bl k] H Q := h
theorem runs_rangeC (lo c : Int) (n : Nat) : Runs (Itc lo c n) n (fun _ => True) (fun i x H H' => H' = H ∧ x = .int (lo + (i : Nat) * c)) :=
  ⟨fun _ _ h _ => h, fun _ _ => Nat.le_refl _, fun _ _ _ _ _ _ y => y⟩
theorem rv_rangeC (lo c : Int) (n : Nat) : RunsV (Itc lo c n) (List.range n) (fun i => .int (lo + (i : Nat) * c)) (fun _ => True) := by
  refine ⟨fun i H h _ => by rw [List.length_range] at h; exact h, fun H _ => by rw [List.length_range]; exact Nat.le_refl _, fun i H x H' h _ y => ?_⟩
  rw [List.length_range] at h
  exact ⟨y.1, i, by rw [List.getElem?_range h], y.2⟩
theorem st_iR3 {ta : TA} {R : It → Hp → Prop} (h : ta σ H (fun vs H1 => ∃ (i j c : Int) (n : Nat), vs = [.int i, .int j, .int c] ∧ RgC i j c n ∧ R (Itc i c n) H1)) : iRng3 ta σ H R := h
theorem st_isR3 {i j c : Int} (n : Nat) {P : Int → Int → Int → Nat → Prop} (h1 : RgC i j c n) (h : P i j c n) : ∃ (i' j' c' : Int) (n : Nat), [V.int i, .int j, .int c] = [.int i', .int j', .int c'] ∧ RgC i' j' c' n ∧ P i' j' c' n := ⟨i, j, c, n, rfl, h1, h⟩
end
theorem rgc_pos {i j c : Int} {n : Nat} (h0 : 0 < c) (h1 : c < 1048576) (hi : -1099511627776 ≤ i) (hi' : i < 1099511627776) (hj : -1099511627776 ≤ j) (hj' : j < 1099511627776) (hn : (n = 0 ∧ j ≤ i) ∨ (0 < n ∧ ((n : Int) - 1) * c < j - i ∧ j - i ≤ (n : Int) * c)) : RgC i j c n := by
  have hr : Builtin.Range.rangeSize i j c = n := by
    unfold Builtin.Range.rangeSize
    rw [if_pos h0]
    rcases hn with ⟨rfl, h⟩ | ⟨hp, ha, hb⟩
    · rw [if_neg (by omega)]; rfl
    · have hm : 0 ≤ ((n : Int) - 1) * c := Int.mul_nonneg (by omega) (by omega)
      rw [if_pos (by omega)]
      have e1 : (n : Int) - 1 ≤ (j - i - 1) / c := (Int.le_ediv_iff_mul_le h0).mpr (by omega)
      have e2 : (j - i - 1) / c < n := (Int.ediv_lt_iff_lt_mul h0).mpr (by omega)
      omega
  refine ⟨by omega, by omega, ?_, hr⟩
  unfold Builtin.Range.small
  rw [hr]
  simp only [Builtin.Range.rangeFitsLong, Bool.and_eq_true, Bool.or_eq_true, decide_eq_true_eq, beq_iff_eq, h0, if_true]
  have hb : (n : Int) ≤ 2199023255552 := by
    rcases hn with ⟨rfl, h⟩ | ⟨hp, ha, hb⟩
    · decide
    · have : ((n : Int) - 1) * 1 ≤ ((n : Int) - 1) * c := Int.mul_le_mul_of_nonneg_left (by omega) (by omega)
      omega
  omega
end Zb

/-! comprehensions whose items are new objects; dicts by keys; extend -/
namespace Zb
open PySem PySem.Spec PyProof.Rows L2
/-- at these addresses these objects -/
inductive ObjsAt (H : Hp) : List Addr → List HO → Prop
  | nil : ObjsAt H [] []
  | cons {a : Addr} {o : HO} {ts : List Addr} {os : List HO} : H a = some o → ObjsAt H ts os → ObjsAt H (a :: ts) (o :: os)
section
variable {H H' : Hp}
theorem ObjsAt.len : ∀ {ts : List Addr} {os : List HO}, ObjsAt H ts os → ts.length = os.length
  | _, _, .nil => rfl
  | _, _, .cons _ r => congrArg (· + 1) r.len
theorem ObjsAt.ex (e : Ex H H') : ∀ {ts : List Addr} {os : List HO}, ObjsAt H ts os → ObjsAt H' ts os
  | _, _, .nil => .nil
  | _, _, .cons h r => .cons (e.get h) (r.ex e)
theorem ObjsAt.fr {M : Addr → Prop} (e : Fr M H H') : ∀ {ts : List Addr} {os : List HO}, (∀ a ∈ ts, ¬ M a) → ObjsAt H ts os → ObjsAt H' ts os
  | _, _, _, .nil => .nil
  | _, _, hm, .cons h r => .cons (e _ _ (hm _ List.mem_cons_self) h) (r.fr e fun a ha => hm a (List.mem_cons_of_mem _ ha))
theorem ObjsAt.up {D : Addr} {u : HO} : ∀ {ts : List Addr} {os : List HO}, D ∉ ts → ObjsAt H ts os → ObjsAt (upd H D u) ts os
  | _, _, _, .nil => .nil
  | _, _, hn, .cons h r => .cons (by rw [upd_ne (fun z => hn (by rw [← z]; exact List.mem_cons_self))]; exact h) (r.up fun z => hn (List.mem_cons_of_mem _ z))
theorem ObjsAt.app : ∀ {ts us : List Addr} {os ps : List HO}, ObjsAt H ts os → ObjsAt H us ps → ObjsAt H (ts ++ us) (os ++ ps)
  | _, _, _, _, .nil, k => k
  | _, _, _, _, .cons h r, k => .cons h (r.app k)
theorem ObjsAt.one {a : Addr} {o : HO} (h : H a = some o) : ObjsAt H [a] [o] := .cons h .nil
theorem ObjsAt.at : ∀ {ts : List Addr} {os : List HO}, ObjsAt H ts os → ∀ (k : Nat) a o, ts[k]? = some a → os[k]? = some o → H a = some o
  | _, _, .nil, k, a, o, h, _ => by simp at h
  | _, _, .cons h r, 0, a, o, h1, h2 => by
    have e1 : _ = a := Option.some.inj h1
    have e2 : _ = o := Option.some.inj h2
    rw [← e1, ← e2]; exact h
  | _, _, .cons h r, k + 1, a, o, h1, h2 => r.at k a o (by simpa using h1) (by simpa using h2)
theorem ObjsAt.of : ∀ {ts : List Addr} {os : List HO}, ts.length = os.length → (∀ (k : Nat) a o, ts[k]? = some a → os[k]? = some o → H a = some o) → ObjsAt H ts os
  | [], [], _, _ => .nil
  | [], _ :: _, h, _ => by simp at h
  | _ :: _, [], h, _ => by simp at h
  | a :: ts, o :: os, h, k => .cons (k 0 a o rfl rfl) (ObjsAt.of (by simpa using h) fun j x y h1 h2 => k (j + 1) x y (by simpa using h1) (by simpa using h2))
/-- one of them changes -/
theorem ObjsAt.set {a : Addr} {u : HO} {ts : List Addr} {os : List HO} {k : Nat} (h : ObjsAt H ts os) (nd : ts.Nodup) (hk : ts[k]? = some a) : ObjsAt (upd H a u) ts (os.set k u) := by
  refine .of (by rw [List.length_set, h.len]) fun j b o h1 h2 => ?_
  by_cases e : j = k
  · subst e
    rw [hk] at h1
    cases h1
    have hl : j < os.length := by
      rw [← h.len]
      exact (List.getElem?_eq_some_iff.mp hk).1
    rw [List.getElem?_set_self hl] at h2
    cases h2
    exact upd_same
  · rw [List.getElem?_set_ne (Ne.symm e)] at h2
    rw [upd_ne (fun z : b = a => e (nd_ix nd h1 (by rw [z]; exact hk)))]
    exact h.at j b o h1 h2
end
section
variable {J : It} {S : Hp → Prop} {g : TG} {σ : L2.St} {H1 : Hp}
theorem lc_objs {α : Type} {ys : List α} {val : α → V} {tt : TT} {te : TE} {vs : List Nat} {Q : VK} (hR : RunsV J ys val S) (hS : ∀ H', Ex H1 H' → S H') (hz : ys.length < 1000000) (p : α → Bool) (o : α → HO)
    (hs : ∀ y H', y ∈ ys → Ex H1 H' → ∀ (B : V → Hp → Prop) (A : Hp → Prop), (p y = true → ∀ a H'', H' a = none → Ex H' H'' → H'' a = some (o y) → B (.ref a) H'') → (p y = false → ∀ H'', Ex H' H'' → A H'') → g (val y) (wipe σ vs) H' fun σ2 H2 => wipe σ2 vs = wipe σ vs ∧ tt σ2 H2 fun b H3 => if b = true then te σ2 H3 B else A H3)
    (hd : ∀ D H' ts, H1 D = none → Ex H1 H' → H' D = some (.lst (ts.map V.ref)) → ObjsAt H' ts ((ys.filter p).map o) → ts.Nodup → D ∉ ts → (∀ a ∈ ts, H1 a = none) → Q (.ref D) H') : LcGoal J g tt te vs σ Q H1 := by
  intro D hD
  obtain ⟨W, hW⟩ : ∃ W : Nat → Hp → Prop, W = fun i H => ∃ ts : List Addr, H D = some (.lst (ts.map V.ref)) ∧ Ex H1 H ∧ ObjsAt H ts (((ys.take i).filter p).map o) ∧ ts.Nodup ∧ D ∉ ts ∧ ∀ a ∈ ts, H1 a = none := ⟨_, rfl⟩
  have hWi : ∀ i H, W i H ↔ ∃ ts : List Addr, H D = some (.lst (ts.map V.ref)) ∧ Ex H1 H ∧ ObjsAt H ts (((ys.take i).filter p).map o) ∧ ts.Nodup ∧ D ∉ ts ∧ ∀ a ∈ ts, H1 a = none := fun i H => by rw [hW]
  refine ⟨fun i m H => m = ys.length - i ∧ i ≤ ys.length ∧ W i H, ⟨ys.length, by simp, Nat.zero_le _, (hWi _ _).mpr ⟨[], upd_same, Fr.new hD, by rw [List.take_zero]; exact .nil, List.nodup_nil, by simp, by simp⟩⟩, ?_⟩
  rintro i m H ⟨rfl, hi, hw⟩
  obtain ⟨ts, h1, h2, h3, h4, h5, h6⟩ := (hWi _ _).mp hw
  by_cases hlt : i < ys.length
  · refine .inr ⟨hR.go i H hlt (hS H h2), W (i + 1), fun H' p' => ⟨ys.length - (i + 1), by omega, rfl, hlt, p'⟩, fun x H' y => ?_⟩
    obtain ⟨rfl, y0, hy, rfl⟩ := hR.yld i H x H' hlt (hS H h2) y
    have ht : ys.take (i + 1) = ys.take i ++ [y0] := by rw [List.take_add_one, hy]; rfl
    refine hs y0 H' (List.mem_of_getElem? hy) h2 (fun v H4 => ∃ acc, H4 D = some (.lst acc) ∧ acc.length < sizeLine ∧ W (i + 1) (upd H4 D (.lst (acc ++ [v])))) (W (i + 1)) ?_ ?_
    · intro hp a H4 ha e hv
      have hDa : a ≠ D := fun z => by rw [z, h1] at ha; cases ha
      have haN : a ∉ ts := fun z => by
        obtain ⟨k, hk⟩ := List.getElem?_of_mem z
        have hk2 : k < (((ys.take i).filter p).map o).length := by
          rw [← h3.len]; exact (List.getElem?_eq_some_iff.mp hk).1
        have := h3.at k a _ hk (List.getElem?_eq_getElem hk2)
        rw [this] at ha
        cases ha
      have hlen : ts.length < 1000000 := by
        rw [h3.len, List.length_map]
        have := List.length_filter_le p (ys.take i)
        rw [List.length_take] at this
        omega
      refine ⟨ts.map V.ref, e.get h1, by rw [List.length_map, sl16]; omega, (hWi _ _).mpr ⟨ts ++ [a], by rw [upd_same, List.map_append]; rfl, (h2.trans e).mut hD, ?_, ?_, ?_, ?_⟩⟩
      · rw [ht, List.filter_append, List.map_append, List.filter_cons_of_pos hp, List.filter_nil]
        refine .up ?_ ((h3.ex e).app (.one hv))
        rw [List.mem_append, List.mem_singleton]
        rintro (z | z)
        · exact h5 z
        · exact hDa z.symm
      · rw [List.nodup_append]
        exact ⟨h4, by simp, fun b hb c hc => by rw [List.mem_singleton.mp hc]; exact fun z => haN (z ▸ hb)⟩
      · rw [List.mem_append, List.mem_singleton]
        rintro (z | z)
        · exact h5 z
        · exact hDa z.symm
      · intro b hb
        rcases List.mem_append.mp hb with h | h
        · exact h6 b h
        · rw [List.mem_singleton.mp h]; exact Ex.free h2 ha
    · intro hp H4 e
      refine (hWi _ _).mpr ⟨ts, e.get h1, h2.trans e, ?_, h4, h5, h6⟩
      rw [ht, List.filter_append, List.filter_cons_of_neg (by rw [hp]; decide), List.filter_nil, List.append_nil]
      exact h3.ex e
  · have e : i = ys.length := by omega
    subst e
    rw [List.take_length] at h3
    exact .inl ⟨hR.stop H (hS H h2), hd D H ts hD h2 h1 h3 h4 h5 h6⟩
/-- no test -/
theorem lc_objs0 {α : Type} {ys : List α} {val : α → V} {te : TE} {vs : List Nat} {Q : VK} (hR : RunsV J ys val S) (hS : ∀ H', Ex H1 H' → S H') (hz : ys.length < 1000000) (o : α → HO)
    (hs : ∀ y H', y ∈ ys → Ex H1 H' → ∀ (B : V → Hp → Prop), (∀ a H'', H' a = none → Ex H' H'' → H'' a = some (o y) → B (.ref a) H'') → g (val y) (wipe σ vs) H' fun σ2 H2 => wipe σ2 vs = wipe σ vs ∧ te σ2 H2 B)
    (hd : ∀ D H' ts, H1 D = none → Ex H1 H' → H' D = some (.lst (ts.map V.ref)) → ObjsAt H' ts (ys.map o) → ts.Nodup → D ∉ ts → (∀ a ∈ ts, H1 a = none) → Q (.ref D) H')
    (hg : ∀ v σ H (P P' : L2.St → Hp → Prop), (∀ σ H, P σ H → P' σ H) → g v σ H P → g v σ H P' := by intro _ _ _ _ _ k h; exact k _ _ h) : LcGoal J g tYes te vs σ Q H1 := by
  refine lc_objs hR hS hz (fun _ => true) o (fun y H' hy e B A h1 h2 => ?_) (fun D H' ts hD e h h3 h4 h5 h6 => hd D H' ts hD e h ?_ h4 h5 h6)
  · exact hg _ _ _ _ _ (fun σ2 H2 h => ⟨h.1, h.2⟩) (hs y H' hy e B (h1 rfl))
  · rwa [List.filter_eq_self.mpr (fun _ _ => rfl)] at h3
end
/-! ### steps -/
section
variable {H : Hp} {Q : VK} {σ : L2.St}
theorem st_ext {l b : Addr} {xs zs : List V} (h1 : H l = some (.lst xs)) (h2 : H b = some (.lst zs)) (hz : xs.length + zs.length ≤ 16777216) (h : Q .non (upd H l (.lst (xs ++ zs)))) : rExtend (.ref l) [.ref b] H Q := ⟨l, b, xs, zs, rfl, rfl, h1, h2, by rw [sl16]; exact hz, h⟩
def DGet2P (a : Addr) (y z : V) (Q : VK) (H : Hp) : Prop := ∃ o, DGet H a y o ∧ Q (o.getD z) H
theorem st_dget2 {td ty tx : TE} (h : td σ H fun x H1 => ∃ a, x = .ref a ∧ IsD H1 a ∧ ty σ H1 fun y H2 => tx σ H2 fun z H3 => DGet2P a y z Q H3) : tDGet2 td ty tx σ H Q := h
theorem st_isD {a : Addr} {kvs : List (Key × V)} {P : Addr → Prop} (h1 : H a = some (.dK kvs)) (h : P a) : ∃ b, V.ref a = .ref b ∧ IsD H b ∧ P b := ⟨a, rfl, .inl ⟨kvs, .inl h1⟩, h⟩
theorem st_dget2P {a : Addr} {k : Key} {z : V} {kvs : List (Key × V)} (h1 : H a = some (.dK kvs)) (h : Q ((valV kvs k).getD z) H) : DGet2P a (kV k) z Q H := ⟨_, .inl ⟨kvs, k, .inl h1, rfl, rfl⟩, h⟩
def DSetP (a : Addr) (y z : V) (Q : VK) (H3 : Hp) : Prop := ∃ (kvs : List (Key × V)) (k : Key), H3 a = some (.dK kvs) ∧ y = kV k ∧ kvs.length < sizeLine ∧ (∀ v, valV kvs k = some v → Q v H3) ∧ (valV kvs k = none → Q z (upd H3 a (.dK (putK kvs k z))))
theorem st_dsetd {td ty tx : TE} (h : td σ H fun x H1 => ∃ a, x = .ref a ∧ IsD H1 a ∧ ty σ H1 fun y H2 => tx σ H2 fun z H3 => DSetP a y z Q H3) : tDSetd td ty tx σ H Q := h
theorem st_dsetP {a : Addr} {z : V} {kvs : List (Key × V)} (k : Key) (h1 : H a = some (.dK kvs)) (hl : kvs.length < 16777216) (h2 : ∀ v, valV kvs k = some v → Q v H) (h3 : valV kvs k = none → Q z (upd H a (.dK (putK kvs k z)))) : DSetP a (kV k) z Q H := ⟨kvs, k, h1, rfl, by rw [sl16]; exact hl, h2, h3⟩
/-- {} -/
def DNew (Q : VK) (H : Hp) : Prop := ∀ p H', H p = none → Ex H H' → H' p = some (.dK []) → Q (.ref p) H'
theorem st_dnew (h : DNew Q H) : tDNewK σ H Q := fun p hp => h p _ hp (Fr.new hp) upd_same
theorem st_dnewP (h : ∀ p H', H p = none → Ex H H' → H' p = some (.dK []) → Q (.ref p) H') : DNew Q H := h
end
theorem at_nat {α : Type} {xs : List α} {i : Nat} {a : α} (h : xs[i]? = some a) : atI xs (i : Int) = some a := by
  unfold atI
  rw [Evl.ixN_nat (List.getElem?_eq_some_iff.mp h).1]
  exact h
theorem at_mapN {α β : Type} {f : α → β} {xs : List α} {i : Nat} {a : α} (h : xs[i]? = some a) : atI (xs.map f) (i : Int) = some (f a) := at_nat (by rw [List.getElem?_map, h]; rfl)
theorem snoc_ind {α : Type} {P : List α → Prop} (h0 : P []) (hs : ∀ l a, P l → P (l ++ [a])) (l : List α) : P l := by
  have h : ∀ r : List α, P r.reverse := by
    intro r
    induction r with
    | nil => exact h0
    | cons a r ih => rw [List.reverse_cons]; exact hs _ _ ih
  have := h l.reverse
  rwa [List.reverse_reverse] at this
theorem nodup_map {α β : Type} {f : α → β} {l : List α} (nd : l.Nodup) (h : ∀ a b, f a = f b → a = b) : (l.map f).Nodup := List.pairwise_map.mpr (List.Pairwise.imp (fun n e => n (h _ _ e)) nd)
theorem valV_none {kvs : List (Key × V)} {k : Key} : valV kvs k = none ↔ ∀ q ∈ kvs, q.1 ≠ k := by
  unfold valV
  rw [Option.map_eq_none_iff, List.find?_eq_none]
  simp
theorem putK_new {kvs : List (Key × V)} {k : Key} {v : V} (h : valV kvs k = none) : putK kvs k v = kvs ++ [(k, v)] := by
  unfold putK
  rw [if_neg]
  rw [List.any_eq_true]
  rintro ⟨q, hq, e⟩
  exact valV_none.mp h q hq (by simpa using e)
theorem valV_at {kvs : List (Key × V)} {k : Key} {v : V} {i : Nat} (nd : (kvs.map (·.1)).Nodup) (h : kvs[i]? = some (k, v)) : valV kvs k = some v := by
  induction kvs generalizing i with
  | nil => simp at h
  | cons a r ih =>
    rw [List.map_cons, List.nodup_cons] at nd
    cases i with
    | zero =>
      have e : a = (k, v) := by simpa using h
      subst e
      unfold valV
      simp
    | succ i =>
      have h' : r[i]? = some (k, v) := by simpa using h
      have hm : k ∈ r.map (·.1) := List.mem_map.mpr ⟨(k, v), List.mem_of_getElem? h', rfl⟩
      have ne : a.1 ≠ k := fun z => nd.1 (z ▸ hm)
      have := ih nd.2 h'
      unfold valV at this ⊢
      rw [List.find?_cons_of_neg (by simpa using ne)]
      exact this
end Zb

/-! sorted, pop, while, is True; lists of pairs as tuples -/
namespace Zb
open PySem PySem.Spec PyProof.Rows L2
theorem Ex.trans {H H1 H2 : Hp} (a : Ex H H1) (b : Ex H1 H2) : Ex H H2 := Fr.trans a b
section
variable {X : Cx} {H : Hp} {Q : VK} {σ : L2.St} {K : PySem.W.Frag}
def rIsB : R2 := fun x y H Q => ∃ a b, x = .bl a ∧ y = .bl b ∧ Q (.bl (decide (a = b))) H
def rNotB : R2 := fun x y H Q => ∃ a b, x = .bl a ∧ y = .bl b ∧ Q (.bl (!decide (a = b))) H
theorem o_isB : OpR X (compareOp .Is) rIsB := op_is_bl
theorem o_notB : OpR X (compareOp .IsNot) rNotB := op_isnot_bl
theorem c_sortI (hK : X.K = K := by rfl) : CallR X (.builtin "sorted") (rSortedI K) := by subst hK; exact cr_sortedI
theorem c_sortP (hK : X.K = K := by rfl) : CallR X (.builtin "sorted") (rSortedPO K) := by subst hK; exact cr_sortedPO
theorem c_sum (hc : X.calm = true) (hK : X.K = K := by rfl) : CallR X (.builtin "sum") (rSum K) := by subst hK; exact cr_sum hc
theorem c_any (hc : X.calm = true) (hK : X.K = K := by rfl) : CallR X (.builtin "any") (rAny K) := by subst hK; exact cr_any hc
theorem st_isB2 {a b : Bool} (h : Q (.bl (decide (a = b))) H) : rIsB (.bl a) (.bl b) H Q := ⟨a, b, rfl, rfl, h⟩
theorem st_notB2 {a b : Bool} (h : Q (.bl (!decide (a = b))) H) : rNotB (.bl a) (.bl b) H Q := ⟨a, b, rfl, rfl, h⟩
theorem st_popAt {l : Addr} {xs : List V} {i : Int} {y : V} (h1 : H l = some (.lst xs)) (h0 : 0 ≤ i) (hi : i < 1000000000) (hy : xs[i.toNat]? = some y) (h : Q y (upd H l (.lst (xs.eraseIdx i.toNat)))) : rPopAt (.ref l) [.int i] H Q := by
  have hl := (List.getElem?_eq_some_iff.mp hy).1
  refine ⟨l, xs, i, i.toNat, y, rfl, rfl, h1, by omega, by omega, ?_, hy, h⟩
  unfold seqIndex?
  have n0 : ¬ i < 0 := by omega
  simp only [n0, if_false]
  rw [if_pos (by simp; omega)]
theorem st_pop {l : Addr} {xs : List V} {y : V} (h1 : H l = some (.lst xs)) (hy : xs[xs.length - 1]? = some y) (h : Q y (upd H l (.lst xs.dropLast))) : rPop (.ref l) [] H Q := ⟨l, xs, y, rfl, rfl, h1, hy, h⟩
theorem st_sortI {p : Addr} {ns : List Int} (h1 : SqL K H p (ns.map V.int)) (h : ∀ (ns' : List Int) (q : Addr) (H' : Hp), ns'.Perm ns → ns'.Pairwise (· ≤ ·) → H q = none → Ex H H' → H' q = some (.lst (ns'.map V.int)) → Q (.ref q) H') : rSortedI K [.ref p] H Q :=
  ⟨p, ns, rfl, h1, fun ns' q hp hs hq => h ns' q _ hp hs hq (Fr.new hq) upd_same⟩
theorem st_chain {r r' : R2} {ta tb tc : TE} (h : ta σ H fun x H1 => tb σ H1 fun y H2 => r x y H2 fun z H3 => ∃ k, z = .bl k ∧ (if k = true then tc σ H3 fun w' H4 => r' y w' H4 Q else Q (.bl false) H3)) : tChain r r' ta tb tc σ H Q := h
def isIntV : V → Bool
  | .int _ => true
  | .bl _ => true
  | _ => false
def isBoolV : V → Bool
  | .bl _ => true
  | _ => false
theorem kb_int : kitB "NoneType" "int" = some false ∧ kitB "bool" "int" = some true ∧ kitB "int" "int" = some true ∧ kitB "str" "int" = some false ∧ kitB "list" "int" = some false ∧ kitB "tuple" "int" = some false ∧ kitB "dict" "int" = some false := by decide +kernel
theorem st_isIntT {x : V} (h1 : Ty H x) (h : Q (.bl (isIntV x)) H) : rIs [x, .ty "int"] H Q := by
  obtain ⟨t, h1⟩ := h1
  obtain ⟨k1, k2, k3, k4, k5, k6, k7⟩ := kb_int
  refine st_is h1 (b := isIntV x) ?_ h
  cases x with
  | ref p =>
    have h1 : tyO (H p) = some t := h1
    unfold tyO at h1
    split at h1 <;> first | (cases h1; assumption) | cases h1
  | _ => first | (cases h1; assumption) | cases h1
theorem st_isBoolT {x : V} (h1 : Ty H x) (h : Q (.bl (isBoolV x)) H) : rIs [x, .ty "bool"] H Q := by
  obtain ⟨t, h1⟩ := h1
  obtain ⟨k1, k2, k3, k4, k5, k6, k7⟩ := kb_bool
  refine st_is h1 (b := isBoolV x) ?_ h
  cases x with
  | ref p =>
    have h1 : tyO (H p) = some t := h1
    unfold tyO at h1
    split at h1 <;> first | (cases h1; assumption) | cases h1
  | _ => first | (cases h1; assumption) | cases h1
/-- a value as a test -/
def tTru (K : PySem.W.Frag) (ta : TE) : TT := fun σ H B => ta σ H fun x H' => ∃ k, TruV K x H' k ∧ B k H'
theorem pt_tru {a : Expr} {ta : TE} (ha : PE X a ta) (he : ∀ whole, isTrue a X.env whole = (do let v ← whole; standAt a.pos; holding [v] (truthy v))) (hK : X.K = K := by rfl) : PT X a (tTru K ta) := by subst hK; exact pt_truth ha he
theorem st_tru {ta : TE} {B : Bool → Hp → Prop} (h : ta σ H fun x H' => ∃ k, TruV K x H' k ∧ B k H') : tTru K ta σ H B := h
theorem st_truB {b : Bool} {P : Bool → Prop} (h : P b) : ∃ k, TruV K (.bl b) H k ∧ P k := ⟨b, rfl, h⟩
theorem st_truI {i : Int} {P : Bool → Prop} (h : P (i != 0)) : ∃ k, TruV K (.int i) H k ∧ P k := ⟨_, rfl, h⟩
def WhPost (W : Nat → L2.St → Hp → Prop) (m : Nat) (tb : TS) (D : Ends) (σ : L2.St) : Bool → Hp → Prop := fun b H1 => if b = true then ∃ N : L2.St → Hp → Prop, (∀ σ' H', N σ' H' → ∃ m', m' < m ∧ W m' σ' H') ∧ tb { D with nx := N, ct := N, bk := D.nx } σ H1 else D.nx σ H1
def WhGoal (c : TT) (tb : TS) (D : Ends) (σ : L2.St) (H : Hp) : Prop := ∃ W : Nat → L2.St → Hp → Prop, (∃ m, W m σ H) ∧ ∀ m σ H, W m σ H → c σ H (WhPost W m tb D σ)
theorem st_while {c : TT} {tb : TS} {D : Ends} (h : WhGoal c tb D σ H) : tWhile c tb D σ H := h
/-- W: the word of the loop, with a number that falls -/
theorem while_inv {c : TT} {tb : TS} {D : Ends} (W : Nat → L2.St → Hp → Prop) (h0 : ∃ m, W m σ H) (hs : ∀ m σ H, W m σ H → c σ H (WhPost W m tb D σ)) : WhGoal c tb D σ H := ⟨W, h0, hs⟩
theorem wh_T {W : Nat → L2.St → Hp → Prop} {m : Nat} {tb : TS} {D : Ends} {b : Bool} (hb : b = true) (h : tb { D with nx := fun σ' H' => ∃ m', m' < m ∧ W m' σ' H', ct := fun σ' H' => ∃ m', m' < m ∧ W m' σ' H', bk := D.nx } σ H) : WhPost W m tb D σ b H := by
  unfold WhPost
  rw [if_pos hb]
  exact ⟨_, fun _ _ z => z, h⟩
theorem wh_F {W : Nat → L2.St → Hp → Prop} {m : Nat} {tb : TS} {D : Ends} {b : Bool} (hb : b = false) (h : D.nx σ H) : WhPost W m tb D σ b H := by
  unfold WhPost
  rw [hb, if_neg Bool.false_ne_true]
  exact h
end
/-! ### pairs as tuples -/
def tupO (q : Nat × Nat) : HO := .tup [.int (q.1 : Nat), .int (q.2 : Nat)]
abbrev ZP := Addr × (Nat × Nat)
abbrev zV (z : ZP) : V := .ref z.1
/-- each of these stands as its tuple -/
def TP (H : Hp) (zs : List ZP) : Prop := ∀ z ∈ zs, H z.1 = some (tupO z.2)
section
variable {H H' : Hp} {zs ys : List ZP}
theorem TP.ex (h : TP H zs) (e : Ex H H') : TP H' zs := fun z hz => e.get (h z hz)
theorem TP.sub (h : TP H zs) (e : ∀ z ∈ ys, z ∈ zs) : TP H ys := fun z hz => h z (e z hz)
theorem tup_ne_purse {a p : Addr} {q : Nat × Nat} (h : H a = some (tupO q)) (hp : Purse H p) : a ≠ p := fun e => by
  obtain ⟨x, y, z, hp⟩ := hp
  rw [e, hp] at h
  cases h
theorem zs_ne_purse {a p : Addr} (h : H a = some (.lst (zs.map zV))) (hp : Purse H p) : a ≠ p := fun e => by
  obtain ⟨x, y, z, hp⟩ := hp
  rw [e, hp] at h
  cases zs with
  | nil => cases h
  | cons c r =>
    have h : HO.lst [V.int x, V.int y, V.int z] = HO.lst (V.ref c.1 :: r.map zV) := Option.some.inj h
    cases h
theorem TP.frp {p : Addr} (h : TP H zs) (hp : Purse H p) (e : FrP p H H') : TP H' zs := fun z hz => e.get (tup_ne_purse (h z hz) hp) (h z hz)
theorem TP.up {D : Addr} {xs : List V} {u : HO} (h : TP H zs) (hD : H D = some (.lst xs)) : TP (upd H D u) zs := fun z hz => by
  rw [upd_ne fun e => ?_]
  · exact h z hz
  · have := h z hz
    rw [e, hD] at this
    cases this
theorem TP.app (h : TP H zs) (k : TP H ys) : TP H (zs ++ ys) := fun z hz => by
  rcases List.mem_append.mp hz with q | q
  · exact h z q
  · exact k z q
theorem TP.cons {z : ZP} (h : H z.1 = some (tupO z.2)) (k : TP H ys) : TP H (z :: ys) := fun y hy => by
  rcases List.mem_cons.mp hy with q | q
  · rw [q]; exact h
  · exact k y q
theorem TP.perm (h : TP H zs) (e : ys.Perm zs) : TP H ys := h.sub fun z hz => e.mem_iff.mp hz
def encQ (q : Nat × Nat) : PyData := .tuple [.int (q.1 : Nat), .int (q.2 : Nat)]
theorem TP.rp1 {z : ZP} (h : H z.1 = some (tupO z.2)) : Rp H (zV z) (encQ z.2) := .tup (tup_of h) (.cons (.int _) (.cons (.int _) .nil))
theorem TP.rp (h : TP H zs) : RpA H (zs.map zV) (zs.map fun z => encQ z.2) := rpA_map fun z hz => TP.rp1 (h z hz)
theorem TP.rpL {a : Addr} (h : TP H zs) (ha : H a = some (.lst (zs.map zV))) : Rp H (.ref a) (.list (zs.map fun z => encQ z.2)) := .lst (lst_of ha) h.rp
theorem encQ_depth (q : Nat × Nat) : (encQ q).depth ≤ 2 := by simp [encQ, PyData.depth, PyData.depthAll]
theorem zs_depth (zs : List ZP) : (PyData.list (zs.map fun z => encQ z.2)).depth ≤ 64 := by
  have : PyData.depthAll (zs.map fun z => encQ z.2) ≤ 2 := depth_map fun z _ => encQ_depth z.2
  simp only [PyData.depth]
  omega
theorem eqv_encQ (a b : Nat × Nat) : PyData.eqv (encQ a) (encQ b) = decide (a = b) := by
  obtain ⟨a1, a2⟩ := a
  obtain ⟨b1, b2⟩ := b
  simp only [encQ, PyData.eqv, PyData.eqvAll, Bool.and_true]
  rw [Bool.eq_iff_iff]
  simp [Prod.ext_iff]
  omega
theorem eqv_zs (zs ys : List ZP) : PyData.eqv (.list (zs.map fun z => encQ z.2)) (.list (ys.map fun z => encQ z.2)) = decide (zs.map (·.2) = ys.map (·.2)) := by
  have h := eqv_list (enc := encQ) eqv_encQ (zs.map (·.2)) (ys.map (·.2))
  rw [List.map_map, List.map_map] at h
  exact h
end
/-- pairs in the order of their firsts, then of their seconds -/
def lexLe (a b : Nat × Nat) : Prop := a.1 < b.1 ∨ (a.1 = b.1 ∧ a.2 ≤ b.2)
theorem sorted_uniq : ∀ {l m : List (Nat × Nat)}, l.Pairwise lexLe → m.Pairwise lexLe → l.Perm m → l = m
  | [], m, _, _, h => (List.Perm.eq_nil h.symm).symm
  | x :: l, [], _, _, h => absurd h.length_eq (by simp)
  | x :: l, y :: m, hl, hm, h => by
    obtain ⟨l1, l2⟩ := List.pairwise_cons.mp hl
    obtain ⟨m1, m2⟩ := List.pairwise_cons.mp hm
    have h1 : lexLe y x := by
      rcases List.mem_cons.mp (h.mem_iff.mp (List.mem_cons_self (a := x) (l := l))) with e | hx
      · rw [e]; exact .inr ⟨rfl, Nat.le_refl _⟩
      · exact m1 x hx
    have h2 : lexLe x y := by
      rcases List.mem_cons.mp (h.mem_iff.mpr (List.mem_cons_self (a := y) (l := m))) with e | hy
      · rw [e]; exact .inr ⟨rfl, Nat.le_refl _⟩
      · exact l1 y hy
    have e : x = y := by
      obtain ⟨a, b⟩ := x
      obtain ⟨c, d⟩ := y
      unfold lexLe at h1 h2
      dsimp only at h1 h2
      have : a = c := by omega
      have : b = d := by omega
      simp [*]
    subst e
    rw [sorted_uniq l2 m2 h.cons_inv]
section
variable {H : Hp} {K : PySem.W.Frag} {Q : VK}
/-- the two ints of the tuple that v is -/
def pairAt (H : Hp) (v : V) : Int × Int := match v with
  | .ref t => match H t with
    | some (.tup [.int i, .int j]) => (i, j)
    | _ => (0, 0)
  | _ => (0, 0)
theorem pairAt_of {t : Addr} {i j : Int} (h : H t = some (.tup [.int i, .int j])) : pairAt H (.ref t) = (i, j) := by
  unfold pairAt
  simp only [h]
/-- refs to tuples of two ints, each by what it is -/
abbrev GP (α : Type) := Addr × α
abbrev gV {α : Type} (z : GP α) : V := .ref z.1
def TG2 {α : Type} (enc : α → Int × Int) (H : Hp) (zs : List (GP α)) : Prop := ∀ z ∈ zs, H z.1 = some (.tup [.int (enc z.2).1, .int (enc z.2).2])
def lexI (a b : Int × Int) : Prop := a.1 < b.1 ∨ (a.1 = b.1 ∧ a.2 ≤ b.2)
theorem perm_mapV {α β : Type} [DecidableEq α] (f : α → β) : ∀ (ys : List β) (zs : List α), ys.Perm (zs.map f) → ∃ zs' : List α, zs'.Perm zs ∧ ys = zs'.map f := by
  intro ys
  induction ys with
  | nil =>
    intro zs hp
    have := hp.length_eq
    rw [List.length_map] at this
    have : zs = [] := List.eq_nil_of_length_eq_zero this.symm
    subst this
    exact ⟨[], .nil, rfl⟩
  | cons y ys ih =>
    intro zs hp
    obtain ⟨z, hz, e⟩ := List.mem_map.mp (hp.mem_iff.mp List.mem_cons_self)
    subst e
    have hz2 : zs.Perm (z :: zs.erase z) := List.perm_cons_erase hz
    have hp2 : ys.Perm ((zs.erase z).map f) := by
      have : (f z :: ys).Perm (f z :: (zs.erase z).map f) := hp.trans (hz2.map f)
      exact this.cons_inv
    obtain ⟨zs', h1, h2⟩ := ih _ hp2
    exact ⟨z :: zs', (List.Perm.cons z h1).trans hz2.symm, by rw [h2]; rfl⟩
theorem st_sortG {α : Type} [DecidableEq α] (enc : α → Int × Int) {p : Addr} {zs : List (GP α)} (h1 : SqL K H p (zs.map gV)) (ht : TG2 enc H zs) (h : ∀ (ys : List (GP α)) q H', ys.Perm zs → (ys.map fun z => enc z.2).Pairwise lexI → H q = none → Ex H H' → H' q = some (.lst (ys.map gV)) → Q (.ref q) H') : rSortedPO K [.ref p] H Q := by
  have hk : ∀ z ∈ zs, pairAt H (gV z) = enc z.2 := fun z hz => pairAt_of (ht z hz)
  refine ⟨p, zs.map gV, pairAt H, rfl, h1, fun x hx => ?_, fun ys q hs hst hq => ?_⟩
  · obtain ⟨z, hz, rfl⟩ := List.mem_map.mp hx
    refine ⟨z.1, rfl, ?_⟩
    rw [hk z hz]
    exact ht z hz
  · obtain ⟨zs', hp, rfl⟩ := perm_mapV gV ys zs hst.perm
    refine h zs' q _ hp ?_ hq (Fr.new hq) upd_same
    have hs2 := List.pairwise_map.mp hs
    rw [List.pairwise_map]
    refine List.Pairwise.imp_of_mem (fun {a b} ha hb hab => ?_) hs2
    have a2 := hk a (hp.mem_iff.mp ha)
    have b2 := hk b (hp.mem_iff.mp hb)
    have hab : SrtO.lexB (pairAt H (gV b)) (pairAt H (gV a)) = false := hab
    rw [a2, b2] at hab
    have := SrtO.lexB_no.mp hab
    unfold lexI
    omega
/-- sorted of a list of pairs of naturals -/
theorem st_sortZ {p : Addr} {zs : List ZP} (h1 : SqL K H p (zs.map zV)) (ht : TP H zs) (h : ∀ (ys : List ZP) q H', ys.Perm zs → (ys.map (·.2)).Pairwise lexLe → H q = none → Ex H H' → H' q = some (.lst (ys.map zV)) → Q (.ref q) H') : rSortedPO K [.ref p] H Q := by
  refine st_sortG (fun q : Nat × Nat => ((q.1 : Int), (q.2 : Int))) (zs := zs) h1 ht fun ys q H' hp hs => h ys q H' hp ?_
  rw [List.pairwise_map] at hs ⊢
  refine hs.imp fun {a b} hab => ?_
  unfold lexI at hab
  unfold lexLe
  dsimp only at hab
  omega
end
end Zb

/-! repr of data: where it is known that no list is being shown -/
namespace Zb
open PySem PySem.Spec PyProof.Rows L2
/-- a def's promise, where no list is being shown -/
structure FnG (P : Program) (w : World) (K : PySem.W.Frag) (mg : Str → Option Value) (base : Heap) (CX : CXT) (k : Nat) (f : Addr) (fd : FuncData) (ps : List Str) (sp : Sp) : Prop where
  len : ∀ vs H Q E, sp vs H Q E → vs.length = ps.length
  go : ∀ (A : Around) (outer : List Env) (s : Shared) (H : Hp) (args : Args) (us : List Value) (vs : List V) (Q : VK) (E : XK), A.guards = some [] → Room k A → Env0 P w K mg base A outer s H → BindsTo s fd args (ps.zip us) → Vals vs us → sp vs H Q E →
    codeAny (model P w) A (.call (.ref f) args) (CR CX outer P w H s Q E) s
section
variable {P : Program} {w : World} {K : PySem.W.Frag} {mg : Str → Option Value} {base : Heap} {k : Nat} {f : Addr} {fd : FuncData} {ps : List Str} {sp : Sp}
theorem FnG.of {CX : CXT} (F : FnOk P w K mg base CX k f fd ps sp) : FnG P w K mg base CX k f fd ps sp := ⟨F.len, fun A outer s H args us vs Q E _ => F.run A outer s H args us vs Q E⟩
/-- .. by its body -/
theorem okG {x qual : Str} {st : Stmt} {N : List Str} (F : Fun K x qual st f fd) (S : FnScope N ps (defScope st)) (len : ∀ vs H Q E, sp vs H Q E → vs.length = ps.length)
    (hbody : ∀ (cdv : Value) (A : Around) (outer : List Env) (s : Shared) (H : Hp) (vs : List V) (Q : VK) (E : XK), (A.deeper (envOfC qual (defScope st) s.heap.objs.size f cdv)).guards = some [] → Room k (A.deeper (envOfC qual (defScope st) s.heap.objs.size f cdv)) → sp vs H Q E →
      ∃ t, PSs (cxOf CX0 P w K mg base N qual (defScope st) f cdv A outer s H E).nox (defBody st) t ∧ t { nx := fun _ H' => Q .non H', rt := Q } (start N vs) H) : FnG P w K mg base CX0 (k + 1) f fd ps sp := by
  obtain ⟨oc, od, kV, doc, pm, an, cdv, ct, osl, rfl, lk, hcd⟩ := F.ex
  refine ⟨len, fun A outer s H args us vs Q E hg hr e0 hb rv hsp => ?_⟩
  have inK : K.In s.heap := e0.mod.kin.keeps fun b o e => (e0.bs b o e).1
  have noLim : s.heap.NoLimit := e0.mod.nolimit.keeps fun b o e => (e0.bs b o e).1
  refine codeAny_call_function hr.depth (inK _ _ lk) rfl S.co S.gen rfl (PySem.W.codeRec_of inK hcd) (hb _ _ _ _ (wpAny_newFunctionEnv_cells S.kind (fun y hy => ?_) fun env he s1 x => ?_))
  · obtain ⟨n, v⟩ := y
    exact (S.par n (List.of_mem_zip hy).1).imp id fun q => ⟨q, PySem.W.cellsFrom_some _ _ _ (.inl q)⟩
  · subst he
    obtain ⟨t, ht, hq⟩ := hbody cdv A outer s H vs Q E hg (hr.deeper _) hsp
    refine ⟨noLim.keeps x.toInCall.keep, codeAny_func (wpAny_mono (ht.nox.run [] s1 (start N vs) H _ (inv_start S hr.hd e0 (len _ _ _ _ hsp) rv x) hq) (fun fl s' z => ?_) fun _ _ z => z)⟩
    cases fl with
    | next => obtain ⟨σ', H', J, q⟩ := z; exact ⟨.non, H', J.os, J.bare, J.base, J.hok, rfl, q⟩
    | ret u => obtain ⟨v, σ', H', J, r, q⟩ := z; exact ⟨v, H', J.os, J.bare, J.base, J.hok, r, q⟩
    | brk => obtain ⟨_, _, _, q⟩ := z; exact q.elim
    | cont => obtain ⟨_, _, _, q⟩ := z; exact q.elim
end
section
variable {X : Cx} {k : Nat} {f : Addr} {fd : FuncData} {ps : List Str} {sp : Sp} {x : Str} {p pos : Pos} {e : Expr} {es : List Expr} {t : TA}
/-- a call, where no list is being shown -/
theorem pe_callG (F : FnG X.prog X.w X.K X.mg X.base CX0 k f fd ps sp) (hg : X.A.guards = some []) (hr : Room k X.A) (gl : Gl X x) (hm : X.mg x = some (.ref f)) (hk : PySem.W.keepIn X.K (.ref f) = true) (hb : Binds X.K fd ps [])
    (ha : PA X (e :: es) t) (hdb : (x == ("__debug__" : Str)) = false := by decide) (he : starEach (e :: es) X.env = (false, eval e X.env) :: starEach es X.env := by rfl) (hpl : (backTo pos (starEach es X.env)).any (·.1) = false := by rfl) :
    PE X (.Call (.Name x p) (e :: es) [] pos) (tCall sp [] E0 t) := by
  refine ⟨fun pins s σ H Q I h => wpAny_Call_Name_kw (ld_glob I gl hm ?_ hdb)⟩
  refine PySem.W.callWith_K (h₀ := X.base) I.ok.mod.kin hk (thn (ha.run pos pins s σ H _ I h) fun us s1 ⟨vs, H1, I1, rv, q⟩ => ⟨I1.kIn, ?_⟩) he hpl
  have q' : sp vs H1 Q E0 := by simpa using q
  have hl : us.length = ps.length := by rw [← rv.length]; exact F.len _ _ _ _ q'
  have b := hb s1 us I1.kIn (by rw [List.append_nil]; exact hl)
  rw [List.append_nil] at b
  refine wpAny_call (codeAny_mono (F.go X.A X.stack s1 H1 ⟨us, []⟩ us vs Q E0 hg hr I1.env0 b rv q') fun r s' z => ?_)
  match r, z with
  | .ok (.ret u), z => exact I1.after z
  | .ok .next, z => exact z.elim
  | .ok .brk, z => exact z.elim
  | .ok .cont, z => exact z.elim
  | .error _, z => exact z.elim
end
/-! ### data, dicts by ints and texts among it -/
def keyD : Key → PyData
  | .inl i => .int i
  | .inr x => .str x
mutual
inductive Rq (H : Hp) : V → PyData → Prop
  | non : Rq H .non .none
  | bl (b : Bool) : Rq H (.bl b) (.bool b)
  | int (i : Int) : Rq H (.int i) (.int i)
  | str (x : Str) : Rq H (.str x) (.str x)
  | lst {a : Addr} {xs : List V} {ds : List PyData} : lstAt H a = some xs → RqA H xs ds → Rq H (.ref a) (.list ds)
  | tup {a : Addr} {xs : List V} {ds : List PyData} : tupAt H a = some xs → RqA H xs ds → Rq H (.ref a) (.tuple ds)
  | dk {a : Addr} {kvs : List (Key × V)} {ds : List PyData} : H a = some (.dK kvs) → RqA H (kvs.map (·.2)) ds → Rq H (.ref a) (.dict ((kvs.map fun q => keyD q.1).zip ds))
inductive RqA (H : Hp) : List V → List PyData → Prop
  | nil : RqA H [] []
  | cons {v : V} {vs : List V} {d : PyData} {ds : List PyData} : Rq H v d → RqA H vs ds → RqA H (v :: vs) (d :: ds)
end
theorem RqA.len {H : Hp} : ∀ {vs : List V} {ds : List PyData}, RqA H vs ds → vs.length = ds.length
  | _, _, .nil => rfl
  | _, _, .cons _ k => congrArg (· + 1) k.len
theorem Rq.dk0 {H : Hp} {a : Addr} (h : H a = some (.dK [])) : Rq H (.ref a) (.dict []) := .dk h .nil
mutual
theorem Rp.rq {H : Hp} : ∀ {v : V} {d : PyData}, Rp H v d → Rq H v d
  | _, _, .non => .non
  | _, _, .bl b => .bl b
  | _, _, .int i => .int i
  | _, _, .str x => .str x
  | _, _, .lst h k => .lst h (RpA.rq k)
  | _, _, .tup h k => .tup h (RpA.rq k)
theorem RpA.rq {H : Hp} : ∀ {vs : List V} {ds : List PyData}, RpA H vs ds → RqA H vs ds
  | _, _, .nil => .nil
  | _, _, .cons h k => .cons (Rp.rq h) (RpA.rq k)
theorem noDict {H : Hp} : ∀ {v : V} {d : PyData}, Rp H v d → d.hasDict = false
  | _, _, .non => rfl
  | _, _, .bl b => rfl
  | _, _, .int i => rfl
  | _, _, .str x => rfl
  | _, _, .lst h k => by simp only [PyData.hasDict]; exact noDictA k
  | _, _, .tup h k => by simp only [PyData.hasDict]; exact noDictA k
theorem noDictA {H : Hp} : ∀ {vs : List V} {ds : List PyData}, RpA H vs ds → PyData.hasDictAll ds = false
  | _, _, .nil => rfl
  | _, _, .cons h k => by simp only [PyData.hasDictAll, noDict h, noDictA k, Bool.or_self]
end
section
variable {X : Cx} {pins : List (Addr × Obj)} {σ : L2.St} {H : Hp} {s : Shared}
theorem pairs_keys {h : Heap} {P : Program} {w : World} : ∀ {es : List DictEntry} {kvs : List (Key × V)} {vs : List (Key × Value)}, Pairs (mixKind P w) es vs → KV kvs vs → ∃ as, ReadsAll h (es.map (·.key)) (kvs.map fun q => keyD q.1) as
  | _, _, _, .nil, .nil => ⟨_, .nil⟩
  | _, _, _, .cons (e := e) (kv := kv) h1 h2 h3, .cons (a := p) q r => by
    obtain ⟨as, k⟩ := pairs_keys (h := h) h3 r
    have hk : (mixKind P w).is kv.1 e.key = true := h1
    rcases keyIs_shape hk with ⟨i, t, e1, e2⟩ | ⟨x, t, e1, e2⟩
    · refine ⟨_, .cons (as := []) ?_ k⟩
      show Reads h e.key (keyD p.1) []
      rw [q.1, e1, e2]
      exact .int i t
    · refine ⟨_, .cons (as := []) ?_ k⟩
      show Reads h e.key (keyD p.1) []
      rw [q.1, e1, e2]
      exact .str x t
theorem pairs_vals {P : Program} {w : World} : ∀ {es : List DictEntry} {kvs : List (Key × V)} {vs : List (Key × Value)}, Pairs (mixKind P w) es vs → KV kvs vs → Vals (kvs.map (·.2)) (es.map (·.val))
  | _, _, _, .nil, .nil => .nil
  | _, _, _, .cons (e := e) (kv := kv) h1 h2 h3, .cons (a := p) q r => .cons (by show RelV p.2 e.val; rw [h2]; exact q.2) (pairs_vals h3 r)
theorem zip_fst {α β : Type} : ∀ {xs : List α} {ys : List β}, xs.length = ys.length → (xs.zip ys).map (·.1) = xs := fun h => List.map_fst_zip (Nat.le_of_eq h)
theorem zip_snd {α β : Type} : ∀ {xs : List α} {ys : List β}, xs.length = ys.length → (xs.zip ys).map (·.2) = ys := fun h => List.map_snd_zip (Nat.le_of_eq h.symm)
/-- a tracked dict, as an object -/
theorem dk_obj (I : Inv X pins σ H s) {a : Addr} {kvs : List (Key × V)} (h : H a = some (.dK kvs)) : (a == sysModules) = false ∧ ∃ (o : Obj) (es : Array DictEntry) (n : Nat), s.heap.get? a = some o ∧ o.cls = .type "dict" ∧ o.data = .dict es n ∧ (∃ as, ReadsAll s.heap (es.toList.map (·.key)) (kvs.map fun q => keyD q.1) as) ∧ Vals (kvs.map (·.2)) (es.toList.map (·.val)) := by
  obtain ⟨_, hs, vs, rv, o, es, ep, e1, e2, e3, _, e5, _⟩ := dk_of I.hok h
  exact ⟨hs, o, es, ep, e1, e2.1, e3, pairs_keys e5 rv, pairs_vals e5 rv⟩
mutual
theorem Rq.reads (I : Inv X pins σ H s) : ∀ {v : V} {d : PyData} {u : Value}, Rq H v d → RelV v u → ∃ as, Reads s.heap u d as
  | _, _, u, .non, r => by cases r; exact ⟨_, .none⟩
  | _, _, u, .bl b, r => by cases r; exact ⟨_, .bool b⟩
  | _, _, u, .int i, r => by obtain ⟨t, rfl⟩ := r; exact ⟨_, .int i t⟩
  | _, _, u, .str x, r => by obtain ⟨t, rfl⟩ := r; exact ⟨_, .str x t⟩
  | _, _, u, @Rq.lst _ a xs ds h k, r => by
    obtain rfl : u = Value.ref a := r
    obtain ⟨its, rv, p, _⟩ := I.list (lstAt_sq h)
    obtain ⟨as, q1⟩ := RqA.reads I k rv
    obtain ⟨o, n, e1, e2, e3, e4⟩ := p
    exact ⟨_, .list e1 e2 e4 q1⟩
  | _, _, u, @Rq.tup _ a xs ds h k, r => by
    obtain rfl : u = Value.ref a := r
    obtain ⟨its, rv, p, _⟩ := I.tuple (tupAt_sq h)
    obtain ⟨as, q1⟩ := RqA.reads I k rv
    obtain ⟨o, e1, e2, n, e3⟩ := p
    exact ⟨_, .tuple e1 e2 e3 q1⟩
  | _, _, u, @Rq.dk _ a kvs ds h k, r => by
    obtain rfl : u = Value.ref a := r
    obtain ⟨_, o, es, n, e1, e2, e3, ⟨as, kr⟩, rv⟩ := dk_obj I h
    obtain ⟨bs, vr⟩ := RqA.reads I k rv
    have hl : (kvs.map fun q => keyD q.1).length = ds.length := by rw [List.length_map, ← k.len, List.length_map]
    exact ⟨_, .dict e1 e2 e3 (by rw [zip_fst hl]; exact kr) (by rw [zip_snd hl]; exact vr)⟩
theorem RqA.reads (I : Inv X pins σ H s) : ∀ {vs : List V} {ds : List PyData} {us : List Value}, RqA H vs ds → Vals vs us → ∃ as, ReadsAll s.heap us ds as
  | _, _, us, .nil, r => by cases r; exact ⟨_, .nil⟩
  | _, _, us, .cons h k, r => by
    cases r with
    | cons r1 r2 =>
      obtain ⟨as, a1⟩ := Rq.reads I h r1
      obtain ⟨bs, b1⟩ := RqA.reads I k r2
      exact ⟨_, .cons a1 b1⟩
end
theorem keyD_noDict (kvs : List (Key × V)) : PyData.hasDictAll (kvs.map fun q => keyD q.1) = false := by
  induction kvs with
  | nil => rfl
  | cons q r ih =>
    obtain ⟨k, v⟩ := q
    rw [List.map_cons]
    simp only [PyData.hasDictAll, ih, Bool.or_false]
    cases k <;> rfl
mutual
/-- how a thing is shown within another -/
theorem Rq.showK (I : Inv X pins σ H s) : ∀ {v : V} {d : PyData} {u : Value}, Rq H v d → RelV v u → d.showable = true → d.shown.length ≤ sizeLine → ∃ bs, ReadAtMost s.heap d.depth bs ∧ ReprK X.prog X.w bs s.heap d.depth u d.shown
  | _, _, u, .non, r, hs, hz => by
    obtain ⟨as, rd⟩ := Rq.reads I .non r
    exact ReprK.of_reads rd hs (fun z => by cases z) hz
  | _, _, u, .bl b, r, hs, hz => by
    obtain ⟨as, rd⟩ := Rq.reads I (.bl b) r
    exact ReprK.of_reads rd hs (fun z => by cases z) hz
  | _, _, u, .int i, r, hs, hz => by
    obtain ⟨as, rd⟩ := Rq.reads I (.int i) r
    exact ReprK.of_reads rd hs (fun z => by cases z) hz
  | _, _, u, .str x, r, hs, hz => by
    obtain ⟨as, rd⟩ := Rq.reads I (.str x) r
    exact ReprK.of_reads rd hs (fun z => by cases z) hz
  | _, _, u, @Rq.lst _ a xs ds h k, r, hs, hz => by
    obtain ⟨as, rd⟩ := Rq.reads I (Rq.lst h k) r
    obtain rfl : u = Value.ref a := r
    obtain ⟨its, rv, p, _⟩ := I.list (lstAt_sq h)
    obtain ⟨o, n, e1, e2, e3, e4⟩ := p
    have hz' : (listText (PyData.shownAll ds)).length ≤ sizeLine := by simpa only [PyData.shown] using hz
    obtain ⟨bs, hb, hk⟩ := RqA.showK I k rv (by simpa [PyData.showable] using hs) (fun t ht => Nat.le_trans (listText_mem_le ht) hz')
    have hna : a ∉ bs := not_mem_of_deeper rd (by simp only [PyData.depth]; omega) hb
    refine ⟨a :: bs, ReadAtMost.cons rd (by simp only [PyData.depth]; omega) hb, ?_⟩
    simp only [PyData.depth, PyData.shown]
    cases its with
    | nil =>
      cases rv
      cases k
      simp only [PyData.shownAll, listText_nil]
      exact ReprK.listEmpty e1 e2 e4
    | cons x l => exact ReprK.list e1 e2 e4 hna (by simpa using hk.length_eq) (fun i y e => hk.item i y (by simpa using e))
  | _, _, u, @Rq.tup _ a xs ds h k, r, hs, hz => by
    obtain ⟨as, rd⟩ := Rq.reads I (Rq.tup h k) r
    obtain rfl : u = Value.ref a := r
    obtain ⟨its, rv, p, _⟩ := I.tuple (tupAt_sq h)
    obtain ⟨o, e1, e2, n, e3⟩ := p
    have hz' : (tupleText (PyData.shownAll ds)).length ≤ sizeLine := by simpa only [PyData.shown] using hz
    obtain ⟨bs, hb, hk⟩ := RqA.showK I k rv (by simpa [PyData.showable] using hs) (fun t ht => Nat.le_trans (tupleText_mem_le ht) hz')
    have hna : a ∉ bs := not_mem_of_deeper rd (by simp only [PyData.depth]; omega) hb
    refine ⟨a :: bs, ReadAtMost.cons rd (by simp only [PyData.depth]; omega) hb, ?_⟩
    simp only [PyData.depth, PyData.shown]
    exact ReprK.tuple e1 e2 e3 hna hk
  | _, _, u, @Rq.dk _ a kvs ds h k, r, hs, hz => by
    obtain ⟨as, rd⟩ := Rq.reads I (Rq.dk h k) r
    obtain rfl : u = Value.ref a := r
    obtain ⟨hsy, o, es, n, e1, e2, e3, ⟨as, kr⟩, rv⟩ := dk_obj I h
    have hl : (kvs.map fun q => keyD q.1).length = ds.length := by rw [List.length_map, ← k.len, List.length_map]
    have hz' : (dictText (PyData.shownKv ((kvs.map fun q => keyD q.1).zip ds))).length ≤ sizeLine := by simpa only [PyData.shown] using hz
    obtain ⟨hs1, hs2⟩ := PyData.showableKv_split _ (by simpa [PyData.showable] using hs)
    obtain ⟨b1, hb1, k1⟩ := ReprAllK.of_readsAll (prog := X.prog) (w := X.w) kr (by rw [zip_fst hl] at hs1; exact hs1) (fun z => by rw [keyD_noDict] at z; cases z) (fun t ht => let ⟨p, hp, hl⟩ := PyData.shownKv_key_le _ t (by rw [zip_fst hl]; exact ht); Nat.le_trans hl (Nat.le_trans (dictText_mem_le hp) hz'))
    obtain ⟨b2, hb2, k2⟩ := RqA.showK I k rv (by rw [zip_snd hl] at hs2; exact hs2) (fun t ht => let ⟨p, hp, hl⟩ := PyData.shownKv_val_le _ t (by rw [zip_snd hl]; exact ht); Nat.le_trans hl (Nat.le_trans (dictText_mem_le hp) hz'))
    have d1 := PyData.depthAll_keys_le ((kvs.map fun q => keyD q.1).zip ds)
    have d2 := PyData.depthAll_vals_le ((kvs.map fun q => keyD q.1).zip ds)
    rw [zip_fst hl] at d1
    rw [zip_snd hl] at d2
    have hb : ReadAtMost s.heap (PyData.depthKv ((kvs.map fun q => keyD q.1).zip ds)) (b1 ++ b2) := (hb1.mono d1).append (hb2.mono d2)
    have hna : a ∉ b1 ++ b2 := not_mem_of_deeper rd (by simp only [PyData.depth]; omega) hb
    refine ⟨a :: (b1 ++ b2), ReadAtMost.cons rd (by simp only [PyData.depth]; omega) hb, ?_⟩
    simp only [PyData.depth, PyData.shown, PyData.shownKv_eq]
    rw [zip_fst hl, zip_snd hl]
    exact ReprK.dict e1 e2 e3 hsy hna (ReprEntriesK.of_two es.toList _ _ (k1.more_le (fun b hb => List.mem_append_left _ hb) d1) (k2.more_le (fun b hb => List.mem_append_right _ hb) d2))
theorem RqA.showK (I : Inv X pins σ H s) : ∀ {vs : List V} {ds : List PyData} {us : List Value}, RqA H vs ds → Vals vs us → PyData.showableAll ds = true → (∀ t ∈ PyData.shownAll ds, t.length ≤ sizeLine) → ∃ bs, ReadAtMost s.heap (PyData.depthAll ds) bs ∧ ReprAllK X.prog X.w bs s.heap (PyData.depthAll ds) us (PyData.shownAll ds)
  | _, _, us, .nil, r, _, _ => by cases r; exact ⟨[], (fun _ h => nomatch h), by simp only [PyData.shownAll]; exact .nil⟩
  | _, _, us, @RqA.cons _ v vs d ds h k, r, hs, hz => by
    cases r with
    | cons r1 r2 =>
      have hs' : d.showable = true ∧ PyData.showableAll ds = true := by simpa [PyData.showableAll] using hs
      obtain ⟨b1, hb1, k1⟩ := Rq.showK I h r1 hs'.1 (hz _ (by simp only [PyData.shownAll]; exact List.mem_cons_self ..))
      obtain ⟨b2, hb2, k2⟩ := RqA.showK I k r2 hs'.2 (fun t ht => hz t (by simp only [PyData.shownAll]; exact List.mem_cons_of_mem _ ht))
      refine ⟨b1 ++ b2, ?_, ?_⟩
      · simp only [PyData.depthAll]
        exact (hb1.mono (Nat.le_max_left _ _)).append (hb2.mono (Nat.le_max_right _ _))
      · simp only [PyData.depthAll, PyData.shownAll]
        exact .cons ((k1.more fun b hb => List.mem_append_left _ hb).level_le (Nat.le_max_left _ _)) (k2.more_le (fun b hb => List.mem_append_right _ hb) (Nat.le_max_right _ _))
end
/-- how a thing is shown by itself -/
theorem Rq.shows (I : Inv X pins σ H s) {a : Addr} {d : PyData} (h : Rq H (.ref a) d) (hs : d.showable = true) (hz : d.shown.length ≤ sizeLine) : ∃ T idr, ShowsBy X.prog X.w s.heap a d T idr := by
  obtain ⟨as, rd⟩ := Rq.reads I h (u := .ref a) rfl
  cases h with
  | @lst _ xs ds h k =>
    obtain ⟨its, rv, p, _⟩ := I.list (lstAt_sq h)
    obtain ⟨o, n, e1, e2, e3, e4⟩ := p
    have hz' : (listText (PyData.shownAll ds)).length ≤ sizeLine := by simpa only [PyData.shown] using hz
    obtain ⟨bs, hb, hk⟩ := RqA.showK I k rv (by simpa [PyData.showable] using hs) (fun t ht => Nat.le_trans (listText_mem_le ht) hz')
    have hna : a ∉ bs := not_mem_of_deeper rd (by simp only [PyData.depth]; omega) hb
    refine ⟨"list", "list.__repr__", F.slot_list_repr.toG, F.slot_list_str, F.slot_list_format, fun s hk0 => ⟨o, hk0 _ _ e1, e2⟩, fun A E s Q hg hu hk0 hQ => ?_⟩
    simp only [PyData.depth] at hu
    simp only [PyData.shown] at hQ
    cases its with
    | nil =>
      cases rv
      cases k
      simp only [PyData.shownAll, listText_nil] at hQ
      exact call_list_repr_empty ⟨o, hk0 _ _ e1, e2⟩ (hk0 _ _ e1) e4 (hQ s.heap _ _ fun _ _ e => e)
    | cons x l => exact call_list_reprK e1 e2 e4 hna (by simpa using hk.length_eq) (fun i y e => hk.item i y (by simpa using e)) hg (fun b _ => Clear.nil b) hu hk0 hQ hz'
  | @tup _ xs ds h k =>
    obtain ⟨its, rv, p, _⟩ := I.tuple (tupAt_sq h)
    obtain ⟨o, e1, e2, n, e3⟩ := p
    have hz' : (tupleText (PyData.shownAll ds)).length ≤ sizeLine := by simpa only [PyData.shown] using hz
    obtain ⟨bs, hb, hk⟩ := RqA.showK I k rv (by simpa [PyData.showable] using hs) (fun t ht => Nat.le_trans (tupleText_mem_le ht) hz')
    have hna : a ∉ bs := not_mem_of_deeper rd (by simp only [PyData.depth]; omega) hb
    refine ⟨"tuple", "tuple.__repr__", F.slot_tuple_repr, F.slot_tuple_str, F.slot_tuple_format, fun s hk0 => ⟨o, hk0 _ _ e1, e2⟩, fun A E s Q hg hu hk0 hQ => ?_⟩
    simp only [PyData.depth] at hu
    simp only [PyData.shown] at hQ
    exact call_tuple_reprK e1 e2 e3 hna hk hg (fun b _ => Clear.nil b) hu hk0 hQ hz'
  | @dk _ kvs ds h k =>
    obtain ⟨hsy, o, es, n, e1, e2, e3, ⟨as, kr⟩, rv⟩ := dk_obj I h
    have hl : (kvs.map fun q => keyD q.1).length = ds.length := by rw [List.length_map, ← k.len, List.length_map]
    have hz' : (dictText (PyData.shownKv ((kvs.map fun q => keyD q.1).zip ds))).length ≤ sizeLine := by simpa only [PyData.shown] using hz
    obtain ⟨hs1, hs2⟩ := PyData.showableKv_split _ (by simpa [PyData.showable] using hs)
    obtain ⟨b1, hb1, k1⟩ := ReprAllK.of_readsAll (prog := X.prog) (w := X.w) kr (by rw [zip_fst hl] at hs1; exact hs1) (fun z => by rw [keyD_noDict] at z; cases z) (fun t ht => let ⟨p, hp, hl⟩ := PyData.shownKv_key_le _ t (by rw [zip_fst hl]; exact ht); Nat.le_trans hl (Nat.le_trans (dictText_mem_le hp) hz'))
    obtain ⟨b2, hb2, k2⟩ := RqA.showK I k rv (by rw [zip_snd hl] at hs2; exact hs2) (fun t ht => let ⟨p, hp, hl⟩ := PyData.shownKv_val_le _ t (by rw [zip_snd hl]; exact ht); Nat.le_trans hl (Nat.le_trans (dictText_mem_le hp) hz'))
    have d1 := PyData.depthAll_keys_le ((kvs.map fun q => keyD q.1).zip ds)
    have d2 := PyData.depthAll_vals_le ((kvs.map fun q => keyD q.1).zip ds)
    rw [zip_fst hl] at d1
    rw [zip_snd hl] at d2
    have hb : ReadAtMost s.heap (PyData.depthKv ((kvs.map fun q => keyD q.1).zip ds)) (b1 ++ b2) := (hb1.mono d1).append (hb2.mono d2)
    have hna : a ∉ b1 ++ b2 := not_mem_of_deeper rd (by simp only [PyData.depth]; omega) hb
    refine ⟨"dict", "dict.__repr__", F.slot_dict_repr, F.slot_dict_str, F.slot_dict_format, fun s hk0 => ⟨o, hk0 _ _ e1, e2⟩, fun A E s Q hg hu hk0 hQ => ?_⟩
    simp only [PyData.depth] at hu
    simp only [PyData.shown, PyData.shownKv_eq] at hQ
    rw [zip_fst hl, zip_snd hl] at hQ
    exact call_dict_reprK e1 e2 e3 hsy hna (ReprEntriesK.of_two es.toList _ _ (k1.more_le (fun b hb => List.mem_append_left _ hb) d1) (k2.more_le (fun b hb => List.mem_append_right _ hb) d2)) hg (fun b _ => Clear.nil b) hu hk0 hQ (by rw [PyData.shownKv_eq, zip_fst hl, zip_snd hl] at hz'; exact hz')
end
/-- repr of data -/
def rRepr : List V → Hp → VK → Prop := fun vs H Q => ∃ x d, vs = [x] ∧ Rq H x d ∧ d.showable = true ∧ d.depth ≤ 60 ∧ d.shown.length ≤ 16777216 ∧ Q (.str d.shown) H
theorem c_repr {X : Cx} (hg : X.A.guards = some []) (hu : X.A.units + 64 < cLine) : CallR X (.builtin "repr") rRepr := by
  intro pins s σ H xs us Q I r h
  obtain ⟨x, d, rfl, hd, hw, hdp, hsz, q⟩ := h
  cases r with
  | cons rx rn =>
    cases rn
    rename_i u
    have fin : ∀ h' u' tk, (∀ b o, s.heap.get? b = some o → h'.get? b = some o) → EP X pins σ Q (.str d.shown u') { s with heap := h', toks := tk } := fun h' u' tk hk => ⟨.str d.shown, H, I.kept (t' := tk) hk, ⟨_, rfl⟩, q⟩
    have hz : d.shown.length ≤ sizeLine := by rw [sl16]; exact hsz
    have go : ∀ {a : Addr}, x = .ref a → u = .ref a → wpAny (model X.prog X.w) X.A (call (.builtin "repr") [u]) (EP X pins σ Q) X.xe s := by
      intro a ex e
      subst e ex
      obtain ⟨T, idr, S⟩ := Rq.shows I hd hw hz
      exact call_repr_slot (by omega) (S.typeIs s fun _ _ e => e) S.slotRepr (S.call X.A.in1 X.xe s _ hg (by show X.A.units + 1 + d.depth < cLine; omega) (fun _ _ e => e) fun h' u tk hk => ⟨_, _, rfl, fin h' u tk hk⟩)
    cases hd with
    | non => cases rx; exact PySem.P.repr_of_none (fin _ _ _ fun _ _ e => e)
    | bl b => cases rx; exact PySem.P.repr_of_bool (fin _ _ _ fun _ _ e => e)
    | int i => obtain ⟨t, rfl⟩ := rx; exact PySem.P.repr_of_int (by simpa [PyData.showable] using hw) (fin _ _ _ fun _ _ e => e)
    | str y => obtain ⟨t, rfl⟩ := rx; exact PySem.P.repr_of_str (fin _ _ _ fun _ _ e => e) hz
    | lst h1 h2 => exact go rfl rx
    | tup h1 h2 => exact go rfl rx
    | dk h1 h2 => exact go rfl rx
/-! ### the head, where the promise knows the guards -/
section
variable {P : Program} {w : World} {K : PySem.W.Frag} {mg mb : Str → Option Value} {k : Nat} {fa a : Addr} {fd : FuncData} {x : Str} {sp : Sp} {s₁ : Shared} {vs : List Value} {ns : List Int}
/-- the call of the law's def over an abstract heap H that holds at most the script -/
theorem head_run {H : Hp} (KX : K.In s₁.heap) (hns : s₁.heap.Ns mainGlobals mg) (hb : s₁.heap.Ns builtinsNs mb) (hbb : ∀ x : Str, x ≠ "__name__" → mb x = bootBuiltins x) (hlim : s₁.heap.NoLimit) (hg : s₁.gens = #[])
    (ha : s₁.heap.get? a = some { cls := .type "list", data := .seq vs.toArray }) (hr : Room k callerA)
    (F : ∀ base : Heap, K.In base → base.Ns mainGlobals mg → FnG P w K mg base CX0 k fa fd [x] sp) (hbind : ∀ (s : Shared) (u : Value), BindsTo s fd ⟨[u], []⟩ [(x, u)])
    (hO : Only H) (hsp : sp [.ref a] H (fun v _ => v = .bl true) fun _ _ _ => False) (hok : HOk P w H s₁.heap) (hA : ∀ b, H b ≠ none → b = a) (hK : H a ≠ none → K.lookup a = none) :
    codeAny (model P w) callerA (.call (.ref fa) ⟨[.ref a], []⟩) (fun r s' => r = .ok (.ret (.bool true)) ∧ OldK s₁.heap s'.heap ∧ s'.os = s₁.os ∧ AllBare s'.gens) s₁ := by
  have untracked : ∀ {b : Addr} {o : Obj}, s₁.heap.get? b = some o → (H b ≠ none → False) → (hidT s₁.heap H).get? b = some o := fun {b o} e n => hidT_get e (by
    cases q : H b with
    | none => rfl
    | some u => exact (n (by rw [q]; simp)).elim)
  have names : ∀ {b : Addr} {m : Str → Option Value}, s₁.heap.Ns b m → (hidT s₁.heap H).Ns b m := fun {b m} z => by
    obtain ⟨o, es, ep, e, d, r⟩ := z
    refine ⟨o, es, ep, untracked e fun n => ?_, d, r⟩
    have eb := hA b n
    subst eb
    rw [ha] at e
    cases e
    cases (show Data.seq vs.toArray _ = Data.dict es ep from d)
  have inK : K.In (hidT s₁.heap H) := fun b o e => untracked (KX b o e) fun n => by
    have eb := hA b n
    subst eb
    rw [hK n] at e
    cases e
  have e0 : Env0 P w K mg (hidT s₁.heap H) callerA [] s₁ H :=
    ⟨rfl, ⟨inK, names hns, ⟨mb, names hb, hbb⟩, hlim.imp fun _ z => ⟨names z.1, z.2⟩⟩, fun _ _ e => of_hidT e, Nat.le_of_eq (hidT_size _ _), trivial, (fun b z => by cases z), hok, .of_eq hg⟩
  refine codeAny_mono ((F _ inK (names hns)).go callerA [] s₁ H ⟨[.ref a], []⟩ [.ref a] [.ref a] _ _ rfl hr e0 (hbind s₁ (.ref a)) (.cons rfl .nil) hsp) fun r s' z => ?_
  match r, z with
  | .ok (.ret u), ⟨v, H', os, bare, un, hok', rv, q⟩ =>
    have q : v = .bl true := q
    subst q
    obtain rfl : u = Value.bool true := rv
    refine ⟨rfl, .of_keep fun b o e => ?_, os, bare⟩
    rcases hO b with z | ⟨ob, xs, z⟩
    · exact un.keep b o e z (by intro z; cases z) (by simp)
    · obtain ⟨e1, _⟩ := hok b _ z
      obtain ⟨e2, _⟩ := hok' b _ (un.frzs b ob _ z)
      rw [← e, e1]
      exact e2
  | .ok .next, z => exact z.elim
  | .ok .brk, z => exact z.elim
  | .ok .cont, z => exact z.elim
  | .error _, z => exact z.elim
/-- the head: from the promise of the law's def -/
theorem walk_G {l : PySem.W.OpenLaw} {q : Program} {loose : List Str} {XP : (Str → Option Value) → Heap → Prop} {YP : World → Heap → Prop} {d : DefRec} {KK : Params → PySem.W.Frag} {spK : PySem.W.Frag → Sp}
    (hn : l.most = some 63) (hdf : d.params.defaults = []) (hr : Room k callerA) (hY : ∀ (w : World) (h : Heap), YP w h → (KK w.params).In h)
    (F : ∀ (w : World) (mg : Str → Option Value) (fa : Addr) (h : Heap), (KK w.params).In h → h.Ns mainGlobals mg → mg d.name = some (.ref fa) →
      ∃ fd : FuncData, (∀ (s : Shared) (u : Value), BindsTo s fd ⟨[u], []⟩ [(x, u)]) ∧ ∀ base : Heap, (KK w.params).In base → base.Ns mainGlobals mg → FnG l.prog w (KK w.params) mg base CX0 k fa fd [x] (spK (KK w.params)))
    (hsp : ∀ (K : PySem.W.Frag) (H : Hp) (a : Addr) (ns : List Int), ns.length ≤ 63 → Scr K H a ns → spK K [.ref a] H (fun v _ => v = .bl true) fun _ _ _ => False) :
    PySem.W.WalkO q loose XP YP l.row.toRowW d [] (fun f vs => PySem.call f vs) := by
  refine Att.attach_call hn hdf fun w s₀ s₁ mg mb fa o pm cd doc a vs ns G Y ho hd hcd hmg hobj hints hlen hg => ?_
  have KX := hY w _ Y
  obtain ⟨fd, hb, hF⟩ := F w mg fa _ KX G.T.g hmg
  have rv := vals_ints hints
  have hz : ns.length ≤ sizeLine := by rw [sl16]; omega
  cases hk : (KK w.params).lookup a with
  | some oo =>
    have e := KX a oo hk
    rw [hobj] at e
    cases e
    refine head_run (H := fun _ => none) KX G.T.g G.T.b G.T.builtins G.T.nolimit hg hobj hr hF hb (fun _ => .inl rfl) (hsp _ _ _ _ hlen (.inr ⟨_, vs.toArray, _, hk, rfl, rfl, rfl, ?_, by simpa using rv⟩)) (fun b u z => nomatch z) (fun b z => absurd rfl z) fun z => absurd rfl z
    rw [List.size_toArray, hints.length]
    exact hz
  | none =>
    have me : (fun b => if b = a then some (HO.frz { cls := .type "list", data := .seq vs.toArray } (.lst (ns.map V.int))) else none) a = some (HO.frz { cls := .type "list", data := .seq vs.toArray } (.lst (ns.map V.int))) := if_pos rfl
    refine head_run (H := fun b => if b = a then some (.frz { cls := .type "list", data := .seq vs.toArray } (.lst (ns.map V.int))) else none) KX G.T.g G.T.b G.T.builtins G.T.nolimit hg hobj hr hF hb (fun b => ?_) (hsp _ _ _ _ hlen (.inl ⟨_, me⟩)) (fun b u z => ?_) (fun b z => ?_) fun _ => hk
    · rcases Decidable.em (b = a) with e | e
      · exact .inr ⟨_, _, if_pos e⟩
      · exact .inl (if_neg e)
    · rcases Decidable.em (b = a) with e | e
      · have z' := (if_pos e).symm.trans z
        cases z'
        subst e
        exact ⟨hobj, by rw [List.length_map]; exact hz, vs, _, rv, hobj⟩
      · have z' := (if_neg e).symm.trans z
        cases z'
    · rcases Decidable.em (b = a) with e | e
      · exact e
      · exact absurd (if_neg e) z
end
end Zb

/-! what is asked of data -/
namespace Zb
open PySem PySem.Spec PyProof.Rows L2
def tyD : PyData → String
  | .none => "NoneType"
  | .bool _ => "bool"
  | .int _ => "int"
  | .str _ => "str"
  | .list _ => "list"
  | .tuple _ => "tuple"
  | .dict _ => "dict"
theorem Rq.tyn {H : Hp} {x : V} {d : PyData} (h : Rq H x d) : tyN H x = some (tyD d) := by
  cases h with
  | non => rfl
  | bl b => rfl
  | int i => rfl
  | str y => rfl
  | @lst a xs ds h _ =>
    show tyO (H a) = _
    unfold lstAt at h
    unfold tyO
    split at h <;> first | (rename_i e; rw [e]; rfl) | cases h
  | @tup a xs ds h _ =>
    show tyO (H a) = _
    unfold tupAt at h
    unfold tyO
    split at h <;> first | (rename_i e; rw [e]; rfl) | cases h
  | @dk a kvs ds h _ =>
    show tyO (H a) = _
    rw [h]
    rfl
theorem Rq.ty {H : Hp} {x : V} {d : PyData} (h : Rq H x d) : Ty H x := ⟨_, h.tyn⟩
theorem Rp.ty {H : Hp} {x : V} {d : PyData} (h : Rp H x d) : Ty H x := h.rq.ty
section
variable {H : Hp} {Q : VK} {K : PySem.W.Frag}
theorem st_isQ {x : V} {d : PyData} {n : String} {b : Bool} (h1 : Rq H x d) (h2 : kitB (tyD d) n = some b) (h : Q (.bl b) H) : rIs [x, .ty n] H Q := st_is h1.tyn h2 h
def isListD : PyData → Bool
  | .list _ => true
  | _ => false
def isTupD : PyData → Bool
  | .tuple _ => true
  | _ => false
theorem kb_list : kitB "NoneType" "list" = some false ∧ kitB "bool" "list" = some false ∧ kitB "int" "list" = some false ∧ kitB "str" "list" = some false ∧ kitB "list" "list" = some true ∧ kitB "tuple" "list" = some false ∧ kitB "dict" "list" = some false := by decide +kernel
theorem kb_tup : kitB "NoneType" "tuple" = some false ∧ kitB "bool" "tuple" = some false ∧ kitB "int" "tuple" = some false ∧ kitB "str" "tuple" = some false ∧ kitB "list" "tuple" = some false ∧ kitB "tuple" "tuple" = some true ∧ kitB "dict" "tuple" = some false := by decide +kernel
theorem st_isListD {x : V} {d : PyData} (h1 : Rq H x d) (h : Q (.bl (isListD d)) H) : rIs [x, .ty "list"] H Q := by
  obtain ⟨k1, k2, k3, k4, k5, k6, k7⟩ := kb_list
  refine st_isQ h1 (b := isListD d) ?_ h
  cases d <;> assumption
theorem st_isTupD {x : V} {d : PyData} (h1 : Rq H x d) (h : Q (.bl (isTupD d)) H) : rIs [x, .ty "tuple"] H Q := by
  obtain ⟨k1, k2, k3, k4, k5, k6, k7⟩ := kb_tup
  refine st_isQ h1 (b := isTupD d) ?_ h
  cases d <;> assumption
/-- the items of data -/
theorem Rp.listAt {x : V} {ds : List PyData} (h : Rp H x (.list ds)) : ∃ a xs, x = .ref a ∧ lstAt H a = some xs ∧ RpA H xs ds := by
  cases h with
  | lst h k => exact ⟨_, _, rfl, h, k⟩
theorem Rp.tupAt' {x : V} {ds : List PyData} (h : Rp H x (.tuple ds)) : ∃ a xs, x = .ref a ∧ tupAt H a = some xs ∧ RpA H xs ds := by
  cases h with
  | tup h k => exact ⟨_, _, rfl, h, k⟩
theorem RpA.len : ∀ {xs : List V} {ds : List PyData}, RpA H xs ds → xs.length = ds.length
  | _, _, .nil => rfl
  | _, _, .cons _ k => congrArg (· + 1) k.len
theorem RpA.at : ∀ {xs : List V} {ds : List PyData}, RpA H xs ds → ∀ (i : Nat) x, xs[i]? = some x → ∃ d, ds[i]? = some d ∧ Rp H x d
  | _, _, .nil, i, x, h => by simp at h
  | _, _, .cons a k, 0, x, h => by
    have e : _ = x := Option.some.inj h
    exact ⟨_, rfl, e ▸ a⟩
  | _, _, .cons a k, i + 1, x, h => k.at i x (by simpa using h)
theorem st_lenA {p : Addr} {xs : List V} (h1 : tupAt H p = some xs) (h : Q (.int xs.length) H) : rLen K [.ref p] H Q := ⟨xs, .inr (tupAt_sq h1), h⟩
theorem st_lenB {p : Addr} {xs : List V} (h1 : lstAt H p = some xs) (h : Q (.int xs.length) H) : rLen K [.ref p] H Q := ⟨xs, .inl (lstAt_sq h1), h⟩
theorem st_ixA2 {p : Addr} {i : Int} {v : V} {xs : List V} (h1 : tupAt H p = some xs) (h2 : atI xs i = some v) (h : Q v H) : rIxU K (.ref p) (.int i) H Q := ⟨xs, .inr (tupAt_sq h1), v, h2, h⟩
theorem st_gtupA {a : Addr} {xs : List V} {n : Nat} {t : TGs} {σ : L2.St} {R : L2.St → Hp → Prop} (h1 : tupAt H a = some xs) (hn : xs.length = n) (h : t xs σ H R) : gTup K n t (.ref a) σ H R := ⟨a, xs, rfl, tupAt_sq h1, hn, h⟩
end
end Zb

/-! data whose things are not frozen; the size of data -/
namespace Zb
open PySem PySem.Spec PyProof.Rows L2
mutual
/-- v is d, by things that are not frozen; empty dicts may be among them -/
inductive Rn (H : Hp) : V → PyData → Prop
  | non : Rn H .non .none
  | bl (b : Bool) : Rn H (.bl b) (.bool b)
  | int (i : Int) : Rn H (.int i) (.int i)
  | str (x : Str) : Rn H (.str x) (.str x)
  | lst {a : Addr} {xs : List V} {ds : List PyData} : H a = some (.lst xs) → RnA H xs ds → Rn H (.ref a) (.list ds)
  | tup {a : Addr} {xs : List V} {ds : List PyData} : H a = some (.tup xs) → RnA H xs ds → Rn H (.ref a) (.tuple ds)
  | dk {a : Addr} : H a = some (.dK []) → Rn H (.ref a) (.dict [])
inductive RnA (H : Hp) : List V → List PyData → Prop
  | nil : RnA H [] []
  | cons {v : V} {vs : List V} {d : PyData} {ds : List PyData} : Rn H v d → RnA H vs ds → RnA H (v :: vs) (d :: ds)
end
section
variable {H H' : Hp}
mutual
theorem Rn.rq : ∀ {v : V} {d : PyData}, Rn H v d → Rq H v d
  | _, _, .non => .non
  | _, _, .bl b => .bl b
  | _, _, .int i => .int i
  | _, _, .str x => .str x
  | _, _, .lst h k => .lst (lst_of h) (RnA.rq k)
  | _, _, .tup h k => .tup (tup_of h) (RnA.rq k)
  | _, _, .dk h => .dk0 h
theorem RnA.rq : ∀ {vs : List V} {ds : List PyData}, RnA H vs ds → RqA H vs ds
  | _, _, .nil => .nil
  | _, _, .cons h k => .cons (Rn.rq h) (RnA.rq k)
end
mutual
theorem Rn.rp : ∀ {v : V} {d : PyData}, Rn H v d → d.hasDict = false → Rp H v d
  | _, _, .non, _ => .non
  | _, _, .bl b, _ => .bl b
  | _, _, .int i, _ => .int i
  | _, _, .str x, _ => .str x
  | _, _, .lst h k, n => .lst (lst_of h) (RnA.rp k (by simpa only [PyData.hasDict] using n))
  | _, _, .tup h k, n => .tup (tup_of h) (RnA.rp k (by simpa only [PyData.hasDict] using n))
  | _, _, .dk h, n => by simp [PyData.hasDict] at n
theorem RnA.rp : ∀ {vs : List V} {ds : List PyData}, RnA H vs ds → PyData.hasDictAll ds = false → RpA H vs ds
  | _, _, .nil, _ => .nil
  | _, _, .cons h k, n => by
    simp only [PyData.hasDictAll, Bool.or_eq_false_iff] at n
    exact .cons (Rn.rp h n.1) (RnA.rp k n.2)
end
mutual
theorem Rn.ex (e : Ex H H') : ∀ {v : V} {d : PyData}, Rn H v d → Rn H' v d
  | _, _, .non => .non
  | _, _, .bl b => .bl b
  | _, _, .int i => .int i
  | _, _, .str x => .str x
  | _, _, .lst h k => .lst (e.get h) (RnA.ex e k)
  | _, _, .tup h k => .tup (e.get h) (RnA.ex e k)
  | _, _, .dk h => .dk (e.get h)
theorem RnA.ex (e : Ex H H') : ∀ {vs : List V} {ds : List PyData}, RnA H vs ds → RnA H' vs ds
  | _, _, .nil => .nil
  | _, _, .cons h k => .cons (Rn.ex e h) (RnA.ex e k)
end
theorem Rn.listAt {x : V} {ds : List PyData} (h : Rn H x (.list ds)) : ∃ a xs, x = .ref a ∧ H a = some (.lst xs) ∧ RnA H xs ds := by
  cases h with
  | lst h k => exact ⟨_, _, rfl, h, k⟩
theorem Rn.tupAt {x : V} {ds : List PyData} (h : Rn H x (.tuple ds)) : ∃ a xs, x = .ref a ∧ H a = some (.tup xs) ∧ RnA H xs ds := by
  cases h with
  | tup h k => exact ⟨_, _, rfl, h, k⟩
theorem RnA.len : ∀ {xs : List V} {ds : List PyData}, RnA H xs ds → xs.length = ds.length
  | _, _, .nil => rfl
  | _, _, .cons _ k => congrArg (· + 1) k.len
theorem RnA.zipped : ∀ {xs : List V} {ds : List PyData}, RnA H xs ds → ∃ zs : List (V × PyData), xs = zs.map (·.1) ∧ ds = zs.map (·.2) ∧ ∀ z ∈ zs, Rn H z.1 z.2
  | _, _, .nil => ⟨[], rfl, rfl, fun _ h => nomatch h⟩
  | _, _, .cons (v := v) (d := d) a k => by
    obtain ⟨zs, rfl, rfl, h⟩ := RnA.zipped k
    refine ⟨(v, d) :: zs, rfl, rfl, fun z hz => ?_⟩
    rcases List.mem_cons.mp hz with e | e
    · rw [e]; exact a
    · exact h z e
theorem rnA_map {α : Type} {val : α → V} {enc : α → PyData} : ∀ {xs : List α}, (∀ x ∈ xs, Rn H (val x) (enc x)) → RnA H (xs.map val) (xs.map enc)
  | [], _ => .nil
  | x :: xs, h => .cons (h x List.mem_cons_self) (rnA_map fun y hy => h y (List.mem_cons_of_mem _ hy))
theorem TP.rn1 {z : ZP} (h : H z.1 = some (tupO z.2)) : Rn H (zV z) (encQ z.2) := .tup h (.cons (.int _) (.cons (.int _) .nil))
theorem TP.rn {zs : List ZP} (h : TP H zs) : RnA H (zs.map zV) (zs.map fun z => encQ z.2) := rnA_map fun z hz => TP.rn1 (h z hz)
theorem TP.rnL {zs : List ZP} {a : Addr} (h : TP H zs) (ha : H a = some (.lst (zs.map zV))) : Rn H (.ref a) (.list (zs.map fun z => encQ z.2)) := .lst ha h.rn
end
mutual
/-- how many things data holds -/
def szD : PyData → Nat
  | .list ds => 1 + szA ds
  | .tuple ds => 1 + szA ds
  | .dict _ => 1
  | _ => 1
def szA : List PyData → Nat
  | [] => 0
  | d :: ds => szD d + szA ds
end
theorem szD_pos (d : PyData) : 0 < szD d := by cases d <;> simp [szD] <;> omega
theorem szA_len (ds : List PyData) : ds.length ≤ szA ds := by
  induction ds with
  | nil => simp [szA]
  | cons d ds ih =>
    have := szD_pos d
    simp only [szA, List.length_cons]
    omega
theorem szA_mem {ds : List PyData} {d : PyData} (h : d ∈ ds) : szD d ≤ szA ds := by
  induction ds with
  | nil => cases h
  | cons x ds ih =>
    simp only [szA]
    rcases List.mem_cons.mp h with e | e
    · subst e; omega
    · have := ih e; omega
theorem szA_append (a b : List PyData) : szA (a ++ b) = szA a + szA b := by
  induction a with
  | nil => simp [szA]
  | cons x a ih => simp only [List.cons_append, szA, ih]; omega
theorem hasDictA_mem {ds : List PyData} {d : PyData} (h : PyData.hasDictAll ds = false) (hd : d ∈ ds) : d.hasDict = false := by
  induction ds with
  | nil => cases hd
  | cons x ds ih =>
    simp only [PyData.hasDictAll, Bool.or_eq_false_iff] at h
    rcases List.mem_cons.mp hd with e | e
    · subst e; exact h.1
    · exact ih h.2 e
theorem depthA_mem {ds : List PyData} {d : PyData} (hd : d ∈ ds) : d.depth ≤ PyData.depthAll ds := by
  induction ds with
  | nil => cases hd
  | cons x ds ih =>
    simp only [PyData.depthAll]
    rcases List.mem_cons.mp hd with e | e
    · subst e; omega
    · have := ih e; omega
end Zb

/-! small data: what repr shows of it is short -/
namespace Zb
open PySem PySem.Spec PyProof.Rows L2
mutual
/-- numbers of few figures, texts that are shown by few signs, no dict but the empty one -/
def okD : PyData → Bool
  | .none => true
  | .bool _ => true
  | .int i => decide (i.natAbs < 1000000)
  | .str x => decide ((reprText x).length ≤ 14)
  | .list ds => okA ds
  | .tuple ds => okA ds
  | .dict kvs => kvs.isEmpty
def okA : List PyData → Bool
  | [] => true
  | d :: ds => okD d && okA ds
end
mutual
theorem okD_showable : ∀ d : PyData, okD d = true → d.showable = true
  | .none, _ => rfl
  | .bool _, _ => rfl
  | .str _, _ => rfl
  | .int i, h => by
    have h : i.natAbs < 1000000 := by simpa only [okD, decide_eq_true_eq] using h
    have : i.natAbs.log2 < 1920 := by
      by_cases h0 : i.natAbs = 0
      · rw [h0]; decide
      · refine (Nat.log2_lt h0).mpr (Nat.lt_of_lt_of_le (Nat.lt_trans h (show 1000000 < 2 ^ 20 by decide)) (Nat.pow_le_pow_right (by decide) (by decide)))
    simpa only [PyData.showable, decide_eq_true_eq] using this
  | .list ds, h => by
    simp only [PyData.showable]
    exact okA_showable ds (by simpa only [okD] using h)
  | .tuple ds, h => by
    simp only [PyData.showable]
    exact okA_showable ds (by simpa only [okD] using h)
  | .dict [], _ => rfl
  | .dict (_ :: _), h => by simp [okD] at h
theorem okA_showable : ∀ ds : List PyData, okA ds = true → PyData.showableAll ds = true
  | [], _ => rfl
  | d :: ds, h => by
    simp only [okA, Bool.and_eq_true] at h
    simp only [PyData.showableAll, okD_showable d h.1, okA_showable ds h.2, Bool.and_self]
end
mutual
theorem okD_shown : ∀ d : PyData, okD d = true → d.shown.length + 2 ≤ 16 * szD d
  | .none, _ => by
    have e : (PyData.shown .none).length = 4 := rfl
    simp only [szD]; omega
  | .bool b, _ => by
    have e : (PyData.shown (.bool b)).length ≤ 5 := by cases b <;> decide
    simp only [szD]; omega
  | .str x, h => by
    have h : (reprText x).length ≤ 14 := by simpa only [okD, decide_eq_true_eq] using h
    simp only [szD, PyData.shown]; omega
  | .int i, h => by
    have h : i.natAbs < 10 ^ 6 := by simpa only [okD, decide_eq_true_eq] using h
    have e := int_text_length_le10 (k := 6) (by decide) h
    simp only [szD, PyData.shown]
    have e2 : (Str.ofString (toString i)).length = (toString i).length := PySem.ofString_length _
    show (Str.ofString (toString i)).length + 2 ≤ _
    omega
  | .list ds, h => by
    have h1 := okA_shown ds (by simpa only [okD] using h)
    have h2 := listText_len_le (PyData.shownAll ds)
    have h3 := PyData.shownAll_length ds
    simp only [PyData.shown, szD]
    omega
  | .tuple ds, h => by
    have h1 := okA_shown ds (by simpa only [okD] using h)
    have h2 := tupleText_len_le (PyData.shownAll ds)
    have h3 := PyData.shownAll_length ds
    simp only [PyData.shown, szD]
    omega
  | .dict [], _ => by
    have e : (PyData.shown (.dict [])).length = 2 := by decide +kernel
    simp only [szD]; omega
  | .dict (_ :: _), h => by simp [okD] at h
theorem okA_shown : ∀ ds : List PyData, okA ds = true → ((PyData.shownAll ds).map (·.length)).sum + 2 * ds.length ≤ 16 * szA ds
  | [], _ => by simp [PyData.shownAll, szA]
  | d :: ds, h => by
    simp only [okA, Bool.and_eq_true] at h
    have h1 := okD_shown d h.1
    have h2 := okA_shown ds h.2
    simp only [PyData.shownAll, szA, List.map_cons, List.sum_cons, List.length_cons]
    omega
end
/-- data that may be handed round: d is v, small, with no dict but itself -/
structure Sd (H : Hp) (v : V) (d : PyData) : Prop where
  rn : Rn H v d
  hd : d.hasDict = true → d = .dict []
  ok : okD d = true
  sz : szD d ≤ 999999
  dp : d.depth ≤ 59
theorem Sd.ex {H H' : Hp} {v : V} {d : PyData} (h : Sd H v d) (e : Ex H H') : Sd H' v d := ⟨h.rn.ex e, h.hd, h.ok, h.sz, h.dp⟩
/-- v is small data of n things, k deep -/
def Sm (H : Hp) (v : V) (n k : Nat) : Prop := ∃ d, Rn H v d ∧ d.hasDict = false ∧ okD d = true ∧ szD d ≤ n ∧ d.depth ≤ k
section
variable {H H' : Hp} {v : V} {n k m : Nat}
theorem Sm.up {n' k' : Nat} (h : Sm H v n k) (h1 : n ≤ n') (h2 : k ≤ k') : Sm H v n' k' := by
  obtain ⟨d, a, b, c, e, f⟩ := h
  exact ⟨d, a, b, c, by omega, by omega⟩
theorem Sm.ex (h : Sm H v n k) (e : Ex H H') : Sm H' v n k := by
  obtain ⟨d, a, b⟩ := h
  exact ⟨d, a.ex e, b⟩
theorem Sm.sd (h : Sm H v n k) (h1 : n ≤ 999999) (h2 : k ≤ 59) : ∃ d, Sd H v d := by
  obtain ⟨d, a, b, c, e, f⟩ := h
  exact ⟨d, a, (fun z => by rw [b] at z; cases z), c, by omega, by omega⟩
theorem Sm.non : Sm H .non 1 0 := ⟨_, .non, rfl, rfl, by simp [szD], by simp [PyData.depth]⟩
theorem Sm.bl (b : Bool) : Sm H (.bl b) 1 0 := ⟨_, .bl b, rfl, rfl, by simp [szD], by simp [PyData.depth]⟩
theorem Sm.int {i : Int} (h : i.natAbs < 1000000) : Sm H (.int i) 1 0 := ⟨_, .int i, rfl, by simpa only [okD, decide_eq_true_eq] using h, by simp [szD], by simp [PyData.depth]⟩
theorem Sm.str {x : Str} (h : (reprText x).length ≤ 14) : Sm H (.str x) 1 0 := ⟨_, .str x, rfl, by simpa only [okD, decide_eq_true_eq] using h, by simp [szD], by simp [PyData.depth]⟩
/-- what is no list stays -/
theorem Sm.atom (h : Sm H v n 0) : Sm H' v n 0 := by
  obtain ⟨d, r, a, b, c, f⟩ := h
  cases r with
  | non => exact ⟨_, .non, a, b, c, f⟩
  | bl x => exact ⟨_, .bl x, a, b, c, f⟩
  | int x => exact ⟨_, .int x, a, b, c, f⟩
  | str x => exact ⟨_, .str x, a, b, c, f⟩
  | lst _ k => simp only [PyData.depth] at f; omega
  | tup _ k => simp only [PyData.depth] at f; omega
  | dk _ => simp [PyData.hasDict] at a
theorem Sm.all : ∀ {xs : List V}, (∀ x ∈ xs, Sm H x n k) → ∃ ds, RnA H xs ds ∧ PyData.hasDictAll ds = false ∧ okA ds = true ∧ szA ds ≤ xs.length * n ∧ PyData.depthAll ds ≤ k
  | [], _ => ⟨[], .nil, rfl, rfl, by simp [szA], by simp [PyData.depthAll]⟩
  | x :: xs, h => by
    obtain ⟨ds, a, b, c, e, f⟩ := Sm.all (xs := xs) fun y hy => h y (List.mem_cons_of_mem _ hy)
    obtain ⟨d, a1, b1, c1, e1, f1⟩ := h x List.mem_cons_self
    refine ⟨d :: ds, .cons a1 a, by simp [PyData.hasDictAll, b, b1], by simp [okA, c, c1], ?_, ?_⟩
    · simp only [szA, List.length_cons, Nat.succ_mul]; omega
    · simp only [PyData.depthAll]; omega
theorem Sm.lst {a : Addr} {xs : List V} (h : H a = some (.lst xs)) (hx : ∀ x ∈ xs, Sm H x n k) (hm : xs.length ≤ m) : Sm H (.ref a) (1 + m * n) (k + 1) := by
  obtain ⟨ds, h1, h2, h3, h4, h5⟩ := Sm.all hx
  refine ⟨.list ds, .lst h h1, by simpa only [PyData.hasDict] using h2, by simpa only [okD] using h3, ?_, by simp only [PyData.depth]; omega⟩
  have := Nat.mul_le_mul_right n hm
  simp only [szD]; omega
theorem Sm.tup {a : Addr} {xs : List V} (h : H a = some (.tup xs)) (hx : ∀ x ∈ xs, Sm H x n k) (hm : xs.length ≤ m) : Sm H (.ref a) (1 + m * n) (k + 1) := by
  obtain ⟨ds, h1, h2, h3, h4, h5⟩ := Sm.all hx
  refine ⟨.tuple ds, .tup h h1, by simpa only [PyData.hasDict] using h2, by simpa only [okD] using h3, ?_, by simp only [PyData.depth]; omega⟩
  have := Nat.mul_le_mul_right n hm
  simp only [szD]; omega
theorem Sd.dk {a : Addr} (h : H a = some (.dK [])) : Sd H (.ref a) (.dict []) := ⟨.dk h, fun _ => rfl, rfl, by simp [szD], by simp [PyData.depth, PyData.depthKv]⟩
theorem Sm.mem {xs : List V} (h : ∀ x ∈ xs, Sm H x n k) (hv : v ∈ xs) : Sm H v n k := h v hv
theorem Sm.cons {xs : List V} (h : Sm H v n k) (t : ∀ x ∈ xs, Sm H x n k) : ∀ x ∈ v :: xs, Sm H x n k := fun x hx => by
  rcases List.mem_cons.mp hx with e | e
  · rw [e]; exact h
  · exact t x e
theorem Sm.nil : ∀ x ∈ ([] : List V), Sm H x n k := fun _ h => nomatch h
theorem Sm.app {xs ys : List V} (h : ∀ x ∈ xs, Sm H x n k) (t : ∀ x ∈ ys, Sm H x n k) : ∀ x ∈ xs ++ ys, Sm H x n k := fun x hx => by
  rcases List.mem_append.mp hx with e | e
  · exact h x e
  · exact t x e
theorem Sm.exA {xs : List V} (h : ∀ x ∈ xs, Sm H x n k) (e : Ex H H') : ∀ x ∈ xs, Sm H' x n k := fun x hx => (h x hx).ex e
theorem Sm.upA {xs : List V} {n' k' : Nat} (h : ∀ x ∈ xs, Sm H x n k) (h1 : n ≤ n') (h2 : k ≤ k') : ∀ x ∈ xs, Sm H x n' k' := fun x hx => (h x hx).up h1 h2
variable {K : PySem.W.Frag} {Q : VK}
theorem st_repr {d : PyData} (h : Sd H v d) (q : Q (.str d.shown) H) : rRepr [v] H Q := by
  refine ⟨v, d, rfl, h.rn.rq, okD_showable d h.ok, Nat.le_succ_of_le h.dp, ?_, q⟩
  have h1 := okD_shown d h.ok
  have h2 := h.sz
  omega
end
/-! ### cuts of mapped lists -/
def cutL {α : Type} (xs : List α) (lo hi : Option Int) : List α := (xs.drop (HT.sIx xs.length 0 lo)).take (HT.sIx xs.length xs.length hi - HT.sIx xs.length 0 lo)
theorem cutV_map {α : Type} (f : α → V) (xs : List α) (lo hi : Option Int) : cutV (xs.map f) lo hi = (cutL xs lo hi).map f := by
  unfold cutV cutL
  rw [List.map_take, List.map_drop, List.length_map]
theorem cutL_sub {α : Type} (xs : List α) (lo hi : Option Int) : (cutL xs lo hi).Sublist xs := (List.take_sublist _ _).trans (List.drop_sublist _ _)
theorem cutL_len {α : Type} (xs : List α) (lo hi : Option Int) : (cutL xs lo hi).length ≤ xs.length := (cutL_sub xs lo hi).length_le
theorem cutV_mem {xs : List V} {lo hi : Option Int} {x : V} (h : x ∈ cutV xs lo hi) : x ∈ xs := by
  have h2 := cutV_map id xs lo hi
  rw [List.map_id, List.map_id] at h2
  rw [h2] at h
  exact (cutL_sub xs lo hi).subset h
/-! ### lists of lists of pairs -/
abbrev HZ := Addr × List ZP
abbrev hV (g : HZ) : V := .ref g.1
/-- a few small pairs, each as its tuple -/
structure SP (H : Hp) (zs : List ZP) : Prop where
  tp : TP H zs
  few : zs.length ≤ 2305
  small : ∀ z ∈ zs, z.2.1 ≤ 1000 ∧ z.2.2 ≤ 1000
def HP (H : Hp) (gs : List HZ) : Prop := ∀ g ∈ gs, H g.1 = some (.lst (g.2.map zV)) ∧ SP H g.2
section
variable {H H' : Hp} {gs : List HZ} {zs ys : List ZP}
theorem SP.ex (h : SP H zs) (e : Ex H H') : SP H' zs := ⟨h.tp.ex e, h.few, h.small⟩
theorem SP.frp {p : Addr} (h : SP H zs) (hp : Purse H p) (e : FrP p H H') : SP H' zs := ⟨h.tp.frp hp e, h.few, h.small⟩
theorem SP.sub (h : SP H zs) (e : ys.Sublist zs) : SP H ys := ⟨h.tp.sub fun z hz => e.subset hz, Nat.le_trans e.length_le h.few, fun z hz => h.small z (e.subset hz)⟩
theorem SP.perm (h : SP H zs) (e : ys.Perm zs) : SP H ys := ⟨h.tp.perm e, by rw [e.length_eq]; exact h.few, fun z hz => h.small z (e.mem_iff.mp hz)⟩
theorem SP.up {D : Addr} {xs : List V} {u : HO} (h : SP H zs) (hD : H D = some (.lst xs)) : SP (upd H D u) zs := ⟨h.tp.up hD, h.few, h.small⟩
theorem SP.sm (h : SP H zs) : ∀ x ∈ zs.map zV, Sm H x 3 2 := fun x hx => by
  obtain ⟨z, hz, rfl⟩ := List.mem_map.mp hx
  have := h.small z hz
  exact (Sm.tup (n := 1) (k := 1) (m := 2) (h.tp z hz) (Sm.cons ((Sm.int (by omega)).up (by decide) (by decide)) (Sm.cons ((Sm.int (by omega)).up (by decide) (by decide)) Sm.nil)) (Nat.le_refl _))
theorem HP.ex (h : HP H gs) (e : Ex H H') : HP H' gs := fun g hg => ⟨e.get (h g hg).1, (h g hg).2.ex e⟩
theorem HP.frp {p : Addr} (h : HP H gs) (hp : Purse H p) (e : FrP p H H') : HP H' gs := fun g hg => ⟨e.get (zs_ne_purse (h g hg).1 hp) (h g hg).1, (h g hg).2.frp hp e⟩
theorem HP.sub {fs : List HZ} (h : HP H gs) (e : ∀ g ∈ fs, g ∈ gs) : HP H fs := fun g hg => h g (e g hg)
theorem HP.upQ {q : Addr} {xs : List V} {u : HO} (h : HP H gs) (hq : H q = some (.lst xs)) (n : ∀ g ∈ gs, g.1 ≠ q) : HP (upd H q u) gs := fun g hg => ⟨by rw [upd_ne (n g hg)]; exact (h g hg).1, (h g hg).2.up hq⟩
theorem HP.sm1 {g : HZ} (h : HP H gs) (hg : g ∈ gs) : Sm H (hV g) 6916 3 := by
  obtain ⟨h1, h2⟩ := h g hg
  exact Sm.lst (m := 2305) h1 h2.sm (by rw [List.length_map]; exact h2.few)
theorem HP.sm (h : HP H gs) : ∀ x ∈ gs.map hV, Sm H x 6916 3 := fun x hx => by
  obtain ⟨g, hg, rfl⟩ := List.mem_map.mp hx
  exact h.sm1 hg
/-- one of the lists changes -/
theorem HP.set {g : HZ} {i : Nat} (h : HP H gs) (nd : (gs.map (·.1)).Nodup) (hg : gs[i]? = some g) (hz : SP H zs) : HP (upd H g.1 (.lst (zs.map zV))) (gs.set i (g.1, zs)) := by
  have hgm := List.mem_of_getElem? hg
  have h1 := (h g hgm).1
  intro f hf
  obtain ⟨j, hj⟩ := List.getElem?_of_mem hf
  have hi : i < gs.length := (List.getElem?_eq_some_iff.mp hg).1
  by_cases e : j = i
  · subst e
    rw [List.getElem?_set_self hi] at hj
    cases hj
    exact ⟨upd_same, hz.up h1⟩
  · rw [List.getElem?_set_ne (Ne.symm e)] at hj
    have hfm := List.mem_of_getElem? hj
    have ne : f.1 ≠ g.1 := fun z => e (nd_ix (x := f.1) nd (by rw [List.getElem?_map, hj]; rfl) (by rw [List.getElem?_map, hg]; exact congrArg some z.symm))
    exact ⟨by rw [upd_ne ne]; exact (h f hfm).1, (h f hfm).2.up h1⟩
theorem hz_set_map {g : HZ} {i : Nat} (hg : gs[i]? = some g) : (gs.set i (g.1, zs)).map hV = gs.map hV ∧ (gs.set i (g.1, zs)).map (·.1) = gs.map (·.1) := by
  constructor
  · apply List.ext_getElem?
    intro j
    rw [List.getElem?_map, List.getElem?_map]
    by_cases e : j = i
    · subst e
      rw [List.getElem?_set_self (List.getElem?_eq_some_iff.mp hg).1, hg]
      rfl
    · rw [List.getElem?_set_ne (Ne.symm e)]
  · apply List.ext_getElem?
    intro j
    rw [List.getElem?_map, List.getElem?_map]
    by_cases e : j = i
    · subst e
      rw [List.getElem?_set_self (List.getElem?_eq_some_iff.mp hg).1, hg]
      rfl
    · rw [List.getElem?_set_ne (Ne.symm e)]
def encH (g : HZ) : PyData := .list (g.2.map fun z => encQ z.2)
theorem HP.rn {a : Addr} (h : HP H gs) (ha : H a = some (.lst (gs.map hV))) : Rn H (.ref a) (.list (gs.map encH)) := .lst ha (rnA_map fun g hg => (h g hg).2.tp.rnL (h g hg).1)
theorem HP.rp {a : Addr} (h : HP H gs) (ha : H a = some (.lst (gs.map hV))) : Rp H (.ref a) (.list (gs.map encH)) := .lst (lst_of ha) (rpA_map fun g hg => (h g hg).2.tp.rpL (h g hg).1)
theorem encH_depth (g : HZ) : (encH g).depth ≤ 3 := by
  have : PyData.depthAll (g.2.map fun z => encQ z.2) ≤ 2 := depth_map fun z _ => encQ_depth z.2
  simp only [encH, PyData.depth]
  omega
theorem gs_depth (gs : List HZ) : (PyData.list (gs.map encH)).depth ≤ 4 := by
  have : PyData.depthAll (gs.map encH) ≤ 3 := depth_map fun g _ => encH_depth g
  simp only [PyData.depth]
  omega
theorem okA_of {ds : List PyData} (h : ∀ d ∈ ds, okD d = true) : okA ds = true := by
  induction ds with
  | nil => rfl
  | cons d ds ih => simp only [okA, h d List.mem_cons_self, ih fun x hx => h x (List.mem_cons_of_mem _ hx), Bool.and_self]
theorem szA_le {ds : List PyData} {n : Nat} (h : ∀ d ∈ ds, szD d ≤ n) : szA ds ≤ ds.length * n := by
  induction ds with
  | nil => simp [szA]
  | cons d ds ih =>
    have h1 := h d List.mem_cons_self
    have h2 := ih fun x hx => h x (List.mem_cons_of_mem _ hx)
    simp only [szA, List.length_cons, Nat.succ_mul]
    omega
theorem hasDictA_of {ds : List PyData} (h : ∀ d ∈ ds, d.hasDict = false) : PyData.hasDictAll ds = false := by
  induction ds with
  | nil => rfl
  | cons d ds ih => simp only [PyData.hasDictAll, h d List.mem_cons_self, ih fun x hx => h x (List.mem_cons_of_mem _ hx), Bool.or_self]
theorem HP.sd {a : Addr} (h : HP H gs) (ha : H a = some (.lst (gs.map hV))) (hl : gs.length ≤ 100) : Sd H (.ref a) (.list (gs.map encH)) := by
  refine ⟨h.rn ha, fun z => ?_, ?_, ?_, Nat.le_trans (gs_depth gs) (by decide)⟩
  · have : PyData.hasDictAll (gs.map encH) = false := hasDictA_of fun d hd => by
      obtain ⟨g, hg, rfl⟩ := List.mem_map.mp hd
      exact hasDictA_of fun d hd => by
        obtain ⟨z, hz, rfl⟩ := List.mem_map.mp hd
        rfl
    simp only [PyData.hasDict, this] at z
    cases z
  · refine okA_of fun d hd => ?_
    obtain ⟨g, hg, rfl⟩ := List.mem_map.mp hd
    refine okA_of fun d hd => ?_
    obtain ⟨z, hz, rfl⟩ := List.mem_map.mp hd
    have := (h g hg).2.small z hz
    simp only [encQ, okD, okA, Bool.and_true, Bool.and_eq_true, decide_eq_true_eq]
    omega
  · have h1 : szA (gs.map encH) ≤ (gs.map encH).length * 6916 := szA_le fun d hd => by
      obtain ⟨g, hg, rfl⟩ := List.mem_map.mp hd
      have h2 : szA (g.2.map fun z => encQ z.2) ≤ (g.2.map fun z => encQ z.2).length * 3 := szA_le fun d hd => by
        obtain ⟨z, hz, rfl⟩ := List.mem_map.mp hd
        simp [encQ, szD, szA]
      have h3 := (h g hg).2.few
      rw [List.length_map] at h2
      simp only [encH, szD]
      omega
    rw [List.length_map] at h1
    simp only [szD]
    omega
theorem eqv_gs_nil (gs : List HZ) : PyData.eqv (.list (gs.map encH)) (.list []) = decide (gs = []) := eqv_nil_r gs
variable {K : PySem.W.Frag} {Q : VK}
theorem st_ixH {D : Addr} {i : Int} (h1 : H D = some (.lst (gs.map hV))) (h0 : 0 ≤ i) (hi : i < gs.length) (h : ∀ g, gs[i.toNat]? = some g → g ∈ gs → Q (hV g) H) : rIxU K (.ref D) (.int i) H Q := by
  obtain ⟨g, hg⟩ : ∃ g, gs[i.toNat]? = some g := ⟨gs[i.toNat]'(by omega), List.getElem?_eq_getElem _⟩
  refine st_ixL h1 (v := hV g) ?_ (h g hg (List.mem_of_getElem? hg))
  have := at_mapN (f := hV) hg
  rwa [show ((i.toNat : Nat) : Int) = i by omega] at this
theorem st_ixP {D : Addr} {i : Int} (h1 : H D = some (.lst (zs.map zV))) (h0 : 0 ≤ i) (hi : i < zs.length) (h : ∀ z, zs[i.toNat]? = some z → z ∈ zs → Q (zV z) H) : rIxU K (.ref D) (.int i) H Q := by
  obtain ⟨z, hz⟩ : ∃ z, zs[i.toNat]? = some z := ⟨zs[i.toNat]'(by omega), List.getElem?_eq_getElem _⟩
  refine st_ixL h1 (v := zV z) ?_ (h z hz (List.mem_of_getElem? hz))
  have := at_mapN (f := zV) hz
  rwa [show ((i.toNat : Nat) : Int) = i by omega] at this
/-- new lists with the pairs of others -/
theorem hp_copy {ts : List Addr} (f : List ZP → List ZP) (h : ObjsAt H' ts (gs.map fun g => .lst ((f g.2).map zV))) (hs : ∀ g ∈ gs, SP H' (f g.2)) : ∃ fs : List HZ, fs.map hV = ts.map V.ref ∧ fs.map (·.1) = ts ∧ fs.map (·.2) = gs.map (fun g => f g.2) ∧ HP H' fs := by
  have hl := h.len
  rw [List.length_map] at hl
  refine ⟨ts.zip (gs.map fun g => f g.2), ?_, List.map_fst_zip (by rw [List.length_map]; omega), List.map_snd_zip (by rw [List.length_map]; omega), ?_⟩
  · have : (ts.zip (gs.map fun g => f g.2)).map Prod.fst = ts := List.map_fst_zip (by rw [List.length_map]; omega)
    rw [show (hV : HZ → V) = V.ref ∘ Prod.fst from rfl, ← List.map_map, this]
  · intro g hg
    obtain ⟨j, hj⟩ := List.getElem?_of_mem hg
    rw [List.getElem?_zip_eq_some] at hj
    obtain ⟨j1, j2⟩ := hj
    rw [List.getElem?_map] at j2
    cases hq : gs[j]? with
    | none => rw [hq] at j2; cases j2
    | some z =>
      rw [hq] at j2
      have e : f z.2 = g.2 := Option.some.inj j2
      have := h.at j _ _ j1 (by rw [List.getElem?_map, hq]; rfl)
      rw [this, ← e]
      exact ⟨rfl, hs z (List.mem_of_getElem? hq)⟩
end
theorem Sm.cut {H : Hp} {xs : List V} {n k : Nat} {lo hi : Option Int} (h : ∀ x ∈ xs, Sm H x n k) : ∀ x ∈ cutV xs lo hi, Sm H x n k := fun x hx => h x (cutV_mem hx)
/-- any small data -/
def SdE (H : Hp) (v : V) : Prop := ∃ d, Sd H v d
theorem SdE.of {H : Hp} {v : V} {n k : Nat} (h : Sm H v n k) (h1 : n ≤ 999999) (h2 : k ≤ 59) : SdE H v := h.sd h1 h2
theorem SdE.ex {H H' : Hp} {v : V} (h : SdE H v) (e : Ex H H') : SdE H' v := by
  obtain ⟨d, h⟩ := h
  exact ⟨d, h.ex e⟩
theorem allE_nil {P : V → Prop} : ∀ x ∈ ([] : List V), P x := fun _ h => nomatch h
theorem allE_cons {P : V → Prop} {y : V} {ys : List V} (h : P y) (k : ∀ x ∈ ys, P x) : ∀ x ∈ y :: ys, P x := fun x hx => by
  rcases List.mem_cons.mp hx with e | e
  · rw [e]; exact h
  · exact k x e
theorem allE_app {P : V → Prop} {xs ys : List V} (h : ∀ x ∈ xs, P x) (k : ∀ x ∈ ys, P x) : ∀ x ∈ xs ++ ys, P x := fun x hx => by
  rcases List.mem_append.mp hx with e | e
  · exact h x e
  · exact k x e
mutual
/-- a thing is one data -/
theorem Rn.det {H : Hp} : ∀ {v : V} {d d' : PyData}, Rn H v d → Rn H v d' → d = d'
  | _, _, _, .non, .non => rfl
  | _, _, _, .bl _, .bl _ => rfl
  | _, _, _, .int _, .int _ => rfl
  | _, _, _, .str _, .str _ => rfl
  | _, _, _, .lst h k, .lst h' k' => by
    rw [h] at h'
    cases h'
    rw [RnA.det k k']
  | _, _, _, .tup h k, .tup h' k' => by
    rw [h] at h'
    cases h'
    rw [RnA.det k k']
  | _, _, _, .dk _, .dk _ => rfl
  | _, _, _, .lst h _, .tup h' _ => by rw [h] at h'; cases h'
  | _, _, _, .lst h _, .dk h' => by rw [h] at h'; cases h'
  | _, _, _, .tup h _, .lst h' _ => by rw [h] at h'; cases h'
  | _, _, _, .tup h _, .dk h' => by rw [h] at h'; cases h'
  | _, _, _, .dk h, .lst h' _ => by rw [h] at h'; cases h'
  | _, _, _, .dk h, .tup h' _ => by rw [h] at h'; cases h'
theorem RnA.det {H : Hp} : ∀ {vs : List V} {ds ds' : List PyData}, RnA H vs ds → RnA H vs ds' → ds = ds'
  | _, _, _, .nil, .nil => rfl
  | _, _, _, .cons h k, .cons h' k' => by rw [Rn.det h h', RnA.det k k']
end
theorem SdE.sd {H : Hp} {v : V} {d : PyData} (h : SdE H v) (r : Rn H v d) : Sd H v d := by
  obtain ⟨d', h⟩ := h
  rw [r.det h.rn]
  exact h
/-! ### sizes summed up -/
def SmA (H : Hp) (xs : List V) (n k : Nat) : Prop := ∃ ds, RnA H xs ds ∧ PyData.hasDictAll ds = false ∧ okA ds = true ∧ szA ds ≤ n ∧ PyData.depthAll ds ≤ k
section
variable {H : Hp} {v : V} {xs ys : List V} {n m k : Nat}
theorem SmA.of (h : ∀ x ∈ xs, Sm H x n k) (hm : xs.length ≤ m) : SmA H xs (m * n) k := by
  obtain ⟨ds, a, b, c, d, e⟩ := Sm.all h
  exact ⟨ds, a, b, c, Nat.le_trans d (Nat.mul_le_mul_right n hm), e⟩
theorem SmA.up {n' k' : Nat} (h : SmA H xs n k) (h1 : n ≤ n') (h2 : k ≤ k') : SmA H xs n' k' := by
  obtain ⟨ds, a, b, c, d, e⟩ := h
  exact ⟨ds, a, b, c, by omega, by omega⟩
theorem SmA.nil : SmA H [] 0 k := ⟨[], .nil, rfl, rfl, by simp [szA], by simp [PyData.depthAll]⟩
theorem SmA.cons (h : Sm H v n k) (t : SmA H xs m k) : SmA H (v :: xs) (n + m) k := by
  obtain ⟨ds, a, b, c, d, e⟩ := t
  obtain ⟨x, a1, b1, c1, d1, e1⟩ := h
  refine ⟨x :: ds, .cons a1 a, by simp [PyData.hasDictAll, b, b1], by simp [okA, c, c1], ?_, ?_⟩
  · simp only [szA]; omega
  · simp only [PyData.depthAll]; omega
theorem SmA.app : ∀ {xs : List V} {n : Nat}, SmA H xs n k → SmA H ys m k → SmA H (xs ++ ys) (n + m) k
  | [], n, _, t => t.up (by omega) (Nat.le_refl _)
  | x :: xs, n, ⟨ds, a, b, c, d, e⟩, t => by
    cases a with
    | @cons _ _ d0 ds0 a1 a2 =>
      simp only [PyData.hasDictAll, Bool.or_eq_false_iff] at b
      simp only [okA, Bool.and_eq_true] at c
      simp only [szA] at d
      simp only [PyData.depthAll] at e
      have h := SmA.app (xs := xs) ⟨ds0, a2, b.2, c.2, Nat.le_refl _, by omega⟩ t
      exact (SmA.cons (n := szD d0) ⟨d0, a1, b.1, c.1, Nat.le_refl _, by omega⟩ h).up (by omega) (Nat.le_refl _)
theorem SmA.lst {a : Addr} (h : H a = some (.lst xs)) (t : SmA H xs n k) : Sm H (.ref a) (1 + n) (k + 1) := by
  obtain ⟨ds, h1, h2, h3, h4, h5⟩ := t
  exact ⟨.list ds, .lst h h1, by simpa only [PyData.hasDict] using h2, by simpa only [okD] using h3, by simp only [szD]; omega, by simp only [PyData.depth]; omega⟩
theorem SmA.tup {a : Addr} (h : H a = some (.tup xs)) (t : SmA H xs n k) : Sm H (.ref a) (1 + n) (k + 1) := by
  obtain ⟨ds, h1, h2, h3, h4, h5⟩ := t
  exact ⟨.tuple ds, .tup h h1, by simpa only [PyData.hasDict] using h2, by simpa only [okD] using h3, by simp only [szD]; omega, by simp only [PyData.depth]; omega⟩
theorem ObjsAt.mem {ts : List Addr} {os : List HO} (h : ObjsAt H ts os) {a : Addr} (ha : a ∈ ts) : ∃ o ∈ os, H a = some o := by
  obtain ⟨j, hj⟩ := List.getElem?_of_mem ha
  have hl := h.len
  have hjl := (List.getElem?_eq_some_iff.mp hj).1
  obtain ⟨o, ho⟩ : ∃ o, os[j]? = some o := ⟨os[j]'(by omega), List.getElem?_eq_getElem _⟩
  exact ⟨o, List.mem_of_getElem? ho, h.at j a o hj ho⟩
theorem SP.smA {zs : List ZP} (h : SP H zs) (hm : zs.length ≤ m) : SmA H (zs.map zV) (m * 3) 2 := SmA.of h.sm (by rw [List.length_map]; exact hm)
theorem HP.smA {gs : List HZ} (h : HP H gs) (hm : gs.length ≤ m) : SmA H (gs.map hV) (m * 6916) 3 := SmA.of h.sm (by rw [List.length_map]; exact hm)
theorem SmA.cut {lo hi : Option Int} (h : ∀ x ∈ xs, Sm H x n k) (hm : xs.length ≤ m) : SmA H (cutV xs lo hi) (m * n) k := SmA.of (Sm.cut h) (Nat.le_trans (cutV_length _ _ _) hm)
end
theorem eqv_gs (gs fs : List HZ) : PyData.eqv (.list (gs.map encH)) (.list (fs.map encH)) = decide (gs.map (fun g => g.2.map (·.2)) = fs.map fun g => g.2.map (·.2)) := by
  have h := eqv_list (enc := fun l : List (Nat × Nat) => PyData.list (l.map encQ)) (eqv_list eqv_encQ) (gs.map fun g => g.2.map (·.2)) (fs.map fun g => g.2.map (·.2))
  have e : ∀ gs : List HZ, gs.map encH = (gs.map fun g => g.2.map (·.2)).map fun l : List (Nat × Nat) => PyData.list (l.map encQ) := fun gs => by
    rw [List.map_map]
    exact List.map_congr_left fun g _ => by simp only [encH, Function.comp, List.map_map]; rfl
  rw [e, e]
  exact h
/-! ### where one list q changes -/
theorem SP.frq {H H' : Hp} {q : Addr} {zs : List ZP} {xs : List V} (h : SP H zs) (hq : H q = some (.lst xs)) (e : FrP q H H') : SP H' zs := ⟨fun z hz => e.get (fun y => by have := h.tp z hz; rw [y, hq] at this; cases this) (h.tp z hz), h.few, h.small⟩
theorem HP.frq {H H' : Hp} {q : Addr} {gs : List HZ} {xs : List V} (h : HP H gs) (hq : H q = some (.lst xs)) (n : ∀ g ∈ gs, g.1 ≠ q) (e : FrP q H H') : HP H' gs := fun g hg => ⟨e.get (n g hg) (h g hg).1, (h g hg).2.frq hq e⟩
theorem Purse.frq {H H' : Hp} {p q : Addr} (h : Purse H p) (n : p ≠ q) (e : FrP q H H') : Purse H' p := by
  obtain ⟨x, y, z, h⟩ := h
  exact ⟨x, y, z, e.get n h⟩
/-! ### where things of M change, none of them a tuple -/
theorem SP.frm {M : Addr → Prop} {H H' : Hp} {zs : List ZP} (h : SP H zs) (e : Fr M H H') (t : ∀ b xs, H b = some (.tup xs) → ¬ M b) : SP H' zs := ⟨fun z hz => e.get (t _ _ (h.tp z hz)) (h.tp z hz), h.few, h.small⟩
theorem HP.frm {M : Addr → Prop} {H H' : Hp} {gs : List HZ} (h : HP H gs) (e : Fr M H H') (n : ∀ g ∈ gs, ¬ M g.1) (t : ∀ b xs, H b = some (.tup xs) → ¬ M b) : HP H' gs := fun g hg => ⟨e.get (n g hg) (h g hg).1, (h g hg).2.frm e t⟩
theorem Ex.comp {M : Addr → Prop} {H0 H H' : Hp} (e0 : Ex H0 H) (e : Fr M H H') (n : ∀ b, M b → H0 b = none) : Ex H0 H' := fun b o _ q => e b o (fun m => by rw [n b m] at q; cases q) (e0 b o (fun z => z) q)
end Zb

/-! things that are shown; isinstance of several classes -/
namespace Zb
open PySem PySem.Spec PyProof.Rows L2
mutual
theorem Rq.ex {H H' : Hp} (e : Ex H H') : ∀ {v : V} {d : PyData}, Rq H v d → Rq H' v d
  | _, _, .non => .non
  | _, _, .bl b => .bl b
  | _, _, .int i => .int i
  | _, _, .str x => .str x
  | _, _, .lst h k => .lst (lstAt_ex e h) (RqA.ex e k)
  | _, _, .tup h k => .tup (tupAt_ex e h) (RqA.ex e k)
  | _, _, .dk h k => .dk (e.get h) (RqA.ex e k)
theorem RqA.ex {H H' : Hp} (e : Ex H H') : ∀ {vs : List V} {ds : List PyData}, RqA H vs ds → RqA H' vs ds
  | _, _, .nil => .nil
  | _, _, .cons h k => .cons (Rq.ex e h) (RqA.ex e k)
end
/-- v is d, and is shown by n signs at most, k deep -/
structure Sh (H : Hp) (v : V) (d : PyData) (n k : Nat) : Prop where
  rq : Rq H v d
  sw : d.showable = true
  dp : d.depth ≤ k
  sz : d.shown.length ≤ n
section
variable {H H' : Hp} {v : V} {d : PyData} {n k : Nat} {Q : VK}
theorem Sh.ex (h : Sh H v d n k) (e : Ex H H') : Sh H' v d n k := ⟨h.rq.ex e, h.sw, h.dp, h.sz⟩
theorem Sh.up {n' k' : Nat} (h : Sh H v d n k) (h1 : n ≤ n') (h2 : k ≤ k') : Sh H v d n' k' := ⟨h.rq, h.sw, by have := h.dp; omega, by have := h.sz; omega⟩
theorem Sd.sh (h : Sd H v d) : Sh H v d 16000000 59 := ⟨h.rn.rq, okD_showable d h.ok, h.dp, by
  have h1 := okD_shown d h.ok
  have h2 := h.sz
  omega⟩
theorem st_reprS (h : Sh H v d 16777216 60) (q : Q (.str d.shown) H) : rRepr [v] H Q := ⟨v, d, rfl, h.rq, h.sw, h.dp, h.sz, q⟩
theorem Sh.non : Sh H .non .none 4 0 := ⟨.non, rfl, by simp [PyData.depth], by decide⟩
theorem Sh.bl (b : Bool) : Sh H (.bl b) (.bool b) 5 0 := ⟨.bl b, rfl, by simp [PyData.depth], by cases b <;> decide⟩
theorem Sh.str {x : Str} (hx : ∀ c ∈ x.cps.toList, c < 16 ^ 8) : Sh H (.str x) (.str x) (10 * x.length + 2) 0 := ⟨.str x, rfl, by simp [PyData.depth], PySem.StrLaws.reprText_len x hx⟩
theorem Sh.int {i : Int} {m : Nat} (hm : 0 < m) (h : i.natAbs < 10 ^ m) (h2 : i.natAbs.log2 < 1920) : Sh H (.int i) (.int i) (m + 1) 0 := ⟨.int i, by simpa only [PyData.showable, decide_eq_true_eq] using h2, by simp [PyData.depth], by
  have e := int_text_length_le10 hm h
  have e2 : (Str.ofString (toString i)).length = (toString i).length := PySem.ofString_length _
  show (Str.ofString (toString i)).length ≤ _
  omega⟩
/-- rows of shown things -/
inductive ShA (H : Hp) (k : Nat) : List V → List PyData → Nat → Prop
  | nil : ShA H k [] [] 0
  | cons {v : V} {d : PyData} {n : Nat} {vs : List V} {ds : List PyData} {m : Nat} : Sh H v d n k → ShA H k vs ds m → ShA H k (v :: vs) (d :: ds) (n + 2 + m)
theorem ShA.all : ∀ {vs : List V} {ds : List PyData} {m : Nat}, ShA H k vs ds m → RqA H vs ds ∧ PyData.showableAll ds = true ∧ PyData.depthAll ds ≤ k ∧ ((PyData.shownAll ds).map (·.length)).sum + 2 * ds.length ≤ m
  | _, _, _, .nil => ⟨.nil, rfl, by simp [PyData.depthAll], by simp [PyData.shownAll]⟩
  | _, _, _, .cons h t => by
    obtain ⟨a, b, c, e⟩ := ShA.all t
    refine ⟨.cons h.rq a, by simp [PyData.showableAll, h.sw, b], ?_, ?_⟩
    · have := h.dp
      simp only [PyData.depthAll]; omega
    · have := h.sz
      simp only [PyData.shownAll, List.map_cons, List.sum_cons, List.length_cons]; omega
theorem ShA.lst {a : Addr} {xs : List V} {ds : List PyData} (h : H a = some (.lst xs)) (t : ShA H k xs ds n) : Sh H (.ref a) (.list ds) (n + 3) (k + 1) := by
  obtain ⟨r, s, dp, sz⟩ := t.all
  have h2 := listText_len_le (PyData.shownAll ds)
  have h3 := PyData.shownAll_length ds
  exact ⟨.lst (lst_of h) r, by simpa only [PyData.showable] using s, by simp only [PyData.depth]; omega, by simp only [PyData.shown]; omega⟩
theorem ShA.tup {a : Addr} {xs : List V} {ds : List PyData} (h : H a = some (.tup xs)) (t : ShA H k xs ds n) : Sh H (.ref a) (.tuple ds) (n + 3) (k + 1) := by
  obtain ⟨r, s, dp, sz⟩ := t.all
  have h2 := tupleText_len_le (PyData.shownAll ds)
  have h3 := PyData.shownAll_length ds
  exact ⟨.tup (tup_of h) r, by simpa only [PyData.showable] using s, by simp only [PyData.depth]; omega, by simp only [PyData.shown]; omega⟩
theorem ShA.map {α : Type} {val : α → V} {enc : α → PyData} {m : Nat} : ∀ {xs : List α}, (∀ x ∈ xs, Sh H (val x) (enc x) m k) → ShA H k (xs.map val) (xs.map enc) (xs.length * (m + 2))
  | [], _ => by rw [List.length_nil, Nat.zero_mul]; exact .nil
  | x :: xs, h => by
    have := ShA.cons (h x List.mem_cons_self) (ShA.map fun y hy => h y (List.mem_cons_of_mem _ hy))
    rw [List.length_cons, Nat.succ_mul]
    rwa [show xs.length * (m + 2) + (m + 2) = m + 2 + xs.length * (m + 2) by omega]
theorem Sh.dk0 {a : Addr} (h : H a = some (.dK [])) : Sh H (.ref a) (.dict []) 2 1 := ⟨.dk0 h, rfl, by simp [PyData.depth, PyData.depthKv], by decide +kernel⟩
/-- {x: v} by a text -/
theorem Sh.dk1 {a : Addr} {x : Str} (hx : ∀ c ∈ x.cps.toList, c < 16 ^ 8) (h : H a = some (.dK [(.inr x, v)])) (hv : Sh H v d n k) : Sh H (.ref a) (.dict [(.str x, d)]) (10 * x.length + n + 9) (k + 1) := by
  refine ⟨.dk h (.cons hv.rq .nil), by simp [PyData.showable, PyData.showableKv, hv.sw], ?_, ?_⟩
  · have := hv.dp
    simp only [PyData.depth, PyData.depthKv]; omega
  · have h1 := PySem.StrLaws.reprText_len x hx
    have h2 := hv.sz
    have h3 := dictText_len_le (PyData.shownKv [(.str x, d)])
    have e2 : ((PyData.str x).shown ++ ": " ++ d.shown).length = (PyData.str x).shown.length + 2 + d.shown.length := by
      rw [strLen_append, strLen_append]; rfl
    have e3 : (PyData.str x).shown.length = (reprText x).length := rfl
    simp only [PyData.shown, PyData.shownKv, List.map_cons, List.map_nil, List.sum_cons, List.sum_nil, List.length_cons, List.length_nil] at h3 e2 e3 ⊢
    omega
end
/-! ### isinstance of an exception, of several classes -/
def rIsXs (K : PySem.W.Frag) (a : Addr) (cls : Value) (d : Option Addr) : List V → Hp → VK → Prop := fun xs H Q => ∃ (tp : Addr) (cs : List V) (cvs : List Value) (b : Bool) (C dd : Addr) (fs : List (Str × V)), xs = [.ref a, .ref tp] ∧ H tp = some (.tup cs) ∧ (∀ us, Vals cs us → us = cvs) ∧ cls = .ref C ∧ XI K C ∧ d = some dd ∧ H dd = some (.xd fs) ∧ PySem.W.kitAny K (.ref C) cvs = some b ∧ Q (.bl b) H
theorem call_isXs {X : Cx} {a : Addr} {cls : Value} {d : Option Addr} {oe : Obj} {pn : List (Addr × Obj)} (hz : Zc cls d oe) (hf : ∃ vs, oe.data = .fields vs) : CallR (X.suite a ((a, oe) :: pn)) (.builtin "isinstance") (rIsXs X.K a cls d) := by
  intro pins s σ H xs us Q I r h
  obtain ⟨tp, cs, cvs, b, C, dd, fs, rfl, htp, hcv, ec, T, ed, ea, e, q⟩ := h
  subst ec
  subst ed
  cases r with
  | cons rx rr =>
    cases rr with
    | cons rt rr =>
      cases rr
      cases rx
      cases rt
      obtain ⟨its, rv, ⟨o, h1, h2, n, h3⟩, _⟩ := I.tuple (.inl (.inl htp))
      have := hcv its rv
      subst this
      obtain ⟨hget, _⟩ := I.pin (a, oe) (List.mem_append.mpr (.inl List.mem_cons_self))
      obtain ⟨vs, hv⟩ := hf
      have hx : ObjOk X.prog X.w H s.heap dd (.xd fs) := I.hok dd _ ea
      obtain ⟨mA, hns, hr⟩ := hx
      obtain ⟨od, ho, hl⟩ := lookIn_ns hns
      have J : PySem.W.InstAt s.heap a oe C (some od) := ⟨hget, hz.1, by unfold PySem.W.notCls; rw [hv] <;> rfl, by rw [hz.2]; exact ho⟩
      obtain ⟨oc, odd, oda, osl⟩ := o
      dsimp only at h2 h3
      subst h2 h3
      exact PySem.W.kia_tup (PySem.W.kitx_exc T.hc T.ga T.gg T.sb T.ca T.cn T.ct T.cm) I.kIn J h1 e (fun z => nomatch z) fun tk => ⟨.bl b, H, I.kept (t' := tk) fun _ _ z => z, rfl, q⟩
section
variable {K : PySem.W.Frag} {H : Hp} {Q : VK}
theorem st_isXs2 {a C C1 C2 dd tp : Addr} {fs : List (Str × V)} {b1 b2 : Bool} (T : XI K C) (h1 : H dd = some (.xd fs)) (ht : H tp = some (.tup [.ref C1, .ref C2])) (e1 : PySem.W.kitOne K (.ref C) (.ref C1) = some b1) (e2 : PySem.W.kitOne K (.ref C) (.ref C2) = some b2) (h : Q (.bl (b1 || b2)) H) : rIsXs K a (.ref C) (some dd) [.ref a, .ref tp] H Q := by
  refine ⟨tp, _, [.ref C1, .ref C2], b1 || b2, C, dd, fs, rfl, ht, fun us r => ?_, rfl, T, rfl, h1, ?_, h⟩
  · cases r with
    | cons r1 rr =>
      cases rr with
      | cons r2 rr =>
        cases rr
        cases r1
        cases r2
        rfl
  · unfold PySem.W.kitAny
    rw [e1]
    cases b1 with
    | true => rfl
    | false =>
      show PySem.W.kitAny K _ [.ref C2] = _
      unfold PySem.W.kitAny
      rw [e2]
      cases b2 <;> rfl
end
/-! ### lengths of texts -/
theorem fold_len' (z : Str) (n : Nat) (h : 1 < n) (hz : 0 < z.length) : (Txt.mul z (n : Int)).length = z.length * n := by
  unfold Txt.mul
  rw [if_neg (by omega)]
  have h2 : ¬ (((n : Int) == 1 || z.length == 0) = true) := by simp; omega
  rw [if_neg h2]
  show ((List.replicate (n : Int).toNat z.cps).foldl (· ++ ·) #[]).size = _
  rw [fold_len, Int.toNat_natCast, Nat.mul_comm]
  simp
  rfl
theorem cutS_to_len (z : Str) (n : Nat) (h : n ≤ z.length) : (cutS z none (some (n : Int))).length = n := by
  show ((z.cps.toList.drop _).take _).toArray.size = _
  rw [HT.sIx_none, HT.sIx_nat, List.size_toArray, List.length_take, List.length_drop, Array.length_toList]
  show min (min n z.cps.size - 0) (z.cps.size - 0) = n
  have : z.cps.size = z.length := rfl
  omega
theorem fold_mem {x : Nat} (a : Array Nat) : ∀ (n : Nat) (b : Array Nat), x ∈ ((List.replicate n a).foldl (· ++ ·) b).toList → x ∈ b.toList ∨ x ∈ a.toList
  | 0, b, h => .inl h
  | n + 1, b, h => by
    rw [List.replicate_succ, List.foldl_cons] at h
    rcases fold_mem a n _ h with h | h
    · rw [Array.toList_append] at h
      exact List.mem_append.mp h
    · exact .inr h
theorem mul_mem {x : Nat} {z : Str} {n : Int} (h : x ∈ (Txt.mul z n).cps.toList) : x ∈ z.cps.toList := by
  unfold Txt.mul at h
  split at h
  · cases h
  · split at h
    · exact h
    · rcases fold_mem _ _ _ h with h | h
      · cases h
      · exact h
/-! ### a heap without one thing -/
def hid (p : Addr) (H : Hp) : Hp := fun b => if b = p then none else H b
theorem hid_get {p a : Addr} {H : Hp} {o : HO} (h : H a = some o) (n : a ≠ p) : hid p H a = some o := by
  unfold hid
  rw [if_neg n]
  exact h
theorem hid_ex (p : Addr) (H : Hp) : Ex (hid p H) H := fun b o _ h => by
  unfold hid at h
  split at h
  · cases h
  · exact h
theorem hid_frp {p : Addr} {H H' : Hp} (e : FrP p H H') : Ex (hid p H) (hid p H') := fun b o _ h => by
  unfold hid at h ⊢
  by_cases n : b = p
  · rw [if_pos n] at h; cases h
  · rw [if_neg n] at h ⊢
    exact e b o n h
end Zb

/-! == of data, or of one empty dict with itself -/
namespace Zb
open PySem PySem.Spec PyProof.Rows L2
def rEqA (K : PySem.W.Frag) : R2 := fun x y H Q => rEqU x y H Q ∨ rEqV K x y H Q
theorem o_eqA {X : Cx} {K : PySem.W.Frag} (hu : X.A.units + 64 < cLine) (hK : X.K = K := by rfl) : OpR X (compareOp .Eq) (rEqA K) := by
  subst hK
  intro pins s σ H x y v u Q I rx ry h
  rcases h with h | h
  · exact o_eq hu pins s σ H x y v u Q I rx ry h
  · exact op_eqV hu pins s σ H x y v u Q I rx ry h
section
variable {K : PySem.W.Frag} {H : Hp} {Q : VK}
theorem st_eqA {x y : V} {d e : PyData} (h1 : Rp H x d) (h2 : Rp H y e) (hd : min d.depth e.depth ≤ 64) (h : Q (.bl (PyData.eqv d e)) H) : rEqA K x y H Q := .inl ⟨d, e, h1, h2, hd, h⟩
theorem st_eqA0 {a : Addr} (h1 : H a = some (.dK [])) (h : Q (.bl true) H) : rEqA K (.ref a) (.ref a) H Q :=
  .inr ⟨0, by decide, .inr ⟨a, a, [], [], rfl, rfl, h1, h1, rfl, fun _ h => (List.not_mem_nil h).elim⟩, h⟩
mutual
theorem eqv_self : ∀ d : PyData, d.hasDict = false → PyData.eqv d d = true
  | .none, _ => rfl
  | .bool b, _ => by simp [PyData.eqv]
  | .int i, _ => by simp [PyData.eqv]
  | .str x, _ => by simp [PyData.eqv]
  | .list ds, h => by
    simp only [PyData.eqv]
    exact eqvAll_self ds (by simpa only [PyData.hasDict] using h)
  | .tuple ds, h => by
    simp only [PyData.eqv]
    exact eqvAll_self ds (by simpa only [PyData.hasDict] using h)
  | .dict kvs, h => by simp [PyData.hasDict] at h
theorem eqvAll_self : ∀ ds : List PyData, PyData.hasDictAll ds = false → PyData.eqvAll ds ds = true
  | [], _ => rfl
  | d :: ds, h => by
    simp only [PyData.hasDictAll, Bool.or_eq_false_iff] at h
    simp only [PyData.eqvAll, eqv_self d h.1, eqvAll_self ds h.2, Bool.and_self]
end
/-- a thing is like itself -/
theorem st_eqSelf {x : V} {d : PyData} (h1 : Rn H x d) (hd : d.hasDict = true → d = .dict []) (hp : d.depth ≤ 64) (h : Q (.bl true) H) : rEqA K x x H Q := by
  cases hb : d.hasDict with
  | false => exact st_eqA (h1.rp hb) (h1.rp hb) (by omega) (by rw [eqv_self d hb]; exact h)
  | true =>
    have := hd hb
    subst this
    cases h1 with
    | dk h2 => exact st_eqA0 h2 h
end
end Zb

/-! stores into slices, list(range), walks over a list or a tuple, enumerate of a tuple -/
namespace Zb
open PySem PySem.Spec PyProof.Rows L2
/-! ### o[lo:hi] = a list -/
def gSl (to : TE) (tl th : TO) : TG := fun v σ H Q => to σ H fun o H1 => tl σ H1 fun l H2 => th σ H2 fun u H3 => ∃ (p q : Addr) (xs ys : List V) (a c : Int), o = .ref p ∧ v = .ref q ∧ l = some a ∧ u = some c ∧ H3 p = some (.lst xs) ∧ H3 q = some (.lst ys) ∧ p ≠ q ∧ 0 ≤ a ∧ a ≤ c ∧ c ≤ xs.length ∧ xs.length + ys.length ≤ 16777216 ∧ Q σ (upd H3 p (.lst (xs.take a.toNat ++ ys ++ xs.drop c.toNat)))
theorem pg_slice {X : Cx} {pos p2 : Pos} {o : Expr} {lo hi : Option Expr} {to : TE} {tl th : TO} (ho : PE X o to) (hl : PO X lo tl) (hu : PO X hi th)
    (ha : ∀ v, assign (.Subscript o (.Slice lo hi none p2) pos) X.env v = (do
      let w ← holding [v] (eval o X.env)
      let k ← holding [v, w] (eval (.Slice lo hi none p2) X.env)
      standAt pos
      holding [v, w, k] (setItem w k v)
      release [v, w, k] []) := by intro _; rfl) : PG X (.Subscript o (.Slice lo hi none p2) pos) (gSl to tl th) := by
  refine ⟨fun pins s σ H v u Q I r h => ?_⟩
  rw [ha]
  refine wpAny_bind (wpAny_holding (thn (ho.run pins s σ H _ I h) fun w s1 ⟨x, H1, I1, r1, q1⟩ => ?_))
  refine wpAny_bind (wpAny_holding (wpAny_Slice (thn (hl.run pins s1 σ H1 _ I1 q1) fun vl s2 ⟨l, H2, I2, pl, q2⟩ => thn (hu.run pins s2 σ H2 _ I2 q2) fun vu s3 ⟨m, H3, I3, pu, q3⟩ => ?_)))
  rw [evalPart_none]
  refine wpAny_pure ?_
  obtain ⟨p, q, xs, ys, a, c, rfl, rfl, rfl, rfl, hp, hq, hne, h0, hac, hc, hz, q3⟩ := q3
  have I4 : Inv X pins σ H3 { s3 with heap := s3.heap.push { cls := .type "slice", data := .fields #[vl, vu, .none] } } := I3.kept (t' := s3.toks) fun _ _ z => Heap.get?_push_of_some _ z
  cases r
  cases r1
  cases pl with
  | int _ ta =>
    cases pu with
    | int _ tc =>
      refine wpAny_bind (wpAny_standAt (wpAny_bind (wpAny_holding (set_slice I4 hp hq hne (Heap.IsSliceOf.new ..) ⟨ta, rfl⟩ ⟨tc, rfl⟩ h0 hac hc (by rw [sl16]; exact hz) fun s5 I5 => ?_))))
      exact wpAny_release ⟨σ, _, I5, q3⟩
theorem st_gsl {to : TE} {tl th : TO} {v : V} {σ : L2.St} {H : Hp} {R : L2.St → Hp → Prop} (h : to σ H fun o H1 => tl σ H1 fun l H2 => th σ H2 fun u H3 => ∃ (p q : Addr) (xs ys : List V) (a c : Int), o = .ref p ∧ v = .ref q ∧ l = some a ∧ u = some c ∧ H3 p = some (.lst xs) ∧ H3 q = some (.lst ys) ∧ p ≠ q ∧ 0 ≤ a ∧ a ≤ c ∧ c ≤ xs.length ∧ xs.length + ys.length ≤ 16777216 ∧ R σ (upd H3 p (.lst (xs.take a.toNat ++ ys ++ xs.drop c.toNat)))) : gSl to tl th v σ H R := h
/-! ### list(range(..)) -/
abbrev TRg := L2.St → Hp → (Int → Int → Int → Hp → Prop) → Prop
def PRgC (X : Cx) (e : Expr) (t : TRg) : Prop := ∀ (pins : List (Addr × Obj)) (s : Shared) (σ : L2.St) (H : Hp) (Q : Int → Int → Int → Hp → Prop), Inv X pins σ H s → t σ H Q →
  wpAny (model X.prog X.w) X.A (eval e X.env) (fun x s' => ∃ r a b c t u v H', x = .ref r ∧ IsRange s'.heap r a b c t u v ∧ Inv X pins σ H' s' ∧ Q a b c H') X.xe s
def tRgC (ta : TA) : TRg := fun σ H Q => ta σ H fun vs H1 => match vs with
  | [.int n] => Q 0 n 1 H1
  | [.int i, .int j] => Q i j 1 H1
  | [.int i, .int j, .int c] => c ≠ 0 ∧ c.natAbs < 1073741824 ∧ Q i j c H1
  | _ => False
section
variable {X : Cx}
theorem prgC {es : List Expr} {e : Expr} {ta : TA} {p pos : Pos} (hg : Gl X "range") (hm : X.mg "range" = none) (ha : PA X (e :: es) ta) (hs : starEach (e :: es) X.env = (false, eval e X.env) :: starEach es X.env := by rfl)
    (hpl : (backTo pos (starEach es X.env)).any (·.1) = false := by rfl) : PRgC X (.Call (.Name "range" p) (e :: es) [] pos) (tRgC ta) := by
  intro pins s σ H Q I h
  refine Call_ (ld_blt I hg hm boot_range (PyProof.Rows.callWith_type1 (thn (ha.run pos pins s σ H _ I h) fun us s1 ⟨vs, H1, I1, r1, q1⟩ => ?_) hs hpl))
  dsimp only at q1
  split at q1
  · obtain ⟨u, rfl, t, rfl⟩ := vals1 r1
    exact call_range_1 ⟨_, _, _, _, _, _, _, H1, rfl, IsRange.new _ _ _ _ _ _ _, I1.kept fun _ _ z => Heap.get?_push_of_some _ z, q1⟩
  · obtain ⟨u, w, rfl, ⟨t, rfl⟩, t', rfl⟩ := vals2 r1
    exact call_range_2 ⟨_, _, _, _, _, _, _, H1, rfl, IsRange.new _ _ _ _ _ _ _, I1.kept fun _ _ z => Heap.get?_push_of_some _ z, q1⟩
  · obtain ⟨c0, c1, q1⟩ := q1
    cases r1 with
    | cons r rr =>
      obtain ⟨u, w, rfl, ⟨t1, rfl⟩, t2, rfl⟩ := vals2 rr
      obtain ⟨t, rfl⟩ := r
      exact call_range_3 c0 ⟨_, _, _, _, _, _, _, H1, rfl, IsRange.new _ _ _ _ _ _ _, I1.kept fun _ _ z => Heap.get?_push_of_some _ z, q1⟩ (.inl (PyProof.noPylong_small c1))
  · exact q1.elim
def rgL (a c : Int) (n : Nat) : List Int := (List.range n).map fun i : Nat => a + (i : Int) * c
theorem vals_rgL {a c : Int} {n : Nat} {acc : Array Value} (h : ItemsOf (fun i v => ∃ t, v = .int (a + i * c) t) acc n) : Vals ((rgL a c n).map V.int) acc.toList := by
  have e : acc.toList.length = n := by rw [Array.length_toList]; exact h.1
  unfold rgL
  rw [← e, List.map_map]
  refine vals_of_get acc.toList _ fun j u hj => ?_
  obtain ⟨t, rfl⟩ := h.2 j u (by rw [← hj, Array.getElem?_toList])
  exact ⟨t, rfl⟩
def tListRg (t : TRg) : TE := fun σ H Q => t σ H fun a b c H1 => ∃ n : Nat, Builtin.Range.small a b c = true ∧ Builtin.Range.rangeSize a b c = n ∧ n ≤ 16777216 ∧ ∀ q, H1 q = none → Q (.ref q) (upd H1 q (.lst ((rgL a c n).map V.int)))
theorem pe_listRgC {e : Expr} {t : TRg} {p pos : Pos} (hc : X.calm = true) (hg : Gl X "list") (hm : X.mg "list" = none) (he : PRgC X e t) (na : starEach [e] X.env = (false, eval e X.env) :: starEach [] X.env := by rfl) : PE X (.Call (.Name "list" p) [e] [] pos) (tListRg t) := by
  refine ⟨fun pins s σ H Q I h => ?_⟩
  refine Call_ (ld_blt I hg hm boot_list (PyProof.Rows.callWith_type1 (args_cons (thn (he pins s σ H _ I h) fun x s1 ⟨r, a, b, c, t, u, v, H1, ex, hr, I1, n, o1, o2, o3, q⟩ => args_nil ?_) na) na))
  subst ex
  refine call_list_range (n := n) (I1.ok.hd hc) hr o1 o2 o3 fun h' tk acc c' hk e' hi => ?_
  have hl : ((rgL a c n).map V.int).length ≤ sizeLine := by rw [List.length_map, rgL, List.length_map, List.length_range, sl16]; exact o3
  refine ⟨.ref s1.heap.objs.size, _, I1.laid (t' := tk) hk (Nat.le_refl _) (show ObjOk X.prog X.w _ h' _ (.lst _) from ⟨hl, acc.toList, c', vals_rgL hi, ?_⟩), rfl, q _ (I1.hok.fresh (Nat.le_refl _))⟩
  rw [Array.toArray_toList]
  exact e'
end
section
variable {σ : L2.St} {H : Hp} {Q : VK} {K : PySem.W.Frag}
def RgP (Q : VK) (a b c : Int) (H1 : Hp) : Prop := ∃ n : Nat, Builtin.Range.small a b c = true ∧ Builtin.Range.rangeSize a b c = n ∧ n ≤ 16777216 ∧ ∀ q, H1 q = none → Q (.ref q) (upd H1 q (.lst ((rgL a c n).map V.int)))
theorem st_listRg {t : TRg} (h : t σ H (RgP Q)) : tListRg t σ H Q := h
theorem st_rgC1 {ta : TA} {P : Int → Int → Int → Hp → Prop} (h : ta σ H fun vs H1 => match vs with
  | [.int n] => P 0 n 1 H1
  | [.int i, .int j] => P i j 1 H1
  | [.int i, .int j, .int c] => c ≠ 0 ∧ c.natAbs < 1073741824 ∧ P i j c H1
  | _ => False) : tRgC ta σ H P := h
theorem st_rgUp {a b : Int} (hz : -1000000 ≤ a ∧ a ≤ 1000000 ∧ -1000000 ≤ b ∧ b ≤ 1000000) (h : ∀ q H', H q = none → Ex H H' → H' q = some (.lst ((rgL a 1 (b - a).toNat).map V.int)) → Q (.ref q) H') : RgP Q a b 1 H :=
  ⟨(b - a).toNat, small_one (by omega) (by omega) (by omega) (by omega), rangeSize_nat a b, by omega, fun q hq => h q _ hq (Fr.new hq) upd_same⟩
theorem st_rgDown {a b : Int} (hz : -1000000 ≤ a ∧ a ≤ 1000000 ∧ -1000000 ≤ b ∧ b ≤ 1000000) (h : ∀ q H', H q = none → Ex H H' → H' q = some (.lst ((rgL a (-1) (a - b).toNat).map V.int)) → Q (.ref q) H') : RgP Q a b (-1) H :=
  ⟨(a - b).toNat, PySem.W.small_down (by omega) (by omega) (by omega) (by omega), PySem.W.rangeSize_downNat a b, by omega, fun q hq => h q _ hq (Fr.new hq) upd_same⟩
theorem rgL_up (n : Nat) : rgL 0 1 n = (List.range n).map fun i : Nat => (i : Int) := by
  unfold rgL
  exact List.map_congr_left fun i _ => by omega
end
/-! ### a list or a tuple, walked -/
def iSeq (K : PySem.W.Frag) (tl : TE) : TI := fun σ H R => tl σ H fun x H1 => ∃ a xs, x = .ref a ∧ seqAt H1 a = some xs ∧ ∀ (J : It) (S : Hp → Prop), Runs J xs.length S (fun i x H H' => H' = H ∧ xs[i]? = some x) → (∀ H', H' a = H1 a → S H') → R J H1
theorem lstAt_eq {H H' : Hp} {a : Addr} {xs : List V} (h : lstAt H a = some xs) (e : H' a = H a) : lstAt H' a = some xs := by
  unfold lstAt at h ⊢
  rw [e]
  exact h
theorem tupAt_eq {H H' : Hp} {a : Addr} {xs : List V} (h : tupAt H a = some xs) (e : H' a = H a) : tupAt H' a = some xs := by
  unfold tupAt at h ⊢
  rw [e]
  exact h
theorem pi_seq {X : Cx} {l tg : Expr} {tl : TE} {K : PySem.W.Frag} (hl : PE X l tl) (hK : X.K = K := by rfl) : PI X tg l (iSeq K tl) := by
  subst hK
  refine ⟨fun pins s σ H R I h => ?_⟩
  refine thn (hl.run pins s σ H _ I h) fun v s1 ⟨x, H1, I1, r1, q1⟩ => ?_
  obtain ⟨a, xs, rfl, hq, q⟩ := q1
  cases r1
  have fp : ∀ b ∈ [s1.heap.objs.size], b = s1.heap.objs.size := fun b hb => by simpa using hb
  rcases seqAt_cases hq with hq | hq
  · obtain ⟨its, rv, p, hz⟩ := I1.list (lstAt_sq hq)
    refine wpAny_pyIter_list p.isList ?_
    refine ⟨s1.heap.objs.size, [s1.heap.objs.size], _, _, H1, rfl, I1.kept (t' := s1.toks) fun _ _ e => Heap.get?_push_of_some _ e, turn_list a _, ⟨_, Heap.get?_push_size _ rfl, rfl, rfl⟩, fun b hb => ?_, q _ _ (runs_list X.K a xs) fun H' e => lstAt_eq hq e⟩
    rw [fp b hb]
    exact I1.fpOk (Nat.le_refl _) (I1.hok.fresh (Nat.le_refl _))
  · obtain ⟨its, rv, p, hz⟩ := I1.tuple (tupAt_sq hq)
    refine wpAny_pyIter_tuple (show s1.heap.IsTuple a its.toArray from p) ?_
    refine ⟨s1.heap.objs.size, [s1.heap.objs.size], _, _, H1, rfl, I1.kept (t' := s1.toks) fun _ _ e => Heap.get?_push_of_some _ e, turn_tuple a _, ⟨_, Heap.get?_push_size _ rfl, rfl, rfl⟩, fun b hb => ?_, q _ _ (runs_tup X.K a xs) fun H' e => tupAt_eq hq e⟩
    rw [fp b hb]
    exact I1.fpOk (Nat.le_refl _) (I1.hok.fresh (Nat.le_refl _))
/-! ### enumerate of a tuple -/
def Itet (K : PySem.W.Frag) (a : Addr) : It :=
  ⟨fun i H => ∃ (xs : List V) (x : V), SqT K H a xs ∧ xs[i]? = some x, fun i H v H' => ∃ T x, v = .ref T ∧ H T = none ∧ H' = upd H T (.tup [.int (i : Nat), x]) ∧ ∀ xs, SqT K H a xs → xs[i]? = some x, fun i H => ∃ xs : List V, SqT K H a xs ∧ xs.length ≤ i⟩
theorem sqT_inj {X : Cx} {pins : List (Addr × Obj)} {σ : L2.St} {H : Hp} {s : Shared} {a : Addr} {xs ys : List V} (I : Inv X pins σ H s) (h1 : SqT X.K H a xs) (h2 : SqT X.K H a ys) : xs = ys := I.tuple_inj h1 h2
theorem turn_enumT {P : Program} {w : World} {K : PySem.W.Frag} {elts : List Expr} {kk : Nat} {tpos : Pos} (a e it : Addr) :
    Turn P w K (.Tuple elts kk tpos) (Itet K a) [e, it] e (fun i h => (∃ old, IsEnum h e it ((i : Nat) : Int) old) ∧ h.IsTupleIter it a i ∧ e ≠ it) where
  mem := by simp
  obj := fun i h st b hb => by
    obtain ⟨⟨old, he⟩, ⟨o, ho, hc, hd⟩, _⟩ := st
    rcases (show b = e ∨ b = it by simpa using hb) with z | z
    · rw [z]; exact ⟨_, he, fun v q => nomatch q⟩
    · rw [z]; exact ⟨o, ho, fun v q => by rw [hd] at q; cases q⟩
  keep := fun i h h' st k => let ⟨⟨old, he⟩, hi, hne⟩ := st; ⟨⟨old, k e (by simp) _ he⟩, hi.at fun _ q => k it (by simp) _ q, hne⟩
  item := by
    intro X hP hw hK hc i pins s σ H E I hf st hg
    subst hP hw hK
    obtain ⟨⟨old, he⟩, hit, hne⟩ := st
    obtain ⟨xs, x, hq, hx⟩ := hg
    obtain ⟨its, rv, p, hz⟩ := I.tuple hq
    obtain ⟨u, hu, ru⟩ := rv.get hx
    have hel : e < s.heap.objs.size := Heap.lt_size he
    have hil : it < s.heap.objs.size := by obtain ⟨_, q, _⟩ := hit; exact Heap.lt_size q
    have hta : a ≠ it := fun z => by
      obtain ⟨o1, g1, c1, _⟩ := hit
      obtain ⟨o2, g2, c2, _⟩ := p
      rw [z] at g2
      rw [g1] at g2
      cases g2
      rw [c1] at c2
      exact absurd c2 (by decide)
    have hte : e ≠ a := fun z => by
      obtain ⟨o2, g2, c2, _⟩ := p
      rw [← z, he] at g2
      cases g2
      exact absurd (show Value.type "enumerate" = Value.type "tuple" from c2) (by decide)
    have D : Draws X.prog X.w X.A.in1 it [it, a] its.toArray.size (fun i v => its.toArray[i]? = some v) (fun i h => h.IsTupleIter it a i ∧ h.IsTuple a its.toArray) := Draws.tuple (A := X.A.in1) (I.ok.hd hc) it a hta its.toArray
    have hlt : i < its.toArray.size := by
      rw [List.size_toArray, ← rv.length]
      exact (List.getElem?_eq_some_iff.mp hx).1
    refine wpAny_pyNext_enum_itemC D he ⟨hit, p⟩ hlt hne (by simp [hne, hte]) fun y h' tk hy ho st2 hT hsz hk => ?_
    have hyu : y = u := by
      have : its.toArray[i]? = some u := by simpa using hu
      rw [this] at hy
      exact (Option.some.inj hy).symm
    subst hyu
    refine ⟨_, rfl, wpAny_letOwnedTupleGo_enum (s := { s with heap := h', toks := tk + 1 }) ho fun h'' he' sb => ?_⟩
    have hT2 : h''.get? s.heap.objs.size = some { cls := .type "tuple", data := .seq #[.int (i : Nat) tk, y] } := (sb.2 _ (Nat.ne_of_gt hel)).trans hT
    have new : ObjOk X.prog X.w (upd H s.heap.objs.size (.tup [.int (i : Nat), x])) h'' s.heap.objs.size (.tup [.int (i : Nat), x]) :=
      ⟨by show 2 ≤ sizeLine; rw [sl16]; decide, [.int (i : Nat) tk, y], .cons ⟨_, rfl⟩ (.cons ru .nil), ⟨_, hT2, rfl, _, rfl⟩⟩
    have I1 : Inv X pins σ (upd H s.heap.objs.size (.tup [.int (i : Nat), x])) { s with heap := h'', toks := tk + 1 } :=
      I.turnedNew (ch := [e, it]) (fun b ob hb q => (sb.2 b (fun z => hb (by simp [z]))).trans (hk b ob (fun z => hb (by simp [z])) (fun z => hb (by simp [z])) q)) hf (Nat.le_refl _) new
    refine ⟨.ref s.heap.objs.size, _, I1, rfl, ⟨_, x, rfl, I.hok.fresh (Nat.le_refl _), rfl, fun ys hy => by rw [sqT_inj I hy hq]; exact hx⟩, ⟨⟨y, ?_⟩, st2.1.at fun o q => (sb.2 it (Ne.symm hne)).trans q, hne⟩, fun b hb => ?_⟩
    · rw [show ((i + 1 : Nat) : Int) = (i : Int) + 1 by omega]; exact he'
    · have hb' : b < s.heap.objs.size := by
        rcases (show b = e ∨ b = it by simpa using hb) with z | z
        · rw [z]; exact hel
        · rw [z]; exact hil
      rw [upd_ne (Nat.ne_of_lt hb')]
      exact (hf b hb).1
  done := by
    intro X hP hw hK hc i pins s σ H E I hf st hg
    subst hP hw hK
    obtain ⟨⟨old, he⟩, hit, hne⟩ := st
    obtain ⟨xs, hq, hx⟩ := hg
    obtain ⟨its, rv, p, hz⟩ := I.tuple hq
    obtain ⟨f0, f1, f2, f3, f4, f5⟩ := hf it (by simp)
    have hl := rv.length
    have hT : s.TypeIs (.ref e) "enumerate" := ⟨_, he, rfl⟩
    unfold pyNext
    refine wpAny_bind (wpAny_attempt (wpAny_callSpecial?_slot (name := Str.ofString "__next__") hT F.slot_enumerate_next (wpAny_call_entry F.slot_enumerate_next hT F.entry_enumerate_next ?_ (F.args_enumerate_next_1 _))))
    show wpAny _ _ (field (.ref e) 2 >>= _) _ _ _
    refine wpAny_bind (wpAny_field he rfl (x := .ref it) rfl ?_)
    refine wpAny_bind (wpAny_nextOf_tuple_end (I.ok.hd hc) hit p (by simp; omega) fun h' x xb hx' => ?_)
    obtain ⟨o, ho, hoc⟩ := hx'
    refine wpAny_bind (wpAny_isInstance (T := "StopIteration") (b := true) ⟨o, ho, hoc⟩ isSubtype_stop ?_)
    exact wpAny_pure ⟨rfl, I.turned (t' := s.toks) (fun b o hb q => xb b o hb q) f0 f1 f3 f4 f5⟩
  self := fun A i s Q E st h => let ⟨⟨_, he⟩, _⟩ := st; wpAny_pyIter_enum he h
end Zb
set_option Elab.async false
set_option linter.all false
set_option maxRecDepth 100000
set_option maxHeartbeats 4000000

namespace My
open PySem PySem.Spec PyProof.Rows L2 Zb
open Evl (tCut pss_cut)

local macro_rules | `(tactic| walk_at "hp") => `(tactic| first
  | assumption
  | exact upd_same
  | (refine upd_old (by assumption) ?_; walk_at "hp")
  | (refine Ex.get (by assumption) ?_; walk_at "hp")
  | (refine Fr.get (by assumption) (by assumption) ?_; walk_at "hp"))
local macro_rules | `(tactic| walk_at "pu") => `(tactic| first
  | assumption
  | (refine Purse.ex ?_ (by assumption); walk_at "pu"))
local macro_rules | `(tactic| walk_at "fr") => `(tactic| first
  | exact Fr.refl _
  | assumption
  | exact Fr.ex (by assumption)
  | (refine Fr.trans ?_ (by assumption); walk_at "fr")
  | (refine Fr.trans ?_ (Fr.ex (by assumption)); walk_at "fr"))
local macro_rules | `(tactic| walk_at "sd") => `(tactic| first
  | omega
  | (simp only [tx_length, List.length_append, List.length_cons, List.length_nil, List.length_map]; omega)
  | assumption
  | exact rfl
  | decide)
local macro_rules | `(tactic| walk_at "nw") => `(tactic| (intro q H' hq he hv; (try (have hne := Purse.ne (by assumption) hq; have hpu := Purse.ex (by assumption) he))))
local macro_rules | `(tactic| walk_at "sm") => `(tactic| first
  | exact Sm.nil
  | assumption
  | (refine Sm.app ?_ ?_ <;> walk_at "sm")
  | (refine Sm.cons ?_ ?_ <;> walk_at "sm")
  | exact Sm.up Sm.non (Nat.le_of_ble_eq_true rfl) (Nat.le_of_ble_eq_true rfl)
  | exact Sm.up (Sm.bl _) (Nat.le_of_ble_eq_true rfl) (Nat.le_of_ble_eq_true rfl)
  | exact Sm.up (Sm.int (by omega)) (Nat.le_of_ble_eq_true rfl) (Nat.le_of_ble_eq_true rfl)
  | exact Sm.up (Sm.str (by decide +kernel)) (Nat.le_of_ble_eq_true rfl) (Nat.le_of_ble_eq_true rfl)
  | (refine Sm.up (Sm.tup (n := 1) (k := 1) (by walk_at "hp") ?_ (Nat.le_refl _)) (Nat.le_of_ble_eq_true rfl) (Nat.le_of_ble_eq_true rfl); walk_at "sm")
  | (refine Sm.up (Sm.lst (n := 1) (k := 1) (by walk_at "hp") ?_ (Nat.le_refl _)) (Nat.le_of_ble_eq_true rfl) (Nat.le_of_ble_eq_true rfl); walk_at "sm"))
local macro_rules | `(tactic| walk_at "ln") => `(tactic| first | omega | (simp only [List.length_append, List.length_cons, List.length_nil, List.length_map, List.length_singleton]; omega))
local macro_rules | `(tactic| walk_at "sn") => `(tactic| first
  | exact Sm.nil
  | assumption
  | exact Sm.upA (by assumption) (Nat.le_of_ble_eq_true rfl) (Nat.le_of_ble_eq_true rfl)
  | exact Sm.up (by assumption) (Nat.le_of_ble_eq_true rfl) (Nat.le_of_ble_eq_true rfl)
  | (refine Sm.app ?_ ?_ <;> walk_at "sn")
  | (refine Sm.cons ?_ ?_ <;> walk_at "sn")
  | (refine Sm.cut ?_ ; walk_at "sn")
  | walk_at "sm"
  | (refine Sm.up (Sm.lst (n := 100) (k := 3) (by walk_at "hp") ?_ (Nat.le_refl _)) (Nat.le_of_ble_eq_true rfl) (Nat.le_of_ble_eq_true rfl); walk_at "sn")
  | (refine Sm.up (Sm.lst (n := 4) (k := 2) (m := 4612) (by walk_at "hp") ?_ (by walk_at "ln")) (Nat.le_of_ble_eq_true rfl) (Nat.le_of_ble_eq_true rfl); walk_at "sn")
  | (refine Sm.up (Sm.tup (n := 4) (k := 2) (m := 4612) (by walk_at "hp") ?_ (by walk_at "ln")) (Nat.le_of_ble_eq_true rfl) (Nat.le_of_ble_eq_true rfl); walk_at "sn"))
local macro_rules | `(tactic| walk_at "sg") => `(tactic| first
  | exact allE_nil
  | (refine allE_cons ?_ ?_ <;> walk_at "sg")
  | exact ⟨_, Sd.dk (by walk_at "hp")⟩
  | (refine SdE.of (n := 1) (k := 1) ?_ (by decide) (by decide); walk_at "sm")
  | (refine SdE.of (Sm.lst (n := 18500) (k := 5) (m := 50) (by walk_at "hp") ?_ (by walk_at "ln")) (by decide) (by decide); walk_at "sn")
  | (refine SdE.of (Sm.tup (n := 18500) (k := 5) (m := 50) (by walk_at "hp") ?_ (by walk_at "ln")) (by decide) (by decide); walk_at "sn"))
local macro_rules | `(tactic| walk_at "s") => `(tactic| first
  | ((with_reducible refine' st_var ?a0 ?_); (case a0 => exact rfl))
  | ((with_reducible refine' st_isR1 ?a0 ?_); (case a0 => constructor <;> walk_at "sd"))
  | ((with_reducible refine' st_isR2 ?a0 ?_); (case a0 => refine ⟨?_, ?_, ?_, ?_⟩ <;> walk_at "sd"))
  | ((with_reducible refine' st_c ?_))
  | ((with_reducible refine' st_op ?_))
  | ((with_reducible refine' st_seq ?_))
  | ((with_reducible refine' st_asg ?_))
  | ((with_reducible refine' st_name ?_))
  | ((with_reducible refine' st_cons ?_))
  | ((with_reducible refine' st_nil ?_))
  | ((with_reducible refine' st_call ?_))
  | ((with_reducible refine' st_cb ?_))
  | ((with_reducible refine' st_ret ?_))
  | ((with_reducible refine' st_drop ?_))
  | ((with_reducible refine' st_ifS ?_))
  | ((with_reducible refine' st_test ?_))
  | ((with_reducible refine' st_B ?_))
  | ((with_reducible refine' st_isb ?_))
  | ((with_reducible refine' st_and ?_))
  | ((with_reducible refine' st_or ?_))
  | ((with_reducible refine' st_not ?_))
  | ((with_reducible refine' st_andV ?_))
  | ((with_reducible refine' st_orV ?_))
  | ((with_reducible refine' st_notV ?_))
  | ((with_reducible refine' st_if ?_))
  | ((with_reducible refine' st_lst ?_))
  | ((with_reducible refine' st_tup ?_))
  | ((with_reducible refine' st_sl ?_))
  | ((with_reducible refine' st_part ?_))
  | ((with_reducible refine' st_nopart ?_))
  | ((with_reducible refine' st_isi ?_))
  | ((with_reducible refine' st_sub ?_))
  | ((with_reducible refine' st_next ?_))
  | ((with_reducible refine' st_un ?_))
  | ((with_reducible refine' st_rU ?_))
  | ((with_reducible refine' st_augI ?a0 ?_); (case a0 => exact rfl))
  | ((with_reducible refine' st_ipI ?_))
  | ((with_reducible refine' st_par ?_))
  | ((with_reducible refine' st_par2 ?_))
  | ((with_reducible refine' st_addI ?_))
  | ((with_reducible refine' st_subI ?_))
  | ((with_reducible refine' st_cmpI ?_))
  | ((with_reducible refine' st_eqI ?_))
  | ((with_reducible refine' st_neI ?_))
  | ((with_reducible refine' st_eqS ?_))
  | ((with_reducible refine' st_neS ?_))
  | ((with_reducible refine' st_eqB ?_))
  | ((with_reducible refine' st_neB ?_))
  | ((with_reducible refine' st_max2 ?_))
  | ((with_reducible refine' st_min2 ?_))
  | ((with_reducible refine' st_brk ?_))
  | ((with_reducible refine' st_cont ?_))
  | ((with_reducible refine' st_retN ?_))
  | ((with_reducible refine' st_new ?a0 ?_); (case a0 => exact Nat.le_of_ble_eq_true rfl); walk_at "nw")
  | ((with_reducible refine' st_modI ?a0 ?_); (case a0 => walk_at "sd"))
  | ((with_reducible refine' st_divI ?a0 ?_); (case a0 => constructor <;> walk_at "sd"))
  | ((with_reducible refine' st_mulI ?a0 ?_); (case a0 => walk_at "sd"))
  | ((with_reducible refine' st_powI ?a0 ?_); (case a0 => refine ⟨?_, ?_, ?_⟩ <;> decide))
  | ((with_reducible refine' st_addS ?a0 ?_); (case a0 => walk_at "sd"))
  | ((with_reducible refine' st_ixL ?a0 ?a1 ?_); (case a0 => walk_at "hp"); (case a1 => exact rfl))
  | ((with_reducible refine' st_ixT ?a0 ?a1 ?_); (case a0 => walk_at "hp"); (case a1 => exact rfl))
  | ((with_reducible refine' st_lenL ?a0 ?_); (case a0 => walk_at "hp"))
  | ((with_reducible refine' st_lenT ?a0 ?_); (case a0 => walk_at "hp"))
  | ((with_reducible refine' st_lenS ?a0 ?_); (case a0 => walk_at "sd"))
  | ((with_reducible refine' st_slS ?a0 ?_); (case a0 => walk_at "sd"))
  | ((with_reducible refine' st_slL (lst_of ?a0) ?_); (case a0 => walk_at "hp"); walk_at "nw")
  | ((with_reducible refine' st_addL ?a0 ?a1 ?a2 ?_); (case a0 => walk_at "hp"); (case a1 => walk_at "hp"); (case a2 => walk_at "sd"); walk_at "nw")
  | ((with_reducible refine' st_setL ?a0 ?a1 ?_); (case a0 => walk_at "hp"); (case a1 => exact rfl))
  | ((with_reducible refine' st_yes ?_))
  | ((with_reducible refine' st_isI ?a0 ?_); (case a0 => first | exact kit_ii | exact kit_ib | exact kit_il | exact kit_is | exact kit_it | decide +kernel))
  | ((with_reducible refine' st_isL ?a0 ?a1 ?_); (case a0 => walk_at "hp"); (case a1 => first | exact kit_ll | exact kit_lt | decide +kernel))
  | ((with_reducible refine' st_isT ?a0 ?a1 ?_); (case a0 => walk_at "hp"); (case a1 => first | exact kit_tt | exact kit_tl | decide +kernel))
  | ((with_reducible refine' st_isS' ?a0 ?_); (case a0 => first | exact kit_ss | decide +kernel))
  | ((with_reducible refine' st_isB ?a0 ?_); (case a0 => first | exact kit_bb | exact kit_bi | decide +kernel))
  | ((with_reducible refine' st_clear ?a0 ?_); (case a0 => walk_at "hp"))
  | ((with_reducible refine' st_gtup ?a0 ?a1 ?_); (case a0 => walk_at "hp"); (case a1 => exact rfl))
  | ((with_reducible refine' st_glst ?a0 ?a1 ?_); (case a0 => walk_at "hp"); (case a1 => exact rfl))
  | ((with_reducible refine' st_gcons ?_))
  | ((with_reducible refine' st_gnil ?_))
  | ((with_reducible refine' st_iEnS ?_))
  | ((with_reducible refine' st_isEnS ?_))
  | ((with_reducible refine' st_mulL ?a0 ?a1 ?a2 ?a3 ?_); (case a0 => walk_at "hp"); (case a1 => walk_at "sd"); (case a2 => walk_at "sd"); (case a3 => walk_at "sd"); walk_at "nw")
  | ((with_reducible refine' st_isBool ?_))
  | ((with_reducible refine' st_pair ?_))
  | ((with_reducible refine' st_pairs0 ?_))
  | ((with_reducible refine' st_disp ?_); walk_at "nw")
  | ((with_reducible refine' st_listS ?a0 ?_); (case a0 => walk_at "sd"); walk_at "nw")
  | ((with_reducible refine' st_tupS ?a0 ?_); (case a0 => walk_at "sd"); walk_at "nw")
  | ((with_reducible refine' st_listQ (seq_l ?a0) ?_); (case a0 => walk_at "hp"); walk_at "nw")
  | ((with_reducible refine' st_tupL (lst_of ?a0) ?_); (case a0 => walk_at "hp"); walk_at "nw")
  | ((with_reducible refine' st_for ?_))
  | ((with_reducible refine' st_lc ?_))
  | ((with_reducible refine' st_iStr ?_))
  | ((with_reducible refine' st_isStr ?_))
  | ((with_reducible refine' st_iList ?_))
  | ((with_reducible refine' st_isList (lst_of ?a0) ?_); (case a0 => walk_at "hp"))
  | ((with_reducible refine' st_iTup ?_))
  | ((with_reducible refine' st_isTup (tup_of ?a0) ?_); (case a0 => walk_at "hp"))
  | ((with_reducible refine' st_iR1 ?_))
  | ((with_reducible refine' st_iR2 ?_))
  | ((with_reducible refine' st_iEn ?_))
  | ((with_reducible refine' st_isEn (lst_of ?a0) ?_); (case a0 => walk_at "hp"))
  | ((with_reducible refine' st_iZp ?_))
  | ((with_reducible refine' st_isZp (lst_of ?a0) (lst_of ?a1) ?_); (case a0 => walk_at "hp"); (case a1 => walk_at "hp"))
  | ((with_reducible refine' st_inC ?_))
  | ((with_reducible refine' st_ninC ?_))
  | ((with_reducible refine' st_m1 ?_))
  | ((with_reducible refine' st_isS ?_))
  | ((with_reducible refine' st_bm ?_))
  | ((with_reducible refine' st_bm0 ?_))
  | ((with_reducible refine' st_tyL ?a0 ?_); (case a0 => walk_at "hp"))
  | ((with_reducible refine' st_isN ?_))
  | ((with_reducible refine' st_notN ?_))
  | ((with_reducible refine' st_intB ?_))
  | ((with_reducible refine' st_intI ?_))
  | ((with_reducible refine' st_iR3 ?_))
  | ((with_reducible refine' st_dget2 ?_))
  | ((with_reducible refine' st_dsetd ?_))
  | ((with_reducible refine' st_dnew ?_))
  | ((with_reducible refine' st_dnewP ?_); walk_at "nw")
  | ((with_reducible refine' st_isD ?a0 ?_); (case a0 => walk_at "hp"))
  | ((with_reducible refine' st_isB2 ?_))
  | ((with_reducible refine' st_notB2 ?_))
  | ((with_reducible refine' st_chain ?_))
  | ((with_reducible refine' st_tru ?_))
  | ((with_reducible refine' st_truB ?_))
  | ((with_reducible refine' st_truI ?_))
  | ((with_reducible refine' st_while ?_))
  | ((with_reducible refine' st_st3 ?_))
  | ((with_reducible refine' st_revS ?a0 ?_); (case a0 => walk_at "sd"))
  | ((with_reducible refine' st_evS ?a0 ?_); (case a0 => walk_at "sd"))
  | ((with_reducible refine' st_odS ?a0 ?_); (case a0 => walk_at "sd"))
  | ((with_reducible refine' st_raise ?_))
  | ((with_reducible refine' st_mk1 ?a0 ?a1 ?_); (case a0 => walk_at "xo"); (case a1 => walk_at "nf"); walk_at "nw")
  | ((with_reducible refine' st_mk2 ?a0 ?a1 ?a2 ?_); (case a0 => walk_at "xo"); (case a1 => walk_at "nf"); (case a2 => walk_at "nf"); walk_at "nw")
  | ((with_reducible refine' st_try ?_))
  | ((with_reducible refine' st_callS ?_))
  | ((with_reducible refine' st_hYn ?a0 ?_); (case a0 => walk_at "ex"); intro ax hax)
  | ((with_reducible refine' st_hY0 ?a0 ?_); (case a0 => walk_at "ex"); intro ax hax)
  | ((with_reducible refine' st_hN ?a0 ?_); (case a0 => walk_at "ex"))
  | ((with_reducible refine' st_xe ?_))
  | ((with_reducible refine' st_xeP ?a0 ?a1 ?a2 ?a3 ?_); (case a0 => walk_at "xi"); (case a1 => walk_at "nf"); (case a2 => walk_at "hp"); (case a3 => exact rfl))
  | ((with_reducible refine' st_isX ?a0 ?a1 ?a2 ?_); (case a0 => walk_at "xi"); (case a1 => walk_at "hp"); (case a2 => walk_at "ki"))
  | ((with_reducible refine' st_isXT ?a0 ?a1 ?a2 ?_); (case a0 => walk_at "xi"); (case a1 => walk_at "hp"); (case a2 => walk_at "ki"))
  | ((with_reducible refine' st_isXs2 ?a0 ?a1 ?a2 ?a3 ?a4 ?_); (case a0 => walk_at "xi"); (case a1 => walk_at "hp"); (case a2 => walk_at "hp"); (case a3 => walk_at "ki"); (case a4 => walk_at "ki"))
  | ((with_reducible refine' st_T ?a0 ?_); (case a0 => exact rfl))
  | ((with_reducible refine' st_F ?a0 ?_); (case a0 => exact rfl)))
local macro_rules | `(tactic| walk_at "go") => `(tactic| repeat walk_at "s")

def top (i : Nat) : Stmt := PySem.Challenge.pw_panethread_k73_papers_of_stretches_spoil.main.body.getD i (.Pass ⟨0, 0, 0, 0⟩)
abbrev s_is_whole : Stmt := top 6
abbrev N_is_whole : List Str := ["thing"]
theorem sc_is_whole : FnScope N_is_whole ["thing"] (defScope s_is_whole) := ⟨rfl, rfl, rfl, by decide +kernel, rfl, by decide +kernel, by decide +kernel⟩
abbrev s_is_within : Stmt := top 7
abbrev N_is_within : List Str := ["thing", "low", "high"]
theorem sc_is_within : FnScope N_is_within ["thing", "low", "high"] (defScope s_is_within) := ⟨rfl, rfl, rfl, by decide +kernel, rfl, by decide +kernel, by decide +kernel⟩
abbrev s_is_worthy : Stmt := top 11
abbrev N_is_worthy : List Str := ["many", "thing", "worth", "begin", "end"]
theorem sc_is_worthy : FnScope N_is_worthy ["many", "thing"] (defScope s_is_worthy) := ⟨rfl, rfl, rfl, by decide +kernel, rfl, by decide +kernel, by decide +kernel⟩
abbrev s_need_stretches : Stmt := top 12
abbrev N_need_stretches : List Str := ["many", "stretches", "stretch"]
theorem sc_need_stretches : FnScope N_need_stretches ["many", "stretches"] (defScope s_need_stretches) := ⟨rfl, rfl, rfl, by decide +kernel, rfl, by decide +kernel, by decide +kernel⟩
abbrev s_totals_of : Stmt := top 13
abbrev N_totals_of : List Str := ["many", "stretches", "ending", "at", "worth", "begin", "end", "totals", "lasts", "most", "last", "k"]
theorem sc_totals_of : FnScope N_totals_of ["many", "stretches"] (defScope s_totals_of) := ⟨rfl, rfl, rfl, by decide +kernel, rfl, by decide +kernel, by decide +kernel⟩
abbrev s_apart : Stmt := top 14
abbrev N_apart : List Str := ["many", "stretches", "totals", "lasts", "chosen", "end", "last", "prices", "place"]
theorem sc_apart : FnScope N_apart ["many", "stretches"] (defScope s_apart) := ⟨rfl, rfl, rfl, by decide +kernel, rfl, by decide +kernel, by decide +kernel⟩
abbrev s_are_apart : Stmt := top 15
abbrev N_are_apart : List Str := ["many", "stretches", "chosen", "taken", "before", "at", "place"]
theorem sc_are_apart : FnScope N_are_apart ["many", "stretches", "chosen"] (defScope s_are_apart) := ⟨rfl, rfl, rfl, by decide +kernel, rfl, by decide +kernel, by decide +kernel⟩
abbrev s_cover : Stmt := top 16
abbrev N_cover : List Str := ["many", "stretches", "prices", "price", "worth", "begin", "end"]
theorem sc_cover : FnScope N_cover ["many", "stretches", "prices"] (defScope s_cover) := ⟨rfl, rfl, rfl, by decide +kernel, rfl, by decide +kernel, by decide +kernel⟩
abbrev s_shows_apart : Stmt := top 17
abbrev N_shows_apart : List Str := ["many", "stretches", "thing", "most", "chosen", "prices", "at"]
theorem sc_shows_apart : FnScope N_shows_apart ["many", "stretches", "thing"] (defScope s_shows_apart) := ⟨rfl, rfl, rfl, by decide +kernel, rfl, by decide +kernel, by decide +kernel⟩
abbrev s__law_at : Stmt := top 19
abbrev N__law_at : List Str := ["_law_script", "_law_k"]
theorem sc__law_at : FnScope N__law_at ["_law_script", "_law_k"] (defScope s__law_at) := ⟨rfl, rfl, rfl, by decide +kernel, rfl, by decide +kernel, by decide +kernel⟩
abbrev s__law_right_ones : Stmt := top 20
abbrev N__law_right_ones : List Str := ["_law_a", "_law_b", "_law_p", "_law_many", "_law_spans", "_law_head", "_law_tail", "_law_prices", "_law_wide", "_law_k"]
theorem sc__law_right_ones : FnScope N__law_right_ones ["_law_a", "_law_b", "_law_p", "_law_many"] (defScope s__law_right_ones) := ⟨rfl, rfl, rfl, by decide +kernel, rfl, by decide +kernel, by decide +kernel⟩
abbrev s__law_wrong_kinds : Stmt := top 21
abbrev N__law_wrong_kinds : List Str := ["_law_a", "_law_b", "_law_p", "_law_many", "_law_spans", "_law_head", "_law_tail", "_law_prices", "_law_one", "_law_first", "_law_told", "_law_most", "_law_chosen", "_law_pays", "_law_k", "_law_thing"]
theorem sc__law_wrong_kinds : FnScope N__law_wrong_kinds ["_law_a", "_law_b", "_law_p", "_law_many"] (defScope s__law_wrong_kinds) := ⟨rfl, rfl, rfl, by decide +kernel, rfl, by decide +kernel, by decide +kernel⟩
abbrev s__law_wrong_choices : Stmt := top 22
abbrev N__law_wrong_choices : List Str := ["_law_a", "_law_b", "_law_p", "_law_many", "_law_spans", "_law_head", "_law_tail", "_law_prices", "_law_one", "_law_lone", "_law_apiece", "_law_k"]
theorem sc__law_wrong_choices : FnScope N__law_wrong_choices ["_law_a", "_law_b", "_law_p", "_law_many"] (defScope s__law_wrong_choices) := ⟨rfl, rfl, rfl, by decide +kernel, rfl, by decide +kernel, by decide +kernel⟩
abbrev s__law_wrong_prices : Stmt := top 23
abbrev N__law_wrong_prices : List Str := ["_law_a", "_law_b", "_law_p", "_law_many", "_law_spans", "_law_head", "_law_tail", "_law_prices", "_law_lone", "_law_wide", "_law_k"]
theorem sc__law_wrong_prices : FnScope N__law_wrong_prices ["_law_a", "_law_b", "_law_p", "_law_many"] (defScope s__law_wrong_prices) := ⟨rfl, rfl, rfl, by decide +kernel, rfl, by decide +kernel, by decide +kernel⟩
abbrev s__law_asked : Stmt := top 24
abbrev N__law_asked : List Str := ["_law_many", "_law_spans", "_law_thing", "_law_due", "_law_handed", "_law_kept", "_law_told"]
theorem sc__law_asked : FnScope N__law_asked ["_law_many", "_law_spans", "_law_thing", "_law_due"] (defScope s__law_asked) := ⟨rfl, rfl, rfl, by decide +kernel, rfl, by decide +kernel, by decide +kernel⟩
abbrev s__law_refused : Stmt := top 25
abbrev N__law_refused : List Str := ["_law_many", "_law_spans", "_law_due", "_law_place", "_law_door", "e"]
theorem sc__law_refused : FnScope N__law_refused ["_law_many", "_law_spans", "_law_due", "_law_place", "_law_door"] (defScope s__law_refused) := ⟨rfl, rfl, rfl, by decide +kernel, rfl, by decide +kernel, by decide +kernel⟩
abbrev s__law_bad : Stmt := top 26
abbrev N__law_bad : List Str := ["_law_many", "_law_spans", "_law_far", "_law_bad_here", "_law_lists", "_law_k", "_law_at_here"]
theorem sc__law_bad : FnScope N__law_bad ["_law_many", "_law_spans", "_law_far"] (defScope s__law_bad) := ⟨rfl, rfl, rfl, by decide +kernel, rfl, by decide +kernel, by decide +kernel⟩
abbrev s_law : Stmt := top 27
abbrev N_law : List Str := ["_law_script", "_law_many", "_law_p", "_law_a", "_law_b", "_law_spans", "_law_thing", "_law_wrong", "_law_far", "_law_door", "_law_bad_here", "_law_most", "_law_long", "_law_found", "_law_cell", "_law_at_here"]
theorem sc_law : FnScope N_law ["_law_script"] (defScope s_law) := ⟨rfl, rfl, rfl, by decide +kernel, rfl, by decide +kernel, by decide +kernel⟩
abbrev si_NoStretches : Stmt := inClass (top 3) 0
theorem sci_NoStretches : FnScope ["self", "found"] ["self", "found"] (defScope si_NoStretches) := ⟨rfl, rfl, rfl, by decide +kernel, rfl, by decide +kernel, by decide +kernel⟩
abbrev si_NoPlace : Stmt := inClass (top 2) 0
theorem sci_NoPlace : FnScope ["self", "found"] ["self", "found"] (defScope si_NoPlace) := ⟨rfl, rfl, rfl, by decide +kernel, rfl, by decide +kernel, by decide +kernel⟩
/-- what the top has written -/
structure Tx (K : PySem.W.Frag) (mg : Str → Option Value) (ad : Nat → Addr) (fd : Nat → FuncData) (tk : Nat → Tok) : Prop where
  d_is_whole : Df K mg "is_whole" s_is_whole ["thing"] (ad 0) (fd 0)
  d_is_within : Df K mg "is_within" s_is_within ["thing", "low", "high"] (ad 1) (fd 1)
  d_is_worthy : Df K mg "is_worthy" s_is_worthy ["many", "thing"] (ad 2) (fd 2)
  d_need_stretches : Df K mg "need_stretches" s_need_stretches ["many", "stretches"] (ad 3) (fd 3)
  d_totals_of : Df K mg "totals_of" s_totals_of ["many", "stretches"] (ad 4) (fd 4)
  d_apart : Df K mg "apart" s_apart ["many", "stretches"] (ad 5) (fd 5)
  d_are_apart : Df K mg "are_apart" s_are_apart ["many", "stretches", "chosen"] (ad 6) (fd 6)
  d_cover : Df K mg "cover" s_cover ["many", "stretches", "prices"] (ad 7) (fd 7)
  d_shows_apart : Df K mg "shows_apart" s_shows_apart ["many", "stretches", "thing"] (ad 8) (fd 8)
  d__law_at : Df K mg "_law_at" s__law_at ["_law_script", "_law_k"] (ad 9) (fd 9)
  d__law_right_ones : Df K mg "_law_right_ones" s__law_right_ones ["_law_a", "_law_b", "_law_p", "_law_many"] (ad 10) (fd 10)
  d__law_wrong_kinds : Df K mg "_law_wrong_kinds" s__law_wrong_kinds ["_law_a", "_law_b", "_law_p", "_law_many"] (ad 11) (fd 11)
  d__law_wrong_choices : Df K mg "_law_wrong_choices" s__law_wrong_choices ["_law_a", "_law_b", "_law_p", "_law_many"] (ad 12) (fd 12)
  d__law_wrong_prices : Df K mg "_law_wrong_prices" s__law_wrong_prices ["_law_a", "_law_b", "_law_p", "_law_many"] (ad 13) (fd 13)
  d__law_asked : Df K mg "_law_asked" s__law_asked ["_law_many", "_law_spans", "_law_thing", "_law_due"] (ad 14) (fd 14)
  d__law_refused : Df K mg "_law_refused" s__law_refused ["_law_many", "_law_spans", "_law_due", "_law_place", "_law_door"] (ad 15) (fd 15)
  d__law_bad : Df K mg "_law_bad" s__law_bad ["_law_many", "_law_spans", "_law_far"] (ad 16) (fd 16)
  d_law : Df K mg "law" s_law ["_law_script"] (ad 17) (fd 17)
  c_MOST_WORTH : mg "MOST_WORTH" = some (.int 1000000 (tk 0))
  c_MOST_LETTERS : mg "MOST_LETTERS" = some (.int 24 (tk 1))
  c_MOST_STRETCHES : mg "MOST_STRETCHES" = some (.int 400 (tk 2))
  b_isinstance : mg "isinstance" = none
  b_int : mg "int" = none
  b_bool : mg "bool" = none
  b_tuple : mg "tuple" = none
  b_len : mg "len" = none
  b_all : mg "all" = none
  b_list : mg "list" = none
  b_enumerate : mg "enumerate" = none
  b_range : mg "range" = none
  b_sorted : mg "sorted" = none
  b_sum : mg "sum" = none
  b_repr : mg "repr" = none
  b_ValueError : mg "ValueError" = none
  e_NoPlace : EC K mg "NoPlace"
  e_NoStretches : EC K mg "NoStretches"
  e_PaneError : EC K mg "PaneError"
  g_NoPlace : mg "NoPlace" = some (.ref (clsA K "NoPlace"))
  o_NoPlace : OexC K (clsA K "NoPlace")
  n_NoPlace_found : PySem.W.findIn K (.ref (clsA K "NoPlace")) "found" = some none
  i_NoPlace : IniF K "NoPlace" "NoPlace.__init__" si_NoPlace ["self", "found"]
  x_NoPlace : XI K (clsA K "NoPlace")
  s_NoPlace_NoPlace : PySem.W.subIn K (.ref (clsA K "NoPlace")) (.ref (clsA K "NoPlace")) = some true
  s_NoPlace_NoStretches : PySem.W.subIn K (.ref (clsA K "NoPlace")) (.ref (clsA K "NoStretches")) = some false
  s_NoPlace_PaneError : PySem.W.subIn K (.ref (clsA K "NoPlace")) (.ref (clsA K "PaneError")) = some true
  v_NoPlace : PySem.W.subIn K (.ref (clsA K "NoPlace")) (.type "ValueError") = some true
  g_NoStretches : mg "NoStretches" = some (.ref (clsA K "NoStretches"))
  o_NoStretches : OexC K (clsA K "NoStretches")
  n_NoStretches_found : PySem.W.findIn K (.ref (clsA K "NoStretches")) "found" = some none
  i_NoStretches : IniF K "NoStretches" "NoStretches.__init__" si_NoStretches ["self", "found"]
  x_NoStretches : XI K (clsA K "NoStretches")
  s_NoStretches_NoPlace : PySem.W.subIn K (.ref (clsA K "NoStretches")) (.ref (clsA K "NoPlace")) = some false
  s_NoStretches_NoStretches : PySem.W.subIn K (.ref (clsA K "NoStretches")) (.ref (clsA K "NoStretches")) = some true
  s_NoStretches_PaneError : PySem.W.subIn K (.ref (clsA K "NoStretches")) (.ref (clsA K "PaneError")) = some true
  v_NoStretches : PySem.W.subIn K (.ref (clsA K "NoStretches")) (.type "ValueError") = some true
  s_PaneError_PaneError : PySem.W.subIn K (.ref (clsA K "PaneError")) (.ref (clsA K "PaneError")) = some true
  bi_PaneError : BI K mg "PaneError"
local macro_rules | `(tactic| walk_at "ex") => `(tactic| first
  | exact EC.xm (Tx.e_NoPlace (by assumption)) (Tx.s_NoPlace_NoPlace (by assumption))
  | exact EC.xm (Tx.e_NoStretches (by assumption)) (Tx.s_NoPlace_NoStretches (by assumption))
  | exact EC.xm (Tx.e_NoPlace (by assumption)) (Tx.s_NoStretches_NoPlace (by assumption))
  | exact EC.xm (Tx.e_NoStretches (by assumption)) (Tx.s_NoStretches_NoStretches (by assumption)))
local macro_rules | `(tactic| walk_at "ki") => `(tactic| first
  | exact EC.kit (Tx.e_PaneError (by assumption)) (Tx.s_NoPlace_PaneError (by assumption)) (Tx.s_PaneError_PaneError (by assumption))
  | exact EC.kit (Tx.e_NoStretches (by assumption)) (Tx.s_NoPlace_NoStretches (by assumption)) (Tx.s_NoStretches_NoStretches (by assumption))
  | exact EC.kit (Tx.e_PaneError (by assumption)) (Tx.s_NoStretches_PaneError (by assumption)) (Tx.s_PaneError_PaneError (by assumption))
  | exact EC.kit (Tx.e_NoStretches (by assumption)) (Tx.s_NoStretches_NoStretches (by assumption)) (Tx.s_NoStretches_NoStretches (by assumption))
  | exact kit_ve (Tx.v_NoPlace (by assumption))
  | exact kit_ve (Tx.v_NoStretches (by assumption)))
local macro_rules | `(tactic| walk_at "xi") => `(tactic| first
  | exact Tx.x_NoPlace (by assumption)
  | exact Tx.x_NoStretches (by assumption))
local macro_rules | `(tactic| walk_at "xo") => `(tactic| first
  | exact Tx.o_NoPlace (by assumption)
  | exact Tx.o_NoStretches (by assumption))
local macro_rules | `(tactic| walk_at "nf") => `(tactic| first
  | exact Tx.n_NoPlace_found (by assumption)
  | exact Tx.n_NoStretches_found (by assumption))
section
variable {P : Program} {w : World} {K : PySem.W.Frag} {mg : Str → Option Value} {base : Heap} {ad : Nat → Addr} {fd : Nat → FuncData} {tk : Nat → Tok}
theorem ex_NoPlace (T : Tx K mg ad fd tk) : EX P w K mg base "NoPlace" ["self", "found"] (spI1 K "found") := by
  obtain ⟨f, fd, i1, i2, F, b⟩ := T.i_NoPlace.ex
  refine ⟨T.g_NoPlace, T.o_NoPlace, f, fd, i1, i2, F.ok sci_NoPlace (fun vs H Q E h => ?_) (fun cdv A outer s H vs Q E hr h => ?_), b⟩
  · obtain ⟨a, C, y0, rfl, _⟩ := h
    rfl
  · obtain ⟨a, C, y0, rfl, hO, hn0, ha, k⟩ := h
    refine ⟨_, (pss_cons (ps_expr (pe_oinit T.bi_PaneError rfl (pa_cons (pv 0) (pa_cons pe_str pa_nil))))
      (pss_one (ps_ost (pv 0) (pv 1)))), ?_⟩
    exact ini1_go hO hn0 ha k
theorem ex_NoStretches (T : Tx K mg ad fd tk) : EX P w K mg base "NoStretches" ["self", "found"] (spI1 K "found") := by
  obtain ⟨f, fd, i1, i2, F, b⟩ := T.i_NoStretches.ex
  refine ⟨T.g_NoStretches, T.o_NoStretches, f, fd, i1, i2, F.ok sci_NoStretches (fun vs H Q E h => ?_) (fun cdv A outer s H vs Q E hr h => ?_), b⟩
  · obtain ⟨a, C, y0, rfl, _⟩ := h
    rfl
  · obtain ⟨a, C, y0, rfl, hO, hn0, ha, k⟩ := h
    refine ⟨_, (pss_cons (ps_expr (pe_oinit T.bi_PaneError rfl (pa_cons (pv 0) (pa_cons pe_str pa_nil))))
      (pss_one (ps_ost (pv 0) (pv 1)))), ?_⟩
    exact ini1_go hO hn0 ha k
def isWholeV : V → Bool
  | .int _ => true
  | _ => false
def sp_is_whole : Sp := fun vs H Q _ => ∃ x, vs = [x] ∧ Ty H x ∧ Q (.bl (isWholeV x)) H
theorem ok_is_whole (T : Tx K mg ad fd tk) : FnOk P w K mg base CX0 1 (ad 0) (fd 0) ["thing"] sp_is_whole := by
  refine T.d_is_whole.F.ok sc_is_whole (fun vs H Q E h => ?_) (fun cdv A outer s H vs Q E hr h => ?_)
  · obtain ⟨x, rfl, _⟩ := h
    rfl
  · obtain ⟨x, rfl, ht, k⟩ := h
    refine ⟨_, (pss_one (ps_ret (pe_and (pe_callB c_is (by rfl) T.b_isinstance (by decide +kernel) (pa_cons (pv 0) (pa_cons (pe_bltn (v := .ty "int") rfl T.b_int (by decide +kernel) rfl) pa_nil))) (pe_one (pe_not (pe_callB c_is (by rfl) T.b_isinstance (by decide +kernel) (pa_cons (pv 0) (pa_cons (pe_bltn (v := .ty "bool") rfl T.b_bool (by decide +kernel) rfl) pa_nil)))))))), ?_⟩
    walk_at "go"
    refine st_isIntT ht ?_
    walk_at "go"
    cases x with
    | int i =>
      refine st_T rfl ?_
      walk_at "go"
      exact k
    | bl b =>
      refine st_T rfl ?_
      walk_at "go"
      exact k
    | _ =>
      refine st_F rfl ?_
      walk_at "go"
      exact k
def withinV (x : V) (lo hi : Int) : Bool := match x with
  | .int i => decide (lo ≤ i ∧ i ≤ hi)
  | _ => false
def sp_is_within : Sp := fun vs H Q _ => ∃ (x : V) (lo hi : Int), vs = [x, .int lo, .int hi] ∧ Ty H x ∧ Q (.bl (withinV x lo hi)) H
theorem ok_is_within (T : Tx K mg ad fd tk) : FnOk P w K mg base CX0 2 (ad 1) (fd 1) ["thing", "low", "high"] sp_is_within := by
  refine T.d_is_within.F.ok sc_is_within (fun vs H Q E h => ?_) (fun cdv A outer s H vs Q E hr h => ?_)
  · obtain ⟨x, lo, hi, rfl, _⟩ := h
    rfl
  · obtain ⟨x, lo, hi, rfl, ht, k⟩ := h
    refine ⟨_, (pss_one (ps_ret (pe_and (pe_call (ok_is_whole T) (hr.mono (by decide)) rfl T.d_is_whole.g T.d_is_whole.F.kp T.d_is_whole.b .nil pass0 (pa_cons (pv 0) pa_nil)) (pe_one (pe_chain o_le o_le (pv 1) (pv 0) (pv 2)))))), ?_⟩
    walk_at "go"
    refine ⟨x, rfl, ht, ?_⟩
    cases x with
    | int i =>
      walk_at "go"
      refine st_br2 (fun c => ?_) (fun c => ?_)
      · walk_at "go"
        have e : withinV (.int i) lo hi = decide (i ≤ hi) := by
          unfold withinV
          simp [c]
        rw [e] at k
        exact k
      · have e : withinV (.int i) lo hi = false := by
          unfold withinV
          simp [c]
        rw [e] at k
        exact k
    | _ =>
      walk_at "go"
      exact k
/-- a stretch with its worth, begin, end -/
structure S3 where
  w : Int
  b : Nat
  e : Nat
deriving DecidableEq
def encS (z : S3) : PyData := .tuple [.int z.w, .int (z.b : Nat), .int (z.e : Nat)]
def sO (z : S3) : HO := .tup [.int z.w, .int (z.b : Nat), .int (z.e : Nat)]
abbrev TZ := Addr × S3
abbrev tV (z : TZ) : V := .ref z.1
/-- each of these stands as its tuple -/
def TT (H : Hp) (zs : List TZ) : Prop := ∀ z ∈ zs, H z.1 = some (sO z.2)
structure SpOk (M : Nat) (z : S3) : Prop where
  w1 : 1 ≤ z.w
  w2 : z.w ≤ 1000000
  be : z.b < z.e
  eM : z.e ≤ M
theorem TT.ex {H H' : Hp} {zs : List TZ} (h : TT H zs) (e : Ex H H') : TT H' zs := fun z hz => e.get (h z hz)
theorem TT.up {H : Hp} {zs : List TZ} {D : Addr} {xs : List V} {u : HO} (h : TT H zs) (hD : H D = some (.lst xs)) : TT (upd H D u) zs := fun z hz => by
  rw [upd_ne fun e => ?_]
  · exact h z hz
  · have := h z hz
    rw [e, hD] at this
    cases this
theorem TT.sub {H : Hp} {zs ys : List TZ} (h : TT H zs) (e : ∀ z ∈ ys, z ∈ zs) : TT H ys := fun z hz => h z (e z hz)
theorem TT.app {H : Hp} {zs ys : List TZ} (h : TT H zs) (k : TT H ys) : TT H (zs ++ ys) := fun z hz => by
  rcases List.mem_append.mp hz with q | q
  · exact h z q
  · exact k z q
theorem TT.rn1 {H : Hp} {z : TZ} (h : H z.1 = some (sO z.2)) : Rn H (tV z) (encS z.2) := .tup h (.cons (.int _) (.cons (.int _) (.cons (.int _) .nil)))
theorem TT.rn {H : Hp} {zs : List TZ} (h : TT H zs) : RnA H (zs.map tV) (zs.map fun z => encS z.2) := rnA_map fun z hz => TT.rn1 (h z hz)
theorem TT.rnL {H : Hp} {zs : List TZ} {a : Addr} (h : TT H zs) (ha : H a = some (.lst (zs.map tV))) : Rn H (.ref a) (.list (zs.map fun z => encS z.2)) := .lst ha h.rn
theorem encS_noDict (zs : List TZ) : (PyData.list (zs.map fun z => encS z.2)).hasDict = false := by
  simp only [PyData.hasDict]
  exact hasDictA_of fun d hd => by
    obtain ⟨z, _, rfl⟩ := List.mem_map.mp hd
    rfl
theorem TT.rpL {H : Hp} {zs : List TZ} {a : Addr} (h : TT H zs) (ha : H a = some (.lst (zs.map tV))) : Rp H (.ref a) (.list (zs.map fun z => encS z.2)) := (h.rnL ha).rp (encS_noDict zs)
theorem encS_depth (z : S3) : (encS z).depth ≤ 2 := by simp [encS, PyData.depth, PyData.depthAll]
theorem ss_depth (zs : List TZ) : (PyData.list (zs.map fun z => encS z.2)).depth ≤ 3 := by
  have : PyData.depthAll (zs.map fun z => encS z.2) ≤ 2 := depth_map fun z _ => encS_depth z.2
  simp only [PyData.depth]
  omega
theorem eqv_encS (a b : S3) : PyData.eqv (encS a) (encS b) = decide (a = b) := by
  obtain ⟨a1, a2, a3⟩ := a
  obtain ⟨b1, b2, b3⟩ := b
  simp only [encS, PyData.eqv, PyData.eqvAll, Bool.and_true]
  rw [Bool.eq_iff_iff]
  simp
  omega
theorem eqv_ss (zs ys : List TZ) : PyData.eqv (.list (zs.map fun z => encS z.2)) (.list (ys.map fun z => encS z.2)) = decide (zs.map (·.2) = ys.map (·.2)) := by
  have h := eqv_list (enc := encS) eqv_encS (zs.map (·.2)) (ys.map (·.2))
  rw [List.map_map, List.map_map] at h
  exact h
theorem encS_inj {a b : S3} (h : encS a = encS b) : a = b := by
  have h1 := eqv_encS a b
  rw [h, show PyData.eqv (encS b) (encS b) = true from (eqv_encS b b).trans (decide_eq_true rfl)] at h1
  exact of_decide_eq_true h1.symm
/-- the sums from the first place on -/
structure IsT (zs : List S3) (M : Nat) (T : Nat → Int) : Prop where
  t0 : T 0 = 0
  up : ∀ e, e < M → T e ≤ T (e + 1)
  ge : ∀ z ∈ zs, T z.b + z.w ≤ T z.e
/-- the sums from the last place back -/
structure IsB (zs : List S3) (M : Nat) (B : Nat → Int) : Prop where
  bM : B M = 0
  up : ∀ p, p < M → B (p + 1) ≤ B p
  ge : ∀ z ∈ zs, z.w + B z.e ≤ B z.b
def TStep (zs : List S3) (T : Nat → Int) (e : Nat) : Prop := T (e + 1) = T e ∨ ∃ z ∈ zs, z.e = e + 1 ∧ T (e + 1) = T z.b + z.w
def BStep (zs : List S3) (B : Nat → Int) (p : Nat) : Prop := B p = B (p + 1) ∨ ∃ z ∈ zs, z.b = p ∧ B p = z.w + B z.e
theorem T_le_B {zs : List S3} {M : Nat} {T B : Nat → Int} (hok : ∀ z ∈ zs, z.b < z.e ∧ z.e ≤ M) (hT0 : T 0 = 0) (hT : ∀ e, e < M → TStep zs T e) (hB : IsB zs M B) : T M ≤ B 0 := by
  have h : ∀ n e, e ≤ n → e ≤ M → T e + B e ≤ B 0 := by
    intro n
    induction n with
    | zero => intro e h1 _; have : e = 0 := by omega
              subst this; omega
    | succ n ih =>
      intro e h1 h2
      cases e with
      | zero => omega
      | succ e =>
        rcases hT e (by omega) with h | ⟨z, hz, h3, h4⟩
        · have a := ih e (by omega) (by omega)
          have b := hB.up e (by omega)
          omega
        · obtain ⟨k1, k2⟩ := hok z hz
          have a := ih z.b (by omega) (by omega)
          have b := hB.ge z hz
          rw [h3] at b
          omega
  have := h M M (Nat.le_refl _) (Nat.le_refl _)
  rw [hB.bM] at this
  omega
theorem B_le_T {zs : List S3} {M : Nat} {T B : Nat → Int} (hok : ∀ z ∈ zs, z.b < z.e ∧ z.e ≤ M) (hT : IsT zs M T) (hBM : B M = 0) (hB : ∀ p, p < M → BStep zs B p) : B 0 ≤ T M := by
  have h : ∀ n p, M - p ≤ n → p ≤ M → B p + T p ≤ T M := by
    intro n
    induction n with
    | zero => intro p h1 h2; have : p = M := by omega
              subst this; omega
    | succ n ih =>
      intro p h1 h2
      by_cases hp : p = M
      · subst hp; omega
      · rcases hB p (by omega) with h | ⟨z, hz, h3, h4⟩
        · have a := ih (p + 1) (by omega) (by omega)
          have b := hT.up p (by omega)
          omega
        · obtain ⟨k1, k2⟩ := hok z hz
          have a := ih z.e (by omega) (by omega)
          have b := hT.ge z hz
          rw [h3] at b
          omega
  have := h M 0 (by omega) (Nat.zero_le _)
  rw [hT.t0] at this
  omega
/-- the worths of the chosen, by their places in the list -/
def wS (zs : List S3) (c : Nat) : Int := match zs[c]? with
  | some z => z.w
  | none => 0
def apartS (a b : S3) : Prop := a.e ≤ b.b ∨ b.e ≤ a.b
/-- a choice apart: places in the list, no two of one another's places -/
structure Choice (zs : List S3) (cs : List Nat) : Prop where
  lt : ∀ c ∈ cs, c < zs.length
  ap : cs.Pairwise fun a b => ∀ x y, zs[a]? = some x → zs[b]? = some y → apartS x y
theorem apartS_sym {a b : S3} (h : apartS a b) : apartS b a := Or.symm h
theorem Choice.perm {zs : List S3} {cs ds : List Nat} (h : Choice zs cs) (p : ds.Perm cs) : Choice zs ds := ⟨fun c hc => h.lt c (p.mem_iff.mp hc), (p.pairwise_iff (fun {x y} h a b h1 h2 => apartS_sym (h b a h2 h1))).mpr h.ap⟩
/-- chosen ones are different places -/
theorem Choice.nodup {zs : List S3} {cs : List Nat} {M : Nat} (h : Choice zs cs) (hok : ∀ z ∈ zs, z.b < z.e ∧ z.e ≤ M) : cs.Nodup := by
  have : cs.Pairwise fun a b => (∀ x y, zs[a]? = some x → zs[b]? = some y → apartS x y) ∧ a < zs.length := List.Pairwise.imp_of_mem (fun {a b} ha hb h' => ⟨h', h.lt a ha⟩) h.ap
  refine this.imp fun {a b} hab e => ?_
  subst e
  obtain ⟨z, hz⟩ : ∃ z, zs[a]? = some z := ⟨zs[a]'hab.2, List.getElem?_eq_getElem _⟩
  have := hok z (List.mem_of_getElem? hz)
  have h2 := hab.1 z z hz hz
  unfold apartS at h2
  omega
theorem wi_rn {H : Hp} {x : V} {d : PyData} (h : Rn H x d) (lo hi : Int) : withinV x lo hi = true ↔ ∃ i, d = .int i ∧ lo ≤ i ∧ i ≤ hi := by
  cases h <;> simp [withinV]
def WorthyD (M : Nat) (d : PyData) : Prop := ∃ z, d = encS z ∧ SpOk M z
def sp_is_worthy : Sp := fun vs H Q _ => ∃ (M : Nat) (x : V) (d : PyData), vs = [.int (M : Nat), x] ∧ M ≤ 1000 ∧ Rn H x d ∧ ∀ b, (b = true ↔ WorthyD M d) → Q (.bl b) H
theorem ok_is_worthy (T : Tx K mg ad fd tk) : FnOk P w K mg base CX0 3 (ad 2) (fd 2) ["many", "thing"] sp_is_worthy := by
  refine T.d_is_worthy.F.ok sc_is_worthy (fun vs H Q E h => ?_) (fun cdv A outer s H vs Q E hr h => ?_)
  · obtain ⟨M, x, d, rfl, _⟩ := h
    rfl
  · obtain ⟨M, x, d, rfl, hM, hx, k⟩ := h
    refine ⟨_, (pss_cons (ps_if (PW.pt (pw_or (pt_not (pt_val (pe_callB c_is (by rfl) T.b_isinstance (by decide +kernel) (pa_cons (pv 1) (pa_cons (pe_bltn (v := .ty "tuple") rfl T.b_tuple (by decide +kernel) rfl) pa_nil))))) (pw_or1 (pt_cmpR (o_ne hr.units) (pe_callB (c_len (K := K)) (by rfl) T.b_len (by decide +kernel) (pa_cons (pv 1) pa_nil)) pe_int (nomark _))))) (pss_one (ps_ret pe_bl)) pss_nil)
      (pss_cons (ps_asg (pv 1) (pg_tup rfl (pgs_cons (pg_name (i := 2) sc_is_worthy.nd rfl (Or.inl rfl)) (pgs_cons (pg_name (i := 3) sc_is_worthy.nd rfl (Or.inl rfl)) (pgs_cons (pg_name (i := 4) sc_is_worthy.nd rfl (Or.inl rfl)) pgs_nil)))))
      (pss_one (ps_ret (pe_and (pe_call (ok_is_within T) (hr.mono (by decide)) rfl T.d_is_within.g T.d_is_within.F.kp T.d_is_within.b .nil pass0 (pa_cons (pv 2) (pa_cons pe_int (pa_cons (pe_glob (v := .int 1000000) rfl T.c_MOST_WORTH ⟨_, rfl⟩) pa_nil)))) (pe_and (pe_call (ok_is_within T) (hr.mono (by decide)) rfl T.d_is_within.g T.d_is_within.F.kp T.d_is_within.b .nil pass0 (pa_cons (pv 4) (pa_cons pe_int (pa_cons (pv 0) pa_nil)))) (pe_one (pe_call (ok_is_within T) (hr.mono (by decide)) rfl T.d_is_within.g T.d_is_within.F.kp T.d_is_within.b .nil pass0 (pa_cons (pv 3) (pa_cons pe_int (pa_cons (pe_op o_sub (pv 4) pe_int) pa_nil))))))))))), ?_⟩
    have no : (¬ WorthyD M d) → Q (.bl false) H := fun n => k false ⟨(fun z => nomatch z), (fun z => (n z).elim)⟩
    walk_at "go"
    refine st_isTupD hx.rq ?_
    refine ⟨_, rfl, ?_⟩
    by_cases hd : ∃ ds, d = .tuple ds
    rotate_left
    · refine st_T ?_ ?_
      · cases d <;> first | rfl | exact absurd ⟨_, rfl⟩ hd
      walk_at "go"
      refine no (fun h => ?_)
      obtain ⟨z, e, _⟩ := h
      exact hd ⟨_, e⟩
    obtain ⟨ds, rfl⟩ := hd
    obtain ⟨a, xs, hv, h1, h2⟩ := hx.tupAt
    subst hv
    have hl := h2.len
    refine st_F rfl ?_
    walk_at "go"
    refine st_brn (fun c => ?_) (fun c => ?_)
    · walk_at "go"
      refine no (fun h => ?_)
      obtain ⟨z, e, _⟩ := h
      unfold encS at e
      injection e with e
      apply c
      rw [hl, e]
      rfl
    have c2 : xs.length = 3 := by omega
    obtain ⟨x0, x1, x2, rfl⟩ : ∃ x0 x1 x2, xs = [x0, x1, x2] := by
      match xs, c2 with
      | [x0, x1, x2], _ => exact ⟨x0, x1, x2, rfl⟩
    obtain ⟨d0, d1, d2, rfl, r0, r1, r2⟩ : ∃ d0 d1 d2, ds = [d0, d1, d2] ∧ Rn H x0 d0 ∧ Rn H x1 d1 ∧ Rn H x2 d2 := by
      match ds, h2 with
      | [d0, d1, d2], .cons r0 (.cons r1 (.cons r2 .nil)) => exact ⟨d0, d1, d2, rfl, r0, r1, r2⟩
    have enc : ∀ {z : S3}, PyData.tuple [d0, d1, d2] = encS z → d0 = .int z.w ∧ d1 = .int (z.b : Nat) ∧ d2 = .int (z.e : Nat) := fun {z} e => by
      unfold encS at e
      injection e with e
      injection e with e0 e
      injection e with e1 e
      injection e with e2 _
      exact ⟨e0, e1, e2⟩
    walk_at "go"
    refine ⟨x0, 1, 1000000, rfl, r0.rq.ty, ?_⟩
    cases hb0 : withinV x0 1 1000000 with
    | false =>
      walk_at "go"
      refine no (fun h => ?_)
      obtain ⟨z, e, ok⟩ := h
      have := (wi_rn r0 1 1000000).mpr ⟨z.w, (enc e).1, ok.w1, ok.w2⟩
      rw [hb0] at this
      cases this
    | true =>
      obtain ⟨w, rfl, w1, w2⟩ := (wi_rn r0 _ _).mp hb0
      walk_at "go"
      refine ⟨x2, 1, (M : Int), rfl, r2.rq.ty, ?_⟩
      cases hb2 : withinV x2 1 (M : Int) with
      | false =>
        walk_at "go"
        refine no (fun h => ?_)
        obtain ⟨z, e, ok⟩ := h
        have h1 := ok.be
        have h2 := ok.eM
        have := (wi_rn r2 1 (M : Int)).mpr ⟨(z.e : Nat), (enc e).2.2, by omega, by omega⟩
        rw [hb2] at this
        cases this
      | true =>
        obtain ⟨e, rfl, e1, e2⟩ := (wi_rn r2 _ _).mp hb2
        cases r2
        walk_at "go"
        refine ⟨x1, 0, e - 1, rfl, r1.rq.ty, ?_⟩
        cases hb1 : withinV x1 0 (e - 1) with
        | false =>
          refine no (fun h => ?_)
          obtain ⟨z, ee, ok⟩ := h
          have h1 := ok.be
          obtain ⟨_, f1, f2⟩ := enc ee
          injection f2 with f2
          have := (wi_rn r1 0 (e - 1)).mpr ⟨(z.b : Nat), f1, by omega, by omega⟩
          rw [hb1] at this
          cases this
        | true =>
          obtain ⟨b, rfl, b1, b2⟩ := (wi_rn r1 _ _).mp hb1
          refine k true ⟨fun _ => ⟨⟨w, b.toNat, e.toNat⟩, ?_, ⟨w1, w2, by show b.toNat < e.toNat; omega, by show e.toNat ≤ M; omega⟩⟩, fun _ => rfl⟩
          unfold encS
          dsimp only
          rw [show ((b.toNat : Nat) : Int) = b by omega, show ((e.toNat : Nat) : Int) = e by omega]
/-- stretches that may be asked of -/
def GoodSpans (M : Nat) (d : PyData) : Prop := ∃ l : List S3, d = .list (l.map encS) ∧ l.length ≤ 400 ∧ ∀ z ∈ l, SpOk M z
theorem spans_of {H : Hp} {v : V} {d : PyData} {M : Nat} (hx : Rn H v d) (hg : GoodSpans M d) : ∃ (p : Addr) (zs : List TZ), v = .ref p ∧ H p = some (.lst (zs.map tV)) ∧ TT H zs ∧ zs.length ≤ 400 ∧ (∀ z ∈ zs, SpOk M z.2) ∧ d = .list ((zs.map (·.2)).map encS) := by
  obtain ⟨l, rfl, h1, h2⟩ := hg
  obtain ⟨p, xs, rfl, hp, hxs⟩ := hx.listAt
  have : ∀ (xs : List V) (l : List S3), RnA H xs (l.map encS) → ∃ zs : List TZ, xs = zs.map tV ∧ zs.map (·.2) = l ∧ TT H zs := by
    intro xs l
    induction l generalizing xs with
    | nil =>
      intro h
      cases h
      exact ⟨[], rfl, rfl, fun z h => (List.not_mem_nil h).elim⟩
    | cons z l ih =>
      intro h
      cases h with
      | cons a b =>
        obtain ⟨zs, rfl, rfl, hz⟩ := ih _ b
        obtain ⟨a1, ys, rfl, ha, hys⟩ := a.tupAt
        cases hys with
        | cons r1 hys =>
          cases hys with
          | cons r2 hys =>
            cases hys with
            | cons r3 hys =>
              cases hys
              cases r1
              cases r2
              cases r3
              refine ⟨(a1, z) :: zs, rfl, rfl, fun y hy => ?_⟩
              rcases List.mem_cons.mp hy with h | h
              · rw [h]; exact ha
              · exact hz y h
  obtain ⟨zs, rfl, rfl, hz⟩ := this xs l hxs
  refine ⟨p, zs, rfl, hp, hz, by rw [List.length_map] at h1; exact h1, fun z hz => h2 _ (List.mem_map_of_mem hz), rfl⟩
theorem encS_maps {a b : List S3} (h : PyData.list (a.map encS) = .list (b.map encS)) : a = b := by
  injection h with h
  induction a generalizing b with
  | nil => cases b with
    | nil => rfl
    | cons y b => cases h
  | cons x a ih => cases b with
    | nil => cases h
    | cons y b =>
      rw [List.map_cons, List.map_cons] at h
      injection h with h1 h2
      rw [encS_inj h1, ih h2]
theorem list_inj3 {a b : List PyData} (h : PyData.list a = .list b) : a = b := by injection h
theorem worthy_all {M : Nat} : ∀ zs : List (V × PyData), (∀ z ∈ zs, WorthyD M z.2) → ∃ l : List S3, zs.map (·.2) = l.map encS ∧ ∀ z ∈ l, SpOk M z
  | [], _ => ⟨[], rfl, fun _ h => nomatch h⟩
  | z :: zs, h => by
    obtain ⟨l, e, k⟩ := worthy_all zs fun y hy => h y (List.mem_cons_of_mem _ hy)
    obtain ⟨s, e1, e2⟩ := h z List.mem_cons_self
    refine ⟨s :: l, by rw [List.map_cons, List.map_cons, e1, e], fun y hy => ?_⟩
    rcases List.mem_cons.mp hy with e | e
    · rw [e]; exact e2
    · exact k y e
def sp_need_stretches (K : PySem.W.Frag) : Sp := fun vs H Q E => ∃ (m v : V) (d : PyData), vs = [m, v] ∧ Ty H m ∧ Rn H v d ∧
  (withinV m 0 24 = false → RaF K E H "NoPlace" [("found", m)]) ∧ (∀ M : Nat, m = .int (M : Nat) → M ≤ 24 → (GoodSpans M d → ∀ H', Ex H H' → Q .non H') ∧ (¬ GoodSpans M d → RaF K E H "NoStretches" [("found", v)]))
theorem ok_need_stretches (T : Tx K mg ad fd tk) : FnOk P w K mg base (L2.CX P w) 4 (ad 3) (fd 3) ["many", "stretches"] (sp_need_stretches K) := by
  refine T.d_need_stretches.F.okX sc_need_stretches (fun vs H Q E h => ?_) (fun cdv A outer s H vs Q E hr h => ?_)
  · obtain ⟨m, v, d, rfl, _⟩ := h
    rfl
  · obtain ⟨m, v, d, rfl, hm, hx, k0, k1⟩ := h
    refine ⟨_, (pss_cons (ps_if (pt_not (pt_val (pe_call (ok_is_within T) (hr.mono (by decide)) rfl T.d_is_within.g T.d_is_within.F.kp T.d_is_within.b .nil pass0 (pa_cons (pv 0) (pa_cons pe_int (pa_cons (pe_glob (v := .int 24) rfl T.c_MOST_LETTERS ⟨_, rfl⟩) pa_nil)))))) (pss_one (ps_raiseG rfl (ex_NoPlace T) (hr.mono (by decide)) (takes_of rfl rfl rfl rfl) rfl (pa_cons (pv 0) pa_nil))) pss_nil)
      (pss_cons (ps_if (PW.pt (pw_or (pt_not (pt_val (pe_callB c_is (by rfl) T.b_isinstance (by decide +kernel) (pa_cons (pv 1) (pa_cons (pe_bltn (v := .ty "list") rfl T.b_list (by decide +kernel) rfl) pa_nil))))) (pw_or1 (pt_cmpR o_gt (pe_callB (c_len (K := K)) (by rfl) T.b_len (by decide +kernel) (pa_cons (pv 1) pa_nil)) (pe_glob (v := .int 400) rfl T.c_MOST_STRETCHES ⟨_, rfl⟩) (nomark _))))) (pss_one (ps_raiseG rfl (ex_NoStretches T) (hr.mono (by decide)) (takes_of rfl rfl rfl rfl) rfl (pa_cons (pv 1) pa_nil))) pss_nil)
      (pss_one (ps_if (pt_not (pt_val (pe_callB (c_all rfl) (by rfl) T.b_all (by decide +kernel) (pa_cons (pe_lc (own := [("stretch", 2)]) (g := gName 2) rfl sc_need_stretches.nd (pi_list (pv 1)) (blkOk_by (own := [("stretch", 2)]) (N := N_need_stretches) (sc := defScope s_need_stretches) (by decide +kernel)) (fun _ _ _ _ _ => pg_name (i := 2) sc_need_stretches.nd rfl (Or.inl rfl)) (fun _ _ _ _ _ => pts_nil) (fun _ _ _ _ _ => (pe_call (ok_is_worthy T) (hr.mono (by decide)) rfl T.d_is_worthy.g T.d_is_worthy.F.kp T.d_is_worthy.b .nil pass0 (pa_cons (pv 0) (pa_cons (pv 2) pa_nil))))) pa_nil)))) (pss_one (ps_raiseG rfl (ex_NoStretches T) (hr.mono (by decide)) (takes_of rfl rfl rfl rfl) rfl (pa_cons (pv 1) pa_nil))) pss_nil)))), ?_⟩
    walk_at "go"
    refine ⟨m, 0, 24, rfl, hm, ?_⟩
    cases hb : withinV m 0 24 with
    | false =>
      have k2 := k0 hb
      walk_at "go"
      rename_i d2 H2 hd2 e2 hv2
      exact k2 d2 H2 hd2 e2 hv2
    | true =>
      obtain ⟨M, rfl, hM⟩ : ∃ M : Nat, m = .int (M : Nat) ∧ M ≤ 24 := by
        unfold withinV at hb
        split at hb
        · rename_i i
          have hb := of_decide_eq_true hb
          exact ⟨i.toNat, by rw [show ((i.toNat : Nat) : Int) = i by omega], by omega⟩
        · cases hb
      obtain ⟨kg, kb⟩ := k1 M rfl hM
      walk_at "go"
      refine st_isListD hx.rq ?_
      refine ⟨_, rfl, ?_⟩
      by_cases hd : ∃ ds, d = .list ds
      rotate_left
      · have k2 := kb (fun h => by obtain ⟨l, e, _⟩ := h; exact hd ⟨_, e⟩)
        refine st_T ?_ ?_
        · cases d <;> first | rfl | exact absurd ⟨_, rfl⟩ hd
        walk_at "go"
        rename_i d2 H2 hd2 e2 hv2
        exact k2 d2 H2 hd2 e2 hv2
      obtain ⟨ds, rfl⟩ := hd
      obtain ⟨a, xs, hv, ha, hxs⟩ := hx.listAt
      subst hv
      obtain ⟨zs, rfl, rfl, hzs⟩ := hxs.zipped
      refine st_F rfl ?_
      walk_at "go"
      refine st_br2 (fun c => ?_) (fun c => ?_)
      · rw [List.length_map] at c
        have k2 := kb (fun h => by
          obtain ⟨l, e, h2, _⟩ := h
          have := congrArg List.length (list_inj3 e)
          rw [List.length_map, List.length_map] at this
          omega)
        walk_at "go"
        rename_i d2 H2 hd2 e2 hv2
        exact k2 d2 H2 hd2 e2 hv2
      rw [List.length_map] at c
      walk_at "go"
      refine lc_map (rv_list K a zs (·.1)) (fun H' e => lst_of (e.get ha)) (by omega) (fun z => .bl (@decide (WorthyD M z.2) (Classical.propDecidable _))) ?_ ?_
      · intro z H' hzm e B h1
        refine ⟨rfl, ?_⟩
        have h1' := h1 _ (Fr.refl _)
        have hz := (hzs z hzm).ex e
        walk_at "go"
        refine ⟨M, z.1, z.2, rfl, by omega, hz, fun b hb => ?_⟩
        have : b = @decide (WorthyD M z.2) (Classical.propDecidable _) := by
          rw [Bool.eq_iff_iff, hb]
          simp
        rw [this]
        exact h1'
      · intro D H1 hD e1 hd1
        walk_at "go"
        refine st_all (bs := zs.map fun z => @decide (WorthyD M z.2) (Classical.propDecidable _)) hd1 (by rw [List.map_map]; rfl) ?_
        walk_at "go"
        refine st_br (fun c2 => ?_) (fun c2 => ?_)
        · have k2 := kb (fun h => by
            obtain ⟨l, e, _, h3⟩ := h
            have e := list_inj3 e
            simp at c2
            obtain ⟨z1, z2, hz, hn⟩ := c2
            apply hn
            have hm : z2 ∈ l.map encS := by rw [← e]; exact List.mem_map.mpr ⟨_, hz, rfl⟩
            obtain ⟨q, hq, rfl⟩ := List.mem_map.mp hm
            exact ⟨q, rfl, h3 q hq⟩)
          walk_at "go"
          rename_i d2 H2 hd2 e2 hv2
          exact k2 d2 H2 (Ex.free e1 hd2) (e1.trans e2) hv2
        · walk_at "go"
          refine kg ?_ _ e1
          have hall : ∀ z ∈ zs, WorthyD M z.2 := fun z hz => by
            simp at c2
            exact c2 _ _ hz
          obtain ⟨l, e, h⟩ := worthy_all zs hall
          refine ⟨l, by rw [e], ?_, h⟩
          have := congrArg List.length e
          rw [List.length_map, List.length_map] at this
          omega
/-- the list at d of lists at hs of things at tss: row l holds these, by o -/
structure RowsAt {α : Type} (o : α → HO) (H0 H : Hp) (d : Addr) (hs : List Addr) (tss : List (List Addr)) (n : Nat) (lv : Nat → List α) : Prop where
  new : H0 d = none
  at_ : H d = some (.lst (hs.map V.ref))
  len : tss.length = n
  rows : ObjsAt H hs (tss.map fun ts => .lst (ts.map V.ref))
  nd : hs.Nodup
  non : d ∉ hs
  news : ∀ h ∈ hs, H0 h = none
  tups : ∀ l ts, tss[l]? = some ts → ObjsAt H ts ((lv l).map o)
section
variable {α : Type} {o : α → HO} {H0 H H' : Hp} {d : Addr} {hs : List Addr} {tss : List (List Addr)} {n : Nat} {lv : Nat → List α}
theorem objs_nlst (ho : ∀ x ys, o x ≠ .lst ys) {ts : List Addr} {qs : List α} {r : Addr} {xs : List V} (h : ObjsAt H ts (qs.map o)) (hr : H r = some (.lst xs)) : r ∉ ts := fun z => by
  obtain ⟨u, hu, hv⟩ := h.mem z
  obtain ⟨q, _, rfl⟩ := List.mem_map.mp hu
  rw [hr] at hv
  exact ho q xs (Option.some.inj hv).symm
theorem RowsAt.ex (h : RowsAt o H0 H d hs tss n lv) (e : Ex H H') : RowsAt o H0 H' d hs tss n lv :=
  ⟨h.new, e.get h.at_, h.len, h.rows.ex e, h.nd, h.non, h.news, fun l ts h1 => (h.tups l ts h1).ex e⟩
theorem RowsAt.put (ho : ∀ x ys, o x ≠ .lst ys) {l : Nat} {q : α} {T r : Addr} {ts : List Addr} (h : RowsAt o H0 H d hs tss n lv) (hT : H T = some (o q)) (hr : hs[l]? = some r) (hts : tss[l]? = some ts) :
    RowsAt o H0 (upd H r (.lst (ts.map V.ref ++ [V.ref T]))) d hs (tss.set l (ts ++ [T])) n (fun k => if k = l then lv k ++ [q] else lv k) := by
  have hrm := List.mem_of_getElem? hr
  have hrd : d ≠ r := fun z => h.non (z ▸ hrm)
  have hrr := h.rows.at _ _ _ hr (by rw [List.getElem?_map, hts]; rfl)
  have hTr : T ≠ r := fun z => by
    rw [z, hrr] at hT
    exact ho q _ (Option.some.inj hT).symm
  refine ⟨h.new, by rw [upd_ne hrd]; exact h.at_, by rw [List.length_set]; exact h.len, ?_, h.nd, h.non, h.news, ?_⟩
  · have := h.rows.set (u := .lst (ts.map V.ref ++ [V.ref T])) h.nd hr
    rw [List.map_set, List.map_append]
    exact this
  · intro k us hl
    by_cases e : k = l
    · subst e
      rw [List.getElem?_set_self (List.getElem?_eq_some_iff.mp hts).1] at hl
      cases hl
      rw [if_pos rfl, List.map_append]
      refine ObjsAt.app (.up (objs_nlst ho (h.tups _ _ hts) hrr) (h.tups _ _ hts)) (.one ?_)
      rw [upd_ne hTr]
      exact hT
    · rw [List.getElem?_set_ne (Ne.symm e)] at hl
      rw [if_neg e]
      exact .up (objs_nlst ho (h.tups _ _ hl) hrr) (h.tups _ _ hl)
theorem RowsAt.mut (h : RowsAt o H0 H d hs tss n lv) (e : Ex H0 H') {r : Addr} {u : HO} (hr : r ∈ hs) : Ex H0 (upd H' r u) := e.mut (h.news r hr)
theorem RowsAt.up (ho : ∀ x ys, o x ≠ .lst ys) {x : Addr} {xs : List V} {u : HO} (h : RowsAt o H0 H d hs tss n lv) (h1 : d ≠ x) (h2 : x ∉ hs) (h3 : H x = some (.lst xs)) : RowsAt o H0 (upd H x u) d hs tss n lv :=
  ⟨h.new, by rw [upd_ne h1]; exact h.at_, h.len, .up h2 h.rows, h.nd, h.non, h.news, fun l ts hl => .up (objs_nlst ho (h.tups l ts hl) h3) (h.tups l ts hl)⟩
theorem RowsAt.mem_ex (h : RowsAt o H0 H d hs tss n lv) {x : Addr} (hx : H x = none) : x ∉ hs := fun z => by
  obtain ⟨u, hu, hv⟩ := h.rows.mem z
  rw [hx] at hv
  cases hv
theorem RowsAt.cong {lv' : Nat → List α} (h : RowsAt o H0 H d hs tss n lv) (e : ∀ l, l < n → lv l = lv' l) : RowsAt o H0 H d hs tss n lv' :=
  ⟨h.new, h.at_, h.len, h.rows, h.nd, h.non, h.news, fun l ts h1 => by
    have := (List.getElem?_eq_some_iff.mp h1).1
    rw [← e l (by rw [← h.len]; exact this)]
    exact h.tups l ts h1⟩
end
def LastOk (ss : List S3) (T : Nat → Int) (e : Nat) (v : V) : Prop := (v = .non ∧ T (e + 1) = T e) ∨ ∃ (c : Nat) (z : S3), v = .int (c : Nat) ∧ ss[c]? = some z ∧ z.e = e + 1 ∧ T (e + 1) = T z.b + z.w
/-- the stretches that end at e, among the first i, with their places -/
def ixs (ss : List S3) (e i : Nat) : List (S3 × Nat) := (ss.zipIdx.take i).filter fun q => decide (q.1.e = e)
theorem ixs_0 (ss : List S3) (e : Nat) : ixs ss e 0 = [] := by simp [ixs]
theorem ixs_s (ss : List S3) (e i : Nat) {z : S3} (h : ss[i]? = some z) : ixs ss e (i + 1) = if e = z.e then ixs ss e i ++ [(z, i)] else ixs ss e i := by
  have hz : ss.zipIdx[i]? = some (z, i) := by rw [List.getElem?_zipIdx, h]; simp
  have tk : ss.zipIdx.take (i + 1) = ss.zipIdx.take i ++ [(z, i)] := by rw [List.take_add_one, hz]; rfl
  unfold ixs
  rw [tk, List.filter_append]
  by_cases e1 : e = z.e
  · rw [if_pos e1, List.filter_cons_of_pos (by simp [e1])]
    rfl
  · rw [if_neg e1, List.filter_cons_of_neg (by simp; exact fun x => e1 x.symm), List.filter_nil, List.append_nil]
theorem ixs_mem {ss : List S3} {e : Nat} {q : S3 × Nat} : q ∈ ixs ss e ss.length ↔ ss[q.2]? = some q.1 ∧ q.1.e = e := by
  have hl : ss.zipIdx.take ss.length = ss.zipIdx := List.take_of_length_le (by rw [List.length_zipIdx]; exact Nat.le_refl _)
  unfold ixs
  rw [hl, List.mem_filter, decide_eq_true_eq]
  have : q ∈ ss.zipIdx ↔ ss[q.2]? = some q.1 := by
    obtain ⟨a, b⟩ := q
    rw [List.mem_zipIdx_iff_getElem?]
  rw [this]
def ixO (q : S3 × Nat) : HO := .tup [.int (q.2 : Nat), .int q.1.w, .int (q.1.b : Nat)]
/-- the sums are right so far -/
structure PartT (ss : List S3) (ts : List Int) (ls : List V) (i : Nat) : Prop where
  tl : ts.length = i + 1
  ll : ls.length = i + 1
  t0 : ts.getD 0 0 = 0
  up : ∀ e, e < i → ts.getD e 0 ≤ ts.getD (e + 1) 0
  ge : ∀ z ∈ ss, z.e ≤ i → ts.getD z.b 0 + z.w ≤ ts.getD z.e 0
  la : ∀ e, e < i → ∃ v, ls[e + 1]? = some v ∧ LastOk ss (fun e => ts.getD e 0) e v
theorem getD_lt {ts : List Int} {x : Int} {e : Nat} (h : e < ts.length) : (ts ++ [x]).getD e 0 = ts.getD e 0 := by
  rw [List.getD_eq_getElem?_getD, List.getD_eq_getElem?_getD, List.getElem?_append_left h]
theorem getD_eq {ts : List Int} {x : Int} : (ts ++ [x]).getD ts.length 0 = x := by
  rw [List.getD_eq_getElem?_getD, List.getElem?_append_right (Nat.le_refl _)]
  simp
theorem PartT.step {ss : List S3} {ts : List Int} {ls : List V} {i : Nat} {x : Int} {v : V} (h : PartT ss ts ls i) (hok : ∀ z ∈ ss, z.b < z.e) (h1 : ts.getD i 0 ≤ x) (h2 : ∀ z ∈ ss, z.e = i + 1 → ts.getD z.b 0 + z.w ≤ x)
    (h3 : (v = .non ∧ x = ts.getD i 0) ∨ ∃ (c : Nat) (z : S3), v = .int (c : Nat) ∧ ss[c]? = some z ∧ z.e = i + 1 ∧ x = ts.getD z.b 0 + z.w) : PartT ss (ts ++ [x]) (ls ++ [v]) (i + 1) := by
  have hl := h.tl
  have gl : ∀ e, e ≤ i → (ts ++ [x]).getD e 0 = ts.getD e 0 := fun e he => getD_lt (by omega)
  have ge : (ts ++ [x]).getD (i + 1) 0 = x := by rw [← hl]; exact getD_eq
  refine ⟨by rw [List.length_append, hl]; rfl, by rw [List.length_append, h.ll]; rfl, by rw [gl 0 (Nat.zero_le _)]; exact h.t0, fun e he => ?_, fun z hz he => ?_, fun e he => ?_⟩
  · by_cases q : e = i
    · subst q; rw [gl e (Nat.le_refl _), ge]; exact h1
    · rw [gl e (by omega), gl (e + 1) (by omega)]; exact h.up e (by omega)
  · have hb := hok z hz
    by_cases q : z.e = i + 1
    · rw [gl z.b (by omega), q, ge]; exact h2 z hz q
    · rw [gl z.b (by omega), gl z.e (by omega)]; exact h.ge z hz (by omega)
  · by_cases q : e = i
    · subst q
      refine ⟨v, by rw [List.getElem?_append_right (by rw [h.ll]; exact Nat.le_refl _), h.ll]; simp, ?_⟩
      rcases h3 with ⟨rfl, h3⟩ | ⟨c, z, rfl, h4, h5, h6⟩
      · exact .inl ⟨rfl, by dsimp only; rw [ge, gl e (Nat.le_refl _)]; exact h3⟩
      · have hb := hok z (List.mem_of_getElem? h4)
        exact .inr ⟨c, z, rfl, h4, h5, by dsimp only; rw [ge, gl z.b (by omega)]; exact h6⟩
    · obtain ⟨u, hu, hL⟩ := h.la e (by omega)
      refine ⟨u, by rw [List.getElem?_append_left (by rw [h.ll]; omega)]; exact hu, ?_⟩
      rcases hL with ⟨rfl, h3⟩ | ⟨c, z, rfl, h4, h5, h6⟩
      · exact .inl ⟨rfl, by dsimp only at h3 ⊢; rw [gl e (by omega), gl (e + 1) (by omega)]; exact h3⟩
      · have hb := hok z (List.mem_of_getElem? h4)
        exact .inr ⟨c, z, rfl, h4, h5, by dsimp only at h6 ⊢; rw [gl (e + 1) (by omega), gl z.b (by omega)]; exact h6⟩
def sp_totals_of : Sp := fun vs H Q _ => ∃ (M : Nat) (p : Addr) (zs : List TZ), vs = [.int (M : Nat), .ref p] ∧ M ≤ 24 ∧ H p = some (.lst (zs.map tV)) ∧ TT H zs ∧ zs.length ≤ 400 ∧ (∀ z ∈ zs, SpOk M z.2) ∧
  ∀ a tp lp (ts : List Int) (ls : List V) H', Ex H H' → H' a = some (.tup [.ref tp, .ref lp]) → H' tp = some (.lst (ts.map V.int)) → H' lp = some (.lst ls) → PartT (zs.map (·.2)) ts ls M → Q (.ref a) H'
theorem ok_totals_of (T : Tx K mg ad fd tk) : FnOk P w K mg base CX0 1 (ad 4) (fd 4) ["many", "stretches"] sp_totals_of := by
  refine T.d_totals_of.F.ok sc_totals_of (fun vs H Q E h => ?_) (fun cdv A outer s H vs Q E hr h => ?_)
  · obtain ⟨M, p, zs, rfl, _⟩ := h
    rfl
  · obtain ⟨M, p, zs, rfl, hM, hp, htt, hl, hok, k⟩ := h
    refine ⟨_, (pss_cons (ps_setLc (i := 2) (own := [("k", 11)]) (g := gName 11) rfl sc_totals_of.nd rfl rfl (sw_true rfl rfl rfl (by decide +kernel)) (pi_range1 rfl T.b_range (pa_cons (pe_op o_add (pv 0) pe_int) pa_nil)) (blkOk_by (own := [("k", 11)]) (N := N_totals_of) (sc := defScope s_totals_of) (by decide +kernel)) (fun _ _ _ _ _ => pg_name (i := 11) sc_totals_of.nd rfl (Or.inl rfl)) (fun _ _ _ _ _ => pts_nil) (fun _ _ _ _ _ => (pe_lst pa_nil)))
      (pss_cons (ps_for PassesOwn.never rfl (pi_enum rfl T.b_enumerate (pa_cons (pv 1) pa_nil)) (pg_tup rfl (pgs_cons (pg_name (i := 3) sc_totals_of.nd rfl (Or.inl rfl)) (pgs_cons (pg_tup rfl (pgs_cons (pg_name (i := 4) sc_totals_of.nd rfl (Or.inl rfl)) (pgs_cons (pg_name (i := 5) sc_totals_of.nd rfl (Or.inl rfl)) (pgs_cons (pg_name (i := 6) sc_totals_of.nd rfl (Or.inl rfl)) pgs_nil)))) pgs_nil))) (pss_one (ps_expr (pe_bm PySem.F.plainAttrs_list PySem.F.slot_list_append PySem.F.type_list_append mt_append (pe_ix (i_ix (K := K)) (pv 2) (pv 6) (fun _ _ => rfl)) (pa_cons (pe_tup (pa_cons (pv 3) (pa_cons (pv 4) (pa_cons (pv 5) pa_nil)))) pa_nil)))))
      (pss_cons (ps_set (i := 7) sc_totals_of.nd rfl (Or.inl rfl) (pe_lst (pa_cons pe_int pa_nil)))
      (pss_cons (ps_set (i := 8) sc_totals_of.nd rfl (Or.inl rfl) (pe_lst (pa_cons pe_non pa_nil)))
      (pss_cons (ps_for PassesOwn.never rfl (pi_range2 rfl T.b_range (pa_cons pe_int (pa_cons (pe_op o_add (pv 0) pe_int) pa_nil))) (pg_name (i := 6) sc_totals_of.nd rfl (Or.inl rfl)) (pss_cons (ps_set (i := 9) sc_totals_of.nd rfl (Or.inl rfl) (pe_ix (i_ix (K := K)) (pv 7) (pe_op o_sub (pv 6) pe_int) (fun _ _ => rfl)))
      (pss_cons (ps_set (i := 10) sc_totals_of.nd rfl (Or.inl rfl) pe_non)
      (pss_cons (ps_for PassesOwn.never rfl (pi_list (pe_ix (i_ix (K := K)) (pv 2) (pv 6) (fun _ _ => rfl))) (pg_tup rfl (pgs_cons (pg_name (i := 3) sc_totals_of.nd rfl (Or.inl rfl)) (pgs_cons (pg_name (i := 4) sc_totals_of.nd rfl (Or.inl rfl)) (pgs_cons (pg_name (i := 5) sc_totals_of.nd rfl (Or.inl rfl)) pgs_nil)))) (pss_one (ps_if (pt_cmpR o_gt (pe_op o_add (pe_ix (i_ix (K := K)) (pv 7) (pv 5) (fun _ _ => rfl)) (pv 4)) (pv 9) (nomark _)) (pss_cons (ps_set (i := 9) sc_totals_of.nd rfl (Or.inl rfl) (pe_op o_add (pe_ix (i_ix (K := K)) (pv 7) (pv 5) (fun _ _ => rfl)) (pv 4)))
      (pss_one (ps_set (i := 10) sc_totals_of.nd rfl (Or.inl rfl) (pv 3)))) pss_nil)))
      (pss_cons (ps_expr (pe_bm PySem.F.plainAttrs_list PySem.F.slot_list_append PySem.F.type_list_append mt_append (pv 7) (pa_cons (pv 9) pa_nil)))
      (pss_one (ps_expr (pe_bm PySem.F.plainAttrs_list PySem.F.slot_list_append PySem.F.type_list_append mt_append (pv 8) (pa_cons (pv 10) pa_nil)))))))))
      (pss_one (ps_ret (pe_tup (pa_cons (pv 7) (pa_cons (pv 8) pa_nil)))))))))), ?_⟩
    have ho : ∀ (x : S3 × Nat) ys, ixO x ≠ .lst ys := fun x ys h => by cases h
    have hbe : ∀ z ∈ zs.map (·.2), z.b < z.e := fun z hz => by
      obtain ⟨y, hy, rfl⟩ := List.mem_map.mp hz
      exact (hok y hy).be
    walk_at "go"
    refine lc_objs0 (rv_range 0 _) (fun _ _ => trivial) (by rw [List.length_range]; omega) (fun _ => .lst []) ?_ ?_
    · intro i H' hi e B h1
      refine ⟨rfl, ?_⟩
      walk_at "go"
      rename_i q G2 n2 e2 v2
      exact h1 q G2 n2 e2 v2
    intro d H1 hs hd0 e1 hd1 rows nd nn news
    have hM1 : ((M : Int) + 1).toNat = M + 1 := by omega
    rw [hM1] at rows
    have RA0 : RowsAt ixO H H1 d hs ((List.range (M + 1)).map fun _ => []) (M + 1) (fun l => ixs (zs.map (·.2)) l 0) := by
      refine ⟨hd0, hd1, by rw [List.length_map, List.length_range], by rw [List.map_map]; exact rows, nd, nn, news, fun l ts hl => ?_⟩
      rw [List.getElem?_map] at hl
      cases hq : (List.range (M + 1))[l]? with
      | none => rw [hq] at hl; cases hl
      | some z => rw [hq] at hl; cases hl; rw [ixs_0]; exact .nil
    have hp1 := e1.get hp
    walk_at "go"
    refine for_runs (runs_enum K p (zs.map tV)) (fun i σ H' => Ex H H' ∧ (∃ tss, RowsAt ixO H H' d hs tss (M + 1) (fun l => ixs (zs.map (·.2)) l i)) ∧ ∃ a b c e f g h x y, σ = [some (.int (M : Nat)), some (.ref p), some (.ref d), a, b, c, e, f, g, h, x, y]) ⟨e1, ⟨_, RA0⟩, _, _, _, _, _, _, _, _, _, rfl⟩ (fun i σ H' _ ⟨e, _⟩ => lst_of (e.get hp)) ?_ ?_
    · rintro i x σ H2 H2' hi ⟨e2, ⟨tss, RA⟩, a, b, c, e', f, g, h, x', y', rfl⟩ ⟨T, v, rfl, hT, eT, vT, hv⟩
      rw [List.length_map] at hi
      obtain ⟨z, hz⟩ : ∃ z, zs[i]? = some z := ⟨_, List.getElem?_eq_getElem hi⟩
      rw [List.getElem?_map, hz] at hv
      cases hv
      have hzm := List.mem_of_getElem? hz
      have hzv : H2' z.1 = some (.tup [.int z.2.w, .int (z.2.b : Nat), .int (z.2.e : Nat)]) := (e2.trans eT).get (htt z hzm)
      have hzo := hok z hzm
      have hb1 := hzo.be
      have hb2 := hzo.eM
      have RA2 := RA.ex eT
      have hd2 := RA2.at_
      have hl1 := RA2.rows.len
      rw [List.length_map, RA2.len] at hl1
      obtain ⟨r, hr⟩ : ∃ r, hs[z.2.e]? = some r := ⟨hs[z.2.e]'(by omega), List.getElem?_eq_getElem _⟩
      obtain ⟨ts, hts⟩ : ∃ ts, tss[z.2.e]? = some ts := ⟨tss[z.2.e]'(by rw [RA2.len]; omega), List.getElem?_eq_getElem _⟩
      have hrow := RA2.rows.at _ _ _ hr (by rw [List.getElem?_map, hts]; rfl)
      walk_at "go"
      refine st_ixL hd2 (v := .ref r) (at_mapN hr) ?_
      walk_at "go"
      rename_i T3 G3 n3 e3 v3
      have tl := (RA2.tups _ _ hts).len
      have hil : (ixs (zs.map (·.2)) z.2.e i).length ≤ 400 := Nat.le_trans (List.length_filter_le _ _) (by rw [List.length_take, List.length_zipIdx, List.length_map]; omega)
      rw [List.length_map] at tl
      refine st_app (e3.get hrow) (by rw [List.length_map]; omega) ?_
      have RA3 := (RA2.ex e3).put ho (q := (z.2, i)) (T := T3) v3 hr hts
      refine ⟨RA.mut ((e2.trans eT).trans e3) (List.mem_of_getElem? hr), ⟨_, RA3.cong fun l _ => ?_⟩, _, _, _, _, _, _, _, _, _, rfl⟩
      rw [ixs_s _ _ _ (z := z.2) (by rw [List.getElem?_map, hz]; rfl)]
    rintro σ H2 ⟨e2, ⟨tss, RA⟩, a, b, c, e', f, g, h, x', y', rfl⟩
    rw [List.length_map] at RA
    walk_at "go"
    rename_i tp G3 n3 e3 v3 lp G4 n4 e4 v4
    have htp0 : H tp = none := Ex.free e2 n3
    have hlp0 : H lp = none := Ex.free (e2.trans e3) n4
    have htl : tp ≠ lp := ne_of_none v3 n4
    have v3' := e4.get v3
    have RA4 := (RA.ex e3).ex e4
    have e04 : Ex H G4 := (e2.trans e3).trans e4
    have htph : tp ∉ hs := RA.mem_ex n3
    have hlph : lp ∉ hs := (RA.ex e3).mem_ex n4
    have hdtp : d ≠ tp := ne_of_none RA.at_ n3
    have hdlp : d ≠ lp := ne_of_none (e3.get RA.at_) n4
    have p0 : PartT (zs.map (·.2)) [0] [.non] 0 := ⟨rfl, rfl, rfl, (fun e h => by omega), (fun z hz he => by have := hbe z hz; omega), (fun e h => by omega)⟩
    refine for_runs (show Runs (Itr 1 ((M : Int) + 1 - 1).toNat) M (fun _ => True) (fun i x H H' => H' = H ∧ x = .int (1 + (i : Nat))) by rw [show ((M : Int) + 1 - 1).toNat = M by omega]; exact runs_range 1 M) (fun i σ H' => Ex H H' ∧ RowsAt ixO H H' d hs tss (M + 1) (fun l => ixs (zs.map (·.2)) l zs.length) ∧ (∃ (ts : List Int) (ls : List V), H' tp = some (.lst (ts.map V.int)) ∧ H' lp = some (.lst ls) ∧ PartT (zs.map (·.2)) ts ls i) ∧ ∃ a b c e h x y, σ = [some (.int (M : Nat)), some (.ref p), some (.ref d), a, b, c, e, some (.ref tp), some (.ref lp), h, x, y]) ⟨e04, RA4, ⟨[0], [.non], v3', v4, p0⟩, _, _, _, _, _, _, _, rfl⟩ (fun _ _ _ _ _ => trivial) ?_ ?_
    · rintro i x σ H5 H5' hi ⟨e5, RA5, ⟨ts, ls, ht5, hl5, hP⟩, a', b', c', e'', h', x'', y'', rfl⟩ ⟨rfl, rfl⟩
      have hd5 := RA5.at_
      have hl1 := RA5.rows.len
      rw [List.length_map, RA5.len] at hl1
      have i1 : (1 : Int) + (i : Nat) - 1 = (i : Nat) := by omega
      have i2 : (1 : Int) + (i : Nat) = ((i + 1 : Nat) : Int) := by omega
      have hts1 : ts.length = i + 1 := hP.tl
      have getT : ∀ e, e ≤ i → atI (ts.map V.int) (e : Nat) = some (V.int (ts.getD e 0)) := fun e he => at_mapN (f := V.int) (by rw [List.getD_eq_getElem?_getD, List.getElem?_eq_getElem (by omega)]; rfl)
      obtain ⟨r, hr⟩ : ∃ r, hs[i + 1]? = some r := ⟨hs[i + 1]'(by omega), List.getElem?_eq_getElem _⟩
      obtain ⟨us, hus⟩ : ∃ us, tss[i + 1]? = some us := ⟨tss[i + 1]'(by rw [RA5.len]; omega), List.getElem?_eq_getElem _⟩
      have hrow := RA5.rows.at _ _ _ hr (by rw [List.getElem?_map, hus]; rfl)
      have tups := RA5.tups _ _ hus
      have tl := tups.len
      rw [List.length_map] at tl
      walk_at "go"
      refine st_ixL ht5 (by rw [i1]; exact getT i (Nat.le_refl _)) ?_
      walk_at "go"
      refine st_ixL hd5 (v := .ref r) (by rw [i2]; exact at_mapN hr) ?_
      walk_at "go"
      refine for_runs (runs_list K r (us.map V.ref)) (fun j σ H' => H' = H5' ∧ (∃ (m : Int) (v : V), ts.getD i 0 ≤ m ∧ (∀ q ∈ (ixs (zs.map (·.2)) (i + 1) zs.length).take j, ts.getD q.1.b 0 + q.1.w ≤ m) ∧ ((v = .non ∧ m = ts.getD i 0) ∨ ∃ (c : Nat) (z : S3), v = .int (c : Nat) ∧ (zs.map (·.2))[c]? = some z ∧ z.e = i + 1 ∧ m = ts.getD z.b 0 + z.w) ∧ ∃ a b c y, σ = [some (.int (M : Nat)), some (.ref p), some (.ref d), a, b, c, some (.int (1 + (i : Nat))), some (.ref tp), some (.ref lp), some (.int m), some v, y])) ⟨rfl, ts.getD i 0, .non, Int.le_refl _, (fun q hq => by rw [List.take_zero] at hq; cases hq), .inl ⟨rfl, rfl⟩, _, _, _, _, rfl⟩ (fun j σ H' _ ⟨e, _⟩ => by rw [e]; exact lst_of hrow) ?_ ?_
      · rintro j x σ H6 H6' hj ⟨rfl, m, v, m1, m2, m3, a2, b2, c2, y2, rfl⟩ ⟨rfl, hx⟩
        rw [List.length_map] at hj
        obtain ⟨u, hu⟩ : ∃ u, us[j]? = some u := ⟨us[j]'hj, List.getElem?_eq_getElem _⟩
        rw [List.getElem?_map, hu] at hx
        cases hx
        obtain ⟨q, hq⟩ : ∃ q, (ixs (zs.map (·.2)) (i + 1) zs.length)[j]? = some q := ⟨(ixs (zs.map (·.2)) (i + 1) zs.length)[j]'(by omega), List.getElem?_eq_getElem _⟩
        have huv : H6' u = some (.tup [.int (q.2 : Nat), .int q.1.w, .int (q.1.b : Nat)]) := tups.at _ _ _ hu (by rw [List.getElem?_map, hq]; rfl)
        have hqm := List.mem_of_getElem? hq
        have hzl : zs.length = (zs.map (·.2)).length := by rw [List.length_map]
        rw [hzl] at hqm
        obtain ⟨q1, q2⟩ := ixs_mem.mp hqm
        have hqb := hbe q.1 (List.mem_of_getElem? q1)
        have tk : (ixs (zs.map (·.2)) (i + 1) zs.length).take (j + 1) = (ixs (zs.map (·.2)) (i + 1) zs.length).take j ++ [q] := by rw [List.take_add_one, hq]; rfl
        walk_at "go"
        refine st_ixL ht5 (getT q.1.b (by omega)) ?_
        walk_at "go"
        refine st_br2 (fun cc => ?_) (fun cc => ?_)
        · walk_at "go"
          refine st_ixL ht5 (getT q.1.b (by omega)) ?_
          walk_at "go"
          refine ⟨rfl, ts.getD q.1.b 0 + q.1.w, .int (q.2 : Nat), by omega, fun y hy => ?_, .inr ⟨q.2, q.1, rfl, q1, q2, rfl⟩, _, _, _, _, rfl⟩
          rw [tk] at hy
          rcases List.mem_append.mp hy with h | h
          · have := m2 y h; omega
          · rw [List.mem_singleton.mp h]; exact Int.le_refl _
        · walk_at "go"
          refine ⟨rfl, m, v, m1, fun y hy => ?_, m3, _, _, _, _, rfl⟩
          rw [tk] at hy
          rcases List.mem_append.mp hy with h | h
          · exact m2 y h
          · rw [List.mem_singleton.mp h]; omega
      · rintro σ H6 ⟨rfl, m, v, m1, m2, m3, a2, b2, c2, y2, rfl⟩
        rw [List.length_map, List.take_of_length_le (by omega)] at m2
        walk_at "go"
        refine st_app ht5 (by rw [List.length_map]; omega) ?_
        have hl6 : upd H6 tp (.lst (ts.map V.int ++ [V.int m])) lp = some (.lst ls) := by rw [upd_ne htl.symm]; exact hl5
        walk_at "go"
        refine st_app hl6 (by rw [hP.ll]; omega) ?_
        have hpt : RowsAt ixO H (upd H6 tp (.lst (ts.map V.int ++ [V.int m]))) d hs tss (M + 1) (fun l => ixs (zs.map (·.2)) l zs.length) := RA5.up ho hdtp htph ht5
        have htq : upd (upd H6 tp (.lst (ts.map V.int ++ [V.int m]))) lp (.lst (ls ++ [v])) tp = some (.lst ((ts ++ [m]).map V.int)) := by rw [upd_ne htl, upd_same, List.map_append]; rfl
        exact ⟨(e5.mut htp0).mut hlp0, hpt.up ho hdlp hlph hl6, ⟨ts ++ [m], ls ++ [v], htq, upd_same, hP.step hbe m1 (fun z hz he => by
          obtain ⟨c, hc⟩ := List.mem_iff_getElem?.mp hz
          have := m2 (z, c) (by
            rw [show zs.length = (zs.map (·.2)).length by rw [List.length_map]]
            exact ixs_mem.mpr ⟨hc, he⟩)
          exact this) m3⟩, _, _, _, _, _, _, _, rfl⟩
    · rintro σ H5 ⟨e5, RA5, ⟨ts, ls, ht5, hl5, hP⟩, a', b', c', e'', h', x'', y'', rfl⟩
      walk_at "go"
      rename_i U G6 n6 e6 v6
      exact k U tp lp ts ls G6 (e5.trans e6) v6 (e6.get ht5) (e6.get hl5) hP
/-- the sum of prices from place b up to place e -/
def seg (ps : List Int) (b e : Nat) : Int := ((ps.drop b).take (e - b)).sum
theorem seg_tel (f : Nat → Int) (M : Nat) : ∀ n b, b + n ≤ M → seg ((List.range M).map fun p => f (p + 1) - f p) b (b + n) = f (b + n) - f b
  | 0, b, _ => by simp [seg]
  | n + 1, b, h => by
    have ih := seg_tel f M n b (by omega)
    unfold seg at ih ⊢
    rw [show b + n - b = n by omega] at ih
    rw [show b + (n + 1) - b = n + 1 by omega, List.take_add_one, List.sum_append, ih]
    have e : (((List.range M).map fun p => f (p + 1) - f p).drop b)[n]? = some (f (b + n + 1) - f (b + n)) := by
      rw [List.getElem?_drop, List.getElem?_map, List.getElem?_range (by omega)]
      rfl
    rw [e]
    simp only [Option.toList_some, List.sum_cons, List.sum_nil]
    rw [show b + (n + 1) = b + n + 1 by omega]
    omega
theorem seg_all {ps : List Int} {M : Nat} (h : ps.length = M) : seg ps 0 M = ps.sum := by
  unfold seg
  rw [List.drop_zero, Nat.sub_zero, List.take_of_length_le (by omega)]
theorem cut_seg (ps : List Int) (b e : Nat) : (cutL ps (some (b : Int)) (some (e : Int))).sum = seg ps b e := by
  unfold cutL seg
  rw [HT.sIx_nat, HT.sIx_nat]
  by_cases h : b ≤ ps.length
  · have m1 : min b ps.length = b := by omega
    rw [m1]
    by_cases h2 : e ≤ ps.length
    · have m2 : min e ps.length = e := by omega
      rw [m2]
    · have m2 : min e ps.length = ps.length := by omega
      rw [m2, List.take_of_length_le (by rw [List.length_drop]; exact Nat.le_refl _), List.take_of_length_le (by rw [List.length_drop]; omega)]
  · have m1 : min b ps.length = ps.length := by omega
    rw [m1, List.drop_length, List.drop_eq_nil_of_le (by omega), List.take_nil, List.take_nil]
/-- places in the list, rising, apart, worth so much -/
structure ChosenOk (ss : List S3) (cs : List Nat) (x : Int) : Prop where
  ch : Choice ss cs
  up : cs.Pairwise (· < ·)
  sum : (cs.map (wS ss)).sum = x
theorem rising_len : ∀ (cs : List Nat) (k n : Nat), cs.Pairwise (· < ·) → (∀ c ∈ cs, k ≤ c ∧ c < n) → cs.length ≤ n - k
  | [], _, _, _, _ => Nat.zero_le _
  | c :: cs, k, n, h1, h2 => by
    obtain ⟨h3, h4⟩ := List.pairwise_cons.mp h1
    have h5 := h2 c List.mem_cons_self
    have := rising_len cs (c + 1) n h4 fun d hd => ⟨h3 d hd, (h2 d (List.mem_cons_of_mem _ hd)).2⟩
    rw [List.length_cons]
    omega
theorem ChosenOk.len {ss : List S3} {cs : List Nat} {x : Int} (h : ChosenOk ss cs x) : cs.length ≤ ss.length := rising_len cs 0 ss.length h.up fun c hc => ⟨Nat.zero_le _, h.ch.lt c hc⟩
/-- prices on M places that cover all, worth so much together -/
structure PricesOk (ss : List S3) (M : Nat) (ps : List Int) (x : Int) : Prop where
  len : ps.length = M
  pos : ∀ y ∈ ps, 0 ≤ y
  cov : ∀ z ∈ ss, z.w ≤ seg ps z.b z.e
  sum : ps.sum = x
structure IsMost (ss : List S3) (M : Nat) (x : Int) : Prop where
  ex : ∃ T : Nat → Int, IsT ss M T ∧ (∀ e, e < M → TStep ss T e) ∧ T M = x
theorem nat_ints : ∀ {ns : List Int} (cs : List Nat), ns.Perm (cs.map fun c => ((c : Nat) : Int)) → ∃ ds : List Nat, ns = ds.map (fun c => ((c : Nat) : Int)) ∧ ds.Perm cs := by
  intro ns cs h
  have e1 : ∀ x ∈ ns, ((x.toNat : Nat) : Int) = x := fun x hx => by
    obtain ⟨c, _, rfl⟩ := List.mem_map.mp (h.mem_iff.mp hx)
    omega
  refine ⟨ns.map Int.toNat, ?_, ?_⟩
  · rw [List.map_map]
    conv => lhs; rw [← List.map_id ns]
    exact List.map_congr_left fun x hx => (e1 x hx).symm
  · have h2 := h.map Int.toNat
    rw [List.map_map, show (Int.toNat ∘ fun c : Nat => ((c : Nat) : Int)) = id from funext fun c => Int.toNat_natCast c, List.map_id] at h2
    exact h2
theorem lt_of_le_nodup : ∀ {cs : List Nat}, (cs.map fun c => ((c : Nat) : Int)).Pairwise (· ≤ ·) → cs.Nodup → cs.Pairwise (· < ·) := by
  intro cs h1 h2
  rw [List.pairwise_map] at h1
  exact (h1.and h2).imp fun {a b} h => by
    have := h.1
    have := h.2
    omega
theorem sum_perm {a b : List Int} (h : a.Perm b) : a.sum = b.sum := by
  induction h with
  | nil => rfl
  | cons x _ ih => rw [List.sum_cons, List.sum_cons, ih]
  | swap x y l => simp only [List.sum_cons]; omega
  | trans _ _ h1 h2 => exact h1.trans h2
theorem wS_at {ss : List S3} {c : Nat} {z : S3} (h : ss[c]? = some z) : wS ss c = z.w := by unfold wS; rw [h]
def cI (c : Nat) : V := .int (c : Nat)
def sp_apart (K : PySem.W.Frag) : Sp := fun vs H Q E => ∃ (m v : V) (d : PyData), vs = [m, v] ∧ Ty H m ∧ Rn H v d ∧
  (withinV m 0 24 = false → RaF K E H "NoPlace" [("found", m)]) ∧
  (∀ M : Nat, m = .int (M : Nat) → M ≤ 24 → (¬ GoodSpans M d → RaF K E H "NoStretches" [("found", v)]) ∧ (GoodSpans M d → ∀ (ss : List S3), d = .list (ss.map encS) → ∀ (a c r : Addr) (x : Int) (cs : List Nat) (ps : List Int) (H' : Hp), Ex H H' → H c = none → H r = none → c ≠ r → H' a = some (.tup [.int x, .ref c, .ref r]) → H' c = some (.lst (cs.map cI)) → H' r = some (.lst (ps.map V.int)) → IsMost ss M x → ChosenOk ss cs x → PricesOk ss M ps x → Q (.ref a) H'))
theorem ok_apart (T : Tx K mg ad fd tk) : FnOk P w K mg base (L2.CX P w) 5 (ad 5) (fd 5) ["many", "stretches"] (sp_apart K) := by
  refine T.d_apart.F.okX sc_apart (fun vs H Q E h => ?_) (fun cdv A outer s H vs Q E hr h => ?_)
  · obtain ⟨m, v, d, rfl, _⟩ := h
    rfl
  · obtain ⟨m, v, d, rfl, hm, hx, k0, k1⟩ := h
    refine ⟨_, (pss_cons (ps_expr (pe_call (ok_need_stretches T) (hr.mono (by decide)) rfl T.d_need_stretches.g T.d_need_stretches.F.kp T.d_need_stretches.b .nil (passes_call (takes_of rfl rfl rfl rfl) (fun _ _ _ _ h => h)) (pa_cons (pv 0) (pa_cons (pv 1) pa_nil))))
      (pss_cons (ps_asg (pe_call (ok_totals_of T) (hr.mono (by decide)) rfl T.d_totals_of.g T.d_totals_of.F.kp T.d_totals_of.b .nil pass0 (pa_cons (pv 0) (pa_cons (pv 1) pa_nil))) (pg_tup rfl (pgs_cons (pg_name (i := 2) sc_apart.nd rfl (Or.inr rfl)) (pgs_cons (pg_name (i := 3) sc_apart.nd rfl (Or.inl rfl)) pgs_nil))))
      (pss_cons (ps_set (i := 4) sc_apart.nd rfl (Or.inl rfl) (pe_lst pa_nil))
      (pss_cons (ps_set (i := 5) sc_apart.nd rfl (Or.inl rfl) (pv 0))
      (pss_cons (ps_while (passes_of rfl) (pt_cmpR o_gt (pv 5) pe_int (nomark _)) (pss_cons (ps_set (i := 6) sc_apart.nd rfl (Or.inl rfl) (pe_ix (i_ix (K := K)) (pv 3) (pv 5) (fun _ _ => rfl)))
      (pss_one (ps_if (pt_cmpR o_isN (pv 6) pe_non (nomark _)) (pss_one (ps_aug (i := 5) sc_apart.nd rfl (Or.inl rfl) pe_int ip_sub)) (pss_cons (ps_expr (pe_bm PySem.F.plainAttrs_list PySem.F.slot_list_append PySem.F.type_list_append mt_append (pv 4) (pa_cons (pv 6) pa_nil)))
      (pss_one (ps_set (i := 5) sc_apart.nd rfl (Or.inl rfl) (pe_ix (i_ix (K := K)) (pe_ix (i_ix (K := K)) (pv 1) (pv 6) (fun _ _ => rfl)) pe_int (fun _ _ => rfl)))))))))
      (pss_cons (ps_setLc (i := 7) (own := [("place", 8)]) (g := gName 8) rfl sc_apart.nd rfl rfl (sw_true rfl rfl rfl (by decide +kernel)) (pi_range1 rfl T.b_range (pa_cons (pv 0) pa_nil)) (blkOk_by (own := [("place", 8)]) (N := N_apart) (sc := defScope s_apart) (by decide +kernel)) (fun _ _ _ _ _ => pg_name (i := 8) sc_apart.nd rfl (Or.inl rfl)) (fun _ _ _ _ _ => pts_nil) (fun _ _ _ _ _ => (pe_op o_sub (pe_ix (i_ix (K := K)) (pv 2) (pe_op o_add (pv 8) pe_int) (fun _ _ => rfl)) (pe_ix (i_ix (K := K)) (pv 2) (pv 8) (fun _ _ => rfl)))))
      (pss_one (ps_ret (pe_tup (pa_cons (pe_ix (i_ix (K := K)) (pv 2) (pv 0) (fun _ _ => rfl)) (pa_cons (pe_callB (c_sortI (K := K)) (by rfl) T.b_sorted (by decide +kernel) (pa_cons (pv 4) pa_nil)) (pa_cons (pv 7) pa_nil)))))))))))), ?_⟩
    walk_at "go"
    refine ⟨m, v, d, rfl, hm, hx, k0, fun M hM' hM => ⟨fun hgood H0 e0 => ?_, (k1 M hM' hM).1⟩⟩
    subst hM'
    have k2 := (k1 M rfl hM).2 hgood
    obtain ⟨p, zs, rfl, hp, htt, hl, hok, rfl⟩ := spans_of hx hgood
    have k := k2 _ rfl
    clear k2 k1 k0
    have hbe : ∀ z ∈ zs.map (·.2), z.b < z.e ∧ z.e ≤ M := fun z hz => by
      obtain ⟨y, hy, rfl⟩ := List.mem_map.mp hz
      exact ⟨(hok y hy).be, (hok y hy).eM⟩
    have hp0 := e0.get hp
    walk_at "go"
    refine ⟨M, p, zs, rfl, hM, hp0, htt.ex e0, hl, hok, fun a0 tp lp ts ls H1 e1 va vt vl hP => ?_⟩
    have e01 := e0.trans e1
    have hp1 := e01.get hp
    have tt1 := htt.ex e01
    walk_at "go"
    rename_i c G2 n2 e2 v2
    have hlen : (zs.map (·.2)).length = zs.length := List.length_map ..
    have hcp : c ≠ p := fun e => by rw [e, hp1] at n2; cases n2
    generalize hss : zs.map (·.2) = ss at *
    have hsz : ∀ q z, ss[q]? = some z → ∃ y : TZ, zs[q]? = some y ∧ y.2 = z := fun q z h => by
      rw [← hss, List.getElem?_map] at h
      cases hy : zs[q]? with
      | none => rw [hy] at h; cases h
      | some y => rw [hy] at h; cases h; exact ⟨y, hy, rfl⟩
    obtain ⟨T, hT⟩ : ∃ T : Nat → Int, T = fun e => ts.getD e 0 := ⟨_, rfl⟩
    have t0 : T 0 = 0 := by rw [hT]; exact hP.t0
    have hIT : IsT ss M T := ⟨t0, fun e h => by rw [hT]; exact hP.up e h, fun z hz => by rw [hT]; exact hP.ge z hz (hbe z hz).2⟩
    have hLO : ∀ e, e < M → ∃ v, ls[e + 1]? = some v ∧ LastOk ss T e v := fun e h => by rw [hT]; exact hP.la e h
    have hTS : ∀ e, e < M → TStep ss T e := fun e h => by
      obtain ⟨v, _, hv⟩ := hLO e h
      rcases hv with ⟨_, h⟩ | ⟨c, z, _, hc, h1, h2⟩
      · exact .inl h
      · exact .inr ⟨z, List.mem_of_getElem? hc, h1, h2⟩
    have tl := hP.tl
    have getT : ∀ e, e ≤ M → atI (ts.map V.int) (e : Nat) = some (V.int (T e)) := fun e he => at_mapN (f := V.int) (by rw [hT]; dsimp only; rw [List.getD_eq_getElem?_getD, List.getElem?_eq_getElem (by omega)]; rfl)
    have hc0 : Choice ss [] := ⟨fun c h => (List.not_mem_nil h).elim, List.Pairwise.nil⟩
    refine while_inv (fun m σ H' => m ≤ M ∧ Ex H1 H' ∧ (∃ cs : List Nat, H' c = some (.lst (cs.map cI)) ∧ Choice ss cs ∧ (∀ q ∈ cs, ∀ z, ss[q]? = some z → m ≤ z.b) ∧ (cs.map (wS ss)).sum + T m = T M ∧ cs.length + m ≤ M) ∧ ∃ y6 y7 y8, σ = [some (.int (M : Nat)), some (.ref p), some (.ref tp), some (.ref lp), some (.ref c), some (.int (m : Nat)), y6, y7, y8]) ⟨M, Nat.le_refl _, e2, ⟨[], v2, hc0, (fun _ h => (List.not_mem_nil h).elim), by simp, by simp⟩, _, _, _, rfl⟩ ?_
    rintro m σ H3 ⟨hm, e3, ⟨cs, hc3, hch, hmb, hsum, hcl⟩, y6, y7, y8, rfl⟩
    have vt3 := e3.get vt
    have vl3 := e3.get vl
    have hp3 := e3.get hp1
    have tt3 := tt1.ex e3
    walk_at "go"
    refine st_br2 (fun cc => ?_) (fun cc => ?_)
    · refine wh_T rfl ?_
      obtain ⟨e, rfl⟩ : ∃ e, m = e + 1 := ⟨m - 1, by omega⟩
      obtain ⟨v, hv, hL⟩ := hLO e (by omega)
      walk_at "go"
      refine st_ixL vl3 (v := v) (at_nat hv) ?_
      walk_at "go"
      rcases hL with ⟨rfl, hL⟩ | ⟨q, z, rfl, hq, hze, hL⟩
      · walk_at "go"
        exact ⟨e, by omega, by omega, e3, ⟨cs, hc3, hch, (fun q hq z hz => by have := hmb q hq z hz; omega), by rw [← hL]; exact hsum, by omega⟩, _, _, _, by rw [show ((e + 1 : Nat) : Int) - 1 = (e : Int) by omega]; rfl⟩
      · obtain ⟨y, hy, rfl⟩ := hsz q _ hq
        have hb := hbe y.2 (List.mem_of_getElem? hq)
        have hyv : H3 y.1 = some (.tup [.int y.2.w, .int (y.2.b : Nat), .int (y.2.e : Nat)]) := tt3 y (List.mem_of_getElem? hy)
        walk_at "go"
        refine st_app hc3 (by rw [List.length_map]; omega) ?_
        have hp4 : upd H3 c (.lst (cs.map cI ++ [cI q])) p = some (.lst (zs.map tV)) := by rw [upd_ne hcp.symm]; exact hp3
        have hy4 : upd H3 c (.lst (cs.map cI ++ [cI q])) y.1 = some (.tup [.int y.2.w, .int (y.2.b : Nat), .int (y.2.e : Nat)]) := tt3.up hc3 y (List.mem_of_getElem? hy)
        walk_at "go"
        refine st_ixL hp4 (v := .ref y.1) (at_mapN hy) ?_
        walk_at "go"
        refine ⟨y.2.b, by omega, by omega, e3.mut n2, ⟨cs ++ [q], by rw [upd_same, List.map_append]; rfl, ⟨fun x hx => ?_, ?_⟩, ?_, ?_, by rw [List.length_append, List.length_singleton]; omega⟩, _, _, _, rfl⟩
        · rcases List.mem_append.mp hx with h | h
          · exact hch.lt x h
          · rw [List.mem_singleton.mp h]
            exact (List.getElem?_eq_some_iff.mp hq).1
        · refine List.pairwise_append.mpr ⟨hch.ap, List.pairwise_singleton .., fun a ha b hb' x y' hx hy' => ?_⟩
          rw [List.mem_singleton.mp hb', hq] at hy'
          cases hy'
          have := hmb a ha x hx
          exact .inr (by omega)
        · intro x hx z hz
          rcases List.mem_append.mp hx with h | h
          · have := hmb x h z hz
            omega
          · rw [List.mem_singleton.mp h, hq] at hz
            cases hz
            exact Nat.le_refl _
        · rw [List.map_append, List.sum_append, List.map_singleton, List.sum_singleton, wS_at hq]
          omega
    · refine (wh_F (W := fun _ _ _ => True) (m := 0) (tb := fun _ _ _ => True) rfl ?_ : WhPost (fun _ _ _ => True) 0 (fun _ _ _ => True) _ _ false _)
      have m0 : m = 0 := by omega
      subst m0
      rw [t0, Int.add_zero] at hsum
      walk_at "go"
      refine lc_map (rv_range 0 _) (fun _ _ => trivial) (by rw [List.length_range]; omega) (fun i => .int (T (i + 1) - T i)) ?_ ?_
      · intro i H' hi e B h1
        refine ⟨rfl, ?_⟩
        have := List.mem_range.mp hi
        have h1 := h1 _ (Fr.refl _)
        walk_at "go"
        refine st_ixL (e.get vt3) (by rw [show (0 : Int) + (i : Nat) + 1 = ((i + 1 : Nat) : Int) by omega]; exact getT (i + 1) (by omega)) ?_
        walk_at "go"
        refine st_ixL (e.get vt3) (by rw [show (0 : Int) + (i : Nat) = (i : Int) by omega]; exact getT i (by omega)) ?_
        walk_at "go"
        exact h1
      intro r H4 n4 e4 v4
      have hrng : ((M : Int)).toNat = M := by omega
      walk_at "go"
      refine st_ixL (e4.get vt3) (getT M (Nat.le_refl _)) ?_
      have hcI : cs.map cI = (cs.map fun c => ((c : Nat) : Int)).map V.int := by rw [List.map_map]; rfl
      have hc4 := e4.get hc3
      rw [hcI] at hc4
      walk_at "go"
      refine st_sortI (lstAt_sq (lst_of hc4)) fun ns' s H5 hpm hsrt hs5 e5 hv5 => ?_
      obtain ⟨ds, rfl, hds⟩ := nat_ints cs hpm
      walk_at "go"
      rename_i U G6 n6 e6 v6
      have hrng2 : (List.range (M : Int).toNat).map (fun i => V.int (T (i + 1) - T i)) = ((List.range M).map fun i => T (i + 1) - T i).map V.int := by rw [hrng, List.map_map]; rfl
      rw [hrng2] at v4
      have hch2 := hch.perm hds
      have hse : ((List.range M).map fun i => T (i + 1) - T i).sum = T M := by
        have := seg_tel T M M 0 (by omega)
        rw [Nat.zero_add, t0, seg_all (by rw [List.length_map, List.length_range])] at this
        omega
      refine k U s r (T M) ds _ G6 (e01.trans (((e3.trans e4).trans e5).trans e6)) (Ex.free (e01.trans (e3.trans e4)) hs5) (Ex.free (e01.trans e3) n4) (fun e => by rw [e, v4] at hs5; cases hs5) v6 (e6.get (by rw [hv5, List.map_map]; rfl)) (e6.get (e5.get v4)) ⟨T, hIT, hTS, rfl⟩ ⟨hch2, lt_of_le_nodup hsrt (hch2.nodup hbe), ?_⟩ ⟨by rw [List.length_map, List.length_range], ?_, ?_, hse⟩
      · rw [sum_perm (hds.map (wS ss))]
        exact hsum
      · intro y hy
        obtain ⟨i, hi, rfl⟩ := List.mem_map.mp hy
        have := hIT.up i (List.mem_range.mp hi)
        omega
      · intro z hz
        have hb := hbe z hz
        have := seg_tel T M (z.e - z.b) z.b (by omega)
        rw [show z.b + (z.e - z.b) = z.e by omega] at this
        rw [this]
        have := hIT.ge z hz
        omega
/-- lists that stand for functions on the first n places -/
theorem fn_at {f : Nat → V} {n p : Nat} (h : p < n) : atI ((List.range n).map f) (p : Nat) = some (f p) := at_mapN (List.getElem?_range h)
theorem fn_set {f : Nat → V} {n p : Nat} {v : V} : ((List.range n).map f).set p v = (List.range n).map fun e => if e = p then v else f e := by
  refine List.ext_getElem? fun i => ?_
  rw [List.getElem?_set, List.getElem?_map, List.getElem?_map, List.length_map, List.length_range]
  by_cases h : i < n
  · rw [List.getElem?_range h]
    by_cases e : p = i
    · subst e
      rw [if_pos rfl, if_pos h]
      simp
    · rw [if_neg e]
      simp [Ne.symm e]
  · rw [List.getElem?_eq_none (by rw [List.length_range]; omega)]
    by_cases e : p = i
    · subst e
      rw [if_pos rfl, if_neg h]
      rfl
    · rw [if_neg e]
      rfl
theorem fn_ix {f : Nat → V} {n p : Nat} (h : p < n) : ixN ((List.range n).map f).length (p : Nat) = some p := Evl.ixN_nat (by rw [List.length_map, List.length_range]; exact h)
theorem fn_congr {f g : Nat → V} {n : Nat} (h : ∀ e, e < n → f e = g e) : (List.range n).map f = (List.range n).map g := List.map_congr_left fun e he => h e (List.mem_range.mp he)
/-- ints that are a choice apart, rising, worth so much -/
def ChoD (ss : List S3) (ns : List Int) (x : Int) : Prop := ∃ cs : List Nat, ns = cs.map (fun c => ((c : Nat) : Int)) ∧ ChosenOk ss cs x
theorem cast_inj : ∀ {a b : List Nat}, a.map (fun c => ((c : Nat) : Int)) = b.map (fun c => ((c : Nat) : Int)) → a = b
  | [], [], _ => rfl
  | [], _ :: _, h => by cases h
  | _ :: _, [], h => by cases h
  | x :: a, y :: b, h => by
    rw [List.map_cons, List.map_cons] at h
    injection h with h1 h2
    rw [cast_inj h2, show x = y by omega]
def coverB (ss : List S3) (c p : Nat) : Bool := match ss[c]? with
  | some z => decide (z.b ≤ p) && decide (p < z.e)
  | none => false
def freeB (ss : List S3) (cs : List Nat) (p : Nat) : Bool := cs.all fun c => !coverB ss c p
theorem freeB_app {ss : List S3} {cs : List Nat} {c p : Nat} : freeB ss (cs ++ [c]) p = (freeB ss cs p && !coverB ss c p) := by
  unfold freeB
  rw [List.all_append]
  simp
theorem coverB_at {ss : List S3} {c p : Nat} {z : S3} (h : ss[c]? = some z) : coverB ss c p = (decide (z.b ≤ p) && decide (p < z.e)) := by unfold coverB; rw [h]
theorem free_apart {ss : List S3} {cs : List Nat} {z : S3} (hok : ∀ z ∈ ss, z.b < z.e) (hz : z.b < z.e) (h : ∀ p, z.b ≤ p → p < z.e → freeB ss cs p = true) : ∀ a ∈ cs, ∀ x, ss[a]? = some x → apartS x z := by
  intro a ha x hx
  have hxb := hok x (List.mem_of_getElem? hx)
  unfold apartS
  refine Decidable.byContradiction fun hn => ?_
  have f : ∀ p, z.b ≤ p → p < z.e → ¬ (x.b ≤ p ∧ p < x.e) := fun p h1 h2 h3 => by
    have h4 := h p h1 h2
    unfold freeB at h4
    rw [List.all_eq_true] at h4
    have h5 := h4 a ha
    rw [coverB_at hx, decide_eq_true h3.1, decide_eq_true h3.2] at h5
    cases h5
  by_cases q : x.b ≤ z.b
  · exact f z.b (Nat.le_refl _) hz ⟨q, by omega⟩
  · exact f x.b (by omega) (by omega) ⟨Nat.le_refl _, hxb⟩
theorem free_of {ss : List S3} {cs : List Nat} {z : S3} (h : ∀ a ∈ cs, ∀ x, ss[a]? = some x → apartS x z) {p : Nat} (h1 : z.b ≤ p) (h2 : p < z.e) : freeB ss cs p = true := by
  unfold freeB
  rw [List.all_eq_true]
  intro a ha
  cases hx : ss[a]? with
  | none => unfold coverB; rw [hx]; rfl
  | some x =>
    rw [coverB_at hx]
    have := h a ha x hx
    unfold apartS at this
    rw [Bool.not_eq_true', Bool.and_eq_false_iff, decide_eq_false_iff_not, decide_eq_false_iff_not]
    omega
theorem ChoD.pre {ss : List S3} {ns : List Int} {x y : Int} {i : Nat} {cs : List Nat} (h : ChoD ss ns x) (hp : ns.take i = cs.map fun c => ((c : Nat) : Int)) (hy : ns[i]? = some y) :
    ∃ c : Nat, y = (c : Nat) ∧ c < ss.length ∧ (∀ a ∈ cs, a < c) ∧ ∀ a ∈ cs, ∀ u v, ss[a]? = some u → ss[c]? = some v → apartS u v := by
  obtain ⟨ds, rfl, hd⟩ := h
  rw [List.getElem?_map] at hy
  cases hc : ds[i]? with
  | none => rw [hc] at hy; cases hy
  | some c =>
    rw [hc] at hy
    cases hy
    rw [← List.map_take] at hp
    have e := cast_inj hp
    have sp : ds = cs ++ c :: ds.drop (i + 1) := by
      rw [← e]
      have h := (List.getElem?_eq_some_iff.mp hc)
      obtain ⟨hl, hv⟩ := h
      rw [← hv, List.getElem_cons_drop, List.take_append_drop]
    have h1 := hd.up
    have h2 := hd.ch.ap
    rw [sp] at h1 h2
    refine ⟨c, rfl, hd.ch.lt c (List.mem_of_getElem? hc), fun a ha => (List.pairwise_append.mp h1).2.2 a ha c List.mem_cons_self, fun a ha => (List.pairwise_append.mp h2).2.2 a ha c List.mem_cons_self⟩
/-- what is known of the first so many -/
structure PreC (ss : List S3) (ns : List Int) (i : Nat) (cs : List Nat) (last : Int) : Prop where
  pre : ns.take i = cs.map fun c => ((c : Nat) : Int)
  ch : Choice ss cs
  up : cs.Pairwise (· < ·)
  le : ∀ c ∈ cs, (c : Int) ≤ last
  at_ : last = -1 ∨ ∃ c ∈ cs, last = (c : Nat)
theorem PreC.zero {ss : List S3} {ns : List Int} : PreC ss ns 0 [] (-1) := ⟨by simp, ⟨fun c h => (List.not_mem_nil h).elim, List.Pairwise.nil⟩, List.Pairwise.nil, (fun c h => (List.not_mem_nil h).elim), .inl rfl⟩
theorem PreC.step {ss : List S3} {ns : List Int} {i : Nat} {cs : List Nat} {last : Int} {c : Nat} {z : S3} (h : PreC ss ns i cs last) (hy : ns[i]? = some (c : Int)) (hz : ss[c]? = some z) (hl : last < (c : Nat)) (hok : ∀ z ∈ ss, z.b < z.e) (hf : ∀ p, z.b ≤ p → p < z.e → freeB ss cs p = true) : PreC ss ns (i + 1) (cs ++ [c]) (c : Nat) := by
  have ha := free_apart hok (hok z (List.mem_of_getElem? hz)) hf
  refine ⟨?_, ⟨fun a h1 => ?_, ?_⟩, ?_, fun a h1 => ?_, .inr ⟨c, List.mem_append_right _ (List.mem_singleton.mpr rfl), rfl⟩⟩
  · rw [List.take_add_one, hy, List.map_append, h.pre]
    rfl
  · rcases List.mem_append.mp h1 with h2 | h2
    · exact h.ch.lt a h2
    · rw [List.mem_singleton.mp h2]
      exact (List.getElem?_eq_some_iff.mp hz).1
  · refine List.pairwise_append.mpr ⟨h.ch.ap, List.pairwise_singleton .., fun a h1 b h2 u v hu hv => ?_⟩
    rw [List.mem_singleton.mp h2, hz] at hv
    cases hv
    exact ha a h1 u hu
  · refine List.pairwise_append.mpr ⟨h.up, List.pairwise_singleton .., fun a h1 b h2 => ?_⟩
    rw [List.mem_singleton.mp h2]
    have := h.le a h1
    omega
  · rcases List.mem_append.mp h1 with h2 | h2
    · have := h.le a h2
      omega
    · rw [List.mem_singleton.mp h2]
      exact Int.le_refl _
theorem PreC.done {ss : List S3} {ns : List Int} {cs : List Nat} {last x : Int} (h : PreC ss ns ns.length cs last) : (x - (cs.map (wS ss)).sum = 0) ↔ ChoD ss ns x := by
  have hp := h.pre
  rw [List.take_of_length_le (Nat.le_refl _)] at hp
  constructor
  · intro e
    exact ⟨cs, hp, h.ch, h.up, by omega⟩
  · rintro ⟨ds, e, hd⟩
    rw [hp] at e
    rw [cast_inj e, hd.sum]
    omega
/-- the int that a datum is, or less than any place -/
def toI : PyData → Int
  | .int i => i
  | _ => -1
def isI : PyData → Bool
  | .int _ => true
  | _ => false
def natD (c : Nat) : PyData := .int (c : Nat)
/-- a datum that is a choice apart, rising, worth so much -/
def ChoP (ss : List S3) (d : PyData) (x : Int) : Prop := ∃ cs : List Nat, d = .list (cs.map natD) ∧ ChosenOk ss cs x
def PriP (ss : List S3) (M : Nat) (d : PyData) (x : Int) : Prop := ∃ ps : List Int, d = .list (ps.map PyData.int) ∧ PricesOk ss M ps x
/-- a datum that shows the most that stretches can be worth -/
def ShowsA (M : Nat) (ss : List S3) (d : PyData) : Prop := ∃ (x : Int) (c r : PyData), d = .tuple [.int x, c, r] ∧ ChoP ss c x ∧ PriP ss M r x
theorem choP_toI {ss : List S3} {ds : List PyData} {x : Int} : ChoP ss (.list ds) x ↔ ChoD ss (ds.map toI) x := by
  constructor
  · rintro ⟨cs, e, h⟩
    injection e with e
    subst e
    exact ⟨cs, by rw [List.map_map]; rfl, h⟩
  · rintro ⟨cs, e, h⟩
    refine ⟨cs, congrArg _ ?_, h⟩
    clear h
    induction ds generalizing cs with
    | nil =>
      cases cs with
      | nil => rfl
      | cons c cs => cases e
    | cons d ds ih =>
      cases cs with
      | nil => cases e
      | cons c cs =>
        rw [List.map_cons, List.map_cons] at e
        injection e with e1 e2
        rw [List.map_cons, ih cs e2]
        congr 1
        cases d with
        | int i => show PyData.int i = .int (c : Nat); rw [← e1]; rfl
        | _ => exact absurd e1 (by show ¬ (-1 : Int) = (c : Nat); omega)
theorem wi_rnI {H : Hp} {x : V} {d : PyData} (h : Rn H x d) (lo hi : Int) (hlo : 0 ≤ lo) : withinV x lo hi = decide (lo ≤ toI d ∧ toI d ≤ hi) := by
  cases h with
  | int i => rfl
  | _ => exact (decide_eq_false (by simp only [toI]; omega)).symm
theorem whole_rn {H : Hp} {x : V} {d : PyData} (h : Rn H x d) : isWholeV x = isI d := by cases h <;> rfl
theorem ints_of : ∀ {ds : List PyData}, (∀ d ∈ ds, isI d = true) → ds = (ds.map toI).map PyData.int
  | [], _ => rfl
  | d :: ds, h => by
    rw [List.map_cons, List.map_cons, ← ints_of fun e he => h e (List.mem_cons_of_mem _ he)]
    have := h d List.mem_cons_self
    cases d <;> first | rfl | cases this
theorem rn_ints {H : Hp} : ∀ {xs : List V} {ns : List Int}, RnA H xs (ns.map PyData.int) → xs = ns.map V.int
  | [], [], _ => rfl
  | [], _ :: _, h => by cases h
  | _ :: _, [], h => by cases h
  | x :: xs, n :: ns, h => by
    cases h with
    | cons h1 h2 =>
      cases h1
      rw [List.map_cons, ← rn_ints h2]
theorem repl_fn {ss : List S3} : ∀ M : Nat, (List.replicate M [V.bl false]).flatten = (List.range M).map fun j => V.bl (!freeB ss [] j) := by
  intro M
  refine List.ext_getElem? fun i => ?_
  have h : (List.replicate M [V.bl false]).flatten = List.replicate M (V.bl false) := by
    induction M with
    | zero => rfl
    | succ n ih => rw [List.replicate_succ, List.flatten_cons, ih]; rfl
  rw [h, List.getElem?_replicate, List.getElem?_map]
  by_cases hi : i < M
  · rw [if_pos hi, List.getElem?_range hi]; rfl
  · rw [if_neg hi, List.getElem?_eq_none (by rw [List.length_range]; omega)]; rfl
def sp_are_apart : Sp := fun vs H Q _ => ∃ (M : Nat) (p : Addr) (zs : List TZ) (t : V) (d : PyData), vs = [.int (M : Nat), .ref p, t] ∧ M ≤ 24 ∧ H p = some (.lst (zs.map tV)) ∧ TT H zs ∧ (∀ z ∈ zs, SpOk M z.2) ∧ Rn H t d ∧ ∀ (b : Bool) H', Ex H H' → (b = true ↔ ∃ x, ChoP (zs.map (·.2)) d x) → Q (.bl b) H'
theorem ok_are_apart (T : Tx K mg ad fd tk) : FnOk P w K mg base CX0 3 (ad 6) (fd 6) ["many", "stretches", "chosen"] sp_are_apart := by
  refine T.d_are_apart.F.ok sc_are_apart (fun vs H Q E h => ?_) (fun cdv A outer s H vs Q E hr h => ?_)
  · obtain ⟨M, p, zs, t, d, rfl, _⟩ := h
    rfl
  · obtain ⟨M, p, zs, t, d, rfl, hM, hp, htt, hok, hx, k⟩ := h
    refine ⟨_, (pss_cons (ps_if (pt_not (pt_val (pe_callB c_is (by rfl) T.b_isinstance (by decide +kernel) (pa_cons (pv 2) (pa_cons (pe_bltn (v := .ty "list") rfl T.b_list (by decide +kernel) rfl) pa_nil))))) (pss_one (ps_ret pe_bl)) pss_nil)
      (pss_cons (ps_set (i := 3) sc_are_apart.nd rfl (Or.inl rfl) (pe_op o_mul (pe_lst (pa_cons pe_bl pa_nil)) (pv 0)))
      (pss_cons (ps_set (i := 4) sc_are_apart.nd rfl (Or.inl rfl) (pe_un un_neg pe_int))
      (pss_cons (ps_for PassesOwn.never rfl (pi_list (pv 2)) (pg_name (i := 5) sc_are_apart.nd rfl (Or.inl rfl)) (pss_cons (ps_if (pt_not (pt_val (pe_call (ok_is_within T) (hr.mono (by decide)) rfl T.d_is_within.g T.d_is_within.F.kp T.d_is_within.b .nil pass0 (pa_cons (pv 5) (pa_cons (pe_op o_add (pv 4) pe_int) (pa_cons (pe_op o_sub (pe_callB (c_len (K := K)) (by rfl) T.b_len (by decide +kernel) (pa_cons (pv 1) pa_nil)) pe_int) pa_nil)))))) (pss_one (ps_ret pe_bl)) pss_nil)
      (pss_cons (ps_set (i := 4) sc_are_apart.nd rfl (Or.inl rfl) (pv 5))
      (pss_one (ps_for PassesOwn.never rfl (pi_range2 rfl T.b_range (pa_cons (pe_ix (i_ix (K := K)) (pe_ix (i_ix (K := K)) (pv 1) (pv 5) (fun _ _ => rfl)) pe_int (fun _ _ => rfl)) (pa_cons (pe_ix (i_ix (K := K)) (pe_ix (i_ix (K := K)) (pv 1) (pv 5) (fun _ _ => rfl)) pe_int (fun _ _ => rfl)) pa_nil))) (pg_name (i := 6) sc_are_apart.nd rfl (Or.inl rfl)) (pss_cons (ps_if (pt_tru (pe_ix (i_ix (K := K)) (pv 3) (pv 6) (fun _ _ => rfl)) (by intro _; rfl) (K := K)) (pss_one (ps_ret pe_bl)) pss_nil)
      (pss_one (ps_asg pe_bl (pg_sub (pv 3) (pv 6) set_list)))))))))
      (pss_one (ps_ret pe_bl)))))), ?_⟩
    walk_at "go"
    refine st_isListD hx.rq ?_
    refine ⟨_, rfl, ?_⟩
    by_cases hd : ∃ ds, d = .list ds
    rotate_left
    · refine st_T ?_ ?_
      · cases d <;> first | rfl | exact absurd ⟨_, rfl⟩ hd
      walk_at "go"
      exact k _ _ (Fr.refl _) ⟨fun h => (Bool.false_ne_true h).elim, fun ⟨_, _, h, _⟩ => absurd ⟨_, h⟩ hd⟩
    obtain ⟨ds, rfl⟩ := hd
    obtain ⟨c, xs, hv, hc, hxs⟩ := hx.listAt
    subst hv
    obtain ⟨ys, rfl, rfl, hys⟩ := hxs.zipped
    have k' : ∀ (b : Bool) H', Ex H H' → (b = true ↔ ∃ x, ChoD (zs.map (·.2)) ((ys.map (·.2)).map toI) x) → Q (.bl b) H' := fun b H' e h => k b H' e (by rw [h]; exact exists_congr fun x => choP_toI.symm)
    clear k
    have k := k'
    clear k'
    refine st_F rfl ?_
    walk_at "go"
    rename_i q0 H0 n0 e0 v0 q H1 n1' e01 v1'
    have e1 := e0.trans e01
    have n1 : H q = none := Ex.free e0 n1'
    have v1 : H1 q = some (.lst ((List.range M).map fun j => V.bl (!freeB (zs.map (·.2)) [] j))) := by
      rw [v1']
      refine congrArg (fun l => some (HO.lst l)) ?_
      rw [show ((M : Int)).toNat = M by omega]
      exact repl_fn M
    have hok2 : ∀ z ∈ zs.map (·.2), z.b < z.e := fun z hz => by
      obtain ⟨y, hy, rfl⟩ := List.mem_map.mp hz
      exact (hok y hy).be
    have hpq : p ≠ q := fun e => by rw [e, n1] at hp; cases hp
    have hcq : c ≠ q := fun e => by rw [e, n1] at hc; cases hc
    clear v1' n1' v0
    refine for_runs (rv_list K c ys (·.1)) (fun i σ H' => (Ex H H' ∧ ∃ (cs : List Nat) (last : Int), PreC (zs.map (·.2)) ((ys.map (·.2)).map toI) i cs last ∧ H' q = some (.lst ((List.range M).map fun j => V.bl (!freeB (zs.map (·.2)) cs j))) ∧ ∃ y6 y7, σ = [some (.int (M : Nat)), some (.ref p), some (.ref c), some (.ref q), some (.int last), y6, y7])) ⟨e1, [], -1, PreC.zero, v1, _, _, rfl⟩ (fun i σ H' _ ⟨e, _⟩ => lst_of (e.get hc)) ?_ ?_
    rotate_left
    · rintro σ H3 ⟨e3, cs, last, pC, hq3, y6, y7, rfl⟩
      rw [show ys.length = ((ys.map (·.2)).map toI).length by rw [List.length_map, List.length_map]] at pC
      walk_at "go"
      exact k _ _ e3 ⟨fun _ => ⟨(cs.map (wS (zs.map (·.2)))).sum, pC.done.mp (Int.sub_self _)⟩, fun _ => rfl⟩
    rintro i v σ H3 H3' hi ⟨e3, cs, last, pC, hq3, y6, y7, rfl⟩ ⟨rfl, u, hu, rfl⟩
    have ru := (hys u (List.mem_of_getElem? hu)).ex e3
    have hy : ((ys.map (·.2)).map toI)[i]? = some (toI u.2) := by rw [List.getElem?_map, List.getElem?_map, hu]; rfl
    have hl0 : -1 ≤ last := by
      rcases pC.at_ with h4 | ⟨l, h4, h5⟩ <;> omega
    have hp3 := e3.get hp
    have tt3 := htt.ex e3
    walk_at "go"
    refine ⟨u.1, _, _, rfl, ru.rq.ty, ?_⟩
    rw [wi_rnI ru _ _ (by omega)]
    walk_at "go"
    refine st_br (fun c1 => ?_) (fun c1 => ?_)
    · walk_at "go"
      refine k _ _ e3 ⟨fun h => (Bool.false_ne_true h).elim, fun h => ?_⟩
      obtain ⟨x, h⟩ := h
      obtain ⟨d, hde, h1, h2, h3⟩ := h.pre pC.pre hy
      rw [List.length_map] at h1
      rw [hde] at c1
      simp at c1
      rcases pC.at_ with h4 | ⟨l, h4, h5⟩
      · omega
      · have := h2 l h4
        omega
    simp at c1
    have hl1 : -1 ≤ last := by
      rcases pC.at_ with h4 | ⟨l, h4, h5⟩ <;> omega
    obtain ⟨u1, u2⟩ := u
    dsimp only at ru hy c1
    cases ru with
    | int y =>
    dsimp only [toI] at hy c1
    obtain ⟨d, rfl⟩ : ∃ d : Nat, y = (d : Nat) := ⟨y.toNat, by omega⟩
    obtain ⟨z, hz⟩ : ∃ z, zs[d]? = some z := ⟨zs[d]'(by omega), List.getElem?_eq_getElem _⟩
    have hzm := List.mem_of_getElem? hz
    have hzv : H3' z.1 = some (.tup [.int z.2.w, .int (z.2.b : Nat), .int (z.2.e : Nat)]) := tt3 z hzm
    have hz2 : (zs.map (·.2))[d]? = some z.2 := by rw [List.getElem?_map, hz]; rfl
    have hzo := hok z hzm
    have hbe := hzo.be
    have heM := hzo.eM
    walk_at "go"
    refine st_ixL hp3 (v := .ref z.1) (at_mapN hz) ?_
    walk_at "go"
    refine st_ixL hp3 (v := .ref z.1) (at_mapN hz) ?_
    walk_at "go"
    refine for_runs (show Runs (Itr z.2.b ((z.2.e : Int) - (z.2.b : Nat)).toNat) (z.2.e - z.2.b) (fun _ => True) (fun i x H H' => H' = H ∧ x = .int (z.2.b + (i : Nat))) by rw [show ((z.2.e : Int) - (z.2.b : Nat)).toNat = z.2.e - z.2.b by omega]; exact runs_range _ _) (fun j σ H' => (Ex H H' ∧ (∀ u, z.2.b ≤ u → u < z.2.b + j → freeB (zs.map (·.2)) cs u = true) ∧ H' q = some (.lst ((List.range M).map fun u => V.bl (!(freeB (zs.map (·.2)) cs u && !(decide (z.2.b ≤ u) && decide (u < z.2.b + j))))))) ∧ ∃ y7, σ = [some (.int (M : Nat)), some (.ref p), some (.ref c), some (.ref q), some (.int (d : Nat)), some (.int (d : Nat)), y7]) ⟨⟨e3, fun u h1 h2 => by omega, ?_⟩, _, rfl⟩ (fun _ _ _ _ _ => trivial) ?_ ?_
    · rw [hq3]
      refine congrArg (fun l => some (HO.lst l)) (fn_congr fun e _ => ?_)
      rw [show (decide (z.2.b ≤ e) && decide (e < z.2.b + 0)) = false by simp]
      simp
    · rintro j v σ H5 H5' hj ⟨⟨e5, f5, q5⟩, y7, rfl⟩ ⟨rfl, rfl⟩
      have ifr : (decide (z.2.b ≤ z.2.b + j) && decide (z.2.b + j < z.2.b + j)) = false := by simp
      walk_at "go"
      refine st_ixL q5 (v := .bl (!freeB (zs.map (·.2)) cs (z.2.b + j))) ?_ ?_
      · rw [show ((z.2.b : Int) + (j : Nat)) = ((z.2.b + j : Nat) : Int) by omega, fn_at (by omega), ifr, Bool.not_false, Bool.and_true]
      walk_at "go"
      cases hf : freeB (zs.map (·.2)) cs (z.2.b + j) with
      | false =>
        walk_at "go"
        refine k _ _ e5 ⟨fun h => (Bool.false_ne_true h).elim, fun h => ?_⟩
        obtain ⟨x, h⟩ := h
        obtain ⟨d', hd', h1, h2, h3⟩ := h.pre pC.pre hy
        have : d' = d := by omega
        subst this
        have := free_of (fun a ha u hu => h3 a ha u z.2 hu hz2) (p := z.2.b + j) (by omega) (by omega)
        rw [hf] at this
        cases this
      | true =>
        walk_at "go"
        refine st_setL q5 (by rw [show ((z.2.b : Int) + (j : Nat)) = ((z.2.b + j : Nat) : Int) by omega]; exact fn_ix (by omega)) ?_
        rw [fn_set]
        refine ⟨⟨e5.mut n1, fun u h1 h2 => ?_, ?_⟩, _, rfl⟩
        · by_cases h : u = z.2.b + j
          · rw [h]; exact hf
          · exact f5 u h1 (by omega)
        · rw [upd_same]
          refine congrArg (fun l => some (HO.lst l)) (fn_congr fun e _ => ?_)
          by_cases h : e = z.2.b + j
          · rw [if_pos h, h, show (decide (z.2.b ≤ z.2.b + j) && decide (z.2.b + j < z.2.b + (j + 1))) = true by simp]
            simp
          · rw [if_neg h, show decide (e < z.2.b + (j + 1)) = decide (e < z.2.b + j) by rw [decide_eq_decide]; omega]
    · rintro σ H5 ⟨⟨e5, f5, q5⟩, y7, rfl⟩
      rw [show z.2.b + (z.2.e - z.2.b) = z.2.e by omega] at f5 q5
      refine ⟨e5, cs ++ [d], d, pC.step hy hz2 (by omega) hok2 f5, ?_, some (.int (d : Nat)), y7, rfl⟩
      rw [q5]
      refine congrArg (fun l => some (HO.lst l)) (fn_congr fun e _ => ?_)
      rw [freeB_app, coverB_at hz2]
    | _ => simp [toI] at c1; omega
def sumR (f : Nat → Int) (n : Nat) : Int := ((List.range n).map f).sum
theorem sumR_s (f : Nat → Int) (n : Nat) : sumR f (n + 1) = sumR f n + f n := by
  unfold sumR
  rw [List.range_succ, List.map_append, List.sum_append, List.map_singleton, List.sum_singleton]
theorem sumR_0 (f : Nat → Int) : sumR f 0 = 0 := rfl
theorem sumR_nonneg {f : Nat → Int} : ∀ n, (∀ p, p < n → 0 ≤ f p) → 0 ≤ sumR f n
  | 0, _ => Int.le_refl _
  | n + 1, h => by
    have h1 := sumR_nonneg n fun p hp => h p (by omega)
    have h2 := h n (by omega)
    rw [sumR_s]
    omega
theorem sumR_split {f g h : Nat → Int} : ∀ n, (∀ p, p < n → f p = g p + h p) → sumR f n = sumR g n + sumR h n
  | 0, _ => rfl
  | n + 1, e => by
    have h1 := sumR_split n fun p hp => e p (by omega)
    have h2 := e n (by omega)
    rw [sumR_s, sumR_s, sumR_s]
    omega
theorem sumR_cut (f : Nat → Int) {b e : Nat} (hb : b ≤ e) : ∀ n, sumR (fun p => if b ≤ p ∧ p < e then f p else 0) n = sumR f (min n e) - sumR f (min n b)
  | 0 => by rw [Nat.zero_min, Nat.zero_min, sumR_0, sumR_0]; rfl
  | n + 1 => by
    have h := sumR_cut f hb n
    rw [sumR_s]
    by_cases h1 : n < b
    · have a1 : min n e = n := by omega
      have a2 : min n b = n := by omega
      have a3 : min (n + 1) e = n + 1 := by omega
      have a4 : min (n + 1) b = n + 1 := by omega
      rw [a1, a2] at h
      rw [a3, a4, if_neg (by omega)]
      omega
    · by_cases h2 : n < e
      · have a1 : min n e = n := by omega
        have a2 : min n b = b := by omega
        have a3 : min (n + 1) e = n + 1 := by omega
        have a4 : min (n + 1) b = b := by omega
        rw [a1, a2] at h
        rw [a3, a4, if_pos ⟨by omega, h2⟩, sumR_s]
        omega
      · have a1 : min n e = e := by omega
        have a2 : min n b = b := by omega
        have a3 : min (n + 1) e = e := by omega
        have a4 : min (n + 1) b = b := by omega
        rw [a1, a2] at h
        rw [a3, a4, if_neg (by omega)]
        omega
theorem take_sumR (ps : List Int) : ∀ n, (ps.take n).sum = sumR (fun p => ps.getD p 0) n
  | 0 => by rw [List.take_zero]; rfl
  | n + 1 => by
    rw [sumR_s, ← take_sumR ps n, List.take_add_one, List.sum_append, List.getD_eq_getElem?_getD]
    cases ps[n]? with
    | none => rfl
    | some x => simp
theorem seg_P (ps : List Int) {b e : Nat} (h : b ≤ e) : seg ps b e = (ps.take e).sum - (ps.take b).sum := by
  have h1 : ps.take e = ps.take b ++ (ps.drop b).take (e - b) := by
    have h2 : ps.take (b + (e - b)) = ps.take b ++ (ps.drop b).take (e - b) := List.take_add
    rwa [show b + (e - b) = e by omega] at h2
  unfold seg
  rw [h1, List.sum_append]
  omega
theorem set_P : ∀ (ps : List Int) (q n : Nat) (v : Int), q < ps.length → ((ps.set q v).take n).sum = (ps.take n).sum + (if q < n then v - ps.getD q 0 else 0)
  | [], q, n, v, h => by cases h
  | x :: ps, 0, 0, v, _ => by simp
  | x :: ps, 0, n + 1, v, _ => by
    rw [List.set_cons_zero, List.take_succ_cons, List.take_succ_cons, List.sum_cons, List.sum_cons, if_pos (by omega)]
    simp
    omega
  | x :: ps, q + 1, 0, v, _ => by simp
  | x :: ps, q + 1, n + 1, v, h => by
    have ih := set_P ps q n v (by rw [List.length_cons] at h; omega)
    rw [List.set_cons_succ, List.take_succ_cons, List.take_succ_cons, List.sum_cons, List.sum_cons, ih]
    have e1 : (x :: ps).getD (q + 1) 0 = ps.getD q 0 := by simp
    rw [e1]
    by_cases h1 : q < n
    · rw [if_pos h1, if_pos (by omega)]; omega
    · rw [if_neg h1, if_neg (by omega)]; omega
/-- one price goes up -/
theorem seg_set {ps : List Int} {b e q : Nat} {v : Int} (hb : b ≤ e) (h : q < ps.length) : seg (ps.set q v) b e = seg ps b e + (if b ≤ q ∧ q < e then v - ps.getD q 0 else 0) := by
  rw [seg_P _ hb, seg_P _ hb, set_P _ _ _ _ h, set_P _ _ _ _ h]
  by_cases h1 : q < b
  · rw [if_pos (by omega), if_pos h1, if_neg (by omega)]; omega
  · by_cases h2 : q < e
    · rw [if_pos h2, if_neg h1, if_pos ⟨by omega, h2⟩]; omega
    · rw [if_neg h2, if_neg h1, if_neg (by omega)]; omega
theorem free_sum {ss : List S3} {M : Nat} {f : Nat → Int} (hok : ∀ z ∈ ss, z.b < z.e ∧ z.e ≤ M) (hcov : ∀ z ∈ ss, z.w ≤ sumR f z.e - sumR f z.b) : ∀ cs, Choice ss cs → (cs.map (wS ss)).sum + sumR (fun p => if freeB ss cs p = true then f p else 0) M ≤ sumR f M
  | [], _ => by
    rw [List.map_nil, List.sum_nil]
    have : (fun p => if freeB ss [] p = true then f p else 0) = f := funext fun p => if_pos rfl
    rw [this]
    omega
  | c :: cs, h => by
    obtain ⟨a1, a2⟩ := List.pairwise_cons.mp h.ap
    have ih := free_sum hok hcov cs ⟨fun d hd => h.lt d (List.mem_cons_of_mem _ hd), a2⟩
    have hc := h.lt c List.mem_cons_self
    obtain ⟨z, hz⟩ : ∃ z, ss[c]? = some z := ⟨ss[c], List.getElem?_eq_getElem hc⟩
    have hzm := List.mem_of_getElem? hz
    obtain ⟨b1, b2⟩ := hok z hzm
    have hw := hcov z hzm
    have sp := sumR_split (f := fun p => if freeB ss cs p = true then f p else 0) (g := fun p => if freeB ss (c :: cs) p = true then f p else 0) (h := fun p => if z.b ≤ p ∧ p < z.e then f p else 0) M fun p hp => by
      have fr : freeB ss (c :: cs) p = (!coverB ss c p && freeB ss cs p) := rfl
      rw [fr, coverB_at hz]
      by_cases h1 : z.b ≤ p ∧ p < z.e
      · rw [if_pos h1, decide_eq_true h1.1, decide_eq_true h1.2, if_pos (free_of (fun a ha x hx => apartS_sym (a1 a ha z x hz hx)) h1.1 h1.2)]
        simp
      · have : (decide (z.b ≤ p) && decide (p < z.e)) = false := by
          rw [Bool.and_eq_false_iff, decide_eq_false_iff_not, decide_eq_false_iff_not]
          omega
        rw [if_neg h1, this]
        simp
    have m1 : min M z.e = z.e := by omega
    have m2 : min M z.b = z.b := by omega
    rw [sumR_cut f (by omega) M, m1, m2] at sp
    rw [List.map_cons, List.sum_cons, wS_at hz]
    omega
/-- a choice is worth no more than prices that cover all -/
theorem weak_dual {ss : List S3} {M : Nat} {cs : List Nat} {ps : List Int} {x y : Int} (hok : ∀ z ∈ ss, z.b < z.e ∧ z.e ≤ M) (h1 : ChosenOk ss cs x) (h2 : PricesOk ss M ps y) : x ≤ y := by
  have e1 : ps.sum = sumR (fun p => ps.getD p 0) M := by
    rw [← take_sumR, List.take_of_length_le (by rw [h2.len]; exact Nat.le_refl _)]
  have h3 := free_sum (f := fun p => ps.getD p 0) hok (fun z hz => by
    have := h2.cov z hz
    rw [seg_P _ (by have := hok z hz; omega), take_sumR, take_sumR] at this
    exact this) cs h1.ch
  have h4 := sumR_nonneg (f := fun p => if freeB ss cs p = true then ps.getD p 0 else 0) M fun p hp => by
    split
    · have := h2.pos (ps.getD p 0) (by
        rw [List.getD_eq_getElem?_getD, List.getElem?_eq_getElem (by rw [h2.len]; exact hp)]
        exact List.getElem_mem _)
      exact this
    · exact Int.le_refl _
  have := h1.sum
  have := h2.sum
  omega
def sp_cover : Sp := fun vs H Q _ => ∃ (M : Nat) (p : Addr) (zs : List TZ) (t : V) (d : PyData), vs = [.int (M : Nat), .ref p, t] ∧ H p = some (.lst (zs.map tV)) ∧ TT H zs ∧ zs.length ≤ 400 ∧ M ≤ 24 ∧ Rn H t d ∧ ∀ (b : Bool) H', Ex H H' → (b = true ↔ ∃ x, PriP (zs.map (·.2)) M d x) → Q (.bl b) H'
def posI : PyData → Bool
  | .int i => decide (0 ≤ i)
  | _ => false
theorem ok_cover (T : Tx K mg ad fd tk) : FnOk P w K mg base CX0 2 (ad 7) (fd 7) ["many", "stretches", "prices"] sp_cover := by
  refine T.d_cover.F.ok sc_cover (fun vs H Q E h => ?_) (fun cdv A outer s H vs Q E hr h => ?_)
  · obtain ⟨M, p, zs, t, d, rfl, _⟩ := h
    rfl
  · obtain ⟨M, p, zs, t, d, rfl, hp, htt, hl, hM, hx, k⟩ := h
    refine ⟨_, (pss_cons (ps_if (PW.pt (pw_or (pt_not (pt_val (pe_callB c_is (by rfl) T.b_isinstance (by decide +kernel) (pa_cons (pv 2) (pa_cons (pe_bltn (v := .ty "list") rfl T.b_list (by decide +kernel) rfl) pa_nil))))) (pw_or1 (pt_cmpR (o_ne hr.units) (pe_callB (c_len (K := K)) (by rfl) T.b_len (by decide +kernel) (pa_cons (pv 2) pa_nil)) (pv 0) (nomark _))))) (pss_one (ps_ret pe_bl)) pss_nil)
      (pss_cons (ps_if (pt_not (pt_val (pe_callB (c_all rfl) (by rfl) T.b_all (by decide +kernel) (pa_cons (pe_lc (own := [("price", 3)]) (g := gName 3) rfl sc_cover.nd (pi_list (pv 2)) (blkOk_by (own := [("price", 3)]) (N := N_cover) (sc := defScope s_cover) (by decide +kernel)) (fun _ _ _ _ _ => pg_name (i := 3) sc_cover.nd rfl (Or.inl rfl)) (fun _ _ _ _ _ => pts_nil) (fun _ _ _ _ _ => (pe_and (pe_call (ok_is_whole T) (hr.mono (by decide)) rfl T.d_is_whole.g T.d_is_whole.F.kp T.d_is_whole.b .nil pass0 (pa_cons (pv 3) pa_nil)) (pe_one (pe_cmpR o_ge (pv 3) pe_int (nomark _)))))) pa_nil)))) (pss_one (ps_ret pe_bl)) pss_nil)
      (pss_one (ps_ret (pe_callB (c_all rfl) (by rfl) T.b_all (by decide +kernel) (pa_cons (pe_lc (own := [("worth", 4), ("begin", 5), ("end", 6)]) (g := gTup K 3 (gCons (gName 4) (gCons (gName 5) (gCons (gName 6) gNil)))) rfl sc_cover.nd (pi_list (pv 1)) (blkOk_by (own := [("worth", 4), ("begin", 5), ("end", 6)]) (N := N_cover) (sc := defScope s_cover) (by decide +kernel)) (fun _ _ _ _ _ => (pg_tup rfl (pgs_cons (pg_name (i := 4) sc_cover.nd rfl (Or.inl rfl)) (pgs_cons (pg_name (i := 5) sc_cover.nd rfl (Or.inl rfl)) (pgs_cons (pg_name (i := 6) sc_cover.nd rfl (Or.inl rfl)) pgs_nil))))) (fun _ _ _ _ _ => pts_nil) (fun _ _ _ _ _ => (pe_cmpR o_ge (pe_callB (c_sum rfl (K := K)) (by rfl) T.b_sum (by decide +kernel) (pa_cons (pe_slice (s_sl (K := K)) (pv 2) (po_some (pv 5)) (po_some (pv 6))) pa_nil)) (pv 4) (nomark _)))) pa_nil)))))), ?_⟩
    walk_at "go"
    refine st_isListD hx.rq ?_
    refine ⟨_, rfl, ?_⟩
    by_cases hd : ∃ ds, d = .list ds
    rotate_left
    · refine st_T ?_ ?_
      · cases d <;> first | rfl | exact absurd ⟨_, rfl⟩ hd
      walk_at "go"
      exact k _ _ (Fr.refl _) ⟨fun h => (Bool.false_ne_true h).elim, fun ⟨_, _, h, _⟩ => absurd ⟨_, h⟩ hd⟩
    obtain ⟨ds, rfl⟩ := hd
    obtain ⟨r, xs, hv, hc, hxs⟩ := hx.listAt
    subst hv
    obtain ⟨ys, rfl, rfl, hys⟩ := hxs.zipped
    refine st_F rfl ?_
    walk_at "go"
    by_cases c1 : ys.length = M
    rotate_left
    · refine st_T (by rw [List.length_map]; simp; omega) ?_
      walk_at "go"
      refine k _ _ (Fr.refl _) ⟨fun h => (Bool.false_ne_true h).elim, fun ⟨_, ps, h, h2⟩ => ?_⟩
      injection h with h
      have := congrArg List.length h
      rw [List.length_map, List.length_map, h2.len] at this
      exact absurd this c1
    refine st_F (by rw [List.length_map]; simp; omega) ?_
    walk_at "go"
    refine lc_map (rv_list K r ys (·.1)) (fun H' e => lst_of (e.get hc)) (by omega) (fun y => .bl (posI y.2)) ?_ ?_
    · intro y H' hi e B h1
      refine ⟨rfl, ?_⟩
      have ry := (hys y hi).ex e
      obtain ⟨y1, y2⟩ := y
      walk_at "go"
      refine ⟨y1, rfl, ry.rq.ty, ?_⟩
      rw [whole_rn ry]
      dsimp only at ry h1
      cases ry with
      | int i =>
        walk_at "go"
        exact h1 _ (Fr.refl _)
      | _ =>
        walk_at "go"
        exact h1 _ (Fr.refl _)
    intro q1 H1 n1 e1 v1
    walk_at "go"
    refine st_all (bs := ys.map fun y => posI y.2) v1 (by rw [List.map_map]; rfl) ?_
    walk_at "go"
    refine st_br (fun c2 => ?_) (fun c2 => ?_)
    · walk_at "go"
      refine k _ _ e1 ⟨fun h => (Bool.false_ne_true h).elim, fun ⟨_, ps, h, h2⟩ => ?_⟩
      injection h with h
      have : ∀ y ∈ ys, posI y.2 = true := fun y hy => by
        have hm : y.2 ∈ ps.map PyData.int := by rw [← h]; exact List.mem_map_of_mem hy
        obtain ⟨i, hi, he⟩ := List.mem_map.mp hm
        rw [← he]
        exact decide_eq_true (h2.pos i hi)
      simp at c2
      obtain ⟨a, b, hy, hn⟩ := c2
      have := this _ hy
      dsimp only at this
      rw [hn] at this
      cases this
    have hall : ∀ y ∈ ys, posI y.2 = true := fun y hy => by
      simp at c2
      exact c2 _ _ hy
    obtain ⟨ps, hps⟩ : ∃ ps : List Int, ys.map (·.2) = ps.map PyData.int := ⟨_, ints_of fun d hd => by
      obtain ⟨y, hy, rfl⟩ := List.mem_map.mp hd
      have := hall y hy
      cases h : y.2 <;> first | rfl | (rw [h] at this; cases this)⟩
    have hps2 : ys.map (·.1) = ps.map V.int := by
      rw [hps] at hxs
      exact rn_ints hxs
    have hrr : H r = some (.lst (ps.map V.int)) := by rw [← hps2]; exact hc
    have hpl : ps.length = M := by
      have := congrArg List.length hps
      rw [List.length_map, List.length_map] at this
      omega
    have k' : ∀ (b : Bool) H', Ex H H' → (b = true ↔ PricesOk (zs.map (·.2)) M ps ps.sum) → Q (.bl b) H' := fun b H' e h => k b H' e (by
      rw [h]
      constructor
      · exact fun h => ⟨ps.sum, ps, by rw [hps], h⟩
      · rintro ⟨x, us, h1, h2⟩
        injection h1 with h1
        rw [hps] at h1
        have h3 : ps = us := by
          have := congrArg (List.map toI) h1
          rw [List.map_map, List.map_map] at this
          have e : (toI ∘ PyData.int) = id := rfl
          rwa [e, List.map_id, List.map_id] at this
        rw [h3]
        have := h2.sum
        rw [this]
        exact h2)
    have k := k'
    clear k'
    have c1 := hpl
    have hpos : ∀ y ∈ ps, 0 ≤ y := fun y hy => by
      have hm : PyData.int y ∈ ys.map (·.2) := by rw [hps]; exact List.mem_map_of_mem hy
      obtain ⟨u, hu, he⟩ := List.mem_map.mp hm
      have := hall u hu
      rw [he] at this
      exact of_decide_eq_true this
    walk_at "go"
    refine lc_pure (rv_list K p zs tV) (fun H' e => lst_of ((e1.trans e).get hp)) (by omega) (fun _ => true) (fun z => .bl (decide (z.2.w ≤ seg ps z.2.b z.2.e))) ?_ ?_
    · intro z H' hzm e B A h1 _
      have h1 := h1 rfl
      have hzv : H' z.1 = some (.tup [.int z.2.w, .int (z.2.b : Nat), .int (z.2.e : Nat)]) := (htt.ex (e1.trans e)) z hzm
      have hr4 := (e1.trans e).get hrr
      walk_at "go"
      refine ⟨rfl, ?_⟩
      walk_at "go"
      rename_i q5 G5 n5 e5 v5
      rw [cutV_map V.int ps] at v5
      refine ⟨q5, _, rfl, lstAt_sq (lst_of v5), ?_⟩
      rw [cut_seg]
      have h1 := h1 _ e5
      walk_at "go"
      exact h1
    intro q2 H2 n2 e2 v2
    rw [List.filter_eq_self.mpr (fun _ _ => rfl)] at v2
    walk_at "go"
    refine st_all (bs := zs.map fun z => decide (z.2.w ≤ seg ps z.2.b z.2.e)) v2 (by rw [List.map_map]; rfl) ?_
    refine k _ _ (e1.trans e2) ⟨fun h => ⟨c1, hpos, fun z hz => ?_, rfl⟩, fun h => ?_⟩
    · obtain ⟨y, hy, rfl⟩ := List.mem_map.mp hz
      simp at h
      exact h _ _ hy
    · simp
      intro a b hab
      exact h.cov b (List.mem_map.mpr ⟨_, hab, rfl⟩)
def sp_shows_apart (K : PySem.W.Frag) : Sp := fun vs H Q E => ∃ (m v t : V) (d e : PyData), vs = [m, v, t] ∧ Ty H m ∧ Rn H v d ∧ Rn H t e ∧
  (withinV m 0 24 = false → RaF K E H "NoPlace" [("found", m)]) ∧
  (∀ M : Nat, m = .int (M : Nat) → M ≤ 24 → (GoodSpans M d → ∀ (b : Bool) H', Ex H H' → (∀ ss : List S3, d = .list (ss.map encS) → (b = true ↔ ShowsA M ss e)) → Q (.bl b) H') ∧ (¬ GoodSpans M d → RaF K E H "NoStretches" [("found", v)]))
theorem wS_ints {ss : List S3} {cs : List Nat} : ((cs.map fun c => ((c : Nat) : Int)).map fun i : Int => wS ss i.toNat) = cs.map (wS ss) := by
  rw [List.map_map]
  exact List.map_congr_left fun c _ => by simp
theorem ok_shows_apart (T : Tx K mg ad fd tk) : FnOk P w K mg base (L2.CX P w) 5 (ad 8) (fd 8) ["many", "stretches", "thing"] (sp_shows_apart K) := by
  refine T.d_shows_apart.F.okX sc_shows_apart (fun vs H Q E h => ?_) (fun cdv A outer s H vs Q E hr h => ?_)
  · obtain ⟨m, v, t, d, e, rfl, _⟩ := h
    rfl
  · obtain ⟨m, v, t, d, e, rfl, hm, hx, ht, k0, k1⟩ := h
    refine ⟨_, (pss_cons (ps_expr (pe_call (ok_need_stretches T) (hr.mono (by decide)) rfl T.d_need_stretches.g T.d_need_stretches.F.kp T.d_need_stretches.b .nil (passes_call (takes_of rfl rfl rfl rfl) (fun _ _ _ _ h => h)) (pa_cons (pv 0) (pa_cons (pv 1) pa_nil))))
      (pss_cons (ps_if (PW.pt (pw_or (pt_not (pt_val (pe_callB c_is (by rfl) T.b_isinstance (by decide +kernel) (pa_cons (pv 2) (pa_cons (pe_bltn (v := .ty "tuple") rfl T.b_tuple (by decide +kernel) rfl) pa_nil))))) (pw_or1 (pt_cmpR (o_ne hr.units) (pe_callB (c_len (K := K)) (by rfl) T.b_len (by decide +kernel) (pa_cons (pv 2) pa_nil)) pe_int (nomark _))))) (pss_one (ps_ret pe_bl)) pss_nil)
      (pss_cons (ps_asg (pv 2) (pg_tup rfl (pgs_cons (pg_name (i := 3) sc_shows_apart.nd rfl (Or.inl rfl)) (pgs_cons (pg_name (i := 4) sc_shows_apart.nd rfl (Or.inl rfl)) (pgs_cons (pg_name (i := 5) sc_shows_apart.nd rfl (Or.inl rfl)) pgs_nil)))))
      (pss_cons (ps_if (PW.pt (pw_or (pt_not (pt_val (pe_call (ok_is_whole T) (hr.mono (by decide)) rfl T.d_is_whole.g T.d_is_whole.F.kp T.d_is_whole.b .nil pass0 (pa_cons (pv 3) pa_nil)))) (pw_or (pt_not (pt_val (pe_call (ok_are_apart T) (hr.mono (by decide)) rfl T.d_are_apart.g T.d_are_apart.F.kp T.d_are_apart.b .nil pass0 (pa_cons (pv 0) (pa_cons (pv 1) (pa_cons (pv 4) pa_nil)))))) (pw_or1 (pt_not (pt_val (pe_call (ok_cover T) (hr.mono (by decide)) rfl T.d_cover.g T.d_cover.F.kp T.d_cover.b .nil pass0 (pa_cons (pv 0) (pa_cons (pv 1) (pa_cons (pv 5) pa_nil)))))))))) (pss_one (ps_ret pe_bl)) pss_nil)
      (pss_one (ps_ret (pe_and (pe_cmpR (o_eq hr.units) (pv 3) (pe_callB (c_sum rfl (K := K)) (by rfl) T.b_sum (by decide +kernel) (pa_cons (pv 5) pa_nil)) (nomark _)) (pe_one (pe_cmpR (o_eq hr.units) (pv 3) (pe_callB (c_sum rfl (K := K)) (by rfl) T.b_sum (by decide +kernel) (pa_cons (pe_lc (own := [("at", 6)]) (g := gName 6) rfl sc_shows_apart.nd (pi_list (pv 4)) (blkOk_by (own := [("at", 6)]) (N := N_shows_apart) (sc := defScope s_shows_apart) (by decide +kernel)) (fun _ _ _ _ _ => pg_name (i := 6) sc_shows_apart.nd rfl (Or.inl rfl)) (fun _ _ _ _ _ => pts_nil) (fun _ _ _ _ _ => (pe_ix (i_ix (K := K)) (pe_ix (i_ix (K := K)) (pv 1) (pv 6) (fun _ _ => rfl)) pe_int (fun _ _ => rfl)))) pa_nil)) (nomark _)))))))))), ?_⟩
    walk_at "go"
    refine ⟨m, v, d, rfl, hm, hx, k0, fun M hM hM24 => ⟨fun hgood H0 e0 => ?_, (k1 M hM hM24).2⟩⟩
    subst hM
    have k2 := (k1 M rfl hM24).1 hgood
    obtain ⟨p, zs, rfl, hp, htt, hl, hok, rfl⟩ := spans_of hx hgood
    have k : ∀ (b : Bool) H', Ex H H' → (b = true ↔ ShowsA M (zs.map (·.2)) e) → Q (.bl b) H' := fun b H' e h => k2 b H' e fun ss hss => by
      rw [← encS_maps hss]; exact h
    clear k2 k1 k0
    have hp0 := e0.get hp
    have tt0 := htt.ex e0
    have ht0 := ht.ex e0
    walk_at "go"
    refine st_isTupD ht0.rq ?_
    refine ⟨_, rfl, ?_⟩
    by_cases he : ∃ es, e = .tuple es
    rotate_left
    · refine st_T ?_ ?_
      · cases e <;> first | rfl | exact absurd ⟨_, rfl⟩ he
      walk_at "go"
      exact k _ _ e0 ⟨fun h => (Bool.false_ne_true h).elim, fun ⟨_, _, _, h, _⟩ => absurd ⟨_, h⟩ he⟩
    obtain ⟨es, rfl⟩ := he
    obtain ⟨a, xs, hv, h1, h2⟩ := ht0.tupAt
    subst hv
    have hl2 := h2.len
    refine st_F rfl ?_
    walk_at "go"
    refine st_brn (fun c => ?_) (fun c => ?_)
    · walk_at "go"
      refine k _ _ e0 ⟨fun h => (Bool.false_ne_true h).elim, fun ⟨x, c1, r1, h, _⟩ => ?_⟩
      injection h with h
      rw [h] at hl2
      refine absurd ?_ c
      rw [hl2]
      rfl
    have c2 : xs.length = 3 := by omega
    obtain ⟨x0, x1, x2, rfl⟩ : ∃ x0 x1 x2, xs = [x0, x1, x2] := by
      match xs, c2 with
      | [x0, x1, x2], _ => exact ⟨x0, x1, x2, rfl⟩
    obtain ⟨d0, d1, d2, rfl, r0, r1, r2⟩ : ∃ d0 d1 d2, es = [d0, d1, d2] ∧ Rn H0 x0 d0 ∧ Rn H0 x1 d1 ∧ Rn H0 x2 d2 := by
      match es, h2 with
      | [d0, d1, d2], .cons r0 (.cons r1 (.cons r2 .nil)) => exact ⟨d0, d1, d2, rfl, r0, r1, r2⟩
    have enc : ∀ {x : Int} {c r : PyData}, PyData.tuple [d0, d1, d2] = .tuple [.int x, c, r] → d0 = .int x ∧ d1 = c ∧ d2 = r := fun e => by
      injection e with e
      injection e with e0 e
      injection e with e1 e
      injection e with e2 _
      exact ⟨e0, e1, e2⟩
    walk_at "go"
    refine ⟨x0, rfl, r0.rq.ty, ?_⟩
    rw [whole_rn r0]
    by_cases hi : ∃ i, d0 = .int i
    rotate_left
    · have : isI d0 = false := by cases d0 <;> first | rfl | exact absurd ⟨_, rfl⟩ hi
      rw [this]
      walk_at "go"
      exact k _ _ e0 ⟨fun h => (Bool.false_ne_true h).elim, fun ⟨x, _, _, h, _⟩ => absurd ⟨_, (enc h).1⟩ hi⟩
    obtain ⟨x, rfl⟩ := hi
    cases r0
    rw [show isI (.int x) = true from rfl]
    walk_at "go"
    refine ⟨M, p, zs, x1, d1, rfl, hM24, hp0, tt0, hok, r1, fun b1 H1 e1 hb1 => ?_⟩
    have e01 := e0.trans e1
    cases b1 with
    | false =>
      walk_at "go"
      exact k _ _ e01 ⟨fun h => (Bool.false_ne_true h).elim, fun ⟨y, _, _, h, hc, _⟩ => hb1.mpr ⟨y, by rw [(enc h).2.1]; exact hc⟩⟩
    | true =>
    have hp1 := e1.get hp0
    have tt1 := tt0.ex e1
    walk_at "go"
    refine ⟨M, p, zs, x2, d2, rfl, hp1, tt1, hl, hM24, r2.ex e1, fun b2 H2 e2 hb2 => ?_⟩
    have e02 := e01.trans e2
    cases b2 with
    | false =>
      walk_at "go"
      exact k _ _ e02 ⟨fun h => (Bool.false_ne_true h).elim, fun ⟨y, _, _, h, _, hc⟩ => hb2.mpr ⟨y, by rw [(enc h).2.2]; exact hc⟩⟩
    | true =>
    have hp2 := e2.get hp1
    have tt2 := tt1.ex e2
    obtain ⟨x0', cs, rfl, hcs⟩ := hb1.mp rfl
    obtain ⟨y0, ps, rfl, hpr⟩ := hb2.mp rfl
    obtain ⟨cA, xs1, rfl, hc, hxs1⟩ := r1.listAt
    obtain ⟨r, xs2, rfl, hrr, hxs2⟩ := r2.listAt
    have e1' : xs1 = (cs.map fun c => ((c : Nat) : Int)).map V.int := rn_ints (by rw [List.map_map]; exact hxs1)
    have e2' : xs2 = ps.map V.int := rn_ints hxs2
    subst e1' e2'
    have hr2 := e2.get (e1.get hrr)
    have hc2 := e2.get (e1.get hc)
    have hcsl := hcs.len
    rw [List.length_map] at hcsl
    walk_at "go"
    refine ⟨r, ps, rfl, lstAt_sq (lst_of hr2), ?_⟩
    have hys := hpr.sum
    walk_at "go"
    refine st_br2 (fun c3 => ?_) (fun c3 => ?_)
    · walk_at "go"
      refine lc_map (rv_list K cA (cs.map fun c => ((c : Nat) : Int)) V.int) (fun H' e => lst_of (e.get hc2)) (by rw [List.length_map]; omega) (fun i => .int (wS (zs.map (·.2)) i.toNat)) ?_ ?_
      · intro i H' hi e B h1
        refine ⟨rfl, ?_⟩
        have h1 := h1 _ (Fr.refl _)
        obtain ⟨d, hd, rfl⟩ := List.mem_map.mp hi
        have hdl := hcs.ch.lt d hd
        rw [List.length_map] at hdl
        obtain ⟨z, hz⟩ : ∃ z, zs[d]? = some z := ⟨zs[d]'(by omega), List.getElem?_eq_getElem _⟩
        have hzm := List.mem_of_getElem? hz
        have hzv : H' z.1 = some (.tup [.int z.2.w, .int (z.2.b : Nat), .int (z.2.e : Nat)]) := (tt2.ex e) z hzm
        have hz2 : (zs.map (·.2))[d]? = some z.2 := by rw [List.getElem?_map, hz]; rfl
        rw [Int.toNat_natCast, wS_at hz2] at h1
        walk_at "go"
        refine st_ixL ((e.get hp2)) (v := .ref z.1) (at_mapN hz) ?_
        walk_at "go"
        exact h1
      intro q3 H3 n3 e3 v3
      walk_at "go"
      refine ⟨q3, (cs.map fun c => ((c : Nat) : Int)).map fun i : Int => wS (zs.map (·.2)) i.toNat, rfl, lstAt_sq (lst_of (by rw [v3, List.map_map, List.map_map, List.map_map]; rfl)), ?_⟩
      rw [wS_ints, hcs.sum]
      walk_at "go"
      refine k _ _ (e02.trans e3) ?_
      rw [decide_eq_true_eq]
      constructor
      · intro h
        rw [h]
        exact ⟨x0', _, _, rfl, ⟨cs, rfl, hcs⟩, ps, rfl, by
          have : x0' = y0 := by omega
          rw [this]; exact hpr⟩
      · rintro ⟨y, _, _, h, ⟨ds, e, hd⟩, _⟩
        obtain ⟨h3, h4, h5⟩ := enc h
        injection h3 with h3
        rw [h3, ← hd.sum, ← hcs.sum]
        rw [← h4] at e
        injection e with e
        have e3 := congrArg (List.map toI) e
        rw [List.map_map, List.map_map] at e3
        rw [cast_inj (a := cs) (b := ds) e3]
    · walk_at "go"
      refine k _ _ e02 ⟨fun h => (Bool.false_ne_true h).elim, fun ⟨y, _, _, h, _, us, hu, hU⟩ => ?_⟩
      obtain ⟨h3, h4, h5⟩ := enc h
      injection h3 with h3
      rw [← h5] at hu
      injection hu with hu
      have e3 := congrArg (List.map toI) hu
      rw [List.map_map, List.map_map] at e3
      have e4 : (toI ∘ PyData.int) = id := rfl
      rw [e4, List.map_id, List.map_id] at e3
      have := hU.sum
      rw [← e3] at this
      omega
def sp__law_at (K : PySem.W.Frag) : Sp := fun vs H Q _ => ∃ (a : Addr) (ns : List Int) (j : Int), vs = [.ref a, .int j] ∧ SqL K H a (ns.map V.int) ∧ (0 ≤ j ∧ j < 1000000) ∧ ns.length ≤ 63 ∧ ∀ z : Int, Q (.int z) H
theorem ok__law_at (T : Tx K mg ad fd tk) : FnOk P w K mg base CX0 1 (ad 9) (fd 9) ["_law_script", "_law_k"] (sp__law_at K) := by
  refine T.d__law_at.F.ok sc__law_at (fun vs H Q E h => ?_) (fun cdv A outer s H vs Q E hr h => ?_)
  · obtain ⟨a, ns, j, rfl, _⟩ := h
    rfl
  · obtain ⟨a, ns, j, rfl, hs, hj, hl, k⟩ := h
    refine ⟨_, (pss_cons (ps_if (pt_cmpR o_lt (pv 1) (pe_callB (c_len (K := K)) (by rfl) T.b_len (by decide +kernel) (pa_cons (pv 0) pa_nil)) (nomark _)) (pss_one (ps_ret (pe_ix (i_ix (K := K)) (pv 0) (pv 1) (fun _ _ => rfl)))) pss_nil)
      (pss_one (ps_ret pe_int))), ?_⟩
    walk_at "go"
    refine st_lenK hs ?_
    walk_at "go"
    refine st_br2 (fun c => ?_) (fun c => ?_)
    · walk_at "go"
      rw [List.length_map] at c
      obtain ⟨v, h2, h3⟩ := at_in (xs := ns.map V.int) hj.1 (by rw [List.length_map]; exact c)
      rw [List.getElem?_map] at h3
      cases q : ns[j.toNat]? with
      | none => rw [q] at h3; cases h3
      | some z =>
        rw [q] at h3
        cases h3
        exact st_ixK hs h2 (k z)
    · walk_at "go"
      exact k _
/-- a pair of stretches and a thing that shows, or does not -/
def CaseOk (M : Nat) (due : Bool) (H : Hp) (l : V) : Prop := ∃ (a p : Addr) (t : V) (zs : List TZ) (e : PyData), l = .ref a ∧ H a = some (.tup [.ref p, t]) ∧ H p = some (.lst (zs.map tV)) ∧ TT H zs ∧ zs.length ≤ 400 ∧ (∀ z ∈ zs, SpOk M z.2) ∧ Rn H t e ∧ (∃ n k, Sh H t e n k ∧ n ≤ 16777216 ∧ k ≤ 60) ∧ (due = true ↔ ShowsA M (zs.map (·.2)) e)
theorem CaseOk.ex {M : Nat} {due : Bool} {H H' : Hp} {l : V} (h : CaseOk M due H l) (e : Ex H H') : CaseOk M due H' l := by
  obtain ⟨a, p, t, zs, d, h0, h1, h2, h3, h4, h5, h6, ⟨n, k, h7, h8, h9⟩, h10⟩ := h
  exact ⟨a, p, t, zs, d, h0, e.get h1, e.get h2, h3.ex e, h4, h5, h6.ex e, ⟨n, k, h7.ex e, h8, h9⟩, h10⟩
def Cases (M : Nat) (due : Bool) (H : Hp) (ls : List V) : Prop := ∀ l ∈ ls, CaseOk M due H l
theorem Cases.ex {M : Nat} {due : Bool} {H H' : Hp} {ls : List V} (h : Cases M due H ls) (e : Ex H H') : Cases M due H' ls := fun l hl => (h l hl).ex e
theorem Cases.nil {M : Nat} {due : Bool} {H : Hp} : Cases M due H [] := fun _ h => (List.not_mem_nil h).elim
theorem Cases.cons {M : Nat} {due : Bool} {H : Hp} {l : V} {ls : List V} (h : CaseOk M due H l) (t : Cases M due H ls) : Cases M due H (l :: ls) := fun x hx => by
  rcases List.mem_cons.mp hx with e | e
  · rw [e]; exact h
  · exact t x e
theorem Cases.app {M : Nat} {due : Bool} {H : Hp} {xs ys : List V} (h : Cases M due H xs) (t : Cases M due H ys) : Cases M due H (xs ++ ys) := fun x hx => by
  rcases List.mem_append.mp hx with e | e
  · exact h x e
  · exact t x e
def shapeA : PyData → Bool
  | .tuple [.int _, .list cs, .list ps] => cs.all isI && ps.all isI
  | _ => false
theorem shape_of {M : Nat} {ss : List S3} {e : PyData} (h : ShowsA M ss e) : shapeA e = true := by
  obtain ⟨x, c, r, rfl, ⟨cs, rfl, _⟩, ps, rfl, _⟩ := h
  simp [shapeA, isI, natD]
theorem not_shape {M : Nat} {ss : List S3} {e : PyData} (h : shapeA e = false) : false = true ↔ ShowsA M ss e := ⟨fun h => (Bool.false_ne_true h).elim, fun k => by rw [shape_of k] at h; cases h⟩
theorem showsA_std {M : Nat} {ss : List S3} {x : Int} {ns ps : List Int} : ShowsA M ss (.tuple [.int x, .list (ns.map PyData.int), .list (ps.map PyData.int)]) ↔ ChoD ss ns x ∧ PricesOk ss M ps x := by
  have tI : ∀ ns : List Int, (ns.map PyData.int).map toI = ns := fun ns => by
    rw [List.map_map]
    exact List.map_id ns
  constructor
  · rintro ⟨y, c, r, h, h1, us, h2, h3⟩
    injection h with h
    injection h with h4 h
    injection h4 with h4
    injection h with h5 h
    injection h with h6 _
    subst h4 h5
    rw [choP_toI, tI] at h1
    rw [← h6] at h2
    injection h2 with h2
    have := congrArg (List.map toI) h2
    rw [tI, tI] at this
    subst this
    exact ⟨h1, h3⟩
  · rintro ⟨h1, h2⟩
    refine ⟨x, _, _, rfl, ?_, ps, rfl, h2⟩
    rw [choP_toI, tI]
    exact h1
theorem rn_intL {H : Hp} {q : Addr} {ns : List Int} (h : H q = some (.lst (ns.map V.int))) : Rn H (.ref q) (.list (ns.map PyData.int)) := by
  refine .lst h ?_
  clear h
  induction ns with
  | nil => exact .nil
  | cons n ns ih => exact .cons (.int _) ih
theorem sh_i {H : Hp} {i : Int} (h : i.natAbs < 10 ^ 7) : Sh H (.int i) (.int i) 8 0 := Sh.int (by decide) h (by
  by_cases h0 : i.natAbs = 0
  · rw [h0]; decide
  · refine (Nat.log2_lt h0).mpr (Nat.lt_of_lt_of_le (Nat.lt_trans h (show 10 ^ 7 < 2 ^ 24 by decide)) (Nat.pow_le_pow_right (by decide) (by decide))))
theorem sh_intL {H : Hp} {q : Addr} {ns : List Int} (h : H q = some (.lst (ns.map V.int))) (hn : ∀ n ∈ ns, n.natAbs < 10 ^ 7) (hl : ns.length ≤ 100) : Sh H (.ref q) (.list (ns.map PyData.int)) 1003 1 := by
  have := ShA.lst h (ShA.map (enc := PyData.int) (val := V.int) (k := 0) fun n h => sh_i (H := H) (hn n h))
  exact this.up (by omega) (Nat.le_refl _)
/-- the things as they should be told, right or wrong -/
theorem CaseOk.std {M : Nat} {due : Bool} {H : Hp} {a p t c r : Addr} {zs : List TZ} {x : Int} {ns ps : List Int} (ha : H a = some (.tup [.ref p, .ref t])) (hp : H p = some (.lst (zs.map tV))) (htt : TT H zs) (hl : zs.length ≤ 400) (hok : ∀ z ∈ zs, SpOk M z.2)
    (ht : H t = some (.tup [.int x, .ref c, .ref r])) (hc : H c = some (.lst (ns.map V.int))) (hr : H r = some (.lst (ps.map V.int))) (hx : x.natAbs < 10 ^ 7) (hns : ∀ n ∈ ns, n.natAbs < 10 ^ 7) (hnl : ns.length ≤ 100) (hps : ∀ n ∈ ps, n.natAbs < 10 ^ 7) (hpl : ps.length ≤ 100)
    (hd : due = true ↔ ChoD (zs.map (·.2)) ns x ∧ PricesOk (zs.map (·.2)) M ps x) : CaseOk M due H (.ref a) := by
  refine ⟨a, p, .ref t, zs, _, rfl, ha, hp, htt, hl, hok, .tup ht (.cons (.int x) (.cons (rn_intL hc) (.cons (rn_intL hr) .nil))), ⟨_, _, ShA.tup (k := 1) ht (.cons ((sh_i hx).up (Nat.le_refl _) (by decide)) (.cons (sh_intL hc hns hnl) (.cons (sh_intL hr hps hpl) .nil))), by decide, by decide⟩, ?_⟩
  rw [hd]
  exact showsA_std.symm
/-- prices: p of nothing, x, y, n of nothing -/
def prS (p : Nat) (x y : Int) (n : Nat) : List Int := List.replicate p 0 ++ [x, y] ++ List.replicate n 0
theorem rep_sum : ∀ n : Nat, (List.replicate n (0 : Int)).sum = 0
  | 0 => rfl
  | n + 1 => by rw [List.replicate_succ, List.sum_cons, rep_sum n]; rfl
theorem prS_len {p n : Nat} {x y : Int} : (prS p x y n).length = p + 2 + n := by simp [prS]; omega
theorem prS_sum {p n : Nat} {x y : Int} : (prS p x y n).sum = x + y := by
  simp only [prS, List.sum_append, rep_sum, List.sum_cons, List.sum_nil]
  omega
theorem prS_take {p n k : Nat} {x y : Int} : ((prS p x y n).take k).sum = if k ≤ p then 0 else if k = p + 1 then x else x + y := by
  unfold prS
  rw [List.append_assoc, List.take_append, List.take_append, List.sum_append, List.sum_append, List.length_replicate]
  rw [List.take_replicate, rep_sum, List.take_replicate, rep_sum]
  by_cases h : k ≤ p
  · rw [if_pos h, show k - p = 0 by omega]; rfl
  · rw [if_neg h]
    by_cases h2 : k = p + 1
    · rw [if_pos h2, show k - p = 1 by omega]; simp
    · rw [if_neg h2]
      obtain ⟨j, hj⟩ : ∃ j, k - p = j + 2 := ⟨k - p - 2, by omega⟩
      rw [hj]
      simp
theorem prS_seg {p n b e : Nat} {x y : Int} (h : b ≤ e) : seg (prS p x y n) b e = (if e ≤ p then 0 else if e = p + 1 then x else x + y) - (if b ≤ p then 0 else if b = p + 1 then x else x + y) := by
  rw [seg_P _ h, prS_take, prS_take]
theorem prS_pos {p n : Nat} {x y : Int} (hx : 0 ≤ x) (hy : 0 ≤ y) : ∀ u ∈ prS p x y n, 0 ≤ u := fun u hu => by
  simp only [prS, List.mem_append, List.mem_replicate, List.mem_cons, List.not_mem_nil, or_false] at hu
  rcases hu with (⟨_, h⟩ | h | h) | ⟨_, h⟩ <;> omega
theorem prS_small {p n : Nat} {x y : Int} (hx : x.natAbs < 10 ^ 7) (hy : y.natAbs < 10 ^ 7) : ∀ u ∈ prS p x y n, u.natAbs < 10 ^ 7 := fun u hu => by
  simp only [prS, List.mem_append, List.mem_replicate, List.mem_cons, List.not_mem_nil, or_false] at hu
  rcases hu with (⟨_, h⟩ | h | h) | ⟨_, h⟩ <;> omega
theorem zero_rng (n : Nat) : (List.range n).map (fun _ => V.int 0) = (List.replicate n (0 : Int)).map V.int := by
  rw [List.map_replicate]
  refine List.ext_getElem? fun i => ?_
  rw [List.getElem?_map, List.getElem?_replicate]
  by_cases hi : i < n
  · rw [if_pos hi, List.getElem?_range hi]; rfl
  · rw [if_neg hi, List.getElem?_eq_none (by rw [List.length_range]; omega)]; rfl
theorem prS_map {p n : Nat} {x y : Int} {hs ts : List Int} (h1 : hs = List.replicate p 0) (h2 : ts = List.replicate n 0) : hs.map V.int ++ [V.int x, V.int y] ++ ts.map V.int = (prS p x y n).map V.int := by
  rw [h1, h2]
  simp [prS]
theorem pr_ok {ss : List S3} {M p n : Nat} {x y z : Int} (hx : 0 ≤ x) (hy : 0 ≤ y) (hM : M = p + 2 + n) (hz : z = x + y) (h : ∀ s ∈ ss, s.b ≤ s.e ∧ s.w ≤ (if s.e ≤ p then 0 else if s.e = p + 1 then x else x + y) - (if s.b ≤ p then 0 else if s.b = p + 1 then x else x + y)) : PricesOk ss M (prS p x y n) z := by
  refine ⟨by rw [prS_len, hM], prS_pos hx hy, fun s hs => ?_, by rw [prS_sum, hz]⟩
  obtain ⟨h1, h2⟩ := h s hs
  rw [prS_seg h1]
  exact h2
theorem zero_ok {M : Nat} : PricesOk [] M (List.replicate M 0) 0 := ⟨List.length_replicate, fun y hy => by
  rw [(List.mem_replicate.mp hy).2]
  exact Int.le_refl _, fun s hs => (List.not_mem_nil hs).elim, rep_sum M⟩
theorem TT1 {H : Hp} {a : Addr} {z : S3} (h : H a = some (sO z)) : TT H [(a, z)] := fun y hy => by rw [List.mem_singleton.mp hy]; exact h
theorem TTc {H : Hp} {a : Addr} {z : S3} {zs : List TZ} (h : H a = some (sO z)) (t : TT H zs) : TT H ((a, z) :: zs) := fun y hy => by
  rcases List.mem_cons.mp hy with e | e
  · rw [e]; exact h
  · exact t y e
theorem TT0 {H : Hp} : TT H [] := fun y hy => (List.not_mem_nil hy).elim
theorem ok0 {M : Nat} : ∀ y ∈ ([] : List TZ), SpOk M y.2 := fun y hy => (List.not_mem_nil hy).elim
theorem okC {M : Nat} {a : Addr} {w : Int} {b e : Nat} {zs : List TZ} (h1 : 1 ≤ w ∧ w ≤ 1000000) (h2 : b < e ∧ e ≤ M) (t : ∀ y ∈ zs, SpOk M y.2) : ∀ y ∈ (a, (⟨w, b, e⟩ : S3)) :: zs, SpOk M y.2 := fun y hy => by
  rcases List.mem_cons.mp hy with h | h
  · rw [h]; exact ⟨h1.1, h1.2, h2.1, h2.2⟩
  · exact t y h
theorem cho_at {ss : List S3} {cs : List Nat} {x : Int} (h : ChoD ss (cs.map fun c => ((c : Nat) : Int)) x) : ChosenOk ss cs x := by
  obtain ⟨ds, e, h⟩ := h
  rw [cast_inj e]
  exact h
theorem small1 {x : Int} (h : x.natAbs < 10 ^ 7) : ∀ u ∈ [x], u.natAbs < 10 ^ 7 := fun u hu => by rw [List.mem_singleton.mp hu]; exact h
theorem small_app {xs ys : List Int} (h : ∀ u ∈ xs, u.natAbs < 10 ^ 7) (t : ∀ u ∈ ys, u.natAbs < 10 ^ 7) : ∀ u ∈ xs ++ ys, u.natAbs < 10 ^ 7 := fun u hu => by
  rcases List.mem_append.mp hu with e | e
  · exact h u e
  · exact t u e
theorem small_rep {us : List Int} {n : Nat} (h : us = List.replicate n (0 : Int)) : ∀ u ∈ us, u.natAbs < 10 ^ 7 := fun u hu => by
  rw [h] at hu
  rw [(List.mem_replicate.mp hu).2]
  decide
def sp__law_right_ones : Sp := fun vs H Q _ => ∃ (a b : Int) (p M : Nat), vs = [.int a, .int b, .int (p : Nat), .int (M : Nat)] ∧ (1 ≤ a ∧ a ≤ 490000) ∧ (1 ≤ b ∧ b ≤ 490000) ∧ p + 2 ≤ M ∧ M ≤ 24 ∧ ∀ (q : Addr) (ls : List V) H', Ex H H' → H' q = some (.lst ls) → Cases M true H' ls → Q (.ref q) H'
theorem ok__law_right_ones (T : Tx K mg ad fd tk) : FnOk P w K mg base CX0 1 (ad 10) (fd 10) ["_law_a", "_law_b", "_law_p", "_law_many"] sp__law_right_ones := by
  refine T.d__law_right_ones.F.ok sc__law_right_ones (fun vs H Q E h => ?_) (fun cdv A outer s H vs Q E hr h => ?_)
  · obtain ⟨a, b, p, M, rfl, _⟩ := h
    rfl
  · obtain ⟨a, b, p, M, rfl, ha, hb, hp, hM, k⟩ := h
    refine ⟨_, (pss_cons (ps_set (i := 4) sc__law_right_ones.nd rfl (Or.inl rfl) (pe_lst (pa_cons (pe_tup (pa_cons (pv 0) (pa_cons (pv 2) (pa_cons (pe_op o_add (pv 2) pe_int) pa_nil)))) (pa_cons (pe_tup (pa_cons (pv 1) (pa_cons (pe_op o_add (pv 2) pe_int) (pa_cons (pe_op o_add (pv 2) pe_int) pa_nil)))) pa_nil))))
      (pss_cons (ps_setLc (i := 5) (own := [("_law_k", 9)]) (g := gName 9) rfl sc__law_right_ones.nd rfl rfl (sw_true rfl rfl rfl (by decide +kernel)) (pi_range1 rfl T.b_range (pa_cons (pv 2) pa_nil)) (blkOk_by (own := [("_law_k", 9)]) (N := N__law_right_ones) (sc := defScope s__law_right_ones) (by decide +kernel)) (fun _ _ _ _ _ => pg_name (i := 9) sc__law_right_ones.nd rfl (Or.inl rfl)) (fun _ _ _ _ _ => pts_nil) (fun _ _ _ _ _ => pe_int))
      (pss_cons (ps_setLc (i := 6) (own := [("_law_k", 9)]) (g := gName 9) rfl sc__law_right_ones.nd rfl rfl (sw_true rfl rfl rfl (by decide +kernel)) (pi_range1 rfl T.b_range (pa_cons (pe_op o_sub (pe_op o_sub (pv 3) (pv 2)) pe_int) pa_nil)) (blkOk_by (own := [("_law_k", 9)]) (N := N__law_right_ones) (sc := defScope s__law_right_ones) (by decide +kernel)) (fun _ _ _ _ _ => pg_name (i := 9) sc__law_right_ones.nd rfl (Or.inl rfl)) (fun _ _ _ _ _ => pts_nil) (fun _ _ _ _ _ => pe_int))
      (pss_cons (ps_set (i := 7) sc__law_right_ones.nd rfl (Or.inl rfl) (pe_op o_add (pe_op o_add (pv 5) (pe_lst (pa_cons (pv 0) (pa_cons (pv 1) pa_nil)))) (pv 6)))
      (pss_cons (ps_set (i := 8) sc__law_right_ones.nd rfl (Or.inl rfl) (pe_lst (pa_cons (pe_tup (pa_cons (pe_op o_add (pv 0) (pv 1)) (pa_cons (pv 2) (pa_cons (pe_op o_add (pv 2) pe_int) pa_nil)))) pa_nil)))
      (pss_one (ps_ret (pe_lst (pa_cons (pe_tup (pa_cons (pv 4) (pa_cons (pe_tup (pa_cons (pe_op o_add (pv 0) (pv 1)) (pa_cons (pe_lst (pa_cons pe_int (pa_cons pe_int pa_nil))) (pa_cons (pv 7) pa_nil)))) pa_nil))) (pa_cons (pe_tup (pa_cons (pe_slice3 (pv 4) po_none po_none (pe_un un_neg pe_int) (K := K)) (pa_cons (pe_tup (pa_cons (pe_op o_add (pv 0) (pv 1)) (pa_cons (pe_lst (pa_cons pe_int (pa_cons pe_int pa_nil))) (pa_cons (pv 7) pa_nil)))) pa_nil))) (pa_cons (pe_tup (pa_cons (pv 8) (pa_cons (pe_tup (pa_cons (pe_op o_add (pv 0) (pv 1)) (pa_cons (pe_lst (pa_cons pe_int pa_nil)) (pa_cons (pe_op o_add (pe_op o_add (pv 5) (pe_lst (pa_cons (pv 1) (pa_cons (pv 0) pa_nil)))) (pv 6)) pa_nil)))) pa_nil))) (pa_cons (pe_tup (pa_cons (pe_op o_add (pv 8) (pv 8)) (pa_cons (pe_tup (pa_cons (pe_op o_add (pv 0) (pv 1)) (pa_cons (pe_lst (pa_cons pe_int pa_nil)) (pa_cons (pv 7) pa_nil)))) pa_nil))) (pa_cons (pe_tup (pa_cons (pe_op o_add (pv 4) (pv 8)) (pa_cons (pe_tup (pa_cons (pe_op o_add (pv 0) (pv 1)) (pa_cons (pe_lst (pa_cons pe_int pa_nil)) (pa_cons (pv 7) pa_nil)))) pa_nil))) (pa_cons (pe_tup (pa_cons (pe_lst pa_nil) (pa_cons (pe_tup (pa_cons pe_int (pa_cons (pe_lst pa_nil) (pa_cons (pe_lc (own := [("_law_k", 9)]) (g := gName 9) rfl sc__law_right_ones.nd (pi_range1 rfl T.b_range (pa_cons (pv 3) pa_nil)) (blkOk_by (own := [("_law_k", 9)]) (N := N__law_right_ones) (sc := defScope s__law_right_ones) (by decide +kernel)) (fun _ _ _ _ _ => pg_name (i := 9) sc__law_right_ones.nd rfl (Or.inl rfl)) (fun _ _ _ _ _ => pts_nil) (fun _ _ _ _ _ => pe_int)) pa_nil)))) pa_nil))) pa_nil)))))))))))))), ?_⟩
    walk_at "go"
    rename_i z1 H1 n1 e1 v1 z2 H2 n2 e2 v2 q4 H4 n4 e4 v4
    rw [show ((p : Nat) : Int).toNat = p by omega]
    refine lc_map (rv_range 0 _) (fun _ _ => trivial) (by rw [List.length_range]; omega) (fun _ => .int 0) ?_ ?_
    · intro i H' hi e B h1
      refine ⟨rfl, ?_⟩
      walk_at "go"
      exact h1 _ (Fr.refl _)
    intro q5 H5 n5 e5 v5
    rw [zero_rng] at v5
    obtain ⟨hs, hhs⟩ : ∃ hs, hs = List.replicate p (0 : Int) := ⟨_, rfl⟩
    have hsl : hs.length = p := by rw [hhs, List.length_replicate]
    rw [← hhs] at v5
    walk_at "go"
    obtain ⟨n, hn⟩ : ∃ n : Nat, ((M : Nat) : Int) - (p : Nat) - 2 = (n : Nat) := ⟨M - p - 2, by omega⟩
    rw [hn, show ((n : Nat) : Int).toNat = n by omega]
    refine lc_map (rv_range 0 _) (fun _ _ => trivial) (by rw [List.length_range]; omega) (fun _ => .int 0) ?_ ?_
    · intro i H' hi e B h1
      refine ⟨rfl, ?_⟩
      walk_at "go"
      exact h1 _ (Fr.refl _)
    intro q6 H6 n6 e6 v6
    rw [zero_rng] at v6
    obtain ⟨ts, hts⟩ : ∃ ts, ts = List.replicate n (0 : Int) := ⟨_, rfl⟩
    have htl : ts.length = n := by rw [hts, List.length_replicate]
    rw [← hts] at v6
    walk_at "go"
    refine st_revL (lstAt_sq (lst_of (by walk_at "hp"))) ?_
    walk_at "nw"
    walk_at "go"
    rename_i o1 G1 m1 f1 w1 o2 G2 m2 f2 w2 o3 G3 m3 f3 w3 o4 G4 m4 f4 w4 o5 G5 m5 f5 w5 o6 G6 m6 f6 w6 o7 G7 m7 f7 w7 o8 G8 m8 f8 w8 o9 G9 m9 f9 w9 o10 G10 m10 f10 w10 o11 G11 m11 f11 w11 o12 G12 m12 f12 w12 o13 G13 m13 f13 w13 o14 G14 m14 f14 w14 o15 G15 m15 f15 w15 o16 G16 m16 f16 w16 o17 G17 m17 f17 w17 o18 G18 m18 f18 w18 o19 G19 m19 f19 w19 o20 G20 m20 f20 w20 o21 G21 m21 f21 w21 o22 G22 m22 f22 w22 o23 G23 m23 f23 w23 o24 G24 m24 f24 w24 o25 G25 m25 f25 w25 o26 G26 m26 f26 w26 o27 G27 m27 f27 w27 o28 G28 m28 f28 w28
    have hMn : M = p + 2 + n := by omega
    rw [show ((M : Nat) : Int).toNat = M by omega]
    refine lc_map (rv_range 0 _) (fun _ _ => trivial) (by rw [List.length_range]; omega) (fun _ => .int 0) ?_ ?_
    · intro i H' hi e B h1
      refine ⟨rfl, ?_⟩
      walk_at "go"
      exact h1 _ (Fr.refl _)
    intro qz Hz nz ez vz
    rw [zero_rng] at vz
    rw [prS_map hhs hts] at w3 w16
    walk_at "go"
    rename_i x1 Hx1 nx1 ex1 vx1 x2 Hx2 nx2 ex2 vx2 x3 GF nx3 ex3 vx3
    have c_o8 : CaseOk M true GF (.ref o8) := by
      refine CaseOk.std (p := q4) (t := o7) (c := o6) (r := o3) (zs := [(z1, ⟨a, p, p + 1⟩), (z2, ⟨b, p + 1, p + 2⟩)]) (x := a + b) (ns := [0, 1]) (ps := prS p a b n) (by walk_at "hp") (by walk_at "hp") (TTc (by walk_at "hp") (TTc (by walk_at "hp") TT0)) (by simp) (okC (by omega) (by omega) (okC (by omega) (by omega) ok0)) (by walk_at "hp") (by walk_at "hp") (by walk_at "hp") (by omega) (by simp) (by simp) (prS_small (by omega) (by omega)) (by rw [prS_len]; omega) ⟨fun _ => ⟨⟨[0, 1], rfl, ⟨⟨?_, ?_⟩, ?_, ?_⟩⟩, pr_ok (by omega) (by omega) (by omega) (by omega) ?_⟩, fun _ => rfl⟩
      · simp
      · simp [apartS]
      · simp
      · simp [wS]; try omega
      · simp; try omega
    have c_o12 : CaseOk M true GF (.ref o12) := by
      refine CaseOk.std (p := o9) (t := o11) (c := o10) (r := o3) (zs := [(z2, ⟨b, p + 1, p + 2⟩), (z1, ⟨a, p, p + 1⟩)]) (x := a + b) (ns := [0, 1]) (ps := prS p a b n) (by walk_at "hp") (by walk_at "hp") (TTc (by walk_at "hp") (TTc (by walk_at "hp") TT0)) (by simp) (okC (by omega) (by omega) (okC (by omega) (by omega) ok0)) (by walk_at "hp") (by walk_at "hp") (by walk_at "hp") (by omega) (by simp) (by simp) (prS_small (by omega) (by omega)) (by rw [prS_len]; omega) ⟨fun _ => ⟨⟨[0, 1], rfl, ⟨⟨?_, ?_⟩, ?_, ?_⟩⟩, pr_ok (by omega) (by omega) (by omega) (by omega) ?_⟩, fun _ => rfl⟩
      · simp
      · simp [apartS]
      · simp
      · simp [wS]; try omega
      · simp; try omega
    have c_o18 : CaseOk M true GF (.ref o18) := by
      refine CaseOk.std (p := o5) (t := o17) (c := o13) (r := o16) (zs := [(o4, ⟨a + b, p, p + 2⟩)]) (x := a + b) (ns := [0]) (ps := prS p b a n) (by walk_at "hp") (by walk_at "hp") (TTc (by walk_at "hp") TT0) (by simp) (okC (by omega) (by omega) ok0) (by walk_at "hp") (by walk_at "hp") (by walk_at "hp") (by omega) (by simp) (by simp) (prS_small (by omega) (by omega)) (by rw [prS_len]; omega) ⟨fun _ => ⟨⟨[0], rfl, ⟨⟨?_, ?_⟩, ?_, ?_⟩⟩, pr_ok (by omega) (by omega) (by omega) (by omega) ?_⟩, fun _ => rfl⟩
      · simp
      · simp [apartS]
      · simp
      · simp [wS]; try omega
      · simp; try omega
    have c_o22 : CaseOk M true GF (.ref o22) := by
      refine CaseOk.std (p := o19) (t := o21) (c := o20) (r := o3) (zs := [(o4, ⟨a + b, p, p + 2⟩), (o4, ⟨a + b, p, p + 2⟩)]) (x := a + b) (ns := [1]) (ps := prS p a b n) (by walk_at "hp") (by walk_at "hp") (TTc (by walk_at "hp") (TTc (by walk_at "hp") TT0)) (by simp) (okC (by omega) (by omega) (okC (by omega) (by omega) ok0)) (by walk_at "hp") (by walk_at "hp") (by walk_at "hp") (by omega) (by simp) (by simp) (prS_small (by omega) (by omega)) (by rw [prS_len]; omega) ⟨fun _ => ⟨⟨[1], rfl, ⟨⟨?_, ?_⟩, ?_, ?_⟩⟩, pr_ok (by omega) (by omega) (by omega) (by omega) ?_⟩, fun _ => rfl⟩
      · simp
      · simp [apartS]
      · simp
      · simp [wS]; try omega
      · simp; try omega
    have c_o26 : CaseOk M true GF (.ref o26) := by
      refine CaseOk.std (p := o23) (t := o25) (c := o24) (r := o3) (zs := [(z1, ⟨a, p, p + 1⟩), (z2, ⟨b, p + 1, p + 2⟩), (o4, ⟨a + b, p, p + 2⟩)]) (x := a + b) (ns := [2]) (ps := prS p a b n) (by walk_at "hp") (by walk_at "hp") (TTc (by walk_at "hp") (TTc (by walk_at "hp") (TTc (by walk_at "hp") TT0))) (by simp) (okC (by omega) (by omega) (okC (by omega) (by omega) (okC (by omega) (by omega) ok0))) (by walk_at "hp") (by walk_at "hp") (by walk_at "hp") (by omega) (by simp) (by simp) (prS_small (by omega) (by omega)) (by rw [prS_len]; omega) ⟨fun _ => ⟨⟨[2], rfl, ⟨⟨?_, ?_⟩, ?_, ?_⟩⟩, pr_ok (by omega) (by omega) (by omega) (by omega) ?_⟩, fun _ => rfl⟩
      · simp
      · simp [apartS]
      · simp
      · simp [wS]; try omega
      · simp; try omega
    have c_x2 : CaseOk M true GF (.ref x2) := by
      refine CaseOk.std (p := o27) (t := x1) (c := o28) (r := qz) (zs := []) (x := 0) (ns := []) (ps := List.replicate M 0) (by walk_at "hp") (by walk_at "hp") TT0 (by simp) ok0 (by walk_at "hp") (by walk_at "hp") (by walk_at "hp") (by decide) (by simp) (by simp) (fun u hu => by rw [(List.mem_replicate.mp hu).2]; decide) (by rw [List.length_replicate]; omega) ⟨fun _ => ⟨⟨[], rfl, ⟨⟨?_, ?_⟩, ?_, ?_⟩⟩, zero_ok⟩, fun _ => rfl⟩
      · simp
      · simp
      · simp
      · simp
    exact k x3 _ GF (by walk_at "fr") vx3 (.cons c_o8 (.cons c_o12 (.cons c_o18 (.cons c_o22 (.cons c_o26 (.cons c_x2 .nil))))))
theorem rnA_app {H : Hp} : ∀ {xs ys : List V} {ds es : List PyData}, RnA H xs ds → RnA H ys es → RnA H (xs ++ ys) (ds ++ es)
  | _, _, _, _, .nil, k => k
  | _, _, _, _, .cons h t, k => .cons h (rnA_app t k)
theorem rnA_ints {H : Hp} : ∀ ns : List Int, RnA H (ns.map V.int) (ns.map PyData.int)
  | [] => .nil
  | n :: ns => .cons (.int n) (rnA_ints ns)
theorem shA_app {H : Hp} {k : Nat} : ∀ {xs ys : List V} {ds es : List PyData} {n m : Nat}, ShA H k xs ds n → ShA H k ys es m → ShA H k (xs ++ ys) (ds ++ es) (n + m)
  | _, _, _, _, _, m, .nil, k => by rw [Nat.zero_add]; exact k
  | _, _, _, _, _, m, .cons h t, k => by
    have := ShA.cons h (shA_app t k)
    rw [show ∀ a b c : Nat, a + 2 + (b + c) = a + 2 + b + c by intro a b c; omega] at this
    exact this
theorem shA_ints {H : Hp} {k : Nat} {ns : List Int} (hn : ∀ n ∈ ns, n.natAbs < 10 ^ 7) : ShA H k (ns.map V.int) (ns.map PyData.int) (ns.length * 10) := ShA.map fun n h => (sh_i (H := H) (hn n h)).up (Nat.le_refl _) (Nat.zero_le _)
/-- a thing of small size, with a property of its datum -/
def Thi (g : PyData → Bool) (H : Hp) (t : V) : Prop := ∃ e, Rn H t e ∧ Sh H t e 5000 4 ∧ g e = false
theorem Thi.ex {g : PyData → Bool} {H H' : Hp} {t : V} (h : Thi g H t) (e : Ex H H') : Thi g H' t := by
  obtain ⟨d, h1, h2, h3⟩ := h
  exact ⟨d, h1.ex e, h2.ex e, h3⟩
def shI : PyData → Bool
  | .list cs => cs.all isI
  | _ => false
theorem CaseOk.thi {M : Nat} {H : Hp} {a p : Addr} {t : V} {zs : List TZ} (ha : H a = some (.tup [.ref p, t])) (hp : H p = some (.lst (zs.map tV))) (htt : TT H zs) (hl : zs.length ≤ 400) (hok : ∀ z ∈ zs, SpOk M z.2) (ht : ∃ e, Rn H t e ∧ (∃ n k, Sh H t e n k ∧ n ≤ 16777216 ∧ k ≤ 60) ∧ shapeA e = false) : CaseOk M false H (.ref a) := by
  obtain ⟨e, h1, h2, h3⟩ := ht
  exact ⟨a, p, t, zs, e, rfl, ha, hp, htt, hl, hok, h1, h2, not_shape h3⟩
theorem shape_1 {e c r : PyData} (h : isI e = false) : shapeA (.tuple [e, c, r]) = false := by
  cases e <;> first | rfl | cases h
theorem shape_2 {e c r : PyData} (h : shI c = false) : shapeA (.tuple [e, c, r]) = false := by
  cases e <;> try rfl
  cases c <;> try rfl
  rename_i cs
  cases r <;> try rfl
  show (cs.all isI && _) = false
  rw [show cs.all isI = false from h]
  rfl
theorem shape_3 {e c r : PyData} (h : shI r = false) : shapeA (.tuple [e, c, r]) = false := by
  cases e <;> try rfl
  cases c <;> try rfl
  rename_i cs
  cases r <;> try rfl
  show (_ && _) = false
  rw [show (List.all _ isI) = false from h, Bool.and_false]
/-- three things as one -/
theorem thi3 {H : Hp} {t : Addr} {x y z : V} {d e f : PyData} {n1 n2 n3 : Nat} (ht : H t = some (.tup [x, y, z])) (r1 : Rn H x d) (r2 : Rn H y e) (r3 : Rn H z f) (s1 : Sh H x d n1 4) (s2 : Sh H y e n2 4) (s3 : Sh H z f n3 4) (hn : n1 + n2 + n3 ≤ 16000000) (hs : shapeA (.tuple [d, e, f]) = false) :
    ∃ e, Rn H (.ref t) e ∧ (∃ n k, Sh H (.ref t) e n k ∧ n ≤ 16777216 ∧ k ≤ 60) ∧ shapeA e = false :=
  ⟨_, .tup ht (.cons r1 (.cons r2 (.cons r3 .nil))), ⟨_, _, ShA.tup ht (.cons s1 (.cons s2 (.cons s3 .nil))), by omega, by decide⟩, hs⟩
theorem hid_upd {D : Addr} {H : Hp} {o : HO} : hid D (upd H D o) = hid D H := by
  funext b
  unfold hid
  by_cases h : b = D
  · rw [if_pos h, if_pos h]
  · rw [if_neg h, if_neg h, upd_ne h]
/-- the told list on its way -/
structure Tl (M : Nat) (D : Addr) (B H : Hp) (ls : List V) : Prop where
  at_ : H D = some (.lst ls)
  ex : Ex B (hid D H)
  cs : Cases M false (hid D H) ls
theorem Tl.go {M : Nat} {D : Addr} {B H H' : Hp} {ls : List V} (h : Tl M D B H ls) (e : Ex H H') : Tl M D B H' ls :=
  have e' : Ex (hid D H) (hid D H') := hid_frp (Fr.ex e)
  ⟨e.get h.at_, h.ex.trans e', h.cs.ex e'⟩
theorem Tl.put {M : Nat} {D a : Addr} {B H : Hp} {ls : List V} (h : Tl M D B H ls) (hc : CaseOk M false (hid D H) (.ref a)) : Tl M D B (upd H D (.lst (ls ++ [.ref a]))) (ls ++ [.ref a]) :=
  ⟨upd_same, by rw [hid_upd]; exact h.ex, by rw [hid_upd]; exact h.cs.app (.cons hc .nil)⟩
theorem Tl.new {M : Nat} {D q : Addr} {B H H' : Hp} {o : HO} {ls : List V} (h : Tl M D B H ls) (hq : H q = none) (hv : H' q = some o) : hid D H' q = some o := hid_get hv fun e => by rw [e, h.at_] at hq; cases hq
theorem Tl.bas {M : Nat} {D : Addr} {B B' H : Hp} {ls : List V} (h : Tl M D B H ls) (e : Ex B' B) : Tl M D B' H ls := ⟨h.at_, e.trans h.ex, h.cs⟩
theorem Tl.re {M : Nat} {D : Addr} {B H : Hp} {ls : List V} (h : Tl M D B H ls) : Tl M D (hid D H) H ls := ⟨h.at_, Fr.refl _, h.cs⟩
def sp__law_wrong_kinds : Sp := fun vs H Q _ => ∃ (a b : Int) (p M : Nat), vs = [.int a, .int b, .int (p : Nat), .int (M : Nat)] ∧ (1 ≤ a ∧ a ≤ 490000) ∧ (1 ≤ b ∧ b ≤ 490000) ∧ p + 2 ≤ M ∧ M ≤ 24 ∧ ∀ (q : Addr) (ls : List V) H', Ex H H' → H' q = some (.lst ls) → ls.length ≤ 100 → Cases M false H' ls → Q (.ref q) H'
theorem ok__law_wrong_kinds (T : Tx K mg ad fd tk) : FnOk P w K mg base CX0 1 (ad 11) (fd 11) ["_law_a", "_law_b", "_law_p", "_law_many"] sp__law_wrong_kinds := by
  refine T.d__law_wrong_kinds.F.ok sc__law_wrong_kinds (fun vs H Q E h => ?_) (fun cdv A outer s H vs Q E hr h => ?_)
  · obtain ⟨a, b, p, M, rfl, _⟩ := h
    rfl
  · obtain ⟨a, b, p, M, rfl, ha, hb, hp, hM, k⟩ := h
    refine ⟨_, (pss_cons (ps_set (i := 4) sc__law_wrong_kinds.nd rfl (Or.inr rfl) (pe_lst (pa_cons (pe_tup (pa_cons (pv 0) (pa_cons (pv 2) (pa_cons (pe_op o_add (pv 2) pe_int) pa_nil)))) (pa_cons (pe_tup (pa_cons (pv 1) (pa_cons (pe_op o_add (pv 2) pe_int) (pa_cons (pe_op o_add (pv 2) pe_int) pa_nil)))) pa_nil))))
      (pss_cons (ps_setLc (i := 5) (own := [("_law_k", 14)]) (g := gName 14) rfl sc__law_wrong_kinds.nd rfl rfl (sw_true rfl rfl rfl (by decide +kernel)) (pi_range1 rfl T.b_range (pa_cons (pv 2) pa_nil)) (blkOk_by (own := [("_law_k", 14)]) (N := N__law_wrong_kinds) (sc := defScope s__law_wrong_kinds) (by decide +kernel)) (fun _ _ _ _ _ => pg_name (i := 14) sc__law_wrong_kinds.nd rfl (Or.inl rfl)) (fun _ _ _ _ _ => pts_nil) (fun _ _ _ _ _ => pe_int))
      (pss_cons (ps_setLc (i := 6) (own := [("_law_k", 14)]) (g := gName 14) rfl sc__law_wrong_kinds.nd rfl rfl (sw_true rfl rfl rfl (by decide +kernel)) (pi_range1 rfl T.b_range (pa_cons (pe_op o_sub (pe_op o_sub (pv 3) (pv 2)) pe_int) pa_nil)) (blkOk_by (own := [("_law_k", 14)]) (N := N__law_wrong_kinds) (sc := defScope s__law_wrong_kinds) (by decide +kernel)) (fun _ _ _ _ _ => pg_name (i := 14) sc__law_wrong_kinds.nd rfl (Or.inl rfl)) (fun _ _ _ _ _ => pts_nil) (fun _ _ _ _ _ => pe_int))
      (pss_cons (ps_set (i := 7) sc__law_wrong_kinds.nd rfl (Or.inl rfl) (pe_op o_add (pe_op o_add (pv 5) (pe_lst (pa_cons (pv 0) (pa_cons (pv 1) pa_nil)))) (pv 6)))
      (pss_cons (ps_set (i := 8) sc__law_wrong_kinds.nd rfl (Or.inl rfl) (pe_lst (pa_cons (pe_tup (pa_cons pe_int (pa_cons (pv 2) (pa_cons (pe_op o_add (pv 2) pe_int) pa_nil)))) pa_nil)))
      (pss_cons (ps_set (i := 9) sc__law_wrong_kinds.nd rfl (Or.inl rfl) (pe_op o_add (pe_op o_add (pv 5) (pe_lst (pa_cons pe_int (pa_cons pe_int pa_nil)))) (pv 6)))
      (pss_cons (ps_setLc (i := 10) (own := [("_law_thing", 15)]) (g := gName 15) rfl sc__law_wrong_kinds.nd rfl rfl (sw_true rfl rfl rfl (by decide +kernel)) (pi_list (pe_lst (pa_cons pe_str (pa_cons pe_dnewK (pa_cons (pe_op o_add (pv 0) (pv 1)) (pa_cons (pe_lst (pa_cons (pe_op o_add (pv 0) (pv 1)) (pa_cons (pe_lst (pa_cons pe_int (pa_cons pe_int pa_nil))) (pa_cons (pv 7) pa_nil)))) (pa_cons (pe_tup pa_nil) (pa_cons (pe_tup (pa_cons (pe_op o_add (pv 0) (pv 1)) (pa_cons (pe_lst (pa_cons pe_int (pa_cons pe_int pa_nil))) pa_nil))) pa_nil)))))))) (blkOk_by (own := [("_law_thing", 15)]) (N := N__law_wrong_kinds) (sc := defScope s__law_wrong_kinds) (by decide +kernel)) (fun _ _ _ _ _ => pg_name (i := 15) sc__law_wrong_kinds.nd rfl (Or.inl rfl)) (fun _ _ _ _ _ => pts_nil) (fun _ _ _ _ _ => (pe_tup (pa_cons (pv 4) (pa_cons (pv 15) pa_nil)))))
      (pss_cons (ps_expr (pe_bm PySem.F.plainAttrs_list PySem.F.slot_list_append PySem.F.type_list_append mt_append (pv 10) (pa_cons (pe_tup (pa_cons (pv 4) (pa_cons (pe_tup (pa_cons (pe_op o_add (pv 0) (pv 1)) (pa_cons (pe_lst (pa_cons pe_int (pa_cons pe_int pa_nil))) (pa_cons (pv 7) (pa_cons pe_int pa_nil))))) pa_nil))) pa_nil)))
      (pss_cons (ps_for PassesOwn.never rfl (pi_list (pe_lst (pa_cons pe_non (pa_cons pe_str (pa_cons (pe_lst (pa_cons (pe_op o_add (pv 0) (pv 1)) pa_nil)) pa_nil))))) (pg_name (i := 11) sc__law_wrong_kinds.nd rfl (Or.inl rfl)) (pss_one (ps_expr (pe_bm PySem.F.plainAttrs_list PySem.F.slot_list_append PySem.F.type_list_append mt_append (pv 10) (pa_cons (pe_tup (pa_cons (pv 4) (pa_cons (pe_tup (pa_cons (pv 11) (pa_cons (pe_lst (pa_cons pe_int (pa_cons pe_int pa_nil))) (pa_cons (pv 7) pa_nil)))) pa_nil))) pa_nil)))))
      (pss_cons (ps_for PassesOwn.never rfl (pi_list (pe_lst (pa_cons pe_non (pa_cons pe_int (pa_cons pe_str (pa_cons (pe_tup (pa_cons pe_int (pa_cons pe_int pa_nil))) (pa_cons (pe_lst (pa_cons pe_str (pa_cons pe_str pa_nil))) (pa_cons (pe_lst (pa_cons pe_non (pa_cons pe_int pa_nil))) (pa_cons pe_dnewK pa_nil))))))))) (pg_name (i := 12) sc__law_wrong_kinds.nd rfl (Or.inl rfl)) (pss_one (ps_expr (pe_bm PySem.F.plainAttrs_list PySem.F.slot_list_append PySem.F.type_list_append mt_append (pv 10) (pa_cons (pe_tup (pa_cons (pv 4) (pa_cons (pe_tup (pa_cons (pe_op o_add (pv 0) (pv 1)) (pa_cons (pv 12) (pa_cons (pv 7) pa_nil)))) pa_nil))) pa_nil)))))
      (pss_cons (ps_for PassesOwn.never rfl (pi_list (pe_lst (pa_cons pe_non (pa_cons (pe_op o_add (pv 0) (pv 1)) (pa_cons (pe_op o_mul pe_str (pv 3)) (pa_cons (pe_callTy (c_tuple rfl (K := K)) (by rfl) T.b_tuple (by decide +kernel) (pa_cons (pv 7) pa_nil)) (pa_cons (pe_op o_add (pe_op o_add (pv 5) (pe_lst (pa_cons (pv 0) (pa_cons (pe_lst (pa_cons (pv 1) pa_nil)) pa_nil)))) (pv 6)) (pa_cons (pe_op o_add (pe_op o_add (pv 5) (pe_lst (pa_cons (pv 0) (pa_cons pe_non pa_nil)))) (pv 6)) (pa_cons pe_dnewK pa_nil))))))))) (pg_name (i := 13) sc__law_wrong_kinds.nd rfl (Or.inl rfl)) (pss_one (ps_expr (pe_bm PySem.F.plainAttrs_list PySem.F.slot_list_append PySem.F.type_list_append mt_append (pv 10) (pa_cons (pe_tup (pa_cons (pv 4) (pa_cons (pe_tup (pa_cons (pe_op o_add (pv 0) (pv 1)) (pa_cons (pe_lst (pa_cons pe_int (pa_cons pe_int pa_nil))) (pa_cons (pv 13) pa_nil)))) pa_nil))) pa_nil)))))
      (pss_cons (ps_expr (pe_bm PySem.F.plainAttrs_list PySem.F.slot_list_append PySem.F.type_list_append mt_append (pv 10) (pa_cons (pe_tup (pa_cons (pv 8) (pa_cons (pe_tup (pa_cons pe_bl (pa_cons (pe_lst (pa_cons pe_int pa_nil)) (pa_cons (pv 9) pa_nil)))) pa_nil))) pa_nil)))
      (pss_cons (ps_expr (pe_bm PySem.F.plainAttrs_list PySem.F.slot_list_append PySem.F.type_list_append mt_append (pv 10) (pa_cons (pe_tup (pa_cons (pv 8) (pa_cons (pe_tup (pa_cons pe_int (pa_cons (pe_lst (pa_cons pe_bl pa_nil)) (pa_cons (pv 9) pa_nil)))) pa_nil))) pa_nil)))
      (pss_cons (ps_expr (pe_bm PySem.F.plainAttrs_list PySem.F.slot_list_append PySem.F.type_list_append mt_append (pv 10) (pa_cons (pe_tup (pa_cons (pv 8) (pa_cons (pe_tup (pa_cons pe_int (pa_cons (pe_lst (pa_cons pe_int pa_nil)) (pa_cons (pe_op o_add (pe_op o_add (pv 5) (pe_lst (pa_cons pe_bl (pa_cons pe_int pa_nil)))) (pv 6)) pa_nil)))) pa_nil))) pa_nil)))
      (pss_cons (ps_expr (pe_bm PySem.F.plainAttrs_list PySem.F.slot_list_append PySem.F.type_list_append mt_append (pv 10) (pa_cons (pe_tup (pa_cons (pv 8) (pa_cons (pe_tup (pa_cons pe_int (pa_cons (pe_lst (pa_cons pe_int pa_nil)) (pa_cons (pe_op o_add (pe_op o_add (pv 5) (pe_lst (pa_cons pe_int (pa_cons pe_bl pa_nil)))) (pv 6)) pa_nil)))) pa_nil))) pa_nil)))
      (pss_one (ps_ret (pv 10)))))))))))))))))), ?_⟩
    walk_at "go"
    rename_i z1 H1 n1 e1 v1 z2 H2 n2 e2 v2 P H4 n4 e4 v4
    rw [show ((p : Nat) : Int).toNat = p by omega]
    refine lc_map (rv_range 0 _) (fun _ _ => trivial) (by rw [List.length_range]; omega) (fun _ => .int 0) ?_ ?_
    · intro i H' hi e B h1
      refine ⟨rfl, ?_⟩
      walk_at "go"
      exact h1 _ (Fr.refl _)
    intro q5 H5 n5 e5 v5
    rw [zero_rng] at v5
    obtain ⟨hs, hhs⟩ : ∃ hs, hs = List.replicate p (0 : Int) := ⟨_, rfl⟩
    have hsl : hs.length = p := by rw [hhs, List.length_replicate]
    rw [← hhs] at v5
    walk_at "go"
    obtain ⟨n, hn⟩ : ∃ n : Nat, ((M : Nat) : Int) - (p : Nat) - 2 = (n : Nat) := ⟨M - p - 2, by omega⟩
    rw [hn, show ((n : Nat) : Int).toNat = n by omega]
    refine lc_map (rv_range 0 _) (fun _ _ => trivial) (by rw [List.length_range]; omega) (fun _ => .int 0) ?_ ?_
    · intro i H' hi e B h1
      refine ⟨rfl, ?_⟩
      walk_at "go"
      exact h1 _ (Fr.refl _)
    intro q6 H6 n6 e6 v6
    rw [zero_rng] at v6
    obtain ⟨ts, hts⟩ : ∃ ts, ts = List.replicate n (0 : Int) := ⟨_, rfl⟩
    have htl : ts.length = n := by rw [hts, List.length_replicate]
    rw [← hts] at v6
    walk_at "go"
    rename_i u1 G1 nu1 f1 w1 u2 G2 nu2 f2 w2 R G3 nu3 f3 w3 o1 G4 nu4 f4 w4 O G5 nu5 f5 w5 u6 G6 nu6 f6 w6 u7 G7 nu7 f7 w7 F G8 nu8 f8 w8 u9 G9 nu9 f9 w9 u10 G10 nu10 f10 w10 u11 G11 nu11 f11 w11 u12 G12 nu12 f12 w12 u13 G13 nu13 f13 w13 u14 G14 nu14 f14 w14 L G15 nu15 f15 w15
    have hMn : M = p + 2 + n := by omega
    rw [prS_map hhs hts] at w3 w8
    have d14 : Ex G14 G15 := f15
    have d13 := f14.trans d14
    have d12 := f13.trans d13
    have d11 := f12.trans d12
    have d10 := f11.trans d11
    have d9 := f10.trans d10
    have d8 := f9.trans d9
    have d7 := f8.trans d8
    have d5 := f6.trans (f7.trans d7)
    have d4 := f5.trans d5
    have d3 := f4.trans d4
    have c6 := f1.trans (f2.trans (f3.trans d3))
    have c4 := e5.trans (e6.trans c6)
    have c0 := e1.trans (e2.trans (e4.trans c4))
    have vP := c4.get v4
    have vz1 := (e2.trans (e4.trans c4)).get v1
    have vz2 := (e4.trans c4).get v2
    have vH := (e6.trans c6).get v5
    have vT := c6.get v6
    have vR := d3.get w3
    have vo := d4.get w4
    have vO := d5.get w5
    have vF := d8.get w8
    have smR : ∀ u ∈ prS p a b n, u.natAbs < 10 ^ 7 := prS_small (by omega) (by omega)
    have lenR : (prS p a b n).length ≤ 24 := by rw [prS_len]; omega
    have smF : ∀ u ∈ prS p 1 0 n, u.natAbs < 10 ^ 7 := prS_small (by decide) (by decide)
    have lenF : (prS p 1 0 n).length ≤ 24 := by rw [prS_len]; omega
    have sm01 : ∀ u ∈ [(0 : Int), 1], u.natAbs < 10 ^ 7 := by simp
    have smH : ∀ u ∈ hs, u.natAbs < 10 ^ 7 := small_rep hhs
    have smT : ∀ u ∈ ts, u.natAbs < 10 ^ 7 := small_rep hts
    have habs : (a + b).natAbs < 10 ^ 7 := by omega
    have i4 : ∀ {G : Hp} {i : Int}, i.natAbs < 10 ^ 7 → Sh G (.int i) (.int i) 8 4 := fun h => (sh_i h).up (Nat.le_refl _) (Nat.zero_le _)
    have l4 : ∀ {G : Hp} {q : Addr} {ns : List Int}, G q = some (.lst (ns.map V.int)) → (∀ n ∈ ns, n.natAbs < 10 ^ 7) → ns.length ≤ 100 → Sh G (.ref q) (.list (ns.map PyData.int)) 1003 4 := fun h h1 h2 => (sh_intL h h1 h2).up (Nat.le_refl _) (by decide)
    have things : ∀ x ∈ [V.str "abc", V.ref u9, V.int (a + b), V.ref u11, V.ref u12, V.ref u14], Thi shapeA G15 x := by
      have x10 := d10.get w10
      have x13 := d13.get w13
      refine allE_cons ⟨_, .str _, (Sh.str (by decide +kernel)).up (by decide +kernel) (by decide), rfl⟩ ?_
      refine allE_cons ⟨_, .dk (d9.get w9), (Sh.dk0 (d9.get w9)).up (by decide) (by decide), rfl⟩ ?_
      refine allE_cons ⟨_, .int _, (i4 habs).up (by decide) (by decide), rfl⟩ ?_
      refine allE_cons ⟨_, .lst (d11.get w11) (.cons (.int _) (.cons (rn_intL (ns := [0, 1]) x10) (.cons (rn_intL vR) .nil))), (ShA.lst (k := 3) (d11.get w11) (.cons ((sh_i habs).up (Nat.le_refl _) (by decide)) (.cons ((sh_intL (ns := [0, 1]) x10 sm01 (by decide)).up (Nat.le_refl _) (by decide)) (.cons ((sh_intL vR smR (by omega)).up (Nat.le_refl _) (by decide)) .nil)))).up (by decide) (by decide), rfl⟩ ?_
      refine allE_cons ⟨_, .tup (d12.get w12) .nil, (ShA.tup (k := 3) (d12.get w12) .nil).up (by decide) (by decide), rfl⟩ ?_
      refine allE_cons ⟨_, .tup (d14.get w14) (.cons (.int _) (.cons (rn_intL (ns := [0, 1]) x13) .nil)), (ShA.tup (k := 3) (d14.get w14) (.cons ((sh_i habs).up (Nat.le_refl _) (by decide)) (.cons ((sh_intL (ns := [0, 1]) x13 sm01 (by decide)).up (Nat.le_refl _) (by decide)) .nil))).up (by decide) (by decide), rfl⟩ ?_
      exact allE_nil
    have ttP : TT G15 [(z1, ⟨a, p, p + 1⟩), (z2, ⟨b, p + 1, p + 2⟩)] := TTc vz1 (TTc vz2 TT0)
    have okP : ∀ z ∈ ([(z1, ⟨a, p, p + 1⟩), (z2, ⟨b, p + 1, p + 2⟩)] : List TZ), SpOk M z.2 := okC (by omega) (by omega) (okC (by omega) (by omega) ok0)
    have ttO : TT G15 [(o1, ⟨1, p, p + 1⟩)] := TTc vo TT0
    have okO : ∀ z ∈ ([(o1, ⟨1, p, p + 1⟩)] : List TZ), SpOk M z.2 := okC (by omega) (by omega) ok0
    refine lc_objs0 (ys := [V.str "abc", V.ref u9, V.int (a + b), V.ref u11, V.ref u12, V.ref u14]) (val := id) (rv_list K L _ id) (fun H' e => lst_of (by rw [List.map_id]; exact e.get w15)) (by simp) (fun y => .tup [.ref P, y]) ?_ ?_
    · intro y H' hy e B h1
      refine ⟨rfl, ?_⟩
      walk_at "go"
      exact h1 _ _ (by assumption) (by assumption) (by assumption)
    intro D G16 tsA nD e16 vD oD ndD DnD frD
    have cs0 : Cases M false G16 (tsA.map V.ref) := fun l hl => by
      obtain ⟨t, ht, rfl⟩ := List.mem_map.mp hl
      obtain ⟨o, ho, hv⟩ := oD.mem ht
      obtain ⟨y, hy, rfl⟩ := List.mem_map.mp ho
      obtain ⟨d, h1, h2, h3⟩ := (things y hy).ex e16
      exact CaseOk.thi (zs := [(z1, ⟨a, p, p + 1⟩), (z2, ⟨b, p + 1, p + 2⟩)]) hv (e16.get vP) (ttP.ex e16) (by simp) okP ⟨d, h1, ⟨_, _, h2, by decide, by decide⟩, h3⟩
    walk_at "go"
    -- what stands apart from the told list
    have nDo : ∀ {a : Addr} {o : HO}, G15 a = some o → hid D G16 a = some o := fun h => hid_get (e16.get h) fun e => by rw [e, nD] at h; cases h
    have T0 : Tl M D (hid D G16) G16 (tsA.map V.ref) := ⟨vD, Fr.refl _, fun l hl => by
      obtain ⟨t, ht, rfl⟩ := List.mem_map.mp hl
      obtain ⟨o, ho, hv⟩ := oD.mem ht
      obtain ⟨y, hy, rfl⟩ := List.mem_map.mp ho
      have e15 : Ex G15 (hid D G16) := fun b o _ h => nDo h
      obtain ⟨d, h1, h2, h3⟩ := (things y hy).ex e15
      exact CaseOk.thi (zs := [(z1, ⟨a, p, p + 1⟩), (z2, ⟨b, p + 1, p + 2⟩)]) (hid_get hv fun e => DnD (e ▸ ht)) (nDo vP) (ttP.ex e15) (by simp) okP ⟨d, h1, ⟨_, _, h2, by decide, by decide⟩, h3⟩⟩
    have lD : (tsA.map V.ref).length = 6 := by rw [List.length_map, oD.len]; rfl
    have e15 : Ex G15 (hid D G16) := fun b o _ h => nDo h
    generalize hB : hid D G16 = B at T0 e15 nDo
    have bP := nDo vP
    have bR := nDo vR
    have bO := nDo vO
    have bF := nDo vF
    have bH := nDo vH
    have bT := nDo vT
    have ttPB := ttP.ex e15
    have ttOB := ttO.ex e15
    clear nDo cs0
    have eqD : ∃ ls, ls = tsA.map V.ref := ⟨_, rfl⟩
    rename_i y1 A1 m1 g1 x1 y2 A2 m2 g2 x2 y3 A3 m3 g3 x3
    have t1 := T0.go g1
    have t2 := t1.go g2
    have t3 := t2.go g3
    have h1A := (T0.new m1 x1)
    have h2A := (t1.new m2 x2)
    have h3A := (t2.new m3 x3)
    have E13 : Ex (hid D A1) (hid D A3) := hid_frp (Fr.ex (g2.trans g3))
    have E23 : Ex (hid D A2) (hid D A3) := hid_frp (Fr.ex g3)
    refine st_app t3.at_ (by rw [lD]; omega) ?_
    have t4 := t3.put (a := y3) (CaseOk.thi (zs := [(z1, ⟨a, p, p + 1⟩), (z2, ⟨b, p + 1, p + 2⟩)]) h3A (t3.ex.get bP) (ttPB.ex t3.ex) (by simp) okP ⟨_, .tup (E23.get h2A) (.cons (.int _) (.cons (rn_intL (ns := [0, 1]) (E13.get h1A)) (.cons (rn_intL (t3.ex.get bR)) (.cons (.int _) .nil)))), ⟨_, _, ShA.tup (k := 4) (E23.get h2A) (.cons (i4 habs) (.cons (l4 (ns := [0, 1]) (E13.get h1A) sm01 (by decide)) (.cons (l4 (t3.ex.get bR) smR (by omega)) (.cons (i4 (by decide)) .nil)))), by decide, by decide⟩, rfl⟩)
    have l4' : (tsA.map V.ref ++ [V.ref y3]).length = 7 := by rw [List.length_append, lD]; rfl
    generalize upd A3 D (.lst (tsA.map V.ref ++ [V.ref y3])) = A4 at t4
    generalize tsA.map V.ref ++ [V.ref y3] = ls4 at t4 l4'
    walk_at "go"
    rename_i a1 C1 ma ga xa L1 C2 mb gb xb
    have t5 := (t4.go ga).go gb
    have hb_L1 := (t4.go ga).new mb xb
    have th_L1 : ∀ x ∈ [V.non, V.str "2", V.ref a1], Thi isI (hid D C2) x := by
      have xa' : hid D C2 a1 = _ := (hid_frp (p := D) (Fr.ex gb)).get (t4.new ma xa)
      refine allE_cons ⟨_, .non, Sh.non.up (by decide) (by decide), rfl⟩ ?_
      refine allE_cons ⟨_, .str _, (Sh.str (by decide +kernel)).up (by decide +kernel) (by decide), rfl⟩ ?_
      exact allE_cons ⟨_, rn_intL (ns := [a + b]) xa', (l4 (ns := [a + b]) xa' (small1 habs) (by simp)).up (by decide) (by decide), rfl⟩ allE_nil
    refine for_runs (runs_list K L1 [V.non, V.str "2", V.ref a1]) (fun i σ H => ∃ ls, Tl M D B H ls ∧ ls.length = 7 + i ∧ Ex (hid D C2) (hid D H) ∧ ∃ y, σ = [some (.int a), some (.int b), some (.int (p : Nat)), some (.int (M : Nat)), some (.ref P), some (.ref q5), some (.ref q6), some (.ref R), some (.ref O), some (.ref F), some (.ref D), y, none, none, none, none]) ⟨_, t5, l4', Fr.refl _, _, rfl⟩ ?_ ?_ ?_
    · rintro i σ H _ ⟨ls, T, hl, eC, _⟩
      exact lst_of ((hid_ex D H).get (eC.get hb_L1))
    · rintro i x σ H0 H hi ⟨ls, T, hl, eC, y, rfl⟩ ⟨rfl, hx⟩
      obtain ⟨d, r1, r2, r3⟩ := (th_L1 x (List.mem_of_getElem? hx)).ex eC
      have hTD := T.at_
      have hi' : i < 10 := Nat.lt_of_lt_of_le hi (by simp)
      walk_at "go"
      rename_i b1 B1 mb1 gb1 xb1 b2 B2 mb2 gb2 xb2 b3 B3 mb3 gb3 xb3
      have s1 := T.go gb1
      have s2 := s1.go gb2
      have s3 := s2.go gb3
      have hb1 := T.new mb1 xb1
      have hb2 := s1.new mb2 xb2
      have hb3 := s2.new mb3 xb3
      have F13 : Ex (hid D B1) (hid D B3) := hid_frp (Fr.ex (gb2.trans gb3))
      have F23 : Ex (hid D B2) (hid D B3) := hid_frp (Fr.ex gb3)
      have F03 : Ex (hid D H) (hid D B3) := hid_frp (Fr.ex (gb1.trans (gb2.trans gb3)))
      refine st_app s3.at_ (by omega) ?_
      have s4 := s3.put (a := b3) (CaseOk.thi (zs := [(z1, ⟨a, p, p + 1⟩), (z2, ⟨b, p + 1, p + 2⟩)]) hb3 (s3.ex.get bP) (ttPB.ex s3.ex) (by simp) okP (thi3 (F23.get hb2) (r1.ex F03) (rn_intL (ns := [0, 1]) (F13.get hb1)) (rn_intL (s3.ex.get bR)) (r2.ex F03) (l4 (ns := [0, 1]) (F13.get hb1) sm01 (by decide)) (l4 (s3.ex.get bR) smR (by omega)) (by decide) (shape_1 r3)))
      exact ⟨_, s4, by rw [List.length_append, hl]; rfl, by rw [hid_upd]; exact eC.trans F03, _, rfl⟩
    · rintro σ H ⟨ls11, t11, hl11, eC, y, rfl⟩
      clear eC
      walk_at "go"
      rename_i c1 K1 mc1 gc1 xc1 c2 K2 mc2 gc2 xc2 c3 K3 mc3 gc3 xc3 c4 K4 mc4 gc4 xc4 L2a K5 mc5 gc5 xc5
      have t11a := t11.go gc1
      have t11b := t11a.go gc2
      have t11c := t11b.go gc3
      have t11d := t11c.go gc4
      have t11e := t11d.go gc5
      have hb_L2a := t11d.new mc5 xc5
      have th_L2a : ∀ x ∈ [V.non, V.int 7, V.str "ab", V.ref c1, V.ref c2, V.ref c3, V.ref c4], Thi shI (hid D K5) x := by
        have x1 : hid D K5 c1 = _ := (hid_frp (p := D) (Fr.ex (gc2.trans (gc3.trans (gc4.trans gc5))))).get (t11.new mc1 xc1)
        have x2 : hid D K5 c2 = _ := (hid_frp (p := D) (Fr.ex (gc3.trans (gc4.trans gc5)))).get (t11a.new mc2 xc2)
        have x3 : hid D K5 c3 = _ := (hid_frp (p := D) (Fr.ex (gc4.trans gc5))).get (t11b.new mc3 xc3)
        have x4 : hid D K5 c4 = _ := (hid_frp (p := D) (Fr.ex gc5)).get (t11c.new mc4 xc4)
        refine allE_cons ⟨_, .non, Sh.non.up (by decide) (by decide), rfl⟩ ?_
        refine allE_cons ⟨_, .int _, (i4 (by decide)).up (by decide) (by decide), rfl⟩ ?_
        refine allE_cons ⟨_, .str _, (Sh.str (by decide +kernel)).up (by decide +kernel) (by decide), rfl⟩ ?_
        refine allE_cons ⟨_, .tup x1 (rnA_ints [0, 1]), (ShA.tup (k := 3) x1 (shA_ints (ns := [0, 1]) sm01)).up (by decide) (by decide), rfl⟩ ?_
        refine allE_cons ⟨_, .lst x2 (.cons (.str _) (.cons (.str _) .nil)), (ShA.lst (k := 3) x2 (.cons ((Sh.str (by decide +kernel)).up (n' := 100) (by decide +kernel) (by decide)) (.cons ((Sh.str (by decide +kernel)).up (n' := 100) (by decide +kernel) (by decide)) .nil))).up (by decide) (by decide), rfl⟩ ?_
        refine allE_cons ⟨_, .lst x3 (.cons .non (.cons (.int _) .nil)), (ShA.lst (k := 3) x3 (.cons (Sh.non.up (n' := 100) (by decide) (by decide)) (.cons ((sh_i (by decide)).up (Nat.le_refl _) (by decide)) .nil))).up (by decide) (by decide), rfl⟩ ?_
        exact allE_cons ⟨_, .dk x4, (Sh.dk0 x4).up (by decide) (by decide), rfl⟩ allE_nil
      refine for_runs (runs_list K L2a [V.non, V.int 7, V.str "ab", V.ref c1, V.ref c2, V.ref c3, V.ref c4]) (fun i σ H => ∃ ls, Tl M D B H ls ∧ ls.length = (7 + 3) + i ∧ Ex (hid D K5) (hid D H) ∧ ∃ y11 y, σ = [some (.int a), some (.int b), some (.int (p : Nat)), some (.int (M : Nat)), some (.ref P), some (.ref q5), some (.ref q6), some (.ref R), some (.ref O), some (.ref F), some (.ref D), y11, y, none, none, none]) ⟨_, t11e, hl11, Fr.refl _, _, _, rfl⟩ ?_ ?_ ?_
      · rintro i σ H _ ⟨ls, T, hl, eC, _⟩
        exact lst_of ((hid_ex D H).get (eC.get hb_L2a))
      · rintro i x σ H0 H hi ⟨ls, T, hl, eC, y11, y, rfl⟩ ⟨rfl, hx⟩
        obtain ⟨d, r1, r2, r3⟩ := (th_L2a x (List.mem_of_getElem? hx)).ex eC
        have hTD := T.at_
        have hi' : i < 10 := Nat.lt_of_lt_of_le hi (by simp)
        walk_at "go"
        rename_i b2 B2 mb2 gb2 xb2 b3 B3 mb3 gb3 xb3
        have s2 := T.go gb2
        have s3 := s2.go gb3
        have hb2 := T.new mb2 xb2
        have hb3 := s2.new mb3 xb3
        have F23 : Ex (hid D B2) (hid D B3) := hid_frp (Fr.ex gb3)
        have F03 : Ex (hid D H) (hid D B3) := hid_frp (Fr.ex (gb2.trans gb3))
        refine st_app s3.at_ (by omega) ?_
        have s4 := s3.put (a := b3) (CaseOk.thi (zs := [(z1, ⟨a, p, p + 1⟩), (z2, ⟨b, p + 1, p + 2⟩)]) hb3 (s3.ex.get bP) (ttPB.ex s3.ex) (by simp) okP (thi3 (F23.get hb2) (.int _) (r1.ex F03) (rn_intL (s3.ex.get bR)) (i4 habs) (r2.ex F03) (l4 (s3.ex.get bR) smR (by omega)) (by decide) (shape_2 r3)))
        exact ⟨_, s4, by rw [List.length_append, hl]; rfl, by rw [hid_upd]; exact eC.trans F03, _, _, rfl⟩
      · rintro σ H ⟨ls12, t12, hl12, eC, y11, y, rfl⟩
        clear eC
        have pR := (hid_ex D H).get (t12.ex.get bR)
        have pH := (hid_ex D H).get (t12.ex.get bH)
        have pT := (hid_ex D H).get (t12.ex.get bT)
        walk_at "go"
        refine st_mulS (by omega) (by omega) (by rw [show ("a" : Str).length = 1 from rfl]; omega) ?_
        walk_at "go"
        rename_i h1 Y1 mh1 gh1 xh1 h2 Y2 mh2 gh2 xh2 h3 Y3 mh3 gh3 xh3 h4 Y4 mh4 gh4 xh4 h5 Y5 mh5 gh5 xh5 h6 Y6 mh6 gh6 xh6 h7 Y7 mh7 gh7 xh7 h8 Y8 mh8 gh8 xh8 h9 Y9 mh9 gh9 xh9 L3 Y10 mh10 gh10 xh10
        have th1 := t12.go gh1
        have yh1 := t12.new mh1 xh1
        have th2 := th1.go gh2
        have yh2 := th1.new mh2 xh2
        have th3 := th2.go gh3
        have yh3 := th2.new mh3 xh3
        have th4 := th3.go gh4
        have yh4 := th3.new mh4 xh4
        have th5 := th4.go gh5
        have yh5 := th4.new mh5 xh5
        have th6 := th5.go gh6
        have yh6 := th5.new mh6 xh6
        have th7 := th6.go gh7
        have yh7 := th6.new mh7 xh7
        have th8 := th7.go gh8
        have yh8 := th7.new mh8 xh8
        have th9 := th8.go gh9
        have yh9 := th8.new mh9 xh9
        have th10 := th9.go gh10
        have yh10 := th9.new mh10 xh10
        have zh1 := (hid_frp (p := D) (Fr.ex (gh2.trans (gh3.trans (gh4.trans (gh5.trans (gh6.trans (gh7.trans (gh8.trans (gh9.trans gh10)))))))))).get yh1
        have zh2 := (hid_frp (p := D) (Fr.ex (gh3.trans (gh4.trans (gh5.trans (gh6.trans (gh7.trans (gh8.trans (gh9.trans gh10))))))))).get yh2
        have zh5 := (hid_frp (p := D) (Fr.ex (gh6.trans (gh7.trans (gh8.trans (gh9.trans gh10)))))).get yh5
        have zh8 := (hid_frp (p := D) (Fr.ex (gh9.trans gh10))).get yh8
        have zh9 := (hid_frp (p := D) (Fr.ex gh10)).get yh9
        have smS : ∀ c ∈ (Txt.mul "a" (M : Nat)).cps.toList, c < 16 ^ 8 := fun c hc => by
          have h1 := mul_mem hc
          have : ∀ c ∈ ("a" : Str).cps.toList, c < 16 ^ 8 := by decide +kernel
          exact this c h1
        have lenS : (Txt.mul "a" (M : Nat)).length ≤ 24 := by
          have := mulS_len "a" (M : Nat)
          rw [show ("a" : Str).length = 1 from rfl] at this
          omega
        have th_L3 : ∀ x ∈ [V.non, V.int (a + b), V.str (Txt.mul "a" (M : Nat)), V.ref h1, V.ref h5, V.ref h8, V.ref h9], Thi shI (hid D Y10) x := by
          refine allE_cons ⟨_, .non, Sh.non.up (by decide) (by decide), rfl⟩ ?_
          refine allE_cons ⟨_, .int _, (i4 habs).up (by decide) (by decide), rfl⟩ ?_
          refine allE_cons ⟨_, .str _, (Sh.str smS).up (by omega) (by decide), rfl⟩ ?_
          refine allE_cons ⟨_, .tup zh1 (rnA_ints _), (ShA.tup (k := 3) zh1 (shA_ints smR)).up (by omega) (by decide), rfl⟩ ?_
          refine allE_cons ⟨_, .lst zh5 (rnA_app (rnA_app (rnA_ints hs) (.cons (.int _) (.cons (rn_intL (ns := [b]) zh2) .nil))) (rnA_ints ts)), (ShA.lst (k := 3) zh5 (shA_app (shA_app (shA_ints smH) (.cons ((sh_i (by omega)).up (Nat.le_refl _) (by decide)) (.cons ((sh_intL (ns := [b]) zh2 (small1 (by omega)) (by simp)).up (Nat.le_refl _) (by decide)) .nil))) (shA_ints smT))).up (by omega) (by decide), by simp [shI, isI]⟩ ?_
          refine allE_cons ⟨_, .lst zh8 (rnA_app (rnA_app (rnA_ints hs) (.cons (.int _) (.cons .non .nil))) (rnA_ints ts)), (ShA.lst (k := 3) zh8 (shA_app (shA_app (shA_ints smH) (.cons ((sh_i (by omega)).up (Nat.le_refl _) (by decide)) (.cons (Sh.non.up (n' := 8) (by decide) (by decide)) .nil))) (shA_ints smT))).up (by omega) (by decide), by simp [shI, isI]⟩ ?_
          exact allE_cons ⟨_, .dk zh9, (Sh.dk0 zh9).up (by decide) (by decide), rfl⟩ allE_nil
        have hb_L3 := yh10
        refine for_runs (runs_list K L3 [V.non, V.int (a + b), V.str (Txt.mul "a" (M : Nat)), V.ref h1, V.ref h5, V.ref h8, V.ref h9]) (fun i σ H => ∃ ls, Tl M D B H ls ∧ ls.length = ls12.length + i ∧ Ex (hid D Y10) (hid D H) ∧ ∃ y11 y12 y, σ = [some (.int a), some (.int b), some (.int (p : Nat)), some (.int (M : Nat)), some (.ref P), some (.ref q5), some (.ref q6), some (.ref R), some (.ref O), some (.ref F), some (.ref D), y11, y12, y, none, none]) ⟨_, th10, rfl, Fr.refl _, _, _, _, rfl⟩ ?_ ?_ ?_
        · rintro i σ H _ ⟨ls, T, hl, eC, _⟩
          exact lst_of ((hid_ex D H).get (eC.get hb_L3))
        · rintro i x σ H0 H hi ⟨ls, T, hl, eC, y11, y12, y, rfl⟩ ⟨rfl, hx⟩
          obtain ⟨d, r1, r2, r3⟩ := (th_L3 x (List.mem_of_getElem? hx)).ex eC
          have hTD := T.at_
          have hi' : i < 10 := Nat.lt_of_lt_of_le hi (by simp)
          walk_at "go"
          rename_i b1 B1 mb1 gb1 xb1 b2 B2 mb2 gb2 xb2 b3 B3 mb3 gb3 xb3
          have s1 := T.go gb1
          have s2 := s1.go gb2
          have s3 := s2.go gb3
          have hb1 := T.new mb1 xb1
          have hb2 := s1.new mb2 xb2
          have hb3 := s2.new mb3 xb3
          have F13 : Ex (hid D B1) (hid D B3) := hid_frp (Fr.ex (gb2.trans gb3))
          have F23 : Ex (hid D B2) (hid D B3) := hid_frp (Fr.ex gb3)
          have F03 : Ex (hid D H) (hid D B3) := hid_frp (Fr.ex (gb1.trans (gb2.trans gb3)))
          refine st_app s3.at_ (by simp only [List.length_cons, List.length_nil] at hl12; omega) ?_
          have s4 := s3.put (a := b3) (CaseOk.thi (zs := [(z1, ⟨a, p, p + 1⟩), (z2, ⟨b, p + 1, p + 2⟩)]) hb3 (s3.ex.get bP) (ttPB.ex s3.ex) (by simp) okP (thi3 (F23.get hb2) (.int _) (rn_intL (ns := [0, 1]) (F13.get hb1)) (r1.ex F03) (i4 habs) (l4 (ns := [0, 1]) (F13.get hb1) sm01 (by decide)) (r2.ex F03) (by decide) (shape_3 r3)))
          exact ⟨_, s4, by rw [List.length_append, hl]; rfl, by rw [hid_upd]; exact eC.trans F03, _, _, _, rfl⟩
        · rintro σ H ⟨ls13, t13, hl13, eC, y11, y12, y, rfl⟩
          clear eC
          have hlen13 : ls13.length ≤ 30 := by simp only [List.length_cons, List.length_nil] at hl12 hl13; omega
          have pF := (hid_ex D H).get (t13.ex.get bF)
          have pH := (hid_ex D H).get (t13.ex.get bH)
          have pT := (hid_ex D H).get (t13.ex.get bT)
          have hTD := t13.at_
          walk_at "go"
          rename_i i1 W1_1 mw1_1 gw1_1 xw1_1 i2 W1_2 mw1_2 gw1_2 xw1_2 i3 W1_3 mw1_3 gw1_3 xw1_3
          have tw1_1 := t13.go gw1_1
          have yw1_1 := t13.new mw1_1 xw1_1
          have tw1_2 := tw1_1.go gw1_2
          have yw1_2 := tw1_1.new mw1_2 xw1_2
          have tw1_3 := tw1_2.go gw1_3
          have yw1_3 := tw1_2.new mw1_3 xw1_3
          have zw1_1 := (hid_frp (p := D) (Fr.ex (gw1_2.trans gw1_3))).get yw1_1
          have zw1_2 := (hid_frp (p := D) (Fr.ex gw1_3)).get yw1_2
          refine st_app tw1_3.at_ (by omega) ?_
          have tx1 := tw1_3.put (a := i3) (CaseOk.thi (zs := [(o1, ⟨1, p, p + 1⟩)]) yw1_3 (tw1_3.ex.get bO) (ttOB.ex tw1_3.ex) (by simp) okO (thi3 zw1_2 (.bl _) (rn_intL (ns := [0]) zw1_1) (rn_intL (tw1_3.ex.get bF)) ((Sh.bl _).up (Nat.le_refl _) (by decide)) (l4 (ns := [0]) zw1_1 (small1 (by decide)) (by decide)) (l4 (tw1_3.ex.get bF) smF (by omega)) (by decide) (shape_1 rfl)))
          generalize upd W1_3 D (.lst (ls13 ++ [V.ref i3])) = X1 at tx1 ⊢
          obtain ⟨lx1, hlx1⟩ : ∃ l, l = ls13 ++ [V.ref i3] := ⟨_, rfl⟩
          have llx1 : lx1.length ≤ 31 := by rw [hlx1, List.length_append, List.length_singleton]; omega
          rw [← hlx1] at tx1
          have hTx1 := tx1.at_
          have pF := (hid_ex D X1).get (tx1.ex.get bF)
          have pH := (hid_ex D X1).get (tx1.ex.get bH)
          have pT := (hid_ex D X1).get (tx1.ex.get bT)
          walk_at "go"
          rename_i j1 W2_1 mw2_1 gw2_1 xw2_1 j2 W2_2 mw2_2 gw2_2 xw2_2 j3 W2_3 mw2_3 gw2_3 xw2_3
          have tw2_1 := tx1.go gw2_1
          have yw2_1 := tx1.new mw2_1 xw2_1
          have tw2_2 := tw2_1.go gw2_2
          have yw2_2 := tw2_1.new mw2_2 xw2_2
          have tw2_3 := tw2_2.go gw2_3
          have yw2_3 := tw2_2.new mw2_3 xw2_3
          have zw2_1 := (hid_frp (p := D) (Fr.ex (gw2_2.trans gw2_3))).get yw2_1
          have zw2_2 := (hid_frp (p := D) (Fr.ex gw2_3)).get yw2_2
          refine st_app tw2_3.at_ (by omega) ?_
          have tx2 := tw2_3.put (a := j3) (CaseOk.thi (zs := [(o1, ⟨1, p, p + 1⟩)]) yw2_3 (tw2_3.ex.get bO) (ttOB.ex tw2_3.ex) (by simp) okO (thi3 zw2_2 (.int _) (.lst zw2_1 (.cons (.bl _) .nil)) (rn_intL (tw2_3.ex.get bF)) (i4 (by decide)) ((ShA.lst (k := 3) zw2_1 (.cons ((Sh.bl _).up (Nat.le_refl _) (by decide)) .nil)).up (Nat.le_refl _) (by decide)) (l4 (tw2_3.ex.get bF) smF (by omega)) (by decide) (shape_2 rfl)))
          generalize upd W2_3 D (.lst (lx1 ++ [V.ref j3])) = X2 at tx2 ⊢
          obtain ⟨lx2, hlx2⟩ : ∃ l, l = lx1 ++ [V.ref j3] := ⟨_, rfl⟩
          have llx2 : lx2.length ≤ 32 := by rw [hlx2, List.length_append, List.length_singleton]; omega
          rw [← hlx2] at tx2
          have hTx2 := tx2.at_
          have pF := (hid_ex D X2).get (tx2.ex.get bF)
          have pH := (hid_ex D X2).get (tx2.ex.get bH)
          have pT := (hid_ex D X2).get (tx2.ex.get bT)
          walk_at "go"
          rename_i k1 W3_1 mw3_1 gw3_1 xw3_1 k2 W3_2 mw3_2 gw3_2 xw3_2 k3 W3_3 mw3_3 gw3_3 xw3_3 k4 W3_4 mw3_4 gw3_4 xw3_4 k5 W3_5 mw3_5 gw3_5 xw3_5 k6 W3_6 mw3_6 gw3_6 xw3_6
          have tw3_1 := tx2.go gw3_1
          have yw3_1 := tx2.new mw3_1 xw3_1
          have tw3_2 := tw3_1.go gw3_2
          have yw3_2 := tw3_1.new mw3_2 xw3_2
          have tw3_3 := tw3_2.go gw3_3
          have yw3_3 := tw3_2.new mw3_3 xw3_3
          have tw3_4 := tw3_3.go gw3_4
          have yw3_4 := tw3_3.new mw3_4 xw3_4
          have tw3_5 := tw3_4.go gw3_5
          have yw3_5 := tw3_4.new mw3_5 xw3_5
          have tw3_6 := tw3_5.go gw3_6
          have yw3_6 := tw3_5.new mw3_6 xw3_6
          have zw3_1 := (hid_frp (p := D) (Fr.ex (gw3_2.trans (gw3_3.trans (gw3_4.trans (gw3_5.trans gw3_6)))))).get yw3_1
          have zw3_2 := (hid_frp (p := D) (Fr.ex (gw3_3.trans (gw3_4.trans (gw3_5.trans gw3_6))))).get yw3_2
          have zw3_3 := (hid_frp (p := D) (Fr.ex (gw3_4.trans (gw3_5.trans gw3_6)))).get yw3_3
          have zw3_4 := (hid_frp (p := D) (Fr.ex (gw3_5.trans gw3_6))).get yw3_4
          have zw3_5 := (hid_frp (p := D) (Fr.ex gw3_6)).get yw3_5
          refine st_app tw3_6.at_ (by omega) ?_
          have tx3 := tw3_6.put (a := k6) (CaseOk.thi (zs := [(o1, ⟨1, p, p + 1⟩)]) yw3_6 (tw3_6.ex.get bO) (ttOB.ex tw3_6.ex) (by simp) okO (thi3 zw3_5 (.int _) (rn_intL (ns := [0]) zw3_1) (.lst zw3_4 (rnA_app (rnA_app (rnA_ints hs) (.cons (.bl _) (.cons (.int _) .nil))) (rnA_ints ts))) (i4 (by decide)) (l4 (ns := [0]) zw3_1 (small1 (by decide)) (by decide)) ((ShA.lst (k := 3) zw3_4 (shA_app (shA_app (shA_ints smH) (.cons ((Sh.bl _).up (n' := 8) (by decide) (by decide)) (.cons ((sh_i (by decide)).up (Nat.le_refl _) (by decide)) .nil))) (shA_ints smT))).up (n' := 5000) (by omega) (by decide)) (by decide) (shape_3 (by simp [shI, isI]))))
          generalize upd W3_6 D (.lst (lx2 ++ [V.ref k6])) = X3 at tx3 ⊢
          obtain ⟨lx3, hlx3⟩ : ∃ l, l = lx2 ++ [V.ref k6] := ⟨_, rfl⟩
          have llx3 : lx3.length ≤ 33 := by rw [hlx3, List.length_append, List.length_singleton]; omega
          rw [← hlx3] at tx3
          have hTx3 := tx3.at_
          have pF := (hid_ex D X3).get (tx3.ex.get bF)
          have pH := (hid_ex D X3).get (tx3.ex.get bH)
          have pT := (hid_ex D X3).get (tx3.ex.get bT)
          walk_at "go"
          rename_i kk1 W4_1 mw4_1 gw4_1 xw4_1 kk2 W4_2 mw4_2 gw4_2 xw4_2 kk3 W4_3 mw4_3 gw4_3 xw4_3 kk4 W4_4 mw4_4 gw4_4 xw4_4 kk5 W4_5 mw4_5 gw4_5 xw4_5 kk6 W4_6 mw4_6 gw4_6 xw4_6
          have tw4_1 := tx3.go gw4_1
          have yw4_1 := tx3.new mw4_1 xw4_1
          have tw4_2 := tw4_1.go gw4_2
          have yw4_2 := tw4_1.new mw4_2 xw4_2
          have tw4_3 := tw4_2.go gw4_3
          have yw4_3 := tw4_2.new mw4_3 xw4_3
          have tw4_4 := tw4_3.go gw4_4
          have yw4_4 := tw4_3.new mw4_4 xw4_4
          have tw4_5 := tw4_4.go gw4_5
          have yw4_5 := tw4_4.new mw4_5 xw4_5
          have tw4_6 := tw4_5.go gw4_6
          have yw4_6 := tw4_5.new mw4_6 xw4_6
          have zw4_1 := (hid_frp (p := D) (Fr.ex (gw4_2.trans (gw4_3.trans (gw4_4.trans (gw4_5.trans gw4_6)))))).get yw4_1
          have zw4_2 := (hid_frp (p := D) (Fr.ex (gw4_3.trans (gw4_4.trans (gw4_5.trans gw4_6))))).get yw4_2
          have zw4_3 := (hid_frp (p := D) (Fr.ex (gw4_4.trans (gw4_5.trans gw4_6)))).get yw4_3
          have zw4_4 := (hid_frp (p := D) (Fr.ex (gw4_5.trans gw4_6))).get yw4_4
          have zw4_5 := (hid_frp (p := D) (Fr.ex gw4_6)).get yw4_5
          refine st_app tw4_6.at_ (by omega) ?_
          have tx4 := tw4_6.put (a := kk6) (CaseOk.thi (zs := [(o1, ⟨1, p, p + 1⟩)]) yw4_6 (tw4_6.ex.get bO) (ttOB.ex tw4_6.ex) (by simp) okO (thi3 zw4_5 (.int _) (rn_intL (ns := [0]) zw4_1) (.lst zw4_4 (rnA_app (rnA_app (rnA_ints hs) (.cons (.int _) (.cons (.bl _) .nil))) (rnA_ints ts))) (i4 (by decide)) (l4 (ns := [0]) zw4_1 (small1 (by decide)) (by decide)) ((ShA.lst (k := 3) zw4_4 (shA_app (shA_app (shA_ints smH) (.cons ((sh_i (by decide)).up (Nat.le_refl _) (by decide)) (.cons ((Sh.bl _).up (n' := 8) (by decide) (by decide)) .nil))) (shA_ints smT))).up (n' := 5000) (by omega) (by decide)) (by decide) (shape_3 (by simp [shI, isI]))))
          walk_at "go"
          exact k D _ _ (c0.trans (e15.trans (tx4.ex.trans (hid_ex D _)))) tx4.at_ (by rw [List.length_append, List.length_singleton]; omega) (tx4.cs.ex (hid_ex D _))
def sp__law_wrong_choices : Sp := fun vs H Q _ => ∃ (a b : Int) (p M : Nat), vs = [.int a, .int b, .int (p : Nat), .int (M : Nat)] ∧ (1 ≤ a ∧ a ≤ 490000) ∧ (1 ≤ b ∧ b ≤ 490000) ∧ p + 2 ≤ M ∧ M ≤ 24 ∧ ∀ (q : Addr) (ls : List V) H', Ex H H' → H' q = some (.lst ls) → ls.length ≤ 100 → Cases M false H' ls → Q (.ref q) H'
theorem ok__law_wrong_choices (T : Tx K mg ad fd tk) : FnOk P w K mg base CX0 1 (ad 12) (fd 12) ["_law_a", "_law_b", "_law_p", "_law_many"] sp__law_wrong_choices := by
  refine T.d__law_wrong_choices.F.ok sc__law_wrong_choices (fun vs H Q E h => ?_) (fun cdv A outer s H vs Q E hr h => ?_)
  · obtain ⟨a, b, p, M, rfl, _⟩ := h
    rfl
  · obtain ⟨a, b, p, M, rfl, ha, hb, hp, hM, k⟩ := h
    refine ⟨_, (pss_cons (ps_set (i := 4) sc__law_wrong_choices.nd rfl (Or.inl rfl) (pe_lst (pa_cons (pe_tup (pa_cons (pv 0) (pa_cons (pv 2) (pa_cons (pe_op o_add (pv 2) pe_int) pa_nil)))) (pa_cons (pe_tup (pa_cons (pv 1) (pa_cons (pe_op o_add (pv 2) pe_int) (pa_cons (pe_op o_add (pv 2) pe_int) pa_nil)))) pa_nil))))
      (pss_cons (ps_setLc (i := 5) (own := [("_law_k", 11)]) (g := gName 11) rfl sc__law_wrong_choices.nd rfl rfl (sw_true rfl rfl rfl (by decide +kernel)) (pi_range1 rfl T.b_range (pa_cons (pv 2) pa_nil)) (blkOk_by (own := [("_law_k", 11)]) (N := N__law_wrong_choices) (sc := defScope s__law_wrong_choices) (by decide +kernel)) (fun _ _ _ _ _ => pg_name (i := 11) sc__law_wrong_choices.nd rfl (Or.inl rfl)) (fun _ _ _ _ _ => pts_nil) (fun _ _ _ _ _ => pe_int))
      (pss_cons (ps_setLc (i := 6) (own := [("_law_k", 11)]) (g := gName 11) rfl sc__law_wrong_choices.nd rfl rfl (sw_true rfl rfl rfl (by decide +kernel)) (pi_range1 rfl T.b_range (pa_cons (pe_op o_sub (pe_op o_sub (pv 3) (pv 2)) pe_int) pa_nil)) (blkOk_by (own := [("_law_k", 11)]) (N := N__law_wrong_choices) (sc := defScope s__law_wrong_choices) (by decide +kernel)) (fun _ _ _ _ _ => pg_name (i := 11) sc__law_wrong_choices.nd rfl (Or.inl rfl)) (fun _ _ _ _ _ => pts_nil) (fun _ _ _ _ _ => pe_int))
      (pss_cons (ps_set (i := 7) sc__law_wrong_choices.nd rfl (Or.inl rfl) (pe_op o_add (pe_op o_add (pv 5) (pe_lst (pa_cons (pv 0) (pa_cons (pv 1) pa_nil)))) (pv 6)))
      (pss_cons (ps_set (i := 8) sc__law_wrong_choices.nd rfl (Or.inl rfl) (pe_lst (pa_cons (pe_tup (pa_cons pe_int (pa_cons (pv 2) (pa_cons (pe_op o_add (pv 2) pe_int) pa_nil)))) pa_nil)))
      (pss_cons (ps_set (i := 9) sc__law_wrong_choices.nd rfl (Or.inl rfl) (pe_lst (pa_cons (pe_tup (pa_cons (pv 0) (pa_cons (pv 2) (pa_cons (pe_op o_add (pv 2) pe_int) pa_nil)))) pa_nil)))
      (pss_cons (ps_set (i := 10) sc__law_wrong_choices.nd rfl (Or.inl rfl) (pe_op o_add (pe_op o_add (pv 5) (pe_lst (pa_cons (pv 0) (pa_cons pe_int pa_nil)))) (pv 6)))
      (pss_one (ps_ret (pe_lst (pa_cons (pe_tup (pa_cons (pv 4) (pa_cons (pe_tup (pa_cons (pe_op o_add (pv 0) (pv 1)) (pa_cons (pe_lst (pa_cons pe_int (pa_cons pe_int pa_nil))) (pa_cons (pv 7) pa_nil)))) pa_nil))) (pa_cons (pe_tup (pa_cons (pv 9) (pa_cons (pe_tup (pa_cons (pv 0) (pa_cons (pe_lst (pa_cons (pe_un un_neg pe_int) pa_nil)) (pa_cons (pv 10) pa_nil)))) pa_nil))) (pa_cons (pe_tup (pa_cons (pv 9) (pa_cons (pe_tup (pa_cons (pv 0) (pa_cons (pe_lst (pa_cons pe_int pa_nil)) (pa_cons (pv 10) pa_nil)))) pa_nil))) (pa_cons (pe_tup (pa_cons (pv 9) (pa_cons (pe_tup (pa_cons (pe_op o_mul pe_int (pv 0)) (pa_cons (pe_lst (pa_cons pe_int (pa_cons pe_int pa_nil))) (pa_cons (pe_op o_add (pe_op o_add (pv 5) (pe_lst (pa_cons (pe_op o_mul pe_int (pv 0)) (pa_cons pe_int pa_nil)))) (pv 6)) pa_nil)))) pa_nil))) (pa_cons (pe_tup (pa_cons (pe_op o_add (pv 9) (pv 9)) (pa_cons (pe_tup (pa_cons (pe_op o_mul pe_int (pv 0)) (pa_cons (pe_lst (pa_cons pe_int (pa_cons pe_int pa_nil))) (pa_cons (pe_op o_add (pe_op o_add (pv 5) (pe_lst (pa_cons (pe_op o_mul pe_int (pv 0)) (pa_cons pe_int pa_nil)))) (pv 6)) pa_nil)))) pa_nil))) (pa_cons (pe_tup (pa_cons (pe_lst (pa_cons (pe_tup (pa_cons (pv 0) (pa_cons (pv 2) (pa_cons (pe_op o_add (pv 2) pe_int) pa_nil)))) (pa_cons (pe_tup (pa_cons (pv 1) (pa_cons (pe_op o_add (pv 2) pe_int) (pa_cons (pe_op o_add (pv 2) pe_int) pa_nil)))) pa_nil))) (pa_cons (pe_tup (pa_cons (pe_op o_add (pv 0) (pv 1)) (pa_cons (pe_lst (pa_cons pe_int (pa_cons pe_int pa_nil))) (pa_cons (pv 7) pa_nil)))) pa_nil))) (pa_cons (pe_tup (pa_cons (pe_lst (pa_cons (pe_tup (pa_cons (pv 1) (pa_cons (pe_op o_add (pv 2) pe_int) (pa_cons (pe_op o_add (pv 2) pe_int) pa_nil)))) (pa_cons (pe_tup (pa_cons (pv 0) (pa_cons (pv 2) (pa_cons (pe_op o_add (pv 2) pe_int) pa_nil)))) pa_nil))) (pa_cons (pe_tup (pa_cons (pe_op o_add (pv 0) (pv 1)) (pa_cons (pe_lst (pa_cons pe_int (pa_cons pe_int pa_nil))) (pa_cons (pv 7) pa_nil)))) pa_nil))) (pa_cons (pe_tup (pa_cons (pe_lst (pa_cons (pe_tup (pa_cons (pv 0) (pa_cons (pv 2) (pa_cons (pe_op o_add (pv 2) pe_int) pa_nil)))) (pa_cons (pe_tup (pa_cons (pv 1) (pa_cons (pv 2) (pa_cons (pe_op o_add (pv 2) pe_int) pa_nil)))) pa_nil))) (pa_cons (pe_tup (pa_cons (pe_op o_add (pv 0) (pv 1)) (pa_cons (pe_lst (pa_cons pe_int (pa_cons pe_int pa_nil))) (pa_cons (pv 7) pa_nil)))) pa_nil))) (pa_cons (pe_tup (pa_cons (pe_lst (pa_cons (pe_tup (pa_cons (pv 1) (pa_cons (pv 2) (pa_cons (pe_op o_add (pv 2) pe_int) pa_nil)))) (pa_cons (pe_tup (pa_cons (pv 0) (pa_cons (pv 2) (pa_cons (pe_op o_add (pv 2) pe_int) pa_nil)))) pa_nil))) (pa_cons (pe_tup (pa_cons (pe_op o_add (pv 0) (pv 1)) (pa_cons (pe_lst (pa_cons pe_int (pa_cons pe_int pa_nil))) (pa_cons (pv 7) pa_nil)))) pa_nil))) (pa_cons (pe_tup (pa_cons (pe_op o_add (pv 4) (pv 8)) (pa_cons (pe_tup (pa_cons (pe_op o_add (pe_op o_add (pv 0) (pv 1)) pe_int) (pa_cons (pe_lst (pa_cons pe_int (pa_cons pe_int (pa_cons pe_int pa_nil)))) (pa_cons (pe_op o_add (pe_op o_add (pv 5) (pe_lst (pa_cons (pe_op o_add (pv 0) pe_int) (pa_cons (pv 1) pa_nil)))) (pv 6)) pa_nil)))) pa_nil))) (pa_cons (pe_tup (pa_cons (pe_op o_add (pe_slice3 (pv 4) po_none po_none (pe_un un_neg pe_int) (K := K)) (pv 8)) (pa_cons (pe_tup (pa_cons (pe_op o_add (pe_op o_add (pv 0) (pv 1)) pe_int) (pa_cons (pe_lst (pa_cons pe_int (pa_cons pe_int (pa_cons pe_int pa_nil)))) (pa_cons (pe_op o_add (pe_op o_add (pv 5) (pe_lst (pa_cons (pe_op o_add (pv 0) pe_int) (pa_cons (pv 1) pa_nil)))) (pv 6)) pa_nil)))) pa_nil))) (pa_cons (pe_tup (pa_cons (pv 4) (pa_cons (pe_tup (pa_cons (pv 0) (pa_cons (pe_lst (pa_cons pe_int pa_nil)) (pa_cons (pv 7) pa_nil)))) pa_nil))) (pa_cons (pe_tup (pa_cons (pv 9) (pa_cons (pe_tup (pa_cons (pe_op o_add (pv 0) pe_int) (pa_cons (pe_lst (pa_cons pe_int pa_nil)) (pa_cons (pe_op o_add (pe_op o_add (pv 5) (pe_lst (pa_cons (pe_op o_add (pv 0) pe_int) (pa_cons pe_int pa_nil)))) (pv 6)) pa_nil)))) pa_nil))) pa_nil))))))))))))))))))))))), ?_⟩
    have hMM : M = p + 2 + (M - p - 2) := by omega
    obtain ⟨n, hn⟩ : ∃ n : Nat, ((M : Nat) : Int) - (p : Nat) - 2 = (n : Nat) := ⟨M - p - 2, by omega⟩
    have hMn : M = p + 2 + n := by omega
    clear hMM
    walk_at "go"
    rename_i o1 G1 y1 f1 w1 o2 G2 y2 f2 w2 o3 G3 y3 f3 w3
    rw [show ((p : Nat) : Int).toNat = p by omega]
    refine lc_map (rv_range 0 _) (fun _ _ => trivial) (by rw [List.length_range]; omega) (fun _ => .int 0) ?_ ?_
    · intro i H' hi e B h1
      refine ⟨rfl, ?_⟩
      walk_at "go"
      exact h1 _ (Fr.refl _)
    intro o4 G4 y4 f4 w4
    rw [zero_rng] at w4
    obtain ⟨hs, hhs⟩ : ∃ us, us = List.replicate p (0 : Int) := ⟨_, rfl⟩
    have hsl : hs.length = p := by rw [hhs, List.length_replicate]
    rw [← hhs] at w4
    walk_at "go"
    rw [hn, show ((n : Nat) : Int).toNat = n by omega]
    refine lc_map (rv_range 0 _) (fun _ _ => trivial) (by rw [List.length_range]; omega) (fun _ => .int 0) ?_ ?_
    · intro i H' hi e B h1
      refine ⟨rfl, ?_⟩
      walk_at "go"
      exact h1 _ (Fr.refl _)
    intro o5 G5 y5 f5 w5
    rw [zero_rng] at w5
    obtain ⟨ts, hts⟩ : ∃ us, us = List.replicate n (0 : Int) := ⟨_, rfl⟩
    have tsl : ts.length = n := by rw [hts, List.length_replicate]
    rw [← hts] at w5
    walk_at "go"
    rename_i o6 G6 y6 f6 w6 o7 G7 y7 f7 w7 o8 G8 y8 f8 w8 o9 G9 y9 f9 w9 o10 G10 y10 f10 w10 o11 G11 y11 f11 w11 o12 G12 y12 f12 w12 o13 G13 y13 f13 w13 o14 G14 y14 f14 w14 o15 G15 y15 f15 w15 o16 G16 y16 f16 w16 o17 G17 y17 f17 w17 o18 G18 y18 f18 w18 o19 G19 y19 f19 w19 o20 G20 y20 f20 w20 o21 G21 y21 f21 w21 o22 G22 y22 f22 w22 o23 G23 y23 f23 w23 o24 G24 y24 f24 w24 o25 G25 y25 f25 w25 o26 G26 y26 f26 w26 o27 G27 y27 f27 w27 o28 G28 y28 f28 w28 o29 G29 y29 f29 w29 o30 G30 y30 f30 w30 o31 G31 y31 f31 w31 o32 G32 y32 f32 w32 o33 G33 y33 f33 w33 o34 G34 y34 f34 w34 o35 G35 y35 f35 w35 o36 G36 y36 f36 w36 o37 G37 y37 f37 w37 o38 G38 y38 f38 w38 o39 G39 y39 f39 w39 o40 G40 y40 f40 w40 o41 G41 y41 f41 w41 o42 G42 y42 f42 w42 o43 G43 y43 f43 w43 o44 G44 y44 f44 w44 o45 G45 y45 f45 w45 o46 G46 y46 f46 w46 o47 G47 y47 f47 w47 o48 G48 y48 f48 w48 o49 G49 y49 f49 w49 o50 G50 y50 f50 w50 o51 G51 y51 f51 w51 o52 G52 y52 f52 w52 o53 G53 y53 f53 w53 o54 G54 y54 f54 w54 o55 G55 y55 f55 w55 o56 G56 y56 f56 w56 o57 G57 y57 f57 w57 o58 G58 y58 f58 w58 o59 G59 y59 f59 w59 o60 G60 y60 f60 w60 o61 G61 y61 f61 w61 o62 G62 y62 f62 w62 o63 G63 y63 f63 w63 o64 G64 y64 f64 w64 o65 G65 y65 f65 w65 o66 G66 y66 f66 w66 o67 G67 y67 f67 w67 o68 G68 y68 f68 w68
    rw [prS_map hhs hts] at w8
    rw [prS_map hhs hts] at w15
    rw [prS_map hhs hts] at w28
    rw [prS_map hhs hts] at w35
    rw [prS_map hhs hts] at w66
    refine st_revL (lstAt_sq (lst_of (by walk_at "hp"))) ?_
    intro o69 G69 y69 f69 w69
    replace w69 : G69 o69 = some (.lst [V.ref o2, V.ref o1]) := w69
    walk_at "go"
    rename_i o70 G70 y70 f70 w70 o71 G71 y71 f71 w71 o72 G72 y72 f72 w72 o73 G73 y73 f73 w73 o74 G74 y74 f74 w74 o75 G75 y75 f75 w75 o76 G76 y76 f76 w76 o77 G77 y77 f77 w77 o78 G78 y78 f78 w78 o79 G79 y79 f79 w79 o80 G80 y80 f80 w80 o81 G81 y81 f81 w81 o82 G82 y82 f82 w82 o83 G83 y83 f83 w83 o84 G84 y84 f84 w84 o85 G85 y85 f85 w85 o86 GF y86 f86 w86
    rw [prS_map hhs hts] at w74
    rw [prS_map hhs hts] at w83
    have d86 : Ex GF GF := Fr.refl _
    have d85 : Ex G85 GF := f86.trans d86
    have d84 : Ex G84 GF := f85.trans d85
    have d83 : Ex G83 GF := f84.trans d84
    have d82 : Ex G82 GF := f83.trans d83
    have d81 : Ex G81 GF := f82.trans d82
    have d80 : Ex G80 GF := f81.trans d81
    have d79 : Ex G79 GF := f80.trans d80
    have d78 : Ex G78 GF := f79.trans d79
    have d77 : Ex G77 GF := f78.trans d78
    have d76 : Ex G76 GF := f77.trans d77
    have d75 : Ex G75 GF := f76.trans d76
    have d74 : Ex G74 GF := f75.trans d75
    have d73 : Ex G73 GF := f74.trans d74
    have d72 : Ex G72 GF := f73.trans d73
    have d71 : Ex G71 GF := f72.trans d72
    have d70 : Ex G70 GF := f71.trans d71
    have d69 : Ex G69 GF := f70.trans d70
    have d68 : Ex G68 GF := f69.trans d69
    have d67 : Ex G67 GF := f68.trans d68
    have d66 : Ex G66 GF := f67.trans d67
    have d65 : Ex G65 GF := f66.trans d66
    have d64 : Ex G64 GF := f65.trans d65
    have d63 : Ex G63 GF := f64.trans d64
    have d62 : Ex G62 GF := f63.trans d63
    have d61 : Ex G61 GF := f62.trans d62
    have d60 : Ex G60 GF := f61.trans d61
    have d59 : Ex G59 GF := f60.trans d60
    have d58 : Ex G58 GF := f59.trans d59
    have d57 : Ex G57 GF := f58.trans d58
    have d56 : Ex G56 GF := f57.trans d57
    have d55 : Ex G55 GF := f56.trans d56
    have d54 : Ex G54 GF := f55.trans d55
    have d53 : Ex G53 GF := f54.trans d54
    have d52 : Ex G52 GF := f53.trans d53
    have d51 : Ex G51 GF := f52.trans d52
    have d50 : Ex G50 GF := f51.trans d51
    have d49 : Ex G49 GF := f50.trans d50
    have d48 : Ex G48 GF := f49.trans d49
    have d47 : Ex G47 GF := f48.trans d48
    have d46 : Ex G46 GF := f47.trans d47
    have d45 : Ex G45 GF := f46.trans d46
    have d44 : Ex G44 GF := f45.trans d45
    have d43 : Ex G43 GF := f44.trans d44
    have d42 : Ex G42 GF := f43.trans d43
    have d41 : Ex G41 GF := f42.trans d42
    have d40 : Ex G40 GF := f41.trans d41
    have d39 : Ex G39 GF := f40.trans d40
    have d38 : Ex G38 GF := f39.trans d39
    have d37 : Ex G37 GF := f38.trans d38
    have d36 : Ex G36 GF := f37.trans d37
    have d35 : Ex G35 GF := f36.trans d36
    have d34 : Ex G34 GF := f35.trans d35
    have d33 : Ex G33 GF := f34.trans d34
    have d32 : Ex G32 GF := f33.trans d33
    have d31 : Ex G31 GF := f32.trans d32
    have d30 : Ex G30 GF := f31.trans d31
    have d29 : Ex G29 GF := f30.trans d30
    have d28 : Ex G28 GF := f29.trans d29
    have d27 : Ex G27 GF := f28.trans d28
    have d26 : Ex G26 GF := f27.trans d27
    have d25 : Ex G25 GF := f26.trans d26
    have d24 : Ex G24 GF := f25.trans d25
    have d23 : Ex G23 GF := f24.trans d24
    have d22 : Ex G22 GF := f23.trans d23
    have d21 : Ex G21 GF := f22.trans d22
    have d20 : Ex G20 GF := f21.trans d21
    have d19 : Ex G19 GF := f20.trans d20
    have d18 : Ex G18 GF := f19.trans d19
    have d17 : Ex G17 GF := f18.trans d18
    have d16 : Ex G16 GF := f17.trans d17
    have d15 : Ex G15 GF := f16.trans d16
    have d14 : Ex G14 GF := f15.trans d15
    have d13 : Ex G13 GF := f14.trans d14
    have d12 : Ex G12 GF := f13.trans d13
    have d11 : Ex G11 GF := f12.trans d12
    have d10 : Ex G10 GF := f11.trans d11
    have d9 : Ex G9 GF := f10.trans d10
    have d8 : Ex G8 GF := f9.trans d9
    have d7 : Ex G7 GF := f8.trans d8
    have d6 : Ex G6 GF := f7.trans d7
    have d5 : Ex G5 GF := f6.trans d6
    have d4 : Ex G4 GF := f5.trans d5
    have d3 : Ex G3 GF := f4.trans d4
    have d2 : Ex G2 GF := f3.trans d3
    have d1 : Ex G1 GF := f2.trans d2
    have c_o18 : CaseOk M false GF (.ref o18) := by
      refine CaseOk.std (p := o3) (t := o17) (c := o16) (r := o8) (zs := [(o1, ⟨a, p, p + 1⟩), (o2, ⟨b, p + 1, p + 2⟩)]) (x := a + b) (ns := [1, 0]) (ps := prS p (a) (b) n) (d18.get w18) (d3.get w3) (TTc (d1.get w1) (TTc (d2.get w2) TT0)) (by simp) (okC (by omega) (by omega) (okC (by omega) (by omega) ok0)) (d17.get w17) (d16.get w16) (d8.get w8) (by omega) (by simp) (by simp) (prS_small (by omega) (by omega)) (by rw [prS_len]; omega) ⟨fun h => (Bool.false_ne_true h).elim, fun ⟨h1, h2⟩ => ?_⟩
      · exfalso
        have h := (cho_at (cs := [1, 0]) h1).up
        simp at h
    have c_o21 : CaseOk M false GF (.ref o21) := by
      refine CaseOk.std (p := o12) (t := o20) (c := o19) (r := o15) (zs := [(o11, ⟨a, p, p + 1⟩)]) (x := a) (ns := [(-1)]) (ps := prS p (a) (0) n) (d21.get w21) (d12.get w12) (TTc (d11.get w11) TT0) (by simp) (okC (by omega) (by omega) ok0) (d20.get w20) (d19.get w19) (d15.get w15) (by omega) (by simp) (by simp) (prS_small (by omega) (by omega)) (by rw [prS_len]; omega) ⟨fun h => (Bool.false_ne_true h).elim, fun ⟨h1, h2⟩ => ?_⟩
      · exfalso
        obtain ⟨cs, e, _⟩ := h1
        cases cs with
        | nil => cases e
        | cons c cs =>
          rw [List.map_cons] at e
          injection e with e _
          omega
    have c_o24 : CaseOk M false GF (.ref o24) := by
      refine CaseOk.std (p := o12) (t := o23) (c := o22) (r := o15) (zs := [(o11, ⟨a, p, p + 1⟩)]) (x := a) (ns := [1]) (ps := prS p (a) (0) n) (d24.get w24) (d12.get w12) (TTc (d11.get w11) TT0) (by simp) (okC (by omega) (by omega) ok0) (d23.get w23) (d22.get w22) (d15.get w15) (by omega) (by simp) (by simp) (prS_small (by omega) (by omega)) (by rw [prS_len]; omega) ⟨fun h => (Bool.false_ne_true h).elim, fun ⟨h1, h2⟩ => ?_⟩
      · exfalso
        have h := (cho_at (cs := [1]) h1).ch.lt 1 (by simp)
        simp at h
    have c_o30 : CaseOk M false GF (.ref o30) := by
      refine CaseOk.std (p := o12) (t := o29) (c := o25) (r := o28) (zs := [(o11, ⟨a, p, p + 1⟩)]) (x := (2 * a)) (ns := [0, 0]) (ps := prS p ((2 * a)) (0) n) (d30.get w30) (d12.get w12) (TTc (d11.get w11) TT0) (by simp) (okC (by omega) (by omega) ok0) (d29.get w29) (d25.get w25) (d28.get w28) (by omega) (by simp) (by simp) (prS_small (by omega) (by omega)) (by rw [prS_len]; omega) ⟨fun h => (Bool.false_ne_true h).elim, fun ⟨h1, h2⟩ => ?_⟩
      · exfalso
        have h := (cho_at (cs := [0, 0]) h1).up
        simp at h
    have c_o37 : CaseOk M false GF (.ref o37) := by
      refine CaseOk.std (p := o31) (t := o36) (c := o32) (r := o35) (zs := [(o11, ⟨a, p, p + 1⟩), (o11, ⟨a, p, p + 1⟩)]) (x := (2 * a)) (ns := [0, 1]) (ps := prS p ((2 * a)) (0) n) (d37.get w37) (d31.get w31) (TTc (d11.get w11) (TTc (d11.get w11) TT0)) (by simp) (okC (by omega) (by omega) (okC (by omega) (by omega) ok0)) (d36.get w36) (d32.get w32) (d35.get w35) (by omega) (by simp) (by simp) (prS_small (by omega) (by omega)) (by rw [prS_len]; omega) ⟨fun h => (Bool.false_ne_true h).elim, fun ⟨h1, h2⟩ => ?_⟩
      · exfalso
        have h := (cho_at (cs := [0, 1]) h1).ch.ap
        simp [apartS] at h <;> omega
    have c_o43 : CaseOk M false GF (.ref o43) := by
      refine CaseOk.std (p := o40) (t := o42) (c := o41) (r := o8) (zs := [(o38, ⟨a, p, p + 2⟩), (o39, ⟨b, p + 1, p + 2⟩)]) (x := a + b) (ns := [0, 1]) (ps := prS p (a) (b) n) (d43.get w43) (d40.get w40) (TTc (d38.get w38) (TTc (d39.get w39) TT0)) (by simp) (okC (by omega) (by omega) (okC (by omega) (by omega) ok0)) (d42.get w42) (d41.get w41) (d8.get w8) (by omega) (by simp) (by simp) (prS_small (by omega) (by omega)) (by rw [prS_len]; omega) ⟨fun h => (Bool.false_ne_true h).elim, fun ⟨h1, h2⟩ => ?_⟩
      · exfalso
        have h := (cho_at (cs := [0, 1]) h1).ch.ap
        simp [apartS] at h <;> omega
    have c_o49 : CaseOk M false GF (.ref o49) := by
      refine CaseOk.std (p := o46) (t := o48) (c := o47) (r := o8) (zs := [(o44, ⟨b, p + 1, p + 2⟩), (o45, ⟨a, p, p + 2⟩)]) (x := a + b) (ns := [0, 1]) (ps := prS p (a) (b) n) (d49.get w49) (d46.get w46) (TTc (d44.get w44) (TTc (d45.get w45) TT0)) (by simp) (okC (by omega) (by omega) (okC (by omega) (by omega) ok0)) (d48.get w48) (d47.get w47) (d8.get w8) (by omega) (by simp) (by simp) (prS_small (by omega) (by omega)) (by rw [prS_len]; omega) ⟨fun h => (Bool.false_ne_true h).elim, fun ⟨h1, h2⟩ => ?_⟩
      · exfalso
        have h := (cho_at (cs := [0, 1]) h1).ch.ap
        simp [apartS] at h <;> omega
    have c_o55 : CaseOk M false GF (.ref o55) := by
      refine CaseOk.std (p := o52) (t := o54) (c := o53) (r := o8) (zs := [(o50, ⟨a, p, p + 1⟩), (o51, ⟨b, p, p + 2⟩)]) (x := a + b) (ns := [0, 1]) (ps := prS p (a) (b) n) (d55.get w55) (d52.get w52) (TTc (d50.get w50) (TTc (d51.get w51) TT0)) (by simp) (okC (by omega) (by omega) (okC (by omega) (by omega) ok0)) (d54.get w54) (d53.get w53) (d8.get w8) (by omega) (by simp) (by simp) (prS_small (by omega) (by omega)) (by rw [prS_len]; omega) ⟨fun h => (Bool.false_ne_true h).elim, fun ⟨h1, h2⟩ => ?_⟩
      · exfalso
        have h := (cho_at (cs := [0, 1]) h1).ch.ap
        simp [apartS] at h <;> omega
    have c_o61 : CaseOk M false GF (.ref o61) := by
      refine CaseOk.std (p := o58) (t := o60) (c := o59) (r := o8) (zs := [(o56, ⟨b, p, p + 2⟩), (o57, ⟨a, p, p + 1⟩)]) (x := a + b) (ns := [0, 1]) (ps := prS p (a) (b) n) (d61.get w61) (d58.get w58) (TTc (d56.get w56) (TTc (d57.get w57) TT0)) (by simp) (okC (by omega) (by omega) (okC (by omega) (by omega) ok0)) (d60.get w60) (d59.get w59) (d8.get w8) (by omega) (by simp) (by simp) (prS_small (by omega) (by omega)) (by rw [prS_len]; omega) ⟨fun h => (Bool.false_ne_true h).elim, fun ⟨h1, h2⟩ => ?_⟩
      · exfalso
        have h := (cho_at (cs := [0, 1]) h1).ch.ap
        simp [apartS] at h <;> omega
    have c_o68 : CaseOk M false GF (.ref o68) := by
      refine CaseOk.std (p := o62) (t := o67) (c := o63) (r := o66) (zs := [(o1, ⟨a, p, p + 1⟩), (o2, ⟨b, p + 1, p + 2⟩), (o9, ⟨1, p, p + 1⟩)]) (x := a + b + 1) (ns := [0, 1, 2]) (ps := prS p (a + 1) (b) n) (d68.get w68) (d62.get w62) (TTc (d1.get w1) (TTc (d2.get w2) (TTc (d9.get w9) TT0))) (by simp) (okC (by omega) (by omega) (okC (by omega) (by omega) (okC (by omega) (by omega) ok0))) (d67.get w67) (d63.get w63) (d66.get w66) (by omega) (by simp) (by simp) (prS_small (by omega) (by omega)) (by rw [prS_len]; omega) ⟨fun h => (Bool.false_ne_true h).elim, fun ⟨h1, h2⟩ => ?_⟩
      · exfalso
        have h := (cho_at (cs := [0, 1, 2]) h1).ch.ap
        simp [apartS] at h <;> omega
    have c_o76 : CaseOk M false GF (.ref o76) := by
      refine CaseOk.std (p := o70) (t := o75) (c := o71) (r := o74) (zs := [(o2, ⟨b, p + 1, p + 2⟩), (o1, ⟨a, p, p + 1⟩), (o9, ⟨1, p, p + 1⟩)]) (x := a + b + 1) (ns := [0, 1, 2]) (ps := prS p (a + 1) (b) n) (d76.get w76) (d70.get w70) (TTc (d2.get w2) (TTc (d1.get w1) (TTc (d9.get w9) TT0))) (by simp) (okC (by omega) (by omega) (okC (by omega) (by omega) (okC (by omega) (by omega) ok0))) (d75.get w75) (d71.get w71) (d74.get w74) (by omega) (by simp) (by simp) (prS_small (by omega) (by omega)) (by rw [prS_len]; omega) ⟨fun h => (Bool.false_ne_true h).elim, fun ⟨h1, h2⟩ => ?_⟩
      · exfalso
        have h := (cho_at (cs := [0, 1, 2]) h1).ch.ap
        simp [apartS] at h <;> omega
    have c_o79 : CaseOk M false GF (.ref o79) := by
      refine CaseOk.std (p := o3) (t := o78) (c := o77) (r := o8) (zs := [(o1, ⟨a, p, p + 1⟩), (o2, ⟨b, p + 1, p + 2⟩)]) (x := a) (ns := [0]) (ps := prS p (a) (b) n) (d79.get w79) (d3.get w3) (TTc (d1.get w1) (TTc (d2.get w2) TT0)) (by simp) (okC (by omega) (by omega) (okC (by omega) (by omega) ok0)) (d78.get w78) (d77.get w77) (d8.get w8) (by omega) (by simp) (by simp) (prS_small (by omega) (by omega)) (by rw [prS_len]; omega) ⟨fun h => (Bool.false_ne_true h).elim, fun ⟨h1, h2⟩ => ?_⟩
      · exfalso
        have h := h2.sum
        simp only [List.sum_append, prS_sum, List.sum_cons, List.sum_nil] at h
        omega
    have c_o85 : CaseOk M false GF (.ref o85) := by
      refine CaseOk.std (p := o12) (t := o84) (c := o80) (r := o83) (zs := [(o11, ⟨a, p, p + 1⟩)]) (x := a + 1) (ns := [0]) (ps := prS p (a + 1) (0) n) (d85.get w85) (d12.get w12) (TTc (d11.get w11) TT0) (by simp) (okC (by omega) (by omega) ok0) (d84.get w84) (d80.get w80) (d83.get w83) (by omega) (by simp) (by simp) (prS_small (by omega) (by omega)) (by rw [prS_len]; omega) ⟨fun h => (Bool.false_ne_true h).elim, fun ⟨h1, h2⟩ => ?_⟩
      · exfalso
        have h := (cho_at (cs := [0]) h1).sum
        simp [wS] at h <;> omega
    exact k o86 _ GF (f1.trans d1) w86 (by simp) (.cons c_o18 (.cons c_o21 (.cons c_o24 (.cons c_o30 (.cons c_o37 (.cons c_o43 (.cons c_o49 (.cons c_o55 (.cons c_o61 (.cons c_o68 (.cons c_o76 (.cons c_o79 (.cons c_o85 .nil)))))))))))))
def sp__law_wrong_prices : Sp := fun vs H Q _ => ∃ (a b : Int) (p M : Nat), vs = [.int a, .int b, .int (p : Nat), .int (M : Nat)] ∧ (1 ≤ a ∧ a ≤ 490000) ∧ (1 ≤ b ∧ b ≤ 490000) ∧ p + 2 ≤ M ∧ M ≤ 24 ∧ ∀ (q : Addr) (ls : List V) H', Ex H H' → H' q = some (.lst ls) → ls.length ≤ 100 → Cases M false H' ls → Q (.ref q) H'
theorem ok__law_wrong_prices (T : Tx K mg ad fd tk) : FnOk P w K mg base CX0 1 (ad 13) (fd 13) ["_law_a", "_law_b", "_law_p", "_law_many"] sp__law_wrong_prices := by
  refine T.d__law_wrong_prices.F.ok sc__law_wrong_prices (fun vs H Q E h => ?_) (fun cdv A outer s H vs Q E hr h => ?_)
  · obtain ⟨a, b, p, M, rfl, _⟩ := h
    rfl
  · obtain ⟨a, b, p, M, rfl, ha, hb, hp, hM, k⟩ := h
    refine ⟨_, (pss_cons (ps_set (i := 4) sc__law_wrong_prices.nd rfl (Or.inl rfl) (pe_lst (pa_cons (pe_tup (pa_cons (pv 0) (pa_cons (pv 2) (pa_cons (pe_op o_add (pv 2) pe_int) pa_nil)))) (pa_cons (pe_tup (pa_cons (pv 1) (pa_cons (pe_op o_add (pv 2) pe_int) (pa_cons (pe_op o_add (pv 2) pe_int) pa_nil)))) pa_nil))))
      (pss_cons (ps_setLc (i := 5) (own := [("_law_k", 10)]) (g := gName 10) rfl sc__law_wrong_prices.nd rfl rfl (sw_true rfl rfl rfl (by decide +kernel)) (pi_range1 rfl T.b_range (pa_cons (pv 2) pa_nil)) (blkOk_by (own := [("_law_k", 10)]) (N := N__law_wrong_prices) (sc := defScope s__law_wrong_prices) (by decide +kernel)) (fun _ _ _ _ _ => pg_name (i := 10) sc__law_wrong_prices.nd rfl (Or.inl rfl)) (fun _ _ _ _ _ => pts_nil) (fun _ _ _ _ _ => pe_int))
      (pss_cons (ps_setLc (i := 6) (own := [("_law_k", 10)]) (g := gName 10) rfl sc__law_wrong_prices.nd rfl rfl (sw_true rfl rfl rfl (by decide +kernel)) (pi_range1 rfl T.b_range (pa_cons (pe_op o_sub (pe_op o_sub (pv 3) (pv 2)) pe_int) pa_nil)) (blkOk_by (own := [("_law_k", 10)]) (N := N__law_wrong_prices) (sc := defScope s__law_wrong_prices) (by decide +kernel)) (fun _ _ _ _ _ => pg_name (i := 10) sc__law_wrong_prices.nd rfl (Or.inl rfl)) (fun _ _ _ _ _ => pts_nil) (fun _ _ _ _ _ => pe_int))
      (pss_cons (ps_set (i := 7) sc__law_wrong_prices.nd rfl (Or.inl rfl) (pe_op o_add (pe_op o_add (pv 5) (pe_lst (pa_cons (pv 0) (pa_cons (pv 1) pa_nil)))) (pv 6)))
      (pss_cons (ps_set (i := 8) sc__law_wrong_prices.nd rfl (Or.inl rfl) (pe_lst (pa_cons (pe_tup (pa_cons (pv 0) (pa_cons (pv 2) (pa_cons (pe_op o_add (pv 2) pe_int) pa_nil)))) pa_nil)))
      (pss_cons (ps_set (i := 9) sc__law_wrong_prices.nd rfl (Or.inl rfl) (pe_lst (pa_cons (pe_tup (pa_cons (pe_op o_add (pe_op o_add (pv 0) (pv 1)) pe_int) (pa_cons (pv 2) (pa_cons (pe_op o_add (pv 2) pe_int) pa_nil)))) pa_nil)))
      (pss_one (ps_ret (pe_lst (pa_cons (pe_tup (pa_cons (pv 4) (pa_cons (pe_tup (pa_cons (pe_op o_add (pe_op o_add (pv 0) (pv 1)) pe_int) (pa_cons (pe_lst (pa_cons pe_int (pa_cons pe_int pa_nil))) (pa_cons (pv 7) pa_nil)))) pa_nil))) (pa_cons (pe_tup (pa_cons (pv 8) (pa_cons (pe_tup (pa_cons (pv 0) (pa_cons (pe_lst (pa_cons pe_int pa_nil)) (pa_cons (pe_op o_add (pe_op o_add (pe_op o_add (pv 5) (pe_lst (pa_cons (pv 0) (pa_cons pe_int pa_nil)))) (pv 6)) (pe_lst (pa_cons pe_int pa_nil))) pa_nil)))) pa_nil))) (pa_cons (pe_tup (pa_cons (pe_lst (pa_cons (pe_tup (pa_cons (pv 0) (pa_cons (pe_op o_sub (pv 3) pe_int) (pa_cons (pe_op o_sub (pv 3) pe_int) pa_nil)))) pa_nil)) (pa_cons (pe_tup (pa_cons (pv 0) (pa_cons (pe_lst (pa_cons pe_int pa_nil)) (pa_cons (pe_op o_add (pe_lc (own := [("_law_k", 10)]) (g := gName 10) rfl sc__law_wrong_prices.nd (pi_range1 rfl T.b_range (pa_cons (pe_op o_sub (pv 3) pe_int) pa_nil)) (blkOk_by (own := [("_law_k", 10)]) (N := N__law_wrong_prices) (sc := defScope s__law_wrong_prices) (by decide +kernel)) (fun _ _ _ _ _ => pg_name (i := 10) sc__law_wrong_prices.nd rfl (Or.inl rfl)) (fun _ _ _ _ _ => pts_nil) (fun _ _ _ _ _ => pe_int)) (pe_lst (pa_cons (pv 0) pa_nil))) pa_nil)))) pa_nil))) (pa_cons (pe_tup (pa_cons (pv 8) (pa_cons (pe_tup (pa_cons (pv 0) (pa_cons (pe_lst (pa_cons pe_int pa_nil)) (pa_cons (pe_op o_add (pe_op o_add (pv 5) (pe_lst (pa_cons (pe_op o_add (pv 0) pe_int) (pa_cons (pe_un un_neg pe_int) pa_nil)))) (pv 6)) pa_nil)))) pa_nil))) (pa_cons (pe_tup (pa_cons (pv 8) (pa_cons (pe_tup (pa_cons (pv 0) (pa_cons (pe_lst (pa_cons pe_int pa_nil)) (pa_cons (pe_op o_add (pe_op o_add (pv 5) (pe_lst (pa_cons pe_int (pa_cons (pv 0) pa_nil)))) (pv 6)) pa_nil)))) pa_nil))) (pa_cons (pe_tup (pa_cons (pe_op o_add (pv 4) (pv 9)) (pa_cons (pe_tup (pa_cons (pe_op o_add (pv 0) (pv 1)) (pa_cons (pe_lst (pa_cons pe_int (pa_cons pe_int pa_nil))) (pa_cons (pv 7) pa_nil)))) pa_nil))) (pa_cons (pe_tup (pa_cons (pe_op o_add (pv 9) (pv 4)) (pa_cons (pe_tup (pa_cons (pe_op o_add (pv 0) (pv 1)) (pa_cons (pe_lst (pa_cons pe_int (pa_cons pe_int pa_nil))) (pa_cons (pv 7) pa_nil)))) pa_nil))) (pa_cons (pe_tup (pa_cons (pv 8) (pa_cons (pe_tup (pa_cons (pv 0) (pa_cons (pe_lst (pa_cons pe_int pa_nil)) (pa_cons (pe_op o_add (pe_op o_add (pv 5) (pe_lst (pa_cons (pv 0) (pa_cons pe_int pa_nil)))) (pv 6)) pa_nil)))) pa_nil))) (pa_cons (pe_tup (pa_cons (pe_lst pa_nil) (pa_cons (pe_tup (pa_cons pe_int (pa_cons (pe_lst pa_nil) (pa_cons (pe_op o_add (pe_lc (own := [("_law_k", 10)]) (g := gName 10) rfl sc__law_wrong_prices.nd (pi_range1 rfl T.b_range (pa_cons (pe_op o_sub (pv 3) pe_int) pa_nil)) (blkOk_by (own := [("_law_k", 10)]) (N := N__law_wrong_prices) (sc := defScope s__law_wrong_prices) (by decide +kernel)) (fun _ _ _ _ _ => pg_name (i := 10) sc__law_wrong_prices.nd rfl (Or.inl rfl)) (fun _ _ _ _ _ => pts_nil) (fun _ _ _ _ _ => pe_int)) (pe_lst (pa_cons pe_int pa_nil))) pa_nil)))) pa_nil))) pa_nil)))))))))))))))))), ?_⟩
    have hMM : M = p + 2 + (M - p - 2) := by omega
    obtain ⟨n, hn⟩ : ∃ n : Nat, ((M : Nat) : Int) - (p : Nat) - 2 = (n : Nat) := ⟨M - p - 2, by omega⟩
    have hMn : M = p + 2 + n := by omega
    clear hMM
    obtain ⟨m2, hM2⟩ : ∃ m2 : Nat, ((M : Nat) : Int) - 2 = (m2 : Nat) := ⟨M - 2, by omega⟩
    have hM1 : ((M : Nat) : Int) - 1 = ((m2 + 1 : Nat) : Int) := by omega
    walk_at "go"
    rename_i o1 G1 y1 f1 w1 o2 G2 y2 f2 w2 o3 G3 y3 f3 w3
    rw [show ((p : Nat) : Int).toNat = p by omega]
    refine lc_map (rv_range 0 _) (fun _ _ => trivial) (by rw [List.length_range]; omega) (fun _ => .int 0) ?_ ?_
    · intro i H' hi e B h1
      refine ⟨rfl, ?_⟩
      walk_at "go"
      exact h1 _ (Fr.refl _)
    intro o4 G4 y4 f4 w4
    rw [zero_rng] at w4
    obtain ⟨hs, hhs⟩ : ∃ us, us = List.replicate p (0 : Int) := ⟨_, rfl⟩
    have hsl : hs.length = p := by rw [hhs, List.length_replicate]
    rw [← hhs] at w4
    walk_at "go"
    rw [hn, show ((n : Nat) : Int).toNat = n by omega]
    refine lc_map (rv_range 0 _) (fun _ _ => trivial) (by rw [List.length_range]; omega) (fun _ => .int 0) ?_ ?_
    · intro i H' hi e B h1
      refine ⟨rfl, ?_⟩
      walk_at "go"
      exact h1 _ (Fr.refl _)
    intro o5 G5 y5 f5 w5
    rw [zero_rng] at w5
    obtain ⟨ts, hts⟩ : ∃ us, us = List.replicate n (0 : Int) := ⟨_, rfl⟩
    have tsl : ts.length = n := by rw [hts, List.length_replicate]
    rw [← hts] at w5
    walk_at "go"
    rename_i o6 G6 y6 f6 w6 o7 G7 y7 f7 w7 o8 G8 y8 f8 w8 o9 G9 y9 f9 w9 o10 G10 y10 f10 w10 o11 G11 y11 f11 w11 o12 G12 y12 f12 w12 o13 G13 y13 f13 w13 o14 G14 y14 f14 w14 o15 G15 y15 f15 w15 o16 G16 y16 f16 w16 o17 G17 y17 f17 w17 o18 G18 y18 f18 w18 o19 G19 y19 f19 w19 o20 G20 y20 f20 w20 o21 G21 y21 f21 w21 o22 G22 y22 f22 w22 o23 G23 y23 f23 w23 o24 G24 y24 f24 w24 o25 G25 y25 f25 w25 o26 G26 y26 f26 w26
    rw [prS_map hhs hts] at w8
    rw [prS_map hhs hts] at w19
    replace w21 : G21 o21 = some (.lst ((prS p (a) (0) n ++ [0]).map V.int)) := by rw [List.map_append, ← prS_map hhs hts]; exact w21
    rw [hM2, hM1] at w24
    rw [hM2, show ((m2 : Nat) : Int).toNat = m2 by omega]
    refine lc_map (rv_range 0 _) (fun _ _ => trivial) (by rw [List.length_range]; omega) (fun _ => .int 0) ?_ ?_
    · intro i H' hi e B h1
      refine ⟨rfl, ?_⟩
      walk_at "go"
      exact h1 _ (Fr.refl _)
    intro o27 G27 y27 f27 w27
    rw [zero_rng] at w27
    obtain ⟨us, hus⟩ : ∃ us, us = List.replicate m2 (0 : Int) := ⟨_, rfl⟩
    have usl : us.length = m2 := by rw [hus, List.length_replicate]
    rw [← hus] at w27
    walk_at "go"
    rename_i o28 G28 y28 f28 w28 o29 G29 y29 f29 w29 o30 G30 y30 f30 w30 o31 G31 y31 f31 w31 o32 G32 y32 f32 w32 o33 G33 y33 f33 w33 o34 G34 y34 f34 w34 o35 G35 y35 f35 w35 o36 G36 y36 f36 w36 o37 G37 y37 f37 w37 o38 G38 y38 f38 w38 o39 G39 y39 f39 w39 o40 G40 y40 f40 w40 o41 G41 y41 f41 w41 o42 G42 y42 f42 w42 o43 G43 y43 f43 w43 o44 G44 y44 f44 w44 o45 G45 y45 f45 w45 o46 G46 y46 f46 w46 o47 G47 y47 f47 w47 o48 G48 y48 f48 w48 o49 G49 y49 f49 w49 o50 G50 y50 f50 w50 o51 G51 y51 f51 w51 o52 G52 y52 f52 w52 o53 G53 y53 f53 w53 o54 G54 y54 f54 w54 o55 G55 y55 f55 w55 o56 G56 y56 f56 w56 o57 G57 y57 f57 w57 o58 G58 y58 f58 w58 o59 G59 y59 f59 w59
    replace w29 : G29 o29 = some (.lst ((us ++ [a]).map V.int)) := by rw [List.map_append]; exact w29
    rw [prS_map hhs hts] at w35
    rw [prS_map hhs hts] at w41
    rw [prS_map hhs hts] at w55
    rw [hM1, show (((m2 + 1 : Nat) : Nat) : Int).toNat = m2 + 1 by omega]
    refine lc_map (rv_range 0 _) (fun _ _ => trivial) (by rw [List.length_range]; omega) (fun _ => .int 0) ?_ ?_
    · intro i H' hi e B h1
      refine ⟨rfl, ?_⟩
      walk_at "go"
      exact h1 _ (Fr.refl _)
    intro o60 G60 y60 f60 w60
    rw [zero_rng] at w60
    obtain ⟨us1, hus1⟩ : ∃ us, us = List.replicate (m2 + 1) (0 : Int) := ⟨_, rfl⟩
    have us1l : us1.length = (m2 + 1) := by rw [hus1, List.length_replicate]
    rw [← hus1] at w60
    walk_at "go"
    rename_i o61 G61 y61 f61 w61 o62 G62 y62 f62 w62 o63 G63 y63 f63 w63 o64 G64 y64 f64 w64 o65 GF y65 f65 w65
    replace w62 : G62 o62 = some (.lst ((us1 ++ [1]).map V.int)) := by rw [List.map_append]; exact w62
    have husz : us.sum = 0 := by rw [hus]; exact rep_sum _
    have husz1 : us1.sum = 0 := by rw [hus1]; exact rep_sum _
    have d65 : Ex GF GF := Fr.refl _
    have d64 : Ex G64 GF := f65.trans d65
    have d63 : Ex G63 GF := f64.trans d64
    have d62 : Ex G62 GF := f63.trans d63
    have d61 : Ex G61 GF := f62.trans d62
    have d60 : Ex G60 GF := f61.trans d61
    have d59 : Ex G59 GF := f60.trans d60
    have d58 : Ex G58 GF := f59.trans d59
    have d57 : Ex G57 GF := f58.trans d58
    have d56 : Ex G56 GF := f57.trans d57
    have d55 : Ex G55 GF := f56.trans d56
    have d54 : Ex G54 GF := f55.trans d55
    have d53 : Ex G53 GF := f54.trans d54
    have d52 : Ex G52 GF := f53.trans d53
    have d51 : Ex G51 GF := f52.trans d52
    have d50 : Ex G50 GF := f51.trans d51
    have d49 : Ex G49 GF := f50.trans d50
    have d48 : Ex G48 GF := f49.trans d49
    have d47 : Ex G47 GF := f48.trans d48
    have d46 : Ex G46 GF := f47.trans d47
    have d45 : Ex G45 GF := f46.trans d46
    have d44 : Ex G44 GF := f45.trans d45
    have d43 : Ex G43 GF := f44.trans d44
    have d42 : Ex G42 GF := f43.trans d43
    have d41 : Ex G41 GF := f42.trans d42
    have d40 : Ex G40 GF := f41.trans d41
    have d39 : Ex G39 GF := f40.trans d40
    have d38 : Ex G38 GF := f39.trans d39
    have d37 : Ex G37 GF := f38.trans d38
    have d36 : Ex G36 GF := f37.trans d37
    have d35 : Ex G35 GF := f36.trans d36
    have d34 : Ex G34 GF := f35.trans d35
    have d33 : Ex G33 GF := f34.trans d34
    have d32 : Ex G32 GF := f33.trans d33
    have d31 : Ex G31 GF := f32.trans d32
    have d30 : Ex G30 GF := f31.trans d31
    have d29 : Ex G29 GF := f30.trans d30
    have d28 : Ex G28 GF := f29.trans d29
    have d27 : Ex G27 GF := f28.trans d28
    have d26 : Ex G26 GF := f27.trans d27
    have d25 : Ex G25 GF := f26.trans d26
    have d24 : Ex G24 GF := f25.trans d25
    have d23 : Ex G23 GF := f24.trans d24
    have d22 : Ex G22 GF := f23.trans d23
    have d21 : Ex G21 GF := f22.trans d22
    have d20 : Ex G20 GF := f21.trans d21
    have d19 : Ex G19 GF := f20.trans d20
    have d18 : Ex G18 GF := f19.trans d19
    have d17 : Ex G17 GF := f18.trans d18
    have d16 : Ex G16 GF := f17.trans d17
    have d15 : Ex G15 GF := f16.trans d16
    have d14 : Ex G14 GF := f15.trans d15
    have d13 : Ex G13 GF := f14.trans d14
    have d12 : Ex G12 GF := f13.trans d13
    have d11 : Ex G11 GF := f12.trans d12
    have d10 : Ex G10 GF := f11.trans d11
    have d9 : Ex G9 GF := f10.trans d10
    have d8 : Ex G8 GF := f9.trans d9
    have d7 : Ex G7 GF := f8.trans d8
    have d6 : Ex G6 GF := f7.trans d7
    have d5 : Ex G5 GF := f6.trans d6
    have d4 : Ex G4 GF := f5.trans d5
    have d3 : Ex G3 GF := f4.trans d4
    have d2 : Ex G2 GF := f3.trans d3
    have d1 : Ex G1 GF := f2.trans d2
    have c_o15 : CaseOk M false GF (.ref o15) := by
      refine CaseOk.std (p := o3) (t := o14) (c := o13) (r := o8) (zs := [(o1, ⟨a, p, p + 1⟩), (o2, ⟨b, p + 1, p + 2⟩)]) (x := a + b + 1) (ns := [0, 1]) (ps := prS p (a) (b) n) (d15.get w15) (d3.get w3) (TTc (d1.get w1) (TTc (d2.get w2) TT0)) (by simp) (okC (by omega) (by omega) (okC (by omega) (by omega) ok0)) (d14.get w14) (d13.get w13) (d8.get w8) (by omega) (by simp) (by simp) (prS_small (by omega) (by omega)) (by rw [prS_len]; omega) ⟨fun h => (Bool.false_ne_true h).elim, fun ⟨h1, h2⟩ => ?_⟩
      · exfalso
        have h := (cho_at (cs := [0, 1]) h1).sum
        simp [wS] at h <;> omega
    have c_o23 : CaseOk M false GF (.ref o23) := by
      refine CaseOk.std (p := o10) (t := o22) (c := o16) (r := o21) (zs := [(o9, ⟨a, p, p + 1⟩)]) (x := a) (ns := [0]) (ps := prS p (a) (0) n ++ [0]) (d23.get w23) (d10.get w10) (TTc (d9.get w9) TT0) (by simp) (okC (by omega) (by omega) ok0) (d22.get w22) (d16.get w16) (d21.get w21) (by omega) (by simp) (by simp) (small_app (prS_small (by omega) (by omega)) (small1 (by omega))) (by rw [List.length_append, prS_len, List.length_singleton]; omega) ⟨fun h => (Bool.false_ne_true h).elim, fun ⟨h1, h2⟩ => ?_⟩
      · exfalso
        have h := h2.len
        simp only [List.length_append, prS_len, List.length_cons, List.length_nil] at h
        omega
    have c_o31 : CaseOk M false GF (.ref o31) := by
      refine CaseOk.std (p := o25) (t := o30) (c := o26) (r := o29) (zs := [(o24, ⟨a, m2, m2 + 1⟩)]) (x := a) (ns := [0]) (ps := us ++ [a]) (d31.get w31) (d25.get w25) (TTc (d24.get w24) TT0) (by simp) (okC (by omega) (by omega) ok0) (d30.get w30) (d26.get w26) (d29.get w29) (by omega) (by simp) (by simp) (small_app (small_rep (by assumption)) (small1 (by omega))) (by rw [List.length_append, List.length_singleton]; omega) ⟨fun h => (Bool.false_ne_true h).elim, fun ⟨h1, h2⟩ => ?_⟩
      · exfalso
        have h := h2.len
        simp only [List.length_append, prS_len, List.length_cons, List.length_nil] at h
        omega
    have c_o37 : CaseOk M false GF (.ref o37) := by
      refine CaseOk.std (p := o10) (t := o36) (c := o32) (r := o35) (zs := [(o9, ⟨a, p, p + 1⟩)]) (x := a) (ns := [0]) (ps := prS p (a + 1) ((-1)) n) (d37.get w37) (d10.get w10) (TTc (d9.get w9) TT0) (by simp) (okC (by omega) (by omega) ok0) (d36.get w36) (d32.get w32) (d35.get w35) (by omega) (by simp) (by simp) (prS_small (by omega) (by omega)) (by rw [prS_len]; omega) ⟨fun h => (Bool.false_ne_true h).elim, fun ⟨h1, h2⟩ => ?_⟩
      · exfalso
        have h := h2.pos (-1) (by simp [prS])
        omega
    have c_o43 : CaseOk M false GF (.ref o43) := by
      refine CaseOk.std (p := o10) (t := o42) (c := o38) (r := o41) (zs := [(o9, ⟨a, p, p + 1⟩)]) (x := a) (ns := [0]) (ps := prS p (0) (a) n) (d43.get w43) (d10.get w10) (TTc (d9.get w9) TT0) (by simp) (okC (by omega) (by omega) ok0) (d42.get w42) (d38.get w38) (d41.get w41) (by omega) (by simp) (by simp) (prS_small (by omega) (by omega)) (by rw [prS_len]; omega) ⟨fun h => (Bool.false_ne_true h).elim, fun ⟨h1, h2⟩ => ?_⟩
      · exfalso
        have h := h2.cov ⟨a, p, p + 1⟩ (by simp)
        rw [prS_seg (by dsimp only; omega)] at h
        simp at h <;> omega
    have c_o47 : CaseOk M false GF (.ref o47) := by
      refine CaseOk.std (p := o44) (t := o46) (c := o45) (r := o8) (zs := [(o1, ⟨a, p, p + 1⟩), (o2, ⟨b, p + 1, p + 2⟩), (o11, ⟨a + b + 1, p, p + 2⟩)]) (x := a + b) (ns := [0, 1]) (ps := prS p (a) (b) n) (d47.get w47) (d44.get w44) (TTc (d1.get w1) (TTc (d2.get w2) (TTc (d11.get w11) TT0))) (by simp) (okC (by omega) (by omega) (okC (by omega) (by omega) (okC (by omega) (by omega) ok0))) (d46.get w46) (d45.get w45) (d8.get w8) (by omega) (by simp) (by simp) (prS_small (by omega) (by omega)) (by rw [prS_len]; omega) ⟨fun h => (Bool.false_ne_true h).elim, fun ⟨h1, h2⟩ => ?_⟩
      · exfalso
        have h := h2.cov ⟨a + b + 1, p, p + 2⟩ (by simp)
        rw [prS_seg (by dsimp only; omega)] at h
        simp at h <;> omega
    have c_o51 : CaseOk M false GF (.ref o51) := by
      refine CaseOk.std (p := o48) (t := o50) (c := o49) (r := o8) (zs := [(o11, ⟨a + b + 1, p, p + 2⟩), (o1, ⟨a, p, p + 1⟩), (o2, ⟨b, p + 1, p + 2⟩)]) (x := a + b) (ns := [1, 2]) (ps := prS p (a) (b) n) (d51.get w51) (d48.get w48) (TTc (d11.get w11) (TTc (d1.get w1) (TTc (d2.get w2) TT0))) (by simp) (okC (by omega) (by omega) (okC (by omega) (by omega) (okC (by omega) (by omega) ok0))) (d50.get w50) (d49.get w49) (d8.get w8) (by omega) (by simp) (by simp) (prS_small (by omega) (by omega)) (by rw [prS_len]; omega) ⟨fun h => (Bool.false_ne_true h).elim, fun ⟨h1, h2⟩ => ?_⟩
      · exfalso
        have h := h2.cov ⟨a + b + 1, p, p + 2⟩ (by simp)
        rw [prS_seg (by dsimp only; omega)] at h
        simp at h <;> omega
    have c_o57 : CaseOk M false GF (.ref o57) := by
      refine CaseOk.std (p := o10) (t := o56) (c := o52) (r := o55) (zs := [(o9, ⟨a, p, p + 1⟩)]) (x := a) (ns := [0]) (ps := prS p (a) (1) n) (d57.get w57) (d10.get w10) (TTc (d9.get w9) TT0) (by simp) (okC (by omega) (by omega) ok0) (d56.get w56) (d52.get w52) (d55.get w55) (by omega) (by simp) (by simp) (prS_small (by omega) (by omega)) (by rw [prS_len]; omega) ⟨fun h => (Bool.false_ne_true h).elim, fun ⟨h1, h2⟩ => ?_⟩
      · exfalso
        have h := h2.sum
        simp only [List.sum_append, prS_sum, husz, husz1, List.sum_cons, List.sum_nil] at h
        omega
    have c_o64 : CaseOk M false GF (.ref o64) := by
      refine CaseOk.std (p := o58) (t := o63) (c := o59) (r := o62) (zs := []) (x := 0) (ns := []) (ps := us1 ++ [1]) (d64.get w64) (d58.get w58) TT0 (by simp) ok0 (d63.get w63) (d59.get w59) (d62.get w62) (by omega) (by simp) (by simp) (small_app (small_rep (by assumption)) (small1 (by omega))) (by rw [List.length_append, List.length_singleton]; omega) ⟨fun h => (Bool.false_ne_true h).elim, fun ⟨h1, h2⟩ => ?_⟩
      · exfalso
        have h := h2.sum
        simp only [List.sum_append, prS_sum, husz, husz1, List.sum_cons, List.sum_nil] at h
        omega
    exact k o65 _ GF (f1.trans d1) w65 (by simp) (.cons c_o15 (.cons c_o23 (.cons c_o31 (.cons c_o37 (.cons c_o43 (.cons c_o47 (.cons c_o51 (.cons c_o57 (.cons c_o64 .nil)))))))))
def sp__law_asked : Sp := fun vs H Q _ => ∃ (M : Nat) (p : Addr) (zs : List TZ) (t : V) (e : PyData) (due : Bool), vs = [.int (M : Nat), .ref p, t, .bl due] ∧ M ≤ 24 ∧ H p = some (.lst (zs.map tV)) ∧ TT H zs ∧ zs.length ≤ 400 ∧ (∀ z ∈ zs, SpOk M z.2) ∧ Rn H t e ∧ (∃ n k, Sh H t e n k ∧ n ≤ 16777216 ∧ k ≤ 60) ∧ (due = true ↔ ShowsA M (zs.map (·.2)) e) ∧ ∀ H', Ex H H' → Q (.bl true) H'
theorem ok__law_asked (T : Tx K mg ad fd tk) : FnG P w K mg base CX0 6 (ad 14) (fd 14) ["_law_many", "_law_spans", "_law_thing", "_law_due"] sp__law_asked := by
  refine okG T.d__law_asked.F sc__law_asked (fun vs H Q E h => ?_) (fun cdv A outer s H vs Q E hg hr h => ?_)
  · obtain ⟨M, p, zs, t, e, due, rfl, _⟩ := h
    rfl
  · obtain ⟨M, p, zs, t, e, due, rfl, hM, hp, htt, hl, hok, ht, hsh, hdue, k⟩ := h
    refine ⟨_, (pss_cons (ps_set (i := 4) sc__law_asked.nd rfl (Or.inl rfl) (pe_callTy (c_list rfl (K := K)) (by rfl) T.b_list (by decide +kernel) (pa_cons (pv 1) pa_nil)))
      (pss_cons (ps_set (i := 5) sc__law_asked.nd rfl (Or.inl rfl) (pe_callB (c_repr hg hr.units) (by rfl) T.b_repr (by decide +kernel) (pa_cons (pv 2) pa_nil)))
      (pss_cons (ps_set (i := 6) sc__law_asked.nd rfl (Or.inl rfl) (pe_call (ok_shows_apart T) (hr.mono (by decide)) rfl T.d_shows_apart.g T.d_shows_apart.F.kp T.d_shows_apart.b .nil passL (pa_cons (pv 0) (pa_cons (pv 4) (pa_cons (pv 2) pa_nil)))))
      (pss_cons (ps_if (PW.pt (pw_or (pt_not (pt_val (pe_callB c_is (by rfl) T.b_isinstance (by decide +kernel) (pa_cons (pv 6) (pa_cons (pe_bltn (v := .ty "bool") rfl T.b_bool (by decide +kernel) rfl) pa_nil))))) (pw_or (pt_cmpR (o_ne hr.units) (pv 6) (pv 3) (nomark _)) (pw_or (pt_cmpR (o_ne hr.units) (pv 4) (pv 1) (nomark _)) (pw_or1 (pt_cmpR (o_ne hr.units) (pe_callB (c_repr hg hr.units) (by rfl) T.b_repr (by decide +kernel) (pa_cons (pv 2) pa_nil)) (pv 5) (nomark _))))))) (pss_one (ps_ret pe_bl)) pss_nil)
      (pss_one (ps_ret (pe_cmpR (o_eq hr.units) (pe_call (ok_shows_apart T) (hr.mono (by decide)) rfl T.d_shows_apart.g T.d_shows_apart.F.kp T.d_shows_apart.b .nil passL (pa_cons (pv 0) (pa_cons (pv 4) (pa_cons (pv 2) pa_nil)))) (pv 3) (nomark _)))))))), ?_⟩
    obtain ⟨n, kk, hsh, hn, hkk⟩ := hsh
    have hsh := hsh.up hn hkk
    have hgood : GoodSpans M (.list ((zs.map (·.2)).map encS)) := ⟨zs.map (·.2), rfl, by rw [List.length_map]; exact hl, fun z hz => by
      obtain ⟨y, hy, rfl⟩ := List.mem_map.mp hz
      exact hok y hy⟩
    walk_at "go"
    rename_i q1 H1 n1 e1 v1
    have ht1 := ht.ex e1
    have hp1 := e1.get hp
    have tt1 := htt.ex e1
    refine st_reprS (hsh.ex e1) ?_
    walk_at "go"
    have rnL : ∀ {H : Hp} {a : Addr}, TT H zs → H a = some (.lst (zs.map tV)) → Rn H (.ref a) (.list ((zs.map (·.2)).map encS)) := fun h h2 => by
      have := h.rnL h2
      rw [List.map_map]
      exact this
    refine ⟨_, _, t, _, e, rfl, ⟨_, rfl⟩, rnL tt1 v1, ht1, fun h => ?_, fun M' hM' _ => ⟨fun _ b1 H2 e2 hb1 => ?_, fun h => ?_⟩⟩
    · simp [withinV] at h
      omega
    rotate_left
    · have : M' = M := by
        have := V.int.inj hM'
        omega
      subst this
      exact absurd hgood h
    have : M' = M := by
      have := V.int.inj hM'
      omega
    subst this
    have hb := hb1 _ rfl
    have : b1 = due := by rw [Bool.eq_iff_iff, hb, hdue]
    subst this
    have hp2 := e2.get hp1
    have v12 := e2.get v1
    have tt2 := tt1.ex e2
    walk_at "go"
    rw [show (!(b1 == b1)) = false by cases b1 <;> rfl]
    walk_at "go"
    refine st_neD (tt2.rpL v12) (tt2.rpL hp2) (by have := ss_depth zs; omega) ?_
    rw [eqv_ss, decide_eq_true rfl, Bool.not_true]
    walk_at "go"
    refine st_reprS ((hsh.ex e1).ex e2) ?_
    walk_at "go"
    refine st_F (by simp) ?_
    walk_at "go"
    refine ⟨_, _, t, _, e, rfl, ⟨_, rfl⟩, rnL tt2 v12, ht1.ex e2, fun h => ?_, fun M'' hM'' _ => ⟨fun _ b2 H3 e3 hb2 => ?_, fun h => ?_⟩⟩
    · simp [withinV] at h
      omega
    rotate_left
    · have : M'' = M' := by
        have := V.int.inj hM''
        omega
      subst this
      exact absurd hgood h
    have : M'' = M' := by
      have := V.int.inj hM''
      omega
    subst this
    have hb := hb2 _ rfl
    have : b2 = b1 := by rw [Bool.eq_iff_iff, hb, hdue]
    subst this
    walk_at "go"
    rw [show (b2 == b2) = true by cases b2 <;> rfl]
    exact k _ ((e1.trans e2).trans e3)
def sp__law_refused (K : PySem.W.Frag) : Sp := fun vs H Q _ => ∃ (m v due : V) (pl : Bool) (dr : Int) (d dd : PyData), vs = [m, v, due, .bl pl, .int dr] ∧ Ty H m ∧ Rn H v d ∧ Ty H due ∧
  Rn H due dd ∧ (dd.hasDict = true → dd = .dict []) ∧ dd.depth ≤ 64 ∧ True ∧
  ((pl = true ∧ due = m ∧ withinV m 0 24 = false) ∨ (pl = false ∧ due = v ∧ ∃ M : Nat, m = .int (M : Nat) ∧ M ≤ 24 ∧ ¬ GoodSpans M d)) ∧ ∀ H', Ex H H' → Q (.bl true) H'
theorem ok__law_refused (T : Tx K mg ad fd tk) : FnOk P w K mg base CX0 6 (ad 15) (fd 15) ["_law_many", "_law_spans", "_law_due", "_law_place", "_law_door"] (sp__law_refused K) := by
  refine T.d__law_refused.F.ok sc__law_refused (fun vs H Q E h => ?_) (fun cdv A outer s H vs Q E hr h => ?_)
  · obtain ⟨m, v, due, pl, dr, d, dd, rfl, _⟩ := h
    rfl
  · obtain ⟨m, v, due, pl, dr, d, dd, rfl, hm, hv, hdr, hdue, hrn, hdd, hdp, hc, k⟩ := h
    refine ⟨_, (pss_cons (ps_tryG rfl rfl takes0 (fun W pn xe tk hp => (pss_one (ps_if (pt_cmpR (o_eq hr.units) (pv 4) pe_int (nomark _)) (pss_one (ps_expr (pe_callS (E := WE W) (ok_apart T) (hr.mono (by decide)) rfl T.d_apart.g T.d_apart.F.kp T.d_apart.b (fun σ => passAt tk σ) (pa_cons (pv 0) (pa_cons (pv 1) pa_nil))))) (pss_one (ps_expr (pe_callS (E := WE W) (ok_shows_apart T) (hr.mono (by decide)) rfl T.d_shows_apart.g T.d_shows_apart.F.kp T.d_shows_apart.b (fun σ => passAt tk σ) (pa_cons (pv 0) (pa_cons (pv 1) (pa_cons (pe_tup (pa_cons pe_int (pa_cons (pe_lst pa_nil) (pa_cons (pe_lst pa_nil) pa_nil)))) pa_nil)))))))))
      (.named (i := 5) sc__law_refused.nd rfl rfl ⟨rfl, by decide, Or.inl T.e_NoPlace.g⟩ (fun a oe cls d pn hz hf => (pss_cons (ps_if (PW.pt (pw_or (pt_not (pt_tru (pv 3) (by intro _; rfl) (K := K))) (pw_or (pt_val (pe_callB (call_isX hz hf) (by rfl) T.b_isinstance (by decide +kernel) (pa_cons (pv 5) (pa_cons (pe_glob (v := .ref (clsA K "NoStretches")) rfl T.e_NoStretches.g rfl) pa_nil)))) (pw_or1 (pt_not (pt_val (pe_callB (call_isX hz hf) (by rfl) T.b_isinstance (by decide +kernel) (pa_cons (pv 5) (pa_cons (pe_glob (v := .ref (clsA K "PaneError")) rfl T.e_PaneError.g rfl) pa_nil))))))))) (pss_one (ps_ret pe_bl)) pss_nil)
      (pss_one (ps_ret (pe_and (pe_cmpR (o_eqA (K := K) hr.units) (pe_xe hz hf (pv 5)) (pv 2) (nomark _)) (pe_one (pe_cmpR (o_eq hr.units) (pe_callB c_is (by rfl) T.b_isinstance (by decide +kernel) (pa_cons (pe_xe hz hf (pv 5)) (pa_cons (pe_bltn (v := .ty "bool") rfl T.b_bool (by decide +kernel) rfl) pa_nil))) (pe_callB c_is (by rfl) T.b_isinstance (by decide +kernel) (pa_cons (pv 2) (pa_cons (pe_bltn (v := .ty "bool") rfl T.b_bool (by decide +kernel) rfl) pa_nil))) (nomark _)))))))) (.named (i := 5) sc__law_refused.nd rfl rfl ⟨rfl, by decide, Or.inl T.e_NoStretches.g⟩ (fun a oe cls d pn hz hf => (pss_one (ps_ret (pe_and (pe_not (pv 3)) (pe_and (pe_callB (call_isX hz hf) (by rfl) T.b_isinstance (by decide +kernel) (pa_cons (pv 5) (pa_cons (pe_glob (v := .ref (clsA K "PaneError")) rfl T.e_PaneError.g rfl) pa_nil))) (pe_and (pe_callB (call_isX hz hf) (by rfl) T.b_isinstance (by decide +kernel) (pa_cons (pv 5) (pa_cons (pe_bltn (v := .ty "ValueError") rfl T.b_ValueError (by decide +kernel) rfl) pa_nil))) (pe_one (pe_cmpR (o_eqA (K := K) hr.units) (pe_xe hz hf (pv 5)) (pv 2) (nomark _))))))))) .nil)) pss_nil)
      (pss_one (ps_ret pe_bl))), ?_⟩
    rcases hc with ⟨rfl, rfl, hw⟩ | ⟨rfl, rfl, M, rfl, hM, hng⟩
    · walk_at "go"
      refine st_br (fun c => ?_) (fun c => ?_)
      · walk_at "go"
        refine ⟨_, v, d, rfl, hm, hv, fun _ x H1 hx e1 hvx => ?_, fun M hM hM2 => ?_⟩
        · walk_at "go"
          refine st_eqSelf (hdue.ex e1) hrn hdd ?_
          walk_at "go"
          refine st_isBoolT (hdue.ex e1).rq.ty ?_
          walk_at "go"
          refine st_isBoolT (hdue.ex e1).rq.ty ?_
          walk_at "go"
          rw [show (isBoolV due == isBoolV due) = true by cases isBoolV due <;> rfl]
          exact k _ (e1)
        · subst hM
          simp [withinV] at hw
          omega
      · walk_at "go"
        rename_i qa Ha na ea va qb Hb nb eb vb qc Hc nc ec vc
        have eac := (ea.trans eb).trans ec
        refine ⟨_, v, _, d, _, rfl, hdr.ex eac, hv.ex eac, .tup vc (.cons (.int _) (.cons (.lst (ec.get (eb.get va)) .nil) (.cons (.lst (ec.get vb) .nil) .nil))), fun _ x H1 hx e1' hvx => ?_, fun M hM hM2 => ?_⟩
        · have e1 := eac.trans e1'
          walk_at "go"
          refine st_eqSelf (hdue.ex e1) hrn hdd ?_
          walk_at "go"
          refine st_isBoolT (hdue.ex e1).rq.ty ?_
          walk_at "go"
          refine st_isBoolT (hdue.ex e1).rq.ty ?_
          walk_at "go"
          rw [show (isBoolV due == isBoolV due) = true by cases isBoolV due <;> rfl]
          exact k _ (e1)
        · subst hM
          simp [withinV] at hw
          omega
    · walk_at "go"
      have hw : withinV (.int (M : Nat)) 0 24 = true := by simp [withinV]; omega
      refine st_br (fun c => ?_) (fun c => ?_)
      · walk_at "go"
        refine ⟨_, _, d, rfl, hm, hv, fun h => by (rw [hw] at h; cases h), fun M' hM' hM2 => ?_⟩
        have : M' = M := by
          have := V.int.inj hM'
          omega
        subst this
        refine ⟨fun _ x H1 hx e1 hvx => ?_, fun h => absurd h hng⟩
        walk_at "go"
        refine st_eqSelf (hdue.ex e1) hrn hdd ?_
        walk_at "go"
        exact k _ e1
      · walk_at "go"
        rename_i qa Ha na ea va qb Hb nb eb vb qc Hc nc ec vc
        have eac := (ea.trans eb).trans ec
        refine ⟨_, _, _, d, _, rfl, ⟨_, rfl⟩, hv.ex eac, .tup vc (.cons (.int _) (.cons (.lst (ec.get (eb.get va)) .nil) (.cons (.lst (ec.get vb) .nil) .nil))), fun h => by (rw [hw] at h; cases h), fun M' hM' hM2 => ?_⟩
        have : M' = M := by
          have := V.int.inj hM'
          omega
        subst this
        refine ⟨fun h => absurd h hng, fun _ x H1 hx e1' hvx => ?_⟩
        have e1 := eac.trans e1'
        walk_at "go"
        refine st_eqSelf (hdue.ex e1) hrn hdd ?_
        walk_at "go"
        exact k _ e1
/-- a list that is being filled at D: what stands in it keeps apart from it -/
structure ToL (P : Hp → V → Prop) (D : Addr) (B H : Hp) (ls : List V) : Prop where
  at_ : H D = some (.lst ls)
  ex : Ex B (hid D H)
  cs : ∀ x ∈ ls, P (hid D H) x
theorem hidUpd {D : Addr} {H : Hp} {o : HO} : hid D (upd H D o) = hid D H := by
  funext b
  unfold hid
  by_cases h : b = D
  · rw [if_pos h, if_pos h]
  · rw [if_neg h, if_neg h, upd_ne h]
theorem hidEx {D : Addr} {H H' : Hp} (e : Ex H H') : Ex (hid D H) (hid D H') := hid_frp (Fr.ex e)
section
variable {P : Hp → V → Prop} {D : Addr} {B H H' : Hp} {ls : List V}
theorem ToL.go (hP : ∀ H H' x, P H x → Ex H H' → P H' x) (h : ToL P D B H ls) (e : Ex H H') : ToL P D B H' ls := ⟨e.get h.at_, h.ex.trans (hidEx e), fun x hx => hP _ _ _ (h.cs x hx) (hidEx e)⟩
theorem ToL.put {x : V} (h : ToL P D B H ls) (hx : P (hid D H) x) : ToL P D B (upd H D (.lst (ls ++ [x]))) (ls ++ [x]) :=
  ⟨upd_same, by rw [hidUpd]; exact h.ex, by rw [hidUpd]; exact allE_app h.cs (allE_cons hx allE_nil)⟩
theorem ToL.new {q : Addr} {o : HO} (h : ToL P D B H ls) (hq : H q = none) (hv : H' q = some o) : hid D H' q = some o := hid_get hv fun e => by rw [e, h.at_] at hq; cases hq
theorem ToL.out (hP : ∀ H H' x, P H x → Ex H H' → P H' x) (h : ToL P D B H ls) : ∀ x ∈ ls, P H x := fun x hx => hP _ _ _ (h.cs x hx) (hid_ex D H)
theorem ToL.mk0 {D : Addr} {H0 H : Hp} {ls : List V} (e : Ex H0 H) (hD : H0 D = none) (h : H D = some (.lst ls)) (hx : ∀ x ∈ ls, P (hid D H) x) : ToL P D H0 H ls := ⟨h, fun b o _ q => hid_get (e.get q) (fun z => by rw [z, hD] at q; cases q), hx⟩
end
def NoGood (M : Nat) (H : Hp) (x : V) : Prop := ∃ d, Rn H x d ∧ (d.hasDict = true → d = .dict []) ∧ d.depth ≤ 64 ∧ ¬ GoodSpans M d
theorem NoGood.ex {M : Nat} {H H' : Hp} {x : V} (h : NoGood M H x) (e : Ex H H') : NoGood M H' x := by
  obtain ⟨d, h1, h2, h3, h4⟩ := h
  exact ⟨d, h1.ex e, h2, h3, h4⟩
def NoSp (M : Nat) (H : Hp) (x : V) : Prop := ∃ d, Rn H x d ∧ d.hasDict = false ∧ d.depth ≤ 8 ∧ ¬ WorthyD M d
theorem NoSp.ex {M : Nat} {H H' : Hp} {x : V} (h : NoSp M H x) (e : Ex H H') : NoSp M H' x := by
  obtain ⟨d, h1, h2, h3, h4⟩ := h
  exact ⟨d, h1.ex e, h2, h3, h4⟩
theorem noGood_mid {M : Nat} {xs ys : List PyData} {d : PyData} (h : ¬ WorthyD M d) : ¬ GoodSpans M (.list (xs ++ [d] ++ ys)) := by
  rintro ⟨l, e, _, h2⟩
  injection e with e
  have : d ∈ l.map encS := by rw [← e]; simp
  obtain ⟨z, hz, rfl⟩ := List.mem_map.mp this
  exact h ⟨z, rfl, h2 z hz⟩
theorem noGood_kind {M : Nat} {d : PyData} (h : isListD d = false) : ¬ GoodSpans M d := by
  rintro ⟨l, rfl, _⟩
  cases h
theorem noSp_app {H : Hp} {xs ys : List V} {ds es : List PyData} (h : RnA H xs ds) (k : RnA H ys es) : RnA H (xs ++ ys) (ds ++ es) := by
  induction h using RnA.rec (motive_1 := fun _ _ _ => True) with
  | nil => exact k
  | cons a _ _ ih => exact .cons a ih
  | _ => trivial
def sp__law_bad : Sp := fun vs H Q _ => ∃ (M : Nat) (p : Addr) (zs : List TZ) (far : Int), vs = [.int (M : Nat), .ref p, .int far] ∧ (2 ≤ M ∧ M ≤ 24) ∧ H p = some (.lst (zs.map tV)) ∧ TT H zs ∧ zs.length ≤ 63 ∧ (∀ z ∈ zs, SpOk M z.2) ∧ 1000000 < far ∧ ∀ (q : Addr) (ls : List V) H', Ex H H' → H' q = some (.lst ls) → (∀ x ∈ ls, NoGood M H' x) → Q (.ref q) H'
theorem ok__law_bad (T : Tx K mg ad fd tk) : FnOk P w K mg base CX0 1 (ad 16) (fd 16) ["_law_many", "_law_spans", "_law_far"] sp__law_bad := by
  refine T.d__law_bad.F.ok sc__law_bad (fun vs H Q E h => ?_) (fun cdv A outer s H vs Q E hr h => ?_)
  · obtain ⟨M, p, zs, far, rfl, _⟩ := h
    rfl
  · obtain ⟨M, p, zs, far, rfl, hM, hp, htt, hl, hok, hfar, k⟩ := h
    refine ⟨_, (pss_cons (ps_set (i := 3) sc__law_bad.nd rfl (Or.inl rfl) (pe_lst (pa_cons (pe_tup (pa_cons pe_int (pa_cons pe_int (pa_cons pe_int pa_nil)))) (pa_cons (pe_tup (pa_cons pe_int (pa_cons pe_int (pa_cons pe_int pa_nil)))) (pa_cons (pe_tup (pa_cons pe_int (pa_cons (pe_un un_neg pe_int) (pa_cons pe_int pa_nil)))) (pa_cons (pe_tup (pa_cons pe_int (pa_cons pe_int (pa_cons pe_int pa_nil)))) (pa_cons (pe_tup (pa_cons pe_int (pa_cons pe_int (pa_cons (pe_op o_add (pv 0) pe_int) pa_nil)))) (pa_cons (pe_tup (pa_cons pe_int (pa_cons pe_int (pa_cons pe_int pa_nil)))) (pa_cons (pe_tup (pa_cons pe_bl (pa_cons pe_int (pa_cons pe_int pa_nil)))) (pa_cons (pe_tup (pa_cons pe_int (pa_cons pe_bl (pa_cons pe_int pa_nil)))) pa_nil))))))))))
      (pss_cons (ps_set (i := 3) sc__law_bad.nd rfl (Or.inl rfl) (pe_op o_add (pv 3) (pe_lst (pa_cons (pe_tup (pa_cons pe_int (pa_cons pe_int (pa_cons pe_bl pa_nil)))) (pa_cons (pe_lst (pa_cons pe_int (pa_cons pe_int (pa_cons pe_int pa_nil)))) (pa_cons (pe_tup (pa_cons pe_int (pa_cons pe_int pa_nil))) (pa_cons (pe_tup (pa_cons pe_int (pa_cons pe_int (pa_cons pe_int (pa_cons pe_int pa_nil))))) (pa_cons (pe_tup (pa_cons (pv 2) (pa_cons pe_int (pa_cons pe_int pa_nil)))) (pa_cons (pe_tup (pa_cons pe_int (pa_cons pe_int (pa_cons (pv 2) pa_nil)))) (pa_cons (pe_tup (pa_cons pe_int (pa_cons pe_non (pa_cons pe_int pa_nil)))) (pa_cons pe_str (pa_cons pe_non (pa_cons pe_int pa_nil)))))))))))))
      (pss_cons (ps_set (i := 3) sc__law_bad.nd rfl (Or.inl rfl) (pe_op o_add (pv 3) (pe_lst (pa_cons (pe_tup (pa_cons pe_non (pa_cons pe_int (pa_cons pe_int pa_nil)))) (pa_cons (pe_tup (pa_cons pe_str (pa_cons pe_int (pa_cons pe_int pa_nil)))) (pa_cons (pe_tup (pa_cons pe_int (pa_cons pe_int (pa_cons pe_non pa_nil)))) (pa_cons (pe_tup (pa_cons pe_int (pa_cons pe_int (pa_cons pe_str pa_nil)))) (pa_cons (pe_tup (pa_cons pe_int (pa_cons pe_str (pa_cons pe_int pa_nil)))) (pa_cons (pe_tup (pa_cons (pe_lst (pa_cons pe_int pa_nil)) (pa_cons pe_int (pa_cons pe_int pa_nil)))) (pa_cons (pe_tup pa_nil) pa_nil))))))))))
      (pss_cons (ps_set (i := 4) sc__law_bad.nd rfl (Or.inl rfl) (pe_lst (pa_cons (pe_callTy (c_tuple rfl (K := K)) (by rfl) T.b_tuple (by decide +kernel) (pa_cons (pv 1) pa_nil)) (pa_cons pe_non (pa_cons pe_dnewK (pa_cons pe_int (pa_cons (pe_lc (own := [("_law_k", 5)]) (g := gName 5) rfl sc__law_bad.nd (pi_range1 rfl T.b_range (pa_cons pe_int pa_nil)) (blkOk_by (own := [("_law_k", 5)]) (N := N__law_bad) (sc := defScope s__law_bad) (by decide +kernel)) (fun _ _ _ _ _ => pg_name (i := 5) sc__law_bad.nd rfl (Or.inl rfl)) (fun _ _ _ _ _ => pts_nil) (fun _ _ _ _ _ => (pe_tup (pa_cons pe_int (pa_cons pe_int (pa_cons pe_int pa_nil)))))) (pa_cons pe_bl pa_nil))))))))
      (pss_cons (ps_for PassesOwn.never rfl (pi_range1 rfl T.b_range (pa_cons (pe_callB (c_len (K := K)) (by rfl) T.b_len (by decide +kernel) (pa_cons (pv 3) pa_nil)) pa_nil)) (pg_name (i := 5) sc__law_bad.nd rfl (Or.inl rfl)) (pss_cons (ps_set (i := 6) sc__law_bad.nd rfl (Or.inl rfl) (pe_op o_mod (pe_op o_mul (pv 5) pe_int) (pe_op o_add (pe_callB (c_len (K := K)) (by rfl) T.b_len (by decide +kernel) (pa_cons (pv 1) pa_nil)) pe_int)))
      (pss_one (ps_expr (pe_bm PySem.F.plainAttrs_list PySem.F.slot_list_append PySem.F.type_list_append mt_append (pv 4) (pa_cons (pe_op o_add (pe_op o_add (pe_slice (s_sl (K := K)) (pv 1) po_none (po_some (pv 6))) (pe_lst (pa_cons (pe_ix (i_ix (K := K)) (pv 3) (pv 5) (fun _ _ => rfl)) pa_nil))) (pe_slice (s_sl (K := K)) (pv 1) (po_some (pv 6)) po_none)) pa_nil))))))
      (pss_one (ps_ret (pv 4)))))))), ?_⟩
    walk_at "go"
    rename_i t1 G1 n1 f1 w1 t2 G2 n2 f2 w2 t3 G3 n3 f3 w3 t4 G4 n4 f4 w4 t5 G5 n5 f5 w5 t6 G6 n6 f6 w6 t7 G7 n7 f7 w7 t8 G8 n8 f8 w8 lA G9 n9 f9 w9 t9 G10 n10 f10 w10 t10 G11 n11 f11 w11 t11 G12 n12 f12 w12 t12 G13 n13 f13 w13 t13 G14 n14 f14 w14 t14 G15 n15 f15 w15 t15 G16 n16 f16 w16 lB G17 n17 f17 w17 lC G18 n18 f18 w18 t16 G19 n19 f19 w19 t17 G20 n20 f20 w20 t18 G21 n21 f21 w21 t19 G22 n22 f22 w22 t20 G23 n23 f23 w23 u21 G24 n24 f24 w24 t21 G25 n25 f25 w25 t22 G26 n26 f26 w26 lD G27 n27 f27 w27 lE G28 n28 f28 w28 tS G29 n29 f29 w29 dE G30 n30 f30 w30
    have d30 : Ex G30 G30 := Fr.refl _
    have d29 : Ex G29 G30 := f30.trans d30
    have d28 : Ex G28 G30 := f29.trans d29
    have d27 : Ex G27 G30 := f28.trans d28
    have d26 : Ex G26 G30 := f27.trans d27
    have d25 : Ex G25 G30 := f26.trans d26
    have d24 : Ex G24 G30 := f25.trans d25
    have d23 : Ex G23 G30 := f24.trans d24
    have d22 : Ex G22 G30 := f23.trans d23
    have d21 : Ex G21 G30 := f22.trans d22
    have d20 : Ex G20 G30 := f21.trans d21
    have d19 : Ex G19 G30 := f20.trans d20
    have d18 : Ex G18 G30 := f19.trans d19
    have d17 : Ex G17 G30 := f18.trans d18
    have d16 : Ex G16 G30 := f17.trans d17
    have d15 : Ex G15 G30 := f16.trans d16
    have d14 : Ex G14 G30 := f15.trans d15
    have d13 : Ex G13 G30 := f14.trans d14
    have d12 : Ex G12 G30 := f13.trans d13
    have d11 : Ex G11 G30 := f12.trans d12
    have d10 : Ex G10 G30 := f11.trans d11
    have d9 : Ex G9 G30 := f10.trans d10
    have d8 : Ex G8 G30 := f9.trans d9
    have d7 : Ex G7 G30 := f8.trans d8
    have d6 : Ex G6 G30 := f7.trans d7
    have d5 : Ex G5 G30 := f6.trans d6
    have d4 : Ex G4 G30 := f5.trans d5
    have d3 : Ex G3 G30 := f4.trans d4
    have d2 : Ex G2 G30 := f3.trans d3
    have d1 : Ex G1 G30 := f2.trans d2
    have vE := (d28.get w28)
    generalize hbs : ([V.ref t1, V.ref t2, V.ref t3, V.ref t4, V.ref t5, V.ref t6, V.ref t7, V.ref t8] ++ [V.ref t9, V.ref t10, V.ref t11, V.ref t12, V.ref t13, V.ref t14, V.ref t15, V.str "abc", V.non, V.int 6] ++ [V.ref t16, V.ref t17, V.ref t18, V.ref t19, V.ref t20, V.ref t21, V.ref t22]) = bs at vE
    have lbs : bs.length = 25 := by rw [← hbs]; rfl
    have bad : ∀ x ∈ bs, NoSp M G30 x := by
      rw [← hbs]
      refine allE_cons ⟨_, .tup (d1.get w1) (.cons (.int _) (.cons (.int _) (.cons (.int _) .nil))), by simp [PyData.hasDict, PyData.hasDictAll], by simp [PyData.depth, PyData.depthAll], (by rintro ⟨z, e, ok⟩; simp [encS] at e <;> (have := ok.w1; have := ok.w2; have := ok.be; have := ok.eM; omega))⟩ ?_
      refine allE_cons ⟨_, .tup (d2.get w2) (.cons (.int _) (.cons (.int _) (.cons (.int _) .nil))), by simp [PyData.hasDict, PyData.hasDictAll], by simp [PyData.depth, PyData.depthAll], (by rintro ⟨z, e, ok⟩; simp [encS] at e <;> (have := ok.w1; have := ok.w2; have := ok.be; have := ok.eM; omega))⟩ ?_
      refine allE_cons ⟨_, .tup (d3.get w3) (.cons (.int _) (.cons (.int _) (.cons (.int _) .nil))), by simp [PyData.hasDict, PyData.hasDictAll], by simp [PyData.depth, PyData.depthAll], (by rintro ⟨z, e, ok⟩; simp [encS] at e <;> (have := ok.w1; have := ok.w2; have := ok.be; have := ok.eM; omega))⟩ ?_
      refine allE_cons ⟨_, .tup (d4.get w4) (.cons (.int _) (.cons (.int _) (.cons (.int _) .nil))), by simp [PyData.hasDict, PyData.hasDictAll], by simp [PyData.depth, PyData.depthAll], (by rintro ⟨z, e, ok⟩; simp [encS] at e <;> (have := ok.w1; have := ok.w2; have := ok.be; have := ok.eM; omega))⟩ ?_
      refine allE_cons ⟨_, .tup (d5.get w5) (.cons (.int _) (.cons (.int _) (.cons (.int _) .nil))), by simp [PyData.hasDict, PyData.hasDictAll], by simp [PyData.depth, PyData.depthAll], (by rintro ⟨z, e, ok⟩; simp [encS] at e <;> (have := ok.w1; have := ok.w2; have := ok.be; have := ok.eM; omega))⟩ ?_
      refine allE_cons ⟨_, .tup (d6.get w6) (.cons (.int _) (.cons (.int _) (.cons (.int _) .nil))), by simp [PyData.hasDict, PyData.hasDictAll], by simp [PyData.depth, PyData.depthAll], (by rintro ⟨z, e, ok⟩; simp [encS] at e <;> (have := ok.w1; have := ok.w2; have := ok.be; have := ok.eM; omega))⟩ ?_
      refine allE_cons ⟨_, .tup (d7.get w7) (.cons (.bl _) (.cons (.int _) (.cons (.int _) .nil))), by simp [PyData.hasDict, PyData.hasDictAll], by simp [PyData.depth, PyData.depthAll], (by rintro ⟨z, e, ok⟩; simp [encS] at e <;> (have := ok.w1; have := ok.w2; have := ok.be; have := ok.eM; omega))⟩ ?_
      refine allE_cons ⟨_, .tup (d8.get w8) (.cons (.int _) (.cons (.bl _) (.cons (.int _) .nil))), by simp [PyData.hasDict, PyData.hasDictAll], by simp [PyData.depth, PyData.depthAll], (by rintro ⟨z, e, ok⟩; simp [encS] at e <;> (have := ok.w1; have := ok.w2; have := ok.be; have := ok.eM; omega))⟩ ?_
      refine allE_cons ⟨_, .tup (d10.get w10) (.cons (.int _) (.cons (.int _) (.cons (.bl _) .nil))), by simp [PyData.hasDict, PyData.hasDictAll], by simp [PyData.depth, PyData.depthAll], (by rintro ⟨z, e, ok⟩; simp [encS] at e <;> (have := ok.w1; have := ok.w2; have := ok.be; have := ok.eM; omega))⟩ ?_
      refine allE_cons ⟨_, .lst (d11.get w11) (.cons (.int _) (.cons (.int _) (.cons (.int _) .nil))), by simp [PyData.hasDict, PyData.hasDictAll], by simp [PyData.depth, PyData.depthAll], (by rintro ⟨z, e, ok⟩; simp [encS] at e <;> (have := ok.w1; have := ok.w2; have := ok.be; have := ok.eM; omega))⟩ ?_
      refine allE_cons ⟨_, .tup (d12.get w12) (.cons (.int _) (.cons (.int _) .nil)), by simp [PyData.hasDict, PyData.hasDictAll], by simp [PyData.depth, PyData.depthAll], (by rintro ⟨z, e, ok⟩; simp [encS] at e <;> (have := ok.w1; have := ok.w2; have := ok.be; have := ok.eM; omega))⟩ ?_
      refine allE_cons ⟨_, .tup (d13.get w13) (.cons (.int _) (.cons (.int _) (.cons (.int _) (.cons (.int _) .nil)))), by simp [PyData.hasDict, PyData.hasDictAll], by simp [PyData.depth, PyData.depthAll], (by rintro ⟨z, e, ok⟩; simp [encS] at e <;> (have := ok.w1; have := ok.w2; have := ok.be; have := ok.eM; omega))⟩ ?_
      refine allE_cons ⟨_, .tup (d14.get w14) (.cons (.int _) (.cons (.int _) (.cons (.int _) .nil))), by simp [PyData.hasDict, PyData.hasDictAll], by simp [PyData.depth, PyData.depthAll], (by rintro ⟨z, e, ok⟩; simp [encS] at e <;> (have := ok.w1; have := ok.w2; have := ok.be; have := ok.eM; omega))⟩ ?_
      refine allE_cons ⟨_, .tup (d15.get w15) (.cons (.int _) (.cons (.int _) (.cons (.int _) .nil))), by simp [PyData.hasDict, PyData.hasDictAll], by simp [PyData.depth, PyData.depthAll], (by rintro ⟨z, e, ok⟩; simp [encS] at e <;> (have := ok.w1; have := ok.w2; have := ok.be; have := ok.eM; omega))⟩ ?_
      refine allE_cons ⟨_, .tup (d16.get w16) (.cons (.int _) (.cons .non (.cons (.int _) .nil))), by simp [PyData.hasDict, PyData.hasDictAll], by simp [PyData.depth, PyData.depthAll], (by rintro ⟨z, e, ok⟩; simp [encS] at e <;> (have := ok.w1; have := ok.w2; have := ok.be; have := ok.eM; omega))⟩ ?_
      refine allE_cons ⟨_, .str _, rfl, by simp [PyData.depth], (by rintro ⟨z, e, ok⟩; simp [encS] at e <;> (have := ok.w1; have := ok.w2; have := ok.be; have := ok.eM; omega))⟩ ?_
      refine allE_cons ⟨_, .non, rfl, by simp [PyData.depth], (by rintro ⟨z, e, ok⟩; simp [encS] at e <;> (have := ok.w1; have := ok.w2; have := ok.be; have := ok.eM; omega))⟩ ?_
      refine allE_cons ⟨_, .int _, rfl, by simp [PyData.depth], (by rintro ⟨z, e, ok⟩; simp [encS] at e <;> (have := ok.w1; have := ok.w2; have := ok.be; have := ok.eM; omega))⟩ ?_
      refine allE_cons ⟨_, .tup (d19.get w19) (.cons .non (.cons (.int _) (.cons (.int _) .nil))), by simp [PyData.hasDict, PyData.hasDictAll], by simp [PyData.depth, PyData.depthAll], (by rintro ⟨z, e, ok⟩; simp [encS] at e <;> (have := ok.w1; have := ok.w2; have := ok.be; have := ok.eM; omega))⟩ ?_
      refine allE_cons ⟨_, .tup (d20.get w20) (.cons (.str _) (.cons (.int _) (.cons (.int _) .nil))), by simp [PyData.hasDict, PyData.hasDictAll], by simp [PyData.depth, PyData.depthAll], (by rintro ⟨z, e, ok⟩; simp [encS] at e <;> (have := ok.w1; have := ok.w2; have := ok.be; have := ok.eM; omega))⟩ ?_
      refine allE_cons ⟨_, .tup (d21.get w21) (.cons (.int _) (.cons (.int _) (.cons .non .nil))), by simp [PyData.hasDict, PyData.hasDictAll], by simp [PyData.depth, PyData.depthAll], (by rintro ⟨z, e, ok⟩; simp [encS] at e <;> (have := ok.w1; have := ok.w2; have := ok.be; have := ok.eM; omega))⟩ ?_
      refine allE_cons ⟨_, .tup (d22.get w22) (.cons (.int _) (.cons (.int _) (.cons (.str _) .nil))), by simp [PyData.hasDict, PyData.hasDictAll], by simp [PyData.depth, PyData.depthAll], (by rintro ⟨z, e, ok⟩; simp [encS] at e <;> (have := ok.w1; have := ok.w2; have := ok.be; have := ok.eM; omega))⟩ ?_
      refine allE_cons ⟨_, .tup (d23.get w23) (.cons (.int _) (.cons (.str _) (.cons (.int _) .nil))), by simp [PyData.hasDict, PyData.hasDictAll], by simp [PyData.depth, PyData.depthAll], (by rintro ⟨z, e, ok⟩; simp [encS] at e <;> (have := ok.w1; have := ok.w2; have := ok.be; have := ok.eM; omega))⟩ ?_
      refine allE_cons ⟨_, .tup (d25.get w25) (.cons (.lst (d24.get w24) (.cons (.int _) .nil)) (.cons (.int _) (.cons (.int _) .nil))), by simp [PyData.hasDict, PyData.hasDictAll], by simp [PyData.depth, PyData.depthAll], (by rintro ⟨z, e, ok⟩; simp [encS] at e <;> (have := ok.w1; have := ok.w2; have := ok.be; have := ok.eM; omega))⟩ ?_
      refine allE_cons ⟨_, .tup (d26.get w26) .nil, by simp [PyData.hasDict, PyData.hasDictAll], by simp [PyData.depth, PyData.depthAll], (by rintro ⟨z, e, ok⟩; simp [encS] at e <;> (have := ok.w1; have := ok.w2; have := ok.be; have := ok.eM; omega))⟩ ?_
      exact allE_nil
    have pE := (f1.trans d1).get hp
    have ttE := htt.ex (f1.trans d1)
    have eE := f1.trans d1
    have vS := d29.get w29
    have vd := d30.get w30
    have lE0 : vE = vE := rfl
    refine lc_objs0 (rv_range 0 _) (fun _ _ => trivial) (by rw [List.length_range]; decide) (fun _ => .tup [.int 1, .int 0, .int 1]) ?_ ?_
    · intro y H' hy e B h1
      refine ⟨rfl, ?_⟩
      walk_at "go"
      exact h1 _ _ (by assumption) (by assumption) (by assumption)
    intro L5 A1 tsA n5 e5 v5 o5 _ _ _
    walk_at "go"
    rename_i D A2 n6 e6 v6
    have v5' := e6.get v5
    have o5' := o5.ex e6
    have hl5 : tsA.length = 401 := by rw [o5.len, List.length_map, List.length_range]; rfl
    have e30 := e5.trans e6
    have P0 : ∀ (H H' : Hp) (x : V), NoGood M H x → Ex H H' → NoGood M H' x := fun _ _ _ h e => h.ex e
    have c0 : ∀ x ∈ [V.ref tS, V.non, V.ref dE, V.int 3, V.ref L5, V.bl true], NoGood M A1 x := by
      refine allE_cons ⟨_, .tup (e5.get vS) (ttE.ex e5).rn, fun h => ?_, ?_, noGood_kind rfl⟩ ?_
      · have h2 := encS_noDict zs
        simp only [PyData.hasDict] at h h2
        rw [h2] at h
        cases h
      · have h2 := ss_depth zs
        simp only [PyData.depth] at h2 ⊢
        omega
      refine allE_cons ⟨_, .non, fun h => (by cases h), by decide, noGood_kind rfl⟩ ?_
      refine allE_cons ⟨_, .dk (e5.get vd), fun _ => rfl, by decide, noGood_kind rfl⟩ ?_
      refine allE_cons ⟨_, .int _, fun h => (by cases h), by decide, noGood_kind rfl⟩ ?_
      have hrn : RnA A1 (tsA.map V.ref) (tsA.map fun _ => PyData.tuple [.int 1, .int 0, .int 1]) := rnA_map fun a ha => by
        obtain ⟨o, ho, hv⟩ := o5.mem ha
        obtain ⟨_, _, rfl⟩ := List.mem_map.mp ho
        exact .tup hv (.cons (.int _) (.cons (.int _) (.cons (.int _) .nil)))
      refine allE_cons ⟨_, .lst v5 hrn, fun h => ?_, ?_, ?_⟩ ?_
      · simp only [PyData.hasDict] at h
        rw [hasDictA_of fun d hd => by obtain ⟨_, _, rfl⟩ := List.mem_map.mp hd; rfl] at h
        cases h
      · have : PyData.depthAll (tsA.map fun _ => PyData.tuple [.int 1, .int 0, .int 1]) ≤ 2 := depth_map fun _ _ => by decide
        simp only [PyData.depth]
        omega
      · rintro ⟨l, e, h2, _⟩
        injection e with e
        have := congrArg List.length e
        rw [List.length_map, List.length_map] at this
        omega
      exact allE_cons ⟨_, .bl _, fun h => (by cases h), by decide, noGood_kind rfl⟩ allE_nil
    have T0 : ToL (NoGood M) D A1 A2 [V.ref tS, V.non, V.ref dE, V.int 3, V.ref L5, V.bl true] := ToL.mk0 e6 n6 v6 fun x hx => (c0 x hx).ex fun b o _ q => hid_get (e6.get q) (fun z => by rw [z, n6] at q; cases q)
    have bP := e5.get pE
    have bE := e5.get vE
    have bT := ttE.ex e5
    have bad1 : ∀ x ∈ bs, NoSp M A1 x := fun x hx => (bad x hx).ex e5
    clear c0 bad
    rw [lbs]
    refine for_runs (runs_range 0 _) (fun i σ H => ∃ ls, ToL (NoGood M) D A1 H ls ∧ ls.length = 6 + i ∧ ∃ y5 y6, σ = [some (.int (M : Nat)), some (.ref p), some (.int far), some (.ref lE), some (.ref D), y5, y6]) ⟨_, T0, rfl, _, _, rfl⟩ (fun _ _ _ _ _ => trivial) ?_ ?_
    · rintro i x σ H0 H7 hi ⟨ls, T, hls, y5, y6, rfl⟩ ⟨rfl, rfl⟩
      have hi' : i < 25 := hi
      have hTD := T.at_
      have hE := (hid_ex D H7).get (T.ex.get bE)
      have hP := (hid_ex D H7).get (T.ex.get bP)
      walk_at "go"
      rename_i q1 B1 m1 g1 x1
      rw [List.length_map] at x1 ⊢
      generalize (0 + ((i : Nat) : Int)) * 7 % (((zs.length : Nat) : Int) + 1) = at0 at x1 ⊢
      have hE1 := g1.get hE
      refine st_ixL hE1 (v := bs[i]'(by omega)) ?_ ?_
      · rw [show (0 + ((i : Nat) : Int)) = (i : Nat) by omega]
        exact at_nat (List.getElem?_eq_getElem _)
      obtain ⟨x, hx⟩ : ∃ x, x = bs[i]'(by omega) := ⟨_, rfl⟩
      rw [← hx]
      obtain ⟨d, r1, r2, r3, r4⟩ := (bad1 x (by rw [hx]; exact List.getElem_mem _)).ex T.ex
      have k1 := cutV_length (zs.map tV)
      rw [List.length_map] at k1
      have tq := bT.ex T.ex
      have k2 := k1 none (some at0)
      have k3 := k1 (some at0) none
      walk_at "go"
      rename_i q2 B2 m2 g2 x2 q3 B3 m3 g3 x3 q4 B4 m4 g4 x4 q5 B5 m5 g5 x5
      have s1 := T.go P0 g1
      have s2 := s1.go P0 g2
      have s3 := s2.go P0 g3
      have s4 := s3.go P0 g4
      have s5 := s4.go P0 g5
      refine st_app s5.at_ (by omega) ?_
      have cs : ∀ lo hi, ∀ z ∈ cutL zs lo hi, z ∈ zs := fun lo hi z hz => (cutL_sub zs lo hi).mem hz
      have F05 : Ex (hid D H7) (hid D B5) := hidEx (g1.trans (g2.trans (g3.trans (g4.trans g5))))
      have hn : NoGood M (hid D B5) (.ref q5) := by
        refine ⟨_, .lst (s4.new m5 x5) (noSp_app (noSp_app (by rw [cutV_map]; exact ((tq.sub (cs _ _)).ex F05).rn) (.cons (r1.ex F05) .nil)) (by rw [cutV_map]; exact ((tq.sub (cs _ _)).ex F05).rn)), fun h => ?_, ?_, noGood_mid r4⟩
        · exfalso
          simp only [PyData.hasDict] at h
          rw [hasDictA_of fun e he => ?_] at h
          · cases h
          rcases List.mem_append.mp he with he | he
          · rcases List.mem_append.mp he with he | he
            · obtain ⟨_, _, rfl⟩ := List.mem_map.mp he; rfl
            · rw [List.mem_singleton.mp he]; exact r2
          · obtain ⟨_, _, rfl⟩ := List.mem_map.mp he; rfl
        · have : ∀ l : List PyData, (∀ e ∈ l, e.depth ≤ 8) → PyData.depthAll l ≤ 8 := fun l h => by
            have := depth_map (enc := id) (xs := l) (n := 8) h
            rwa [List.map_id] at this
          simp only [PyData.depth]
          have := this ((cutL zs none (some at0)).map (fun z => encS z.2) ++ [d] ++ (cutL zs (some at0) none).map (fun z => encS z.2)) (fun e he => by
            rcases List.mem_append.mp he with he | he
            · rcases List.mem_append.mp he with he | he
              · obtain ⟨y, _, rfl⟩ := List.mem_map.mp he; have := encS_depth y.2; omega
              · rw [List.mem_singleton.mp he]; exact r3
            · obtain ⟨y, _, rfl⟩ := List.mem_map.mp he; have := encS_depth y.2; omega)
          omega
      exact ⟨_, s5.put hn, by rw [List.length_append, hls]; rfl, _, _, rfl⟩
    · rintro σ H7 ⟨ls, T, hls, y5, y6, rfl⟩
      walk_at "go"
      exact k D ls H7 ((eE.trans e5).trans (T.ex.trans (hid_ex D _))) T.at_ (T.out P0)
theorem tt_of {H : Hp} : ∀ {ts : List Addr} {l : List S3}, ObjsAt H ts (l.map sO) → ∃ zs : List TZ, zs.map tV = ts.map V.ref ∧ zs.map (·.2) = l ∧ TT H zs
  | [], [], _ => ⟨[], rfl, rfl, TT0⟩
  | t :: ts, z :: l, .cons h r => by
    obtain ⟨zs, h1, h2, h3⟩ := tt_of r
    exact ⟨(t, z) :: zs, by rw [List.map_cons, List.map_cons, h1], by rw [List.map_cons, h2], TTc h h3⟩
  | [], _ :: _, h => nomatch h
  | _ :: _, [], h => nomatch h
theorem rep_sumN (m : Int) : ∀ n : Nat, (List.replicate n m).sum = (n : Nat) * m
  | 0 => by simp
  | n + 1 => by
    rw [List.replicate_succ, List.sum_cons, rep_sumN m n, show ((n + 1 : Nat) : Int) = (n : Nat) + 1 by omega, Int.add_mul]
    omega
def longS (m : Int) : List S3 := (List.range 400).map fun i : Nat => ⟨m, i % 24, i % 24 + 1⟩
theorem longS_at {m : Int} {i : Nat} (h : i < 400) : (longS m)[i]? = some ⟨m, i % 24, i % 24 + 1⟩ := by
  unfold longS
  rw [List.getElem?_map, List.getElem?_range h]
  rfl
theorem longS_ok {m : Int} : ∀ z ∈ longS m, z.b < z.e ∧ z.e ≤ 24 := fun z hz => by
  obtain ⟨i, _, rfl⟩ := List.mem_map.mp hz
  dsimp only
  omega
theorem long_most {m x : Int} {cs : List Nat} {ps : List Int} (hm : 1 ≤ m) (h1 : ChosenOk (longS m) cs x) (h2 : PricesOk (longS m) 24 ps x) : x = 24 * m := by
  have hl : (longS m).length = 400 := by rw [longS, List.length_map, List.length_range]
  have c0 : ChosenOk (longS m) (List.range 24) (24 * m) := by
    refine ⟨⟨fun c hc => ?_, ?_⟩, List.pairwise_lt_range, ?_⟩
    · have := List.mem_range.mp hc
      omega
    · have h : (List.range 24).Pairwise fun a b => a < b ∧ b < 24 := by decide
      refine h.imp fun {a b} hab x y hx hy => ?_
      rw [longS_at (by omega)] at hx hy
      cases hx
      cases hy
      left
      dsimp only
      omega
    · have : (List.range 24).map (wS (longS m)) = List.replicate 24 m := by
        rw [List.eq_replicate_iff]
        refine ⟨by rw [List.length_map, List.length_range], fun b hb => ?_⟩
        obtain ⟨c, hc, rfl⟩ := List.mem_map.mp hb
        have := List.mem_range.mp hc
        rw [wS_at (longS_at (by omega))]
      rw [this, rep_sumN]
      rfl
  have p0 : PricesOk (longS m) 24 (List.replicate 24 m) (24 * m) := by
    refine ⟨List.length_replicate, fun y hy => by rw [(List.mem_replicate.mp hy).2]; omega, fun z hz => ?_, by rw [rep_sumN]; rfl⟩
    obtain ⟨i, _, rfl⟩ := List.mem_map.mp hz
    dsimp only
    rw [seg_P _ (by omega), List.take_replicate, List.take_replicate, rep_sumN, rep_sumN, show min (i % 24 + 1) 24 = i % 24 + 1 by omega, show min (i % 24) 24 = i % 24 by omega, show ((i % 24 + 1 : Nat) : Int) = ((i % 24 : Nat) : Int) + 1 by omega, Int.add_mul]
    omega
  have := weak_dual longS_ok h1 p0
  have := weak_dual longS_ok c0 h2
  omega
theorem cI_ints (cs : List Nat) : cs.map cI = (cs.map fun c => ((c : Nat) : Int)).map V.int := by rw [List.map_map]; rfl
def sp_law (K : PySem.W.Frag) : Sp := fun vs H Q _ => ∃ (a : Addr) (ns : List Int), vs = [.ref a] ∧ Scr K H a ns ∧ ns.length ≤ 63 ∧ ∀ H', Q (.bl true) H'
theorem ok_law (T : Tx K mg ad fd tk) : FnG P w K mg base CX0 7 (ad 17) (fd 17) ["_law_script"] (sp_law K) := by
  refine okG T.d_law.F sc_law (fun vs H Q E h => ?_) (fun cdv A outer s H vs Q E hg hr h => ?_)
  · obtain ⟨a, ns, rfl, _⟩ := h
    rfl
  · obtain ⟨a, ns, rfl, hs, hl, k⟩ := h
    refine ⟨_, (pss_cons (ps_set (i := 1) sc_law.nd rfl (Or.inr rfl) (pe_op o_add pe_int (pe_op o_mod (pe_call (ok__law_at T) (hr.mono (by decide)) rfl T.d__law_at.g T.d__law_at.F.kp T.d__law_at.b .nil pass0 (pa_cons (pv 0) (pa_cons pe_int pa_nil))) pe_int)))
      (pss_cons (ps_set (i := 2) sc_law.nd rfl (Or.inl rfl) (pe_op o_mod (pe_op o_div (pe_call (ok__law_at T) (hr.mono (by decide)) rfl T.d__law_at.g T.d__law_at.F.kp T.d__law_at.b .nil pass0 (pa_cons (pv 0) (pa_cons pe_int pa_nil))) pe_int) (pe_op o_sub (pv 1) pe_int)))
      (pss_cons (ps_set (i := 3) sc_law.nd rfl (Or.inl rfl) (pe_op o_add pe_int (pe_op o_mod (pe_call (ok__law_at T) (hr.mono (by decide)) rfl T.d__law_at.g T.d__law_at.F.kp T.d__law_at.b .nil pass0 (pa_cons (pv 0) (pa_cons pe_int pa_nil))) pe_int)))
      (pss_cons (ps_set (i := 4) sc_law.nd rfl (Or.inl rfl) (pe_op o_add pe_int (pe_op o_mod (pe_call (ok__law_at T) (hr.mono (by decide)) rfl T.d__law_at.g T.d__law_at.F.kp T.d__law_at.b .nil pass0 (pa_cons (pv 0) (pa_cons pe_int pa_nil))) pe_int)))
      (pss_cons (ps_for PassesOwn.never rfl (pi_list (pe_call (ok__law_right_ones T) (hr.mono (by decide)) rfl T.d__law_right_ones.g T.d__law_right_ones.F.kp T.d__law_right_ones.b .nil pass0 (pa_cons (pv 3) (pa_cons (pv 4) (pa_cons (pv 2) (pa_cons (pv 1) pa_nil)))))) (pg_tup rfl (pgs_cons (pg_name (i := 5) sc_law.nd rfl (Or.inl rfl)) (pgs_cons (pg_name (i := 6) sc_law.nd rfl (Or.inl rfl)) pgs_nil))) (pss_one (ps_if (pt_not (pt_val (pe_callG (ok__law_asked T) hg (hr.mono (by decide)) rfl T.d__law_asked.g T.d__law_asked.F.kp T.d__law_asked.b (pa_cons (pv 1) (pa_cons (pv 5) (pa_cons (pv 6) (pa_cons pe_bl pa_nil))))))) (pss_one (ps_ret pe_bl)) pss_nil)))
      (pss_cons (ps_set (i := 7) sc_law.nd rfl (Or.inl rfl) (pe_op o_add (pe_call (ok__law_wrong_kinds T) (hr.mono (by decide)) rfl T.d__law_wrong_kinds.g T.d__law_wrong_kinds.F.kp T.d__law_wrong_kinds.b .nil pass0 (pa_cons (pv 3) (pa_cons (pv 4) (pa_cons (pv 2) (pa_cons (pv 1) pa_nil))))) (pe_call (ok__law_wrong_choices T) (hr.mono (by decide)) rfl T.d__law_wrong_choices.g T.d__law_wrong_choices.F.kp T.d__law_wrong_choices.b .nil pass0 (pa_cons (pv 3) (pa_cons (pv 4) (pa_cons (pv 2) (pa_cons (pv 1) pa_nil)))))))
      (pss_cons (ps_for PassesOwn.never rfl (pi_list (pe_op o_add (pv 7) (pe_call (ok__law_wrong_prices T) (hr.mono (by decide)) rfl T.d__law_wrong_prices.g T.d__law_wrong_prices.F.kp T.d__law_wrong_prices.b .nil pass0 (pa_cons (pv 3) (pa_cons (pv 4) (pa_cons (pv 2) (pa_cons (pv 1) pa_nil))))))) (pg_tup rfl (pgs_cons (pg_name (i := 5) sc_law.nd rfl (Or.inl rfl)) (pgs_cons (pg_name (i := 6) sc_law.nd rfl (Or.inl rfl)) pgs_nil))) (pss_one (ps_if (pt_not (pt_val (pe_callG (ok__law_asked T) hg (hr.mono (by decide)) rfl T.d__law_asked.g T.d__law_asked.F.kp T.d__law_asked.b (pa_cons (pv 1) (pa_cons (pv 5) (pa_cons (pv 6) (pa_cons pe_bl pa_nil))))))) (pss_one (ps_ret pe_bl)) pss_nil)))
      (pss_cons (ps_setLc (i := 5) (own := [("_law_cell", 14)]) (g := gName 14) rfl sc_law.nd rfl rfl (sw_true rfl rfl rfl (by decide +kernel)) (pi_list (pe_slice (s_sl (K := K)) (pv 0) (po_some pe_int) (po_some pe_int))) (blkOk_by (own := [("_law_cell", 14)]) (N := N_law) (sc := defScope s_law) (by decide +kernel)) (fun _ _ _ _ _ => pg_name (i := 14) sc_law.nd rfl (Or.inl rfl)) (fun _ _ _ _ _ => pts_nil) (fun _ _ _ _ _ => (pe_tup (pa_cons (pe_op o_add pe_int (pe_op o_mod (pv 14) pe_int)) (pa_cons (pe_op o_mod (pv 14) (pv 1)) (pa_cons (pe_op o_add (pe_op o_mod (pv 14) (pv 1)) pe_int) pa_nil))))))
      (pss_cons (ps_set (i := 8) sc_law.nd rfl (Or.inl rfl) (pe_op o_add (pe_op o_add (pe_op o_pow pe_int pe_int) pe_int) (pe_op o_mod (pe_call (ok__law_at T) (hr.mono (by decide)) rfl T.d__law_at.g T.d__law_at.F.kp T.d__law_at.b .nil pass0 (pa_cons (pv 0) (pa_cons pe_int pa_nil))) (pe_op o_pow pe_int pe_int))))
      (pss_cons (ps_for PassesOwn.never rfl (pi_range1 rfl T.b_range (pa_cons pe_int pa_nil)) (pg_name (i := 9) sc_law.nd rfl (Or.inl rfl)) (pss_cons (ps_for PassesOwn.never rfl (pi_list (pe_call (ok__law_bad T) (hr.mono (by decide)) rfl T.d__law_bad.g T.d__law_bad.F.kp T.d__law_bad.b .nil pass0 (pa_cons (pv 1) (pa_cons (pv 5) (pa_cons (pv 8) pa_nil))))) (pg_name (i := 10) sc_law.nd rfl (Or.inl rfl)) (pss_one (ps_if (pt_not (pt_val (pe_call (ok__law_refused T) (hr.mono (by decide)) rfl T.d__law_refused.g T.d__law_refused.F.kp T.d__law_refused.b .nil pass0 (pa_cons (pv 1) (pa_cons (pv 10) (pa_cons (pv 10) (pa_cons pe_bl (pa_cons (pv 9) pa_nil)))))))) (pss_one (ps_ret pe_bl)) pss_nil)))
      (pss_cons (ps_for PassesOwn.never rfl (pi_list (pe_lst (pa_cons (pe_lst (pa_cons (pe_tup (pa_cons pe_int (pa_cons pe_int (pa_cons pe_int pa_nil)))) pa_nil)) (pa_cons (pe_lst (pa_cons (pe_tup (pa_cons pe_int (pa_cons pe_int (pa_cons pe_int pa_nil)))) pa_nil)) (pa_cons pe_non (pa_cons (pe_tup pa_nil) pa_nil)))))) (pg_name (i := 10) sc_law.nd rfl (Or.inl rfl)) (pss_one (ps_if (pt_not (pt_val (pe_call (ok__law_refused T) (hr.mono (by decide)) rfl T.d__law_refused.g T.d__law_refused.F.kp T.d__law_refused.b .nil pass0 (pa_cons pe_int (pa_cons (pv 10) (pa_cons (pv 10) (pa_cons pe_bl (pa_cons (pv 9) pa_nil)))))))) (pss_one (ps_ret pe_bl)) pss_nil)))
      (pss_one (ps_for PassesOwn.never rfl (pi_list (pe_lst (pa_cons (pe_un un_neg pe_int) (pa_cons pe_int (pa_cons (pv 8) (pa_cons (pe_un un_neg (pv 8)) (pa_cons pe_bl (pa_cons pe_non (pa_cons pe_str (pa_cons (pe_lst (pa_cons pe_int pa_nil)) pa_nil)))))))))) (pg_name (i := 10) sc_law.nd rfl (Or.inl rfl)) (pss_one (ps_if (PW.pt (pw_or (pt_not (pt_val (pe_call (ok__law_refused T) (hr.mono (by decide)) rfl T.d__law_refused.g T.d__law_refused.F.kp T.d__law_refused.b .nil pass0 (pa_cons (pv 10) (pa_cons (pv 5) (pa_cons (pv 10) (pa_cons pe_bl (pa_cons (pv 9) pa_nil)))))))) (pw_or1 (pt_not (pt_val (pe_call (ok__law_refused T) (hr.mono (by decide)) rfl T.d__law_refused.g T.d__law_refused.F.kp T.d__law_refused.b .nil pass0 (pa_cons (pv 10) (pa_cons pe_non (pa_cons (pv 10) (pa_cons pe_bl (pa_cons (pv 9) pa_nil))))))))))) (pss_one (ps_ret pe_bl)) pss_nil)))))))
      (pss_cons (ps_if (pt_cmpR o_notB (pe_call (ok_shows_apart T) (hr.mono (by decide)) rfl T.d_shows_apart.g T.d_shows_apart.F.kp T.d_shows_apart.b .nil passL (pa_cons (pv 1) (pa_cons (pv 5) (pa_cons pe_non pa_nil)))) pe_bl (nomark _)) (pss_one (ps_ret pe_bl)) pss_nil)
      (pss_cons (ps_set (i := 11) sc_law.nd rfl (Or.inr rfl) (pe_op o_sub pe_int (pe_op o_mod (pv 3) pe_int)))
      (pss_cons (ps_setLc (i := 12) (own := [("_law_at_here", 15)]) (g := gName 15) rfl sc_law.nd rfl rfl (sw_true rfl rfl rfl (by decide +kernel)) (pi_range1 rfl T.b_range (pa_cons pe_int pa_nil)) (blkOk_by (own := [("_law_at_here", 15)]) (N := N_law) (sc := defScope s_law) (by decide +kernel)) (fun _ _ _ _ _ => pg_name (i := 15) sc_law.nd rfl (Or.inl rfl)) (fun _ _ _ _ _ => pts_nil) (fun _ _ _ _ _ => (pe_tup (pa_cons (pv 11) (pa_cons (pe_op o_mod (pv 15) pe_int) (pa_cons (pe_op o_add (pe_op o_mod (pv 15) pe_int) pe_int) pa_nil))))))
      (pss_cons (ps_set (i := 13) sc_law.nd rfl (Or.inl rfl) (pe_call (ok_apart T) (hr.mono (by decide)) rfl T.d_apart.g T.d_apart.F.kp T.d_apart.b .nil passL (pa_cons pe_int (pa_cons (pv 12) pa_nil))))
      (pss_one (ps_ret (pe_and (pe_cmpR (o_eq hr.units) (pe_ix (i_ix (K := K)) (pv 13) pe_int (fun _ _ => rfl)) (pe_op o_mul pe_int (pv 11)) (nomark _)) (pe_one (pe_cmpR o_isB (pe_call (ok_shows_apart T) (hr.mono (by decide)) rfl T.d_shows_apart.g T.d_shows_apart.F.kp T.d_shows_apart.b .nil passL (pa_cons pe_int (pa_cons (pv 12) (pa_cons (pv 13) pa_nil)))) pe_bl (nomark _)))))))))))))))))))), ?_⟩
    walk_at "go"
    refine ⟨a, ns, 0, rfl, hs.sq, by decide, hl, fun h1 => ?_⟩
    walk_at "go"
    have m1 := Int.emod_nonneg h1 (b := 23) (by omega)
    have m2 := Int.emod_lt_of_pos h1 (b := 23) (by omega)
    obtain ⟨M, hM⟩ : ∃ M : Nat, ((M : Nat) : Int) = 2 + h1 % 23 := ⟨(2 + h1 % 23).toNat, by omega⟩
    rw [← hM]
    have hM2 : 2 ≤ M ∧ M ≤ 24 := by omega
    refine ⟨a, ns, 0, rfl, hs.sq, by decide, hl, fun h2 => ?_⟩
    walk_at "go"
    have m3 := Int.emod_nonneg (h2 / 23) (b := ((M : Nat) : Int) - 1) (by omega)
    have m4 := Int.emod_lt_of_pos (h2 / 23) (b := ((M : Nat) : Int) - 1) (by omega)
    obtain ⟨p, hp⟩ : ∃ p : Nat, ((p : Nat) : Int) = h2 / 23 % (((M : Nat) : Int) - 1) := ⟨(h2 / 23 % (((M : Nat) : Int) - 1)).toNat, by omega⟩
    rw [← hp]
    have hpM : p + 2 ≤ M := by omega
    refine ⟨a, ns, 1, rfl, hs.sq, by decide, hl, fun h3 => ?_⟩
    walk_at "go"
    have m5 := Int.emod_nonneg h3 (b := 490000) (by omega)
    have m6 := Int.emod_lt_of_pos h3 (b := 490000) (by omega)
    obtain ⟨A1, hA⟩ : ∃ x, x = 1 + h3 % 490000 := ⟨_, rfl⟩
    rw [← hA]
    refine ⟨a, ns, 2, rfl, hs.sq, by decide, hl, fun h4 => ?_⟩
    walk_at "go"
    have m7 := Int.emod_nonneg h4 (b := 490000) (by omega)
    have m8 := Int.emod_lt_of_pos h4 (b := 490000) (by omega)
    obtain ⟨B1, hB⟩ : ∃ x, x = 1 + h4 % 490000 := ⟨_, rfl⟩
    rw [← hB]
    have hA2 : 1 ≤ A1 ∧ A1 ≤ 490000 := by omega
    have hB2 : 1 ≤ B1 ∧ B1 ≤ 490000 := by omega
    clear m1 m2 m3 m4 m5 m6 m7 m8 hM hp hA hB
    refine ⟨A1, B1, p, M, rfl, hA2, hB2, hpM, hM2.2, fun q1 ls1 H1 e1 v1 c1 => ?_⟩
    walk_at "go"
    refine for_runs (runs_list K q1 ls1) (fun i σ H' => Ex H1 H' ∧ ∃ y5 y6, σ = [some (.ref a), some (.int (M : Nat)), some (.int (p : Nat)), some (.int A1), some (.int B1), y5, y6, none, none, none, none, none, none, none, none, none]) ⟨Fr.refl _, _, _, rfl⟩ (fun i σ H' _ h => lst_of (h.1.get v1)) ?_ ?_
    · rintro i x σ H0 H7 hi ⟨e7, y5, y6, rfl⟩ ⟨rfl, hx⟩
      obtain ⟨ta, pp, t, zs, d, rfl, g1, g2, g3, g4, g5, g6, g7, g8⟩ := (c1.ex e7) x (List.mem_of_getElem? hx)
      walk_at "go"
      refine ⟨M, pp, zs, t, d, true, rfl, hM2.2, g2, g3, g4, g5, g6, g7, g8, fun H8 e8 => ?_⟩
      walk_at "go"
      exact ⟨e7.trans e8, _, _, rfl⟩
    rintro σ H2 ⟨e2, y5, y6, rfl⟩
    walk_at "go"
    refine ⟨A1, B1, p, M, rfl, hA2, hB2, hpM, hM2.2, fun q3 ls3 H3 e3 v3 l3 c3 => ?_⟩
    walk_at "go"
    refine ⟨A1, B1, p, M, rfl, hA2, hB2, hpM, hM2.2, fun q4 ls4 H4 e4 v4 l4 c4 => ?_⟩
    have v34 := e4.get v3
    walk_at "go"
    rename_i q5 H5 n5 e5 v5
    refine ⟨A1, B1, p, M, rfl, hA2, hB2, hpM, hM2.2, fun q6 ls6 H6 e6 v6 l6 c6 => ?_⟩
    have v56 := e6.get v5
    walk_at "go"
    rename_i q7 H7 n7 e7 v7
    have c7 : Cases M false H7 (ls3 ++ ls4 ++ ls6) := (((c3.ex e4).app c4).ex (e5.trans e6)).app c6 |>.ex e7
    refine for_runs (runs_list K q7 _) (fun i σ H' => Ex H7 H' ∧ ∃ y5 y6, σ = [some (.ref a), some (.int (M : Nat)), some (.int (p : Nat)), some (.int A1), some (.int B1), y5, y6, some (.ref q5), none, none, none, none, none, none, none, none]) ⟨Fr.refl _, _, _, rfl⟩ (fun i σ H' _ h => lst_of (h.1.get v7)) ?_ ?_
    · rintro i x σ H0 H8 hi ⟨e8, y5, y6, rfl⟩ ⟨rfl, hx⟩
      obtain ⟨ta, pp, t, zs, d, rfl, g1, g2, g3, g4, g5, g6, g7, g8⟩ := (c7.ex e8) x (List.mem_of_getElem? hx)
      walk_at "go"
      refine ⟨M, pp, zs, t, d, false, rfl, hM2.2, g2, g3, g4, g5, g6, g7, g8, fun H9 e9 => ?_⟩
      walk_at "go"
      exact ⟨e8.trans e9, _, _, rfl⟩
    rintro σ H8 ⟨e8, y5', y6', rfl⟩
    have hs8 := hs.ex (e1.trans (e2.trans (e3.trans (e4.trans (e5.trans (e6.trans (e7.trans e8)))))))
    clear c1 c3 c4 c6 c7 v1 v3 v4 v5 v6 v7 v34 v56
    walk_at "go"
    refine st_slK hs8.sq ?_
    intro q9 H9 n9 e9 v9
    rw [cutV_map] at v9
    have hcl := cutL_len ns (some 3) (some 63)
    generalize cutL ns (some 3) (some 63) = cs at v9 hcl
    walk_at "go"
    refine lc_objs0 (rv_list K q9 cs V.int) (fun H' e => lst_of (e.get v9)) (by omega) (fun c => sO ⟨1 + c % 1000000, (c % (M : Nat)).toNat, (c % (M : Nat)).toNat + 1⟩) ?_ ?_
    · intro c H' hc e B h1
      have m1 := Int.emod_nonneg c (b := ((M : Nat) : Int)) (by omega)
      refine ⟨rfl, ?_⟩
      walk_at "go"
      rename_i q G n e v
      refine h1 q G n e ?_
      rw [v]
      unfold sO
      dsimp only
      rw [show (((c % (M : Nat)).toNat : Nat) : Int) = c % (M : Nat) by omega, show (((c % (M : Nat)).toNat + 1 : Nat) : Int) = c % (M : Nat) + 1 by omega]
    intro sp G1 tsA nsp f1 vsp osp _ _ _
    obtain ⟨zs, hzv, hz2, tt⟩ := tt_of (by rw [List.map_map] ; exact osp : ObjsAt G1 tsA ((cs.map fun c => (⟨1 + c % 1000000, (c % (M : Nat)).toNat, (c % (M : Nat)).toNat + 1⟩ : S3)).map sO))
    rw [← hzv] at vsp
    have hzl : zs.length ≤ 63 := by
      have := congrArg List.length hz2
      rw [List.length_map, List.length_map] at this
      omega
    have hok : ∀ z ∈ zs, SpOk M z.2 := fun z hz => by
      have : z.2 ∈ zs.map (·.2) := List.mem_map_of_mem hz
      rw [hz2] at this
      obtain ⟨c, hc, e⟩ := List.mem_map.mp this
      rw [← e]
      have n1 := Int.emod_nonneg c (b := 1000000) (by omega)
      have n2 := Int.emod_lt_of_pos c (b := 1000000) (by omega)
      have n3 := Int.emod_nonneg c (b := ((M : Nat) : Int)) (by omega)
      have n4 := Int.emod_lt_of_pos c (b := ((M : Nat) : Int)) (by omega)
      exact ⟨by show 1 ≤ 1 + c % 1000000; omega, by show 1 + c % 1000000 ≤ 1000000; omega, by show (c % (M : Nat)).toNat < (c % (M : Nat)).toNat + 1; omega, by show (c % (M : Nat)).toNat + 1 ≤ M; omega⟩
    have hsG := hs8.ex (e9.trans f1)
    clear hz2 hzv osp nsp n9 v9 hcl
    walk_at "go"
    refine ⟨a, ns, 0, rfl, hsG.sq, by decide, hl, fun h5 => ?_⟩
    walk_at "go"
    have m9 := Int.emod_nonneg h5 (b := 10 ^ (30 : Int).toNat) (by decide)
    obtain ⟨far, hfar⟩ : ∃ far, far = (10 : Int) ^ (6 : Int).toNat + 1 + h5 % 10 ^ (30 : Int).toNat := ⟨_, rfl⟩
    have hfar2 : 1000000 < far := by
      rw [hfar]
      have : (10 : Int) ^ (6 : Int).toNat = 1000000 := by decide
      omega
    rw [← hfar]
    clear hfar m9
    have rnS : ∀ {G : Hp}, Ex G1 G → Rn G (.ref sp) (.list (zs.map fun z => encS z.2)) := fun e => (tt.ex e).rnL (e.get vsp)
    refine for_runs (runs_range 0 _) (fun i σ H' => Ex G1 H' ∧ ∃ y6 y9 y10, σ = [some (.ref a), some (.int (M : Nat)), some (.int (p : Nat)), some (.int A1), some (.int B1), some (.ref sp), y6, some (.ref q5), some (.int far), y9, y10, none, none, none, none, none]) ⟨Fr.refl _, _, _, _, rfl⟩ (fun _ _ _ _ _ => trivial) ?_ ?_
    · rintro i x σ H0 G2 hi ⟨f2, y6, y9, y10, rfl⟩ ⟨rfl, rfl⟩
      have vsp2 := f2.get vsp
      have tt2 := tt.ex f2
      walk_at "go"
      refine ⟨M, sp, zs, far, rfl, hM2, vsp2, tt2, hzl, hok, hfar2, fun q3 ls3 G3 f3 v3 c3 => ?_⟩
      walk_at "go"
      refine for_runs (runs_list K q3 ls3) (fun j σ H' => Ex G3 H' ∧ ∃ y10, σ = [some (.ref a), some (.int (M : Nat)), some (.int (p : Nat)), some (.int A1), some (.int B1), some (.ref sp), y6, some (.ref q5), some (.int far), some (.int (0 + (i : Nat))), y10, none, none, none, none, none]) ⟨Fr.refl _, _, rfl⟩ (fun _ _ _ _ h => lst_of (h.1.get v3)) ?_ ?_
      · rintro j x σ H0 G4 hj ⟨f4, y10, rfl⟩ ⟨rfl, hx⟩
        obtain ⟨d, r1, r2, r3, r4⟩ := (c3 x (List.mem_of_getElem? hx)).ex f4
        walk_at "go"
        refine ⟨_, _, _, false, _, d, d, rfl, ⟨_, rfl⟩, r1, r1.rq.ty, r1, r2, r3, trivial, .inr ⟨rfl, rfl, M, rfl, hM2.2, r4⟩, fun G5 f5 => ?_⟩
        walk_at "go"
        exact ⟨f4.trans f5, _, rfl⟩
      rintro σ G4 ⟨f4, y10', rfl⟩
      walk_at "go"
      rename_i t1 X1 n1 g1 x1 t2 X2 n2 g2 x2 t3 X3 n3 g3 x3 t4 X4 n4 g4 x4 t5 X5 n5 g5 x5 q6 X6 n6 g6 x6
      have w0 : ∀ {d : PyData}, ¬ WorthyD 0 d := by
        rintro d ⟨z, e, ok⟩
        have := ok.be
        have := ok.eM
        omega
      have zer : ∀ x ∈ [V.ref t2, V.ref t4, V.non, V.ref t5], NoGood 0 X6 x := by
        have y1 := (g2.trans (g3.trans (g4.trans (g5.trans g6)))).get x1
        have y2 := (g3.trans (g4.trans (g5.trans g6))).get x2
        have y3 := (g4.trans (g5.trans g6)).get x3
        have y4 := (g5.trans g6).get x4
        have y5 := g6.get x5
        refine allE_cons ⟨_, .lst y2 (.cons (.tup y1 (.cons (.int _) (.cons (.int _) (.cons (.int _) .nil)))) .nil), fun h => (by cases h), by decide, noGood_mid (xs := []) (ys := []) w0⟩ ?_
        refine allE_cons ⟨_, .lst y4 (.cons (.tup y3 (.cons (.int _) (.cons (.int _) (.cons (.int _) .nil)))) .nil), fun h => (by cases h), by decide, noGood_mid (xs := []) (ys := []) w0⟩ ?_
        refine allE_cons ⟨_, .non, fun h => (by cases h), by decide, noGood_kind rfl⟩ ?_
        exact allE_cons ⟨_, .tup y5 .nil, fun h => (by cases h), by decide, noGood_kind rfl⟩ allE_nil
      have g16 := g1.trans (g2.trans (g3.trans (g4.trans (g5.trans g6))))
      have vsp6 := (f3.trans (f4.trans g16)).get vsp2
      refine for_runs (runs_list K q6 _) (fun j σ H' => Ex X6 H' ∧ ∃ y10, σ = [some (.ref a), some (.int (M : Nat)), some (.int (p : Nat)), some (.int A1), some (.int B1), some (.ref sp), y6, some (.ref q5), some (.int far), some (.int (0 + (i : Nat))), y10, none, none, none, none, none]) ⟨Fr.refl _, _, rfl⟩ (fun _ _ _ _ h => lst_of (h.1.get x6)) ?_ ?_
      · rintro j x σ H0 G5 hj ⟨f5, y10, rfl⟩ ⟨rfl, hx⟩
        obtain ⟨d, r1, r2, r3, r4⟩ := (zer x (List.mem_of_getElem? hx)).ex f5
        walk_at "go"
        refine ⟨_, _, _, false, _, d, d, rfl, ⟨_, rfl⟩, r1, r1.rq.ty, r1, r2, r3, trivial, .inr ⟨rfl, rfl, 0, rfl, by decide, r4⟩, fun G6 f6 => ?_⟩
        walk_at "go"
        exact ⟨f5.trans f6, _, rfl⟩
      rintro σ G5 ⟨f5, y10'', rfl⟩
      walk_at "go"
      rename_i u1 Y1 k1 j1 z1 q7 Y2 k2 j2 z2
      have nop : ∀ x ∈ [V.int (-1), V.int 25, V.int far, V.int (-far), V.bl true, V.non, V.str "2", V.ref u1], withinV x 0 24 = false ∧ ∃ d, Rn Y2 x d ∧ d.hasDict = false ∧ d.depth ≤ 64 := by
        refine allE_cons ⟨rfl, _, .int _, rfl, by decide⟩ ?_
        refine allE_cons ⟨rfl, _, .int _, rfl, by decide⟩ ?_
        refine allE_cons ⟨by simp [withinV]; omega, _, .int _, rfl, by simp [PyData.depth]⟩ ?_
        refine allE_cons ⟨by simp [withinV]; omega, _, .int _, rfl, by simp [PyData.depth]⟩ ?_
        refine allE_cons ⟨rfl, _, .bl _, rfl, by decide⟩ ?_
        refine allE_cons ⟨rfl, _, .non, rfl, by decide⟩ ?_
        refine allE_cons ⟨rfl, _, .str _, rfl, by decide⟩ ?_
        exact allE_cons ⟨rfl, _, .lst (j2.get z1) (.cons (.int _) .nil), rfl, by decide⟩ allE_nil
      refine for_runs (runs_list K q7 _) (fun j σ H' => Ex Y2 H' ∧ ∃ y10, σ = [some (.ref a), some (.int (M : Nat)), some (.int (p : Nat)), some (.int A1), some (.int B1), some (.ref sp), y6, some (.ref q5), some (.int far), some (.int (0 + (i : Nat))), y10, none, none, none, none, none]) ⟨Fr.refl _, _, rfl⟩ (fun _ _ _ _ h => lst_of (h.1.get z2)) ?_ ?_
      · rintro j x σ H0 G6 hj ⟨f6, y10, rfl⟩ ⟨rfl, hx⟩
        obtain ⟨hw, d, r1, r2, r3⟩ := nop x (List.mem_of_getElem? hx)
        have r1 := r1.ex f6
        walk_at "go"
        refine ⟨_, _, _, true, _, _, d, rfl, r1.rq.ty, rnS (f2.trans (f3.trans (f4.trans (g16.trans (f5.trans (j1.trans (j2.trans f6))))))), r1.rq.ty, r1, fun h => (by rw [r2] at h; cases h), r3, trivial, .inl ⟨rfl, rfl, hw⟩, fun G7 f7 => ?_⟩
        have r1 := r1.ex f7
        walk_at "go"
        refine ⟨_, _, _, true, _, _, d, rfl, r1.rq.ty, .non, r1.rq.ty, r1, fun h => (by rw [r2] at h; cases h), r3, trivial, .inl ⟨rfl, rfl, hw⟩, fun G8 f8 => ?_⟩
        walk_at "go"
        exact ⟨f6.trans (f7.trans f8), _, rfl⟩
      rintro σ G6 ⟨f6, y10''', rfl⟩
      walk_at "go"
      exact ⟨f2.trans (f3.trans (f4.trans (g16.trans (f5.trans (j1.trans (j2.trans f6)))))), _, _, _, rfl⟩
    rintro σ G2 ⟨f2, y6, y9, y10, rfl⟩
    walk_at "go"
    have hgood : GoodSpans M (.list (zs.map fun z => encS z.2)) := ⟨zs.map (·.2), by rw [List.map_map]; rfl, by rw [List.length_map]; omega, fun z hz => by
      obtain ⟨y, hy, rfl⟩ := List.mem_map.mp hz
      exact hok y hy⟩
    have inj : ∀ {x y : Nat}, V.int (x : Nat) = .int (y : Nat) → y = x := fun h => by
      have := V.int.inj h
      omega
    refine ⟨_, _, _, _, .none, rfl, ⟨_, rfl⟩, rnS f2, .non, fun h => ?_, fun M' hM' _ => ⟨fun _ b H3 e3' hb => ?_, fun h => ?_⟩⟩
    · simp [withinV] at h
      omega
    rotate_left
    · rw [inj hM'] at h
      exact absurd hgood h
    have hbf : b = false := by
      cases b with
      | false => rfl
      | true =>
        obtain ⟨_, _, _, h, _⟩ := (hb (zs.map (·.2)) (by rw [List.map_map]; rfl)).mp rfl
        cases h
    subst hbf
    walk_at "go"
    have m1 := Int.emod_nonneg A1 (b := 3) (by omega)
    have m2 := Int.emod_lt_of_pos A1 (b := 3) (by omega)
    obtain ⟨m, hm⟩ : ∃ m, m = 1000000 - A1 % 3 := ⟨_, rfl⟩
    rw [← hm]
    have hm1 : 1 ≤ m ∧ m ≤ 1000000 := by omega
    refine lc_objs0 (rv_range 0 _) (fun _ _ => trivial) (by rw [List.length_range]; decide) (fun i => sO ⟨m, i % 24, i % 24 + 1⟩) ?_ ?_
    · intro i H' hi e B h1
      refine ⟨rfl, ?_⟩
      walk_at "go"
      rename_i q G n e v
      refine h1 q G n e ?_
      rw [v]
      unfold sO
      dsimp only
      rw [show (0 + ((i : Nat) : Int)) % 24 = ((i % 24 : Nat) : Int) by omega, show (((i % 24 + 1 : Nat) : Nat) : Int) = ((i % 24 : Nat) : Int) + 1 by omega]
    intro lp G3 tsB nlp f3 vlp olp _ _ _
    obtain ⟨ys, hyv, hy2, tt2⟩ := tt_of (by rw [longS, List.map_map]; exact olp : ObjsAt G3 tsB ((longS m).map sO))
    rw [← hyv] at vlp
    have hyl : ys.length = 400 := by
      have := congrArg List.length hy2
      rw [List.length_map, longS, List.length_map, List.length_range] at this
      exact this
    have hok2 : ∀ z ∈ longS m, SpOk 24 z := fun z hz => by
      have h := longS_ok z hz
      obtain ⟨i, _, rfl⟩ := List.mem_map.mp hz
      exact ⟨hm1.1, hm1.2, h.1, h.2⟩
    have hd : (ys.map fun z => encS z.2) = (longS m).map encS := by rw [← hy2, List.map_map]; rfl
    have hgood2 : GoodSpans 24 (.list (ys.map fun z => encS z.2)) := ⟨longS m, by rw [hd], by rw [longS, List.length_map, List.length_range]; decide, hok2⟩
    walk_at "go"
    refine ⟨_, _, _, rfl, ⟨_, rfl⟩, tt2.rnL vlp, fun h => (by cases h), fun M2 hM2' _ => ⟨fun h => ?_, fun _ ss hss fa c r x cs ps H4 e4' nc nr hcr va vc vr _ hcho hpri => ?_⟩⟩
    · rw [inj (x := 24) hM2'] at h
      exact absurd hgood2 h
    have e24 := inj (x := 24) hM2'
    subst e24
    have hs2 : ss = longS m := (encS_maps (by rw [← hss, hd])).symm
    subst hs2
    have hx := long_most hm1.1 hcho hpri
    rw [cI_ints] at vc
    have vlp4 := e4'.get vlp
    have tt4 := tt2.ex e4'
    walk_at "go"
    refine st_br2 (fun c1 => ?_) (fun c1 => absurd hx c1)
    walk_at "go"
    refine ⟨_, _, _, _, _, rfl, ⟨_, rfl⟩, tt4.rnL vlp4, .tup va (.cons (.int _) (.cons (rn_intL vc) (.cons (rn_intL vr) .nil))), fun h => (by cases h), fun M3 hM3 _ => ⟨fun _ b H5 e5' hb => ?_, fun h => ?_⟩⟩
    rotate_left
    · rw [inj (x := 24) hM3] at h
      exact absurd hgood2 h
    have e24 := inj (x := 24) hM3
    subst e24
    have hbt : b = true := (hb (longS m) (by rw [hd])).mpr (showsA_std.mpr ⟨⟨cs, rfl, hcho⟩, hpri⟩)
    subst hbt
    walk_at "go"
    exact k _
end
/-! ### what the top has written, the end -/
theorem all_mk {P : Program} {w : World} {K : PySem.W.Frag} {h : Heap} {mg : Str → Option Value} {fa f0 f1 f2 f3 f4 f5 f6 f7 f8 f9 f10 f11 f12 f13 f14 f15 f16 f17 : Addr} (X : K.In h) (G : h.Ns mainGlobals mg) (hfa : mg "law" = some (.ref fa))
    {od0 od1 od2 od3 od4 od5 od6 od7 od8 od9 od10 od11 od12 od13 od14 od15 od16 od17 an0 an1 an2 an3 an4 an5 an6 an7 an8 an9 an10 an11 an12 an13 an14 an15 an16 an17 : Option Addr} {sl0 sl1 sl2 sl3 sl4 sl5 sl6 sl7 sl8 sl9 sl10 sl11 sl12 sl13 sl14 sl15 sl16 sl17 : Array (Option Value)} {oc0 oc1 oc2 oc3 oc4 oc5 oc6 oc7 oc8 oc9 oc10 oc11 oc12 oc13 oc14 oc15 oc16 oc17 kV0 kV1 kV2 kV3 kV4 kV5 kV6 kV7 kV8 kV9 kV10 kV11 kV12 kV13 kV14 kV15 kV16 kV17 dc0 dc1 dc2 dc3 dc4 dc5 dc6 dc7 dc8 dc9 dc10 dc11 dc12 dc13 dc14 dc15 dc16 dc17 pm0 pm1 pm2 pm3 pm4 pm5 pm6 pm7 pm8 pm9 pm10 pm11 pm12 pm13 pm14 pm15 pm16 pm17 cd0 cd1 cd2 cd3 cd4 cd5 cd6 cd7 cd8 cd9 cd10 cd11 cd12 cd13 cd14 cd15 cd16 cd17 ct0 ct1 ct2 ct3 ct4 ct5 ct6 ct7 ct8 ct9 ct10 ct11 ct12 ct13 ct14 ct15 ct16 ct17 : Value} {t0 t1 t2 : Tok}{C_NoPlace C_NoStretches C_PaneError I_NoPlace I_NoStretches : Addr} {xn_NoPlace xn_NoStretches xq_NoPlace xq_NoStretches : Str} {xN_NoPlace xN_NoStretches : Addr} {xb_NoPlace xb_NoStretches xu_NoPlace xu_NoStretches : List Value} {xs_NoPlace xs_NoStretches : List Str} {xa_NoPlace xa_NoStretches : Bool} {xc_NoPlace xc_NoStretches : Option Bool} {xd_NoPlace xd_NoStretches Iod_NoPlace Iod_NoStretches Ian_NoPlace Ian_NoStretches : Option Addr} {xk0_NoPlace xk0_NoStretches xk1_NoPlace xk1_NoStretches xk2_NoPlace xk2_NoStretches xk3_NoPlace xk3_NoStretches xk5_NoPlace xk5_NoStretches : Option Value} {Ioc_NoPlace Ioc_NoStretches IkV_NoPlace IkV_NoStretches Idc_NoPlace Idc_NoStretches Ipm_NoPlace Ipm_NoStretches Icd_NoPlace Icd_NoStretches Ict_NoPlace Ict_NoStretches : Value} {Isl_NoPlace Isl_NoStretches : Array (Option Value)} 
    (a0 : PySem.W.nsIn K mainGlobals "is_whole" = some (some (.ref f0)))
    (l0 : K.lookup f0 = some ⟨oc0, od0, .func (PySem.W.fnOf "is_whole" "is_whole" (defArgs s_is_whole) (defBody s_is_whole) (defScope s_is_whole) .none kV0 dc0 pm0 an0 cd0 ct0), sl0⟩)
    (c0 : PySem.W.codeIn K cd0 "is_whole" = true) (k0 : PySem.W.keepIn K (.ref f0) = true)
    (a1 : PySem.W.nsIn K mainGlobals "is_within" = some (some (.ref f1)))
    (l1 : K.lookup f1 = some ⟨oc1, od1, .func (PySem.W.fnOf "is_within" "is_within" (defArgs s_is_within) (defBody s_is_within) (defScope s_is_within) .none kV1 dc1 pm1 an1 cd1 ct1), sl1⟩)
    (c1 : PySem.W.codeIn K cd1 "is_within" = true) (k1 : PySem.W.keepIn K (.ref f1) = true)
    (a2 : PySem.W.nsIn K mainGlobals "is_worthy" = some (some (.ref f2)))
    (l2 : K.lookup f2 = some ⟨oc2, od2, .func (PySem.W.fnOf "is_worthy" "is_worthy" (defArgs s_is_worthy) (defBody s_is_worthy) (defScope s_is_worthy) .none kV2 dc2 pm2 an2 cd2 ct2), sl2⟩)
    (c2 : PySem.W.codeIn K cd2 "is_worthy" = true) (k2 : PySem.W.keepIn K (.ref f2) = true)
    (a3 : PySem.W.nsIn K mainGlobals "need_stretches" = some (some (.ref f3)))
    (l3 : K.lookup f3 = some ⟨oc3, od3, .func (PySem.W.fnOf "need_stretches" "need_stretches" (defArgs s_need_stretches) (defBody s_need_stretches) (defScope s_need_stretches) .none kV3 dc3 pm3 an3 cd3 ct3), sl3⟩)
    (c3 : PySem.W.codeIn K cd3 "need_stretches" = true) (k3 : PySem.W.keepIn K (.ref f3) = true)
    (a4 : PySem.W.nsIn K mainGlobals "totals_of" = some (some (.ref f4)))
    (l4 : K.lookup f4 = some ⟨oc4, od4, .func (PySem.W.fnOf "totals_of" "totals_of" (defArgs s_totals_of) (defBody s_totals_of) (defScope s_totals_of) .none kV4 dc4 pm4 an4 cd4 ct4), sl4⟩)
    (c4 : PySem.W.codeIn K cd4 "totals_of" = true) (k4 : PySem.W.keepIn K (.ref f4) = true)
    (a5 : PySem.W.nsIn K mainGlobals "apart" = some (some (.ref f5)))
    (l5 : K.lookup f5 = some ⟨oc5, od5, .func (PySem.W.fnOf "apart" "apart" (defArgs s_apart) (defBody s_apart) (defScope s_apart) .none kV5 dc5 pm5 an5 cd5 ct5), sl5⟩)
    (c5 : PySem.W.codeIn K cd5 "apart" = true) (k5 : PySem.W.keepIn K (.ref f5) = true)
    (a6 : PySem.W.nsIn K mainGlobals "are_apart" = some (some (.ref f6)))
    (l6 : K.lookup f6 = some ⟨oc6, od6, .func (PySem.W.fnOf "are_apart" "are_apart" (defArgs s_are_apart) (defBody s_are_apart) (defScope s_are_apart) .none kV6 dc6 pm6 an6 cd6 ct6), sl6⟩)
    (c6 : PySem.W.codeIn K cd6 "are_apart" = true) (k6 : PySem.W.keepIn K (.ref f6) = true)
    (a7 : PySem.W.nsIn K mainGlobals "cover" = some (some (.ref f7)))
    (l7 : K.lookup f7 = some ⟨oc7, od7, .func (PySem.W.fnOf "cover" "cover" (defArgs s_cover) (defBody s_cover) (defScope s_cover) .none kV7 dc7 pm7 an7 cd7 ct7), sl7⟩)
    (c7 : PySem.W.codeIn K cd7 "cover" = true) (k7 : PySem.W.keepIn K (.ref f7) = true)
    (a8 : PySem.W.nsIn K mainGlobals "shows_apart" = some (some (.ref f8)))
    (l8 : K.lookup f8 = some ⟨oc8, od8, .func (PySem.W.fnOf "shows_apart" "shows_apart" (defArgs s_shows_apart) (defBody s_shows_apart) (defScope s_shows_apart) .none kV8 dc8 pm8 an8 cd8 ct8), sl8⟩)
    (c8 : PySem.W.codeIn K cd8 "shows_apart" = true) (k8 : PySem.W.keepIn K (.ref f8) = true)
    (a9 : PySem.W.nsIn K mainGlobals "_law_at" = some (some (.ref f9)))
    (l9 : K.lookup f9 = some ⟨oc9, od9, .func (PySem.W.fnOf "_law_at" "_law_at" (defArgs s__law_at) (defBody s__law_at) (defScope s__law_at) .none kV9 dc9 pm9 an9 cd9 ct9), sl9⟩)
    (c9 : PySem.W.codeIn K cd9 "_law_at" = true) (k9 : PySem.W.keepIn K (.ref f9) = true)
    (a10 : PySem.W.nsIn K mainGlobals "_law_right_ones" = some (some (.ref f10)))
    (l10 : K.lookup f10 = some ⟨oc10, od10, .func (PySem.W.fnOf "_law_right_ones" "_law_right_ones" (defArgs s__law_right_ones) (defBody s__law_right_ones) (defScope s__law_right_ones) .none kV10 dc10 pm10 an10 cd10 ct10), sl10⟩)
    (c10 : PySem.W.codeIn K cd10 "_law_right_ones" = true) (k10 : PySem.W.keepIn K (.ref f10) = true)
    (a11 : PySem.W.nsIn K mainGlobals "_law_wrong_kinds" = some (some (.ref f11)))
    (l11 : K.lookup f11 = some ⟨oc11, od11, .func (PySem.W.fnOf "_law_wrong_kinds" "_law_wrong_kinds" (defArgs s__law_wrong_kinds) (defBody s__law_wrong_kinds) (defScope s__law_wrong_kinds) .none kV11 dc11 pm11 an11 cd11 ct11), sl11⟩)
    (c11 : PySem.W.codeIn K cd11 "_law_wrong_kinds" = true) (k11 : PySem.W.keepIn K (.ref f11) = true)
    (a12 : PySem.W.nsIn K mainGlobals "_law_wrong_choices" = some (some (.ref f12)))
    (l12 : K.lookup f12 = some ⟨oc12, od12, .func (PySem.W.fnOf "_law_wrong_choices" "_law_wrong_choices" (defArgs s__law_wrong_choices) (defBody s__law_wrong_choices) (defScope s__law_wrong_choices) .none kV12 dc12 pm12 an12 cd12 ct12), sl12⟩)
    (c12 : PySem.W.codeIn K cd12 "_law_wrong_choices" = true) (k12 : PySem.W.keepIn K (.ref f12) = true)
    (a13 : PySem.W.nsIn K mainGlobals "_law_wrong_prices" = some (some (.ref f13)))
    (l13 : K.lookup f13 = some ⟨oc13, od13, .func (PySem.W.fnOf "_law_wrong_prices" "_law_wrong_prices" (defArgs s__law_wrong_prices) (defBody s__law_wrong_prices) (defScope s__law_wrong_prices) .none kV13 dc13 pm13 an13 cd13 ct13), sl13⟩)
    (c13 : PySem.W.codeIn K cd13 "_law_wrong_prices" = true) (k13 : PySem.W.keepIn K (.ref f13) = true)
    (a14 : PySem.W.nsIn K mainGlobals "_law_asked" = some (some (.ref f14)))
    (l14 : K.lookup f14 = some ⟨oc14, od14, .func (PySem.W.fnOf "_law_asked" "_law_asked" (defArgs s__law_asked) (defBody s__law_asked) (defScope s__law_asked) .none kV14 dc14 pm14 an14 cd14 ct14), sl14⟩)
    (c14 : PySem.W.codeIn K cd14 "_law_asked" = true) (k14 : PySem.W.keepIn K (.ref f14) = true)
    (a15 : PySem.W.nsIn K mainGlobals "_law_refused" = some (some (.ref f15)))
    (l15 : K.lookup f15 = some ⟨oc15, od15, .func (PySem.W.fnOf "_law_refused" "_law_refused" (defArgs s__law_refused) (defBody s__law_refused) (defScope s__law_refused) .none kV15 dc15 pm15 an15 cd15 ct15), sl15⟩)
    (c15 : PySem.W.codeIn K cd15 "_law_refused" = true) (k15 : PySem.W.keepIn K (.ref f15) = true)
    (a16 : PySem.W.nsIn K mainGlobals "_law_bad" = some (some (.ref f16)))
    (l16 : K.lookup f16 = some ⟨oc16, od16, .func (PySem.W.fnOf "_law_bad" "_law_bad" (defArgs s__law_bad) (defBody s__law_bad) (defScope s__law_bad) .none kV16 dc16 pm16 an16 cd16 ct16), sl16⟩)
    (c16 : PySem.W.codeIn K cd16 "_law_bad" = true) (k16 : PySem.W.keepIn K (.ref f16) = true)
    (a17 : PySem.W.nsIn K mainGlobals "law" = some (some (.ref f17)))
    (l17 : K.lookup f17 = some ⟨oc17, od17, .func (PySem.W.fnOf "law" "law" (defArgs s_law) (defBody s_law) (defScope s_law) .none kV17 dc17 pm17 an17 cd17 ct17), sl17⟩)
    (c17 : PySem.W.codeIn K cd17 "law" = true) (k17 : PySem.W.keepIn K (.ref f17) = true)
    (cn0 : PySem.W.nsIn K mainGlobals "MOST_WORTH" = some (some (.int 1000000 t0)))
    (cn1 : PySem.W.nsIn K mainGlobals "MOST_LETTERS" = some (some (.int 24 t1)))
    (cn2 : PySem.W.nsIn K mainGlobals "MOST_STRETCHES" = some (some (.int 400 t2)))
    (z0 : PySem.W.nsIn K mainGlobals "isinstance" = some none)
    (z1 : PySem.W.nsIn K mainGlobals "int" = some none)
    (z2 : PySem.W.nsIn K mainGlobals "bool" = some none)
    (z3 : PySem.W.nsIn K mainGlobals "tuple" = some none)
    (z4 : PySem.W.nsIn K mainGlobals "len" = some none)
    (z5 : PySem.W.nsIn K mainGlobals "all" = some none)
    (z6 : PySem.W.nsIn K mainGlobals "list" = some none)
    (z7 : PySem.W.nsIn K mainGlobals "enumerate" = some none)
    (z8 : PySem.W.nsIn K mainGlobals "range" = some none)
    (z9 : PySem.W.nsIn K mainGlobals "sorted" = some none)
    (z10 : PySem.W.nsIn K mainGlobals "sum" = some none)
    (z11 : PySem.W.nsIn K mainGlobals "repr" = some none)
    (z12 : PySem.W.nsIn K mainGlobals "ValueError" = some none)
    (g_NoPlace : PySem.W.nsIn K mainGlobals "NoPlace" = some (some (.ref C_NoPlace)))
    (g_NoStretches : PySem.W.nsIn K mainGlobals "NoStretches" = some (some (.ref C_NoStretches)))
    (g_PaneError : PySem.W.nsIn K mainGlobals "PaneError" = some (some (.ref C_PaneError)))
    (sb_NoPlace : PySem.W.subIn K (.ref C_NoPlace) (.type "BaseException") = some true)
    (hd_NoPlace : PySem.W.hasDictIn K C_NoPlace = true)
    (ty_NoPlace : PySem.W.typeIn K (.ref C_NoPlace) = some (.type "type"))
    (sb_NoStretches : PySem.W.subIn K (.ref C_NoStretches) (.type "BaseException") = some true)
    (hd_NoStretches : PySem.W.hasDictIn K C_NoStretches = true)
    (ty_NoStretches : PySem.W.typeIn K (.ref C_NoStretches) = some (.type "type"))
    (sb_PaneError : PySem.W.subIn K (.ref C_PaneError) (.type "BaseException") = some true)
    (hd_PaneError : PySem.W.hasDictIn K C_PaneError = true)
    (ty_PaneError : PySem.W.typeIn K (.ref C_PaneError) = some (.type "type"))
    (lk_NoPlace : K.lookup C_NoPlace = some (excClassObj xn_NoPlace xq_NoPlace C_NoPlace xN_NoPlace xb_NoPlace [.ref C_PaneError, .type "ValueError", .type "Exception", .type "BaseException", .type "object"] true xs_NoPlace xu_NoPlace xa_NoPlace xc_NoPlace xd_NoPlace xk0_NoPlace xk1_NoPlace xk2_NoPlace xk3_NoPlace xk5_NoPlace "ValueError.__new__"))
    (f_setattr_NoPlace : PySem.W.findIn K (.ref C_NoPlace) "__setattr__" = some (some (.builtin "object.__setattr__")))
    (k_NoPlace : PySem.W.keepIn K (.ref C_NoPlace) = true)
    (f_found_NoPlace : PySem.W.findIn K (.ref C_NoPlace) "found" = some none)
    (ini_NoPlace : PySem.W.findIn K (.ref C_NoPlace) "__init__" = some (some (.ref I_NoPlace)))
    (int_NoPlace : PySem.W.typeIn K (.ref I_NoPlace) = some (.type "function"))
    (il_NoPlace : K.lookup I_NoPlace = some ⟨Ioc_NoPlace, Iod_NoPlace, .func (PySem.W.fnOf "__init__" "NoPlace.__init__" (defArgs si_NoPlace) (defBody si_NoPlace) (defScope si_NoPlace) .none IkV_NoPlace Idc_NoPlace Ipm_NoPlace Ian_NoPlace Icd_NoPlace Ict_NoPlace), Isl_NoPlace⟩)
    (ic_NoPlace : PySem.W.codeIn K Icd_NoPlace "NoPlace.__init__" = true)
    (ik_NoPlace : PySem.W.keepIn K (.ref I_NoPlace) = true)
    (ct_ : PySem.W.specialIn K (.builtin "object.__class__") "__get__" = some (some (.builtin "getset_descriptor.__get__")))
    (cu_ : PySem.W.takesIn K (.builtin "object.__class__") = some true)
    (f_getattribute_NoPlace : PySem.W.findIn K (.ref C_NoPlace) "__getattribute__" = some (some (.builtin "BaseException.__getattribute__")))
    (f_getattr_NoPlace : PySem.W.findIn K (.ref C_NoPlace) "__getattr__" = some none)
    (f_class_NoPlace : PySem.W.findIn K (.ref C_NoPlace) "__class__" = some (some (.builtin "object.__class__")))
    (cm_NoPlace : PySem.W.mroIn K C_NoPlace (.type "object") = some true)
    (s_NoPlace_NoPlace : PySem.W.subIn K (.ref C_NoPlace) (.ref C_NoPlace) = some true)
    (s_NoPlace_NoStretches : PySem.W.subIn K (.ref C_NoPlace) (.ref C_NoStretches) = some false)
    (s_NoPlace_PaneError : PySem.W.subIn K (.ref C_NoPlace) (.ref C_PaneError) = some true)
    (v_NoPlace : PySem.W.subIn K (.ref C_NoPlace) (.type "ValueError") = some true)
    (lk_NoStretches : K.lookup C_NoStretches = some (excClassObj xn_NoStretches xq_NoStretches C_NoStretches xN_NoStretches xb_NoStretches [.ref C_PaneError, .type "ValueError", .type "Exception", .type "BaseException", .type "object"] true xs_NoStretches xu_NoStretches xa_NoStretches xc_NoStretches xd_NoStretches xk0_NoStretches xk1_NoStretches xk2_NoStretches xk3_NoStretches xk5_NoStretches "ValueError.__new__"))
    (f_setattr_NoStretches : PySem.W.findIn K (.ref C_NoStretches) "__setattr__" = some (some (.builtin "object.__setattr__")))
    (k_NoStretches : PySem.W.keepIn K (.ref C_NoStretches) = true)
    (f_found_NoStretches : PySem.W.findIn K (.ref C_NoStretches) "found" = some none)
    (ini_NoStretches : PySem.W.findIn K (.ref C_NoStretches) "__init__" = some (some (.ref I_NoStretches)))
    (int_NoStretches : PySem.W.typeIn K (.ref I_NoStretches) = some (.type "function"))
    (il_NoStretches : K.lookup I_NoStretches = some ⟨Ioc_NoStretches, Iod_NoStretches, .func (PySem.W.fnOf "__init__" "NoStretches.__init__" (defArgs si_NoStretches) (defBody si_NoStretches) (defScope si_NoStretches) .none IkV_NoStretches Idc_NoStretches Ipm_NoStretches Ian_NoStretches Icd_NoStretches Ict_NoStretches), Isl_NoStretches⟩)
    (ic_NoStretches : PySem.W.codeIn K Icd_NoStretches "NoStretches.__init__" = true)
    (ik_NoStretches : PySem.W.keepIn K (.ref I_NoStretches) = true)
    (f_getattribute_NoStretches : PySem.W.findIn K (.ref C_NoStretches) "__getattribute__" = some (some (.builtin "BaseException.__getattribute__")))
    (f_getattr_NoStretches : PySem.W.findIn K (.ref C_NoStretches) "__getattr__" = some none)
    (f_class_NoStretches : PySem.W.findIn K (.ref C_NoStretches) "__class__" = some (some (.builtin "object.__class__")))
    (cm_NoStretches : PySem.W.mroIn K C_NoStretches (.type "object") = some true)
    (s_NoStretches_NoPlace : PySem.W.subIn K (.ref C_NoStretches) (.ref C_NoPlace) = some false)
    (s_NoStretches_NoStretches : PySem.W.subIn K (.ref C_NoStretches) (.ref C_NoStretches) = some true)
    (s_NoStretches_PaneError : PySem.W.subIn K (.ref C_NoStretches) (.ref C_PaneError) = some true)
    (v_NoStretches : PySem.W.subIn K (.ref C_NoStretches) (.type "ValueError") = some true)
    (s_PaneError_PaneError : PySem.W.subIn K (.ref C_PaneError) (.ref C_PaneError) = some true)
    (ba_PaneError : PySem.W.specialIn K (.ref C_PaneError) "__getattribute__" = some (some (.builtin "type.__getattribute__")))
    (br_PaneError : PySem.W.readsIn K C_PaneError (.type "type") = true)
    (bf_PaneError : PySem.W.findCls K (.ref C_PaneError) (.type "type") "__init__" = some (.val (.builtin "ValueError.__init__")))
    : ∃ fd : FuncData, (∀ (s : Shared) (v : Value), BindsTo s fd ⟨[v], []⟩ [("_law_script", v)]) ∧ ∀ base : Heap, K.In base → base.Ns mainGlobals mg → FnG P w K mg base CX0 7 fa fd ["_law_script"] (sp_law K) := by
  have e := hfa.symm.trans (PySem.W.mg_of X G a17)
  cases e
  have q_NoPlace := clsA_of g_NoPlace
  subst q_NoPlace
  have q_NoStretches := clsA_of g_NoStretches
  subst q_NoStretches
  have q_PaneError := clsA_of g_PaneError
  subst q_PaneError
  have T : Tx K mg (fun i => match i with | 0 => f0 | 1 => f1 | 2 => f2 | 3 => f3 | 4 => f4 | 5 => f5 | 6 => f6 | 7 => f7 | 8 => f8 | 9 => f9 | 10 => f10 | 11 => f11 | 12 => f12 | 13 => f13 | 14 => f14 | 15 => f15 | 16 => f16 | 17 => fa | _ => f0) (fun i => match i with | 0 => PySem.W.fnOf "is_whole" "is_whole" (defArgs s_is_whole) (defBody s_is_whole) (defScope s_is_whole) .none kV0 dc0 pm0 an0 cd0 ct0 | 1 => PySem.W.fnOf "is_within" "is_within" (defArgs s_is_within) (defBody s_is_within) (defScope s_is_within) .none kV1 dc1 pm1 an1 cd1 ct1 | 2 => PySem.W.fnOf "is_worthy" "is_worthy" (defArgs s_is_worthy) (defBody s_is_worthy) (defScope s_is_worthy) .none kV2 dc2 pm2 an2 cd2 ct2 | 3 => PySem.W.fnOf "need_stretches" "need_stretches" (defArgs s_need_stretches) (defBody s_need_stretches) (defScope s_need_stretches) .none kV3 dc3 pm3 an3 cd3 ct3 | 4 => PySem.W.fnOf "totals_of" "totals_of" (defArgs s_totals_of) (defBody s_totals_of) (defScope s_totals_of) .none kV4 dc4 pm4 an4 cd4 ct4 | 5 => PySem.W.fnOf "apart" "apart" (defArgs s_apart) (defBody s_apart) (defScope s_apart) .none kV5 dc5 pm5 an5 cd5 ct5 | 6 => PySem.W.fnOf "are_apart" "are_apart" (defArgs s_are_apart) (defBody s_are_apart) (defScope s_are_apart) .none kV6 dc6 pm6 an6 cd6 ct6 | 7 => PySem.W.fnOf "cover" "cover" (defArgs s_cover) (defBody s_cover) (defScope s_cover) .none kV7 dc7 pm7 an7 cd7 ct7 | 8 => PySem.W.fnOf "shows_apart" "shows_apart" (defArgs s_shows_apart) (defBody s_shows_apart) (defScope s_shows_apart) .none kV8 dc8 pm8 an8 cd8 ct8 | 9 => PySem.W.fnOf "_law_at" "_law_at" (defArgs s__law_at) (defBody s__law_at) (defScope s__law_at) .none kV9 dc9 pm9 an9 cd9 ct9 | 10 => PySem.W.fnOf "_law_right_ones" "_law_right_ones" (defArgs s__law_right_ones) (defBody s__law_right_ones) (defScope s__law_right_ones) .none kV10 dc10 pm10 an10 cd10 ct10 | 11 => PySem.W.fnOf "_law_wrong_kinds" "_law_wrong_kinds" (defArgs s__law_wrong_kinds) (defBody s__law_wrong_kinds) (defScope s__law_wrong_kinds) .none kV11 dc11 pm11 an11 cd11 ct11 | 12 => PySem.W.fnOf "_law_wrong_choices" "_law_wrong_choices" (defArgs s__law_wrong_choices) (defBody s__law_wrong_choices) (defScope s__law_wrong_choices) .none kV12 dc12 pm12 an12 cd12 ct12 | 13 => PySem.W.fnOf "_law_wrong_prices" "_law_wrong_prices" (defArgs s__law_wrong_prices) (defBody s__law_wrong_prices) (defScope s__law_wrong_prices) .none kV13 dc13 pm13 an13 cd13 ct13 | 14 => PySem.W.fnOf "_law_asked" "_law_asked" (defArgs s__law_asked) (defBody s__law_asked) (defScope s__law_asked) .none kV14 dc14 pm14 an14 cd14 ct14 | 15 => PySem.W.fnOf "_law_refused" "_law_refused" (defArgs s__law_refused) (defBody s__law_refused) (defScope s__law_refused) .none kV15 dc15 pm15 an15 cd15 ct15 | 16 => PySem.W.fnOf "_law_bad" "_law_bad" (defArgs s__law_bad) (defBody s__law_bad) (defScope s__law_bad) .none kV16 dc16 pm16 an16 cd16 ct16 | 17 => PySem.W.fnOf "law" "law" (defArgs s_law) (defBody s_law) (defScope s_law) .none kV17 dc17 pm17 an17 cd17 ct17 | _ => PySem.W.fnOf "is_whole" "is_whole" (defArgs s_is_whole) (defBody s_is_whole) (defScope s_is_whole) .none kV0 dc0 pm0 an0 cd0 ct0) (fun i => match i with | 0 => t0 | 1 => t1 | 2 => t2 | _ => t0) := {
    d_is_whole := df_mk X G a0 l0 c0 k0 (fun _ _ _ _ _ _ us hl => match us, hl with | [_], _ => rfl)
    d_is_within := df_mk X G a1 l1 c1 k1 (fun _ _ _ _ _ _ us hl => match us, hl with | [_, _, _], _ => rfl)
    d_is_worthy := df_mk X G a2 l2 c2 k2 (fun _ _ _ _ _ _ us hl => match us, hl with | [_, _], _ => rfl)
    d_need_stretches := df_mk X G a3 l3 c3 k3 (fun _ _ _ _ _ _ us hl => match us, hl with | [_, _], _ => rfl)
    d_totals_of := df_mk X G a4 l4 c4 k4 (fun _ _ _ _ _ _ us hl => match us, hl with | [_, _], _ => rfl)
    d_apart := df_mk X G a5 l5 c5 k5 (fun _ _ _ _ _ _ us hl => match us, hl with | [_, _], _ => rfl)
    d_are_apart := df_mk X G a6 l6 c6 k6 (fun _ _ _ _ _ _ us hl => match us, hl with | [_, _, _], _ => rfl)
    d_cover := df_mk X G a7 l7 c7 k7 (fun _ _ _ _ _ _ us hl => match us, hl with | [_, _, _], _ => rfl)
    d_shows_apart := df_mk X G a8 l8 c8 k8 (fun _ _ _ _ _ _ us hl => match us, hl with | [_, _, _], _ => rfl)
    d__law_at := df_mk X G a9 l9 c9 k9 (fun _ _ _ _ _ _ us hl => match us, hl with | [_, _], _ => rfl)
    d__law_right_ones := df_mk X G a10 l10 c10 k10 (fun _ _ _ _ _ _ us hl => match us, hl with | [_, _, _, _], _ => rfl)
    d__law_wrong_kinds := df_mk X G a11 l11 c11 k11 (fun _ _ _ _ _ _ us hl => match us, hl with | [_, _, _, _], _ => rfl)
    d__law_wrong_choices := df_mk X G a12 l12 c12 k12 (fun _ _ _ _ _ _ us hl => match us, hl with | [_, _, _, _], _ => rfl)
    d__law_wrong_prices := df_mk X G a13 l13 c13 k13 (fun _ _ _ _ _ _ us hl => match us, hl with | [_, _, _, _], _ => rfl)
    d__law_asked := df_mk X G a14 l14 c14 k14 (fun _ _ _ _ _ _ us hl => match us, hl with | [_, _, _, _], _ => rfl)
    d__law_refused := df_mk X G a15 l15 c15 k15 (fun _ _ _ _ _ _ us hl => match us, hl with | [_, _, _, _, _], _ => rfl)
    d__law_bad := df_mk X G a16 l16 c16 k16 (fun _ _ _ _ _ _ us hl => match us, hl with | [_, _, _], _ => rfl)
    d_law := df_mk X G a17 l17 c17 k17 (fun _ _ _ _ _ _ us hl => match us, hl with | [_], _ => rfl)
    c_MOST_WORTH := PySem.W.mg_of X G cn0
    c_MOST_LETTERS := PySem.W.mg_of X G cn1
    c_MOST_STRETCHES := PySem.W.mg_of X G cn2
    b_isinstance := PySem.W.mg_none_of X G z0
    b_int := PySem.W.mg_none_of X G z1
    b_bool := PySem.W.mg_none_of X G z2
    b_tuple := PySem.W.mg_none_of X G z3
    b_len := PySem.W.mg_none_of X G z4
    b_all := PySem.W.mg_none_of X G z5
    b_list := PySem.W.mg_none_of X G z6
    b_enumerate := PySem.W.mg_none_of X G z7
    b_range := PySem.W.mg_none_of X G z8
    b_sorted := PySem.W.mg_none_of X G z9
    b_sum := PySem.W.mg_none_of X G z10
    b_repr := PySem.W.mg_none_of X G z11
    b_ValueError := PySem.W.mg_none_of X G z12
    e_NoPlace := ⟨PySem.W.mg_of X G g_NoPlace, sb_NoPlace, hd_NoPlace, ty_NoPlace⟩
    e_NoStretches := ⟨PySem.W.mg_of X G g_NoStretches, sb_NoStretches, hd_NoStretches, ty_NoStretches⟩
    e_PaneError := ⟨PySem.W.mg_of X G g_PaneError, sb_PaneError, hd_PaneError, ty_PaneError⟩
    g_NoPlace := PySem.W.mg_of X G g_NoPlace
    o_NoPlace := ⟨⟨_, _, _, _, _, _, _, _, _, _, _, _, _, _, _, lk_NoPlace, rfl⟩, f_setattr_NoPlace, sb_NoPlace, ty_NoPlace, k_NoPlace⟩
    n_NoPlace_found := f_found_NoPlace
    i_NoPlace := ini_mk ini_NoPlace int_NoPlace il_NoPlace ic_NoPlace ik_NoPlace (fun _ _ _ _ _ _ us hl => match us, hl with | [_, _], _ => rfl)
    x_NoPlace := xi_mk f_getattribute_NoPlace f_getattr_NoPlace sb_NoPlace hd_NoPlace f_class_NoPlace ct_ cu_ cm_NoPlace
    s_NoPlace_NoPlace := s_NoPlace_NoPlace
    s_NoPlace_NoStretches := s_NoPlace_NoStretches
    s_NoPlace_PaneError := s_NoPlace_PaneError
    v_NoPlace := v_NoPlace
    g_NoStretches := PySem.W.mg_of X G g_NoStretches
    o_NoStretches := ⟨⟨_, _, _, _, _, _, _, _, _, _, _, _, _, _, _, lk_NoStretches, rfl⟩, f_setattr_NoStretches, sb_NoStretches, ty_NoStretches, k_NoStretches⟩
    n_NoStretches_found := f_found_NoStretches
    i_NoStretches := ini_mk ini_NoStretches int_NoStretches il_NoStretches ic_NoStretches ik_NoStretches (fun _ _ _ _ _ _ us hl => match us, hl with | [_, _], _ => rfl)
    x_NoStretches := xi_mk f_getattribute_NoStretches f_getattr_NoStretches sb_NoStretches hd_NoStretches f_class_NoStretches ct_ cu_ cm_NoStretches
    s_NoStretches_NoPlace := s_NoStretches_NoPlace
    s_NoStretches_NoStretches := s_NoStretches_NoStretches
    s_NoStretches_PaneError := s_NoStretches_PaneError
    v_NoStretches := v_NoStretches
    s_PaneError_PaneError := s_PaneError_PaneError
    bi_PaneError := ⟨PySem.W.mg_of X G g_PaneError, ba_PaneError, br_PaneError, bf_PaneError⟩
  }
  exact ⟨PySem.W.fnOf "law" "law" (defArgs s_law) (defBody s_law) (defScope s_law) .none kV17 dc17 pm17 an17 cd17 ct17, fun s v => .of_eq rfl, fun base _ _ => ok_law T⟩
theorem walk {l : PySem.W.OpenLaw} {q : Program} {loose : List Str} {XP : (Str → Option Value) → Heap → Prop} {YP : World → Heap → Prop} {d : DefRec} {K : Params → PySem.W.Frag} (hn : l.most = some 63) (hdf : d.params.defaults = [])
    (hY : ∀ (w : World) (h : Heap), YP w h → (K w.params).In h)
    (F : ∀ (w : World) (mg : Str → Option Value) (fa : Addr) (h : Heap), (K w.params).In h → h.Ns mainGlobals mg → mg d.name = some (.ref fa) →
      ∃ fd : FuncData, (∀ (s : Shared) (u : Value), BindsTo s fd ⟨[u], []⟩ [("_law_script", u)]) ∧ ∀ base : Heap, (K w.params).In base → base.Ns mainGlobals mg → FnG l.prog w (K w.params) mg base CX0 7 fa fd ["_law_script"] (sp_law (K w.params))) :
    PySem.W.WalkO q loose XP YP l.row.toRowW d [] (fun f vs => PySem.call f vs) :=
  walk_G (k := 7) (x := "_law_script") (spK := sp_law) hn hdf ⟨rfl, by decide, by decide⟩ hY F (fun _ H a ns hl hS => ⟨a, ns, rfl, hS, hl, fun _ => rfl⟩)
end My
open PySem PySem.W PyProof.Rows in
set_option maxRecDepth 100000 in
set_option maxHeartbeats 0 in
theorem PySem.Challenge.cw_panethread_k73_papers_of_stretches_spoil_holds : PySem.Challenge.rw_panethread_k73_papers_of_stretches_spoil.Holds := by
  w_on; o_law; k_head; (case hw => w_witness2)
  k_fill
  refine My.walk (l := PySem.Challenge.rw_panethread_k73_papers_of_stretches_spoil) rfl rfl (fun w h Y => PySem.W.kIn_of Y) ?F
  case F =>
    intro w mg fa h KX G hmg
    refine' My.all_mk KX G hmg ?a0 ?l0 ?c0 ?k0 ?a1 ?l1 ?c1 ?k1 ?a2 ?l2 ?c2 ?k2 ?a3 ?l3 ?c3 ?k3 ?a4 ?l4 ?c4 ?k4 ?a5 ?l5 ?c5 ?k5 ?a6 ?l6 ?c6 ?k6 ?a7 ?l7 ?c7 ?k7 ?a8 ?l8 ?c8 ?k8 ?a9 ?l9 ?c9 ?k9 ?a10 ?l10 ?c10 ?k10 ?a11 ?l11 ?c11 ?k11 ?a12 ?l12 ?c12 ?k12 ?a13 ?l13 ?c13 ?k13 ?a14 ?l14 ?c14 ?k14 ?a15 ?l15 ?c15 ?k15 ?a16 ?l16 ?c16 ?k16 ?a17 ?l17 ?c17 ?k17 ?cn0 ?cn1 ?cn2 ?z0 ?z1 ?z2 ?z3 ?z4 ?z5 ?z6 ?z7 ?z8 ?z9 ?z10 ?z11 ?z12 ?g_NoPlace ?g_NoStretches ?g_PaneError ?sb_NoPlace ?hd_NoPlace ?ty_NoPlace ?sb_NoStretches ?hd_NoStretches ?ty_NoStretches ?sb_PaneError ?hd_PaneError ?ty_PaneError ?lk_NoPlace ?f_setattr_NoPlace ?k_NoPlace ?f_found_NoPlace ?ini_NoPlace ?int_NoPlace ?il_NoPlace ?ic_NoPlace ?ik_NoPlace ?ct_ ?cu_ ?f_getattribute_NoPlace ?f_getattr_NoPlace ?f_class_NoPlace ?cm_NoPlace ?s_NoPlace_NoPlace ?s_NoPlace_NoStretches ?s_NoPlace_PaneError ?v_NoPlace ?lk_NoStretches ?f_setattr_NoStretches ?k_NoStretches ?f_found_NoStretches ?ini_NoStretches ?int_NoStretches ?il_NoStretches ?ic_NoStretches ?ik_NoStretches ?f_getattribute_NoStretches ?f_getattr_NoStretches ?f_class_NoStretches ?cm_NoStretches ?s_NoStretches_NoPlace ?s_NoStretches_NoStretches ?s_NoStretches_PaneError ?v_NoStretches ?s_PaneError_PaneError ?ba_PaneError ?br_PaneError ?bf_PaneError
    (case a0 => k_is)
    (case l0 => k_is)
    (case c0 => k_is)
    (case k0 => k_is)
    (case a1 => k_is)
    (case l1 => k_is)
    (case c1 => k_is)
    (case k1 => k_is)
    (case a2 => k_is)
    (case l2 => k_is)
    (case c2 => k_is)
    (case k2 => k_is)
    (case a3 => k_is)
    (case l3 => k_is)
    (case c3 => k_is)
    (case k3 => k_is)
    (case a4 => k_is)
    (case l4 => k_is)
    (case c4 => k_is)
    (case k4 => k_is)
    (case a5 => k_is)
    (case l5 => k_is)
    (case c5 => k_is)
    (case k5 => k_is)
    (case a6 => k_is)
    (case l6 => k_is)
    (case c6 => k_is)
    (case k6 => k_is)
    (case a7 => k_is)
    (case l7 => k_is)
    (case c7 => k_is)
    (case k7 => k_is)
    (case a8 => k_is)
    (case l8 => k_is)
    (case c8 => k_is)
    (case k8 => k_is)
    (case a9 => k_is)
    (case l9 => k_is)
    (case c9 => k_is)
    (case k9 => k_is)
    (case a10 => k_is)
    (case l10 => k_is)
    (case c10 => k_is)
    (case k10 => k_is)
    (case a11 => k_is)
    (case l11 => k_is)
    (case c11 => k_is)
    (case k11 => k_is)
    (case a12 => k_is)
    (case l12 => k_is)
    (case c12 => k_is)
    (case k12 => k_is)
    (case a13 => k_is)
    (case l13 => k_is)
    (case c13 => k_is)
    (case k13 => k_is)
    (case a14 => k_is)
    (case l14 => k_is)
    (case c14 => k_is)
    (case k14 => k_is)
    (case a15 => k_is)
    (case l15 => k_is)
    (case c15 => k_is)
    (case k15 => k_is)
    (case a16 => k_is)
    (case l16 => k_is)
    (case c16 => k_is)
    (case k16 => k_is)
    (case a17 => k_is)
    (case l17 => k_is)
    (case c17 => k_is)
    (case k17 => k_is)
    (case cn0 => k_is)
    (case cn1 => k_is)
    (case cn2 => k_is)
    (case z0 => k_is)
    (case z1 => k_is)
    (case z2 => k_is)
    (case z3 => k_is)
    (case z4 => k_is)
    (case z5 => k_is)
    (case z6 => k_is)
    (case z7 => k_is)
    (case z8 => k_is)
    (case z9 => k_is)
    (case z10 => k_is)
    (case z11 => k_is)
    (case z12 => k_is)
    (case g_NoPlace => k_is)
    (case g_NoStretches => k_is)
    (case g_PaneError => k_is)
    (case sb_NoPlace => k_is)
    (case hd_NoPlace => k_is)
    (case ty_NoPlace => k_is)
    (case sb_NoStretches => k_is)
    (case hd_NoStretches => k_is)
    (case ty_NoStretches => k_is)
    (case sb_PaneError => k_is)
    (case hd_PaneError => k_is)
    (case ty_PaneError => k_is)
    (case lk_NoPlace => k_is)
    (case f_setattr_NoPlace => k_is)
    (case k_NoPlace => k_is)
    (case f_found_NoPlace => k_is)
    (case ini_NoPlace => k_is)
    (case int_NoPlace => k_is)
    (case il_NoPlace => k_is)
    (case ic_NoPlace => k_is)
    (case ik_NoPlace => k_is)
    (case ct_ => k_is)
    (case cu_ => k_is)
    (case f_getattribute_NoPlace => k_is)
    (case f_getattr_NoPlace => k_is)
    (case f_class_NoPlace => k_is)
    (case cm_NoPlace => k_is)
    (case s_NoPlace_NoPlace => k_is)
    (case s_NoPlace_NoStretches => k_is)
    (case s_NoPlace_PaneError => k_is)
    (case v_NoPlace => k_is)
    (case lk_NoStretches => k_is)
    (case f_setattr_NoStretches => k_is)
    (case k_NoStretches => k_is)
    (case f_found_NoStretches => k_is)
    (case ini_NoStretches => k_is)
    (case int_NoStretches => k_is)
    (case il_NoStretches => k_is)
    (case ic_NoStretches => k_is)
    (case ik_NoStretches => k_is)
    (case f_getattribute_NoStretches => k_is)
    (case f_getattr_NoStretches => k_is)
    (case f_class_NoStretches => k_is)
    (case cm_NoStretches => k_is)
    (case s_NoStretches_NoPlace => k_is)
    (case s_NoStretches_NoStretches => k_is)
    (case s_NoStretches_PaneError => k_is)
    (case v_NoStretches => k_is)
    (case s_PaneError_PaneError => k_is)
    (case ba_PaneError => k_is)
    (case br_PaneError => k_is)
    (case bf_PaneError => k_is)
#print axioms PySem.Challenge.cw_panethread_k73_papers_of_stretches_spoil_holds
