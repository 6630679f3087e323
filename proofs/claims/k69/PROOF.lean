import PyProof.Rows.All
import Wide.All
import OpenK.AllK
import Wide.FinOn
import HandS.ForMost
import HandS.ForExc
import HandS.IsInst
import HandS.Codes
import HandS.Evl
import KE.DataEq
import KE.GoesEnum
import HandS.ExcInit
import HandS.WordsExc
import HandS.ExcOwn
import HandS.TryElse
import HandS.ExcField
import HandS.ExcIs
import KE.KExcIs
import HandS.SetKeys
import HandS.SortRule
import HandS.SortInts
import HandS.TupLe
import PyProof.ReprRoads
import HandS.Ends
import PyProof.ReprLen
import HandS.DeepEq
import HandS.Conv
import HandS.Wide
import HandS.DictComp
import HandS.TupAny
import HandS.TupLen
import PyProof.FString5
import PyProof.StrLawsTight
import HandS.ExcValue
import HandS.Flt
import OpenK.KTop
import HandS.JoinGen
import HandS.NoneIn
import KE.DataMinMax
import KE.DatumOrd
import PyProof.DictMoreH
import HandS.DictTup
import KE.DataCmp
import HandS.Zip
import HandS.TupSets
import PySem.Challenge.RW_panethread_k69_forged_lists_and_news
set_option Elab.async false
set_option linter.all false
set_option maxRecDepth 100000
set_option maxHeartbeats 4000000
namespace Zb
open PySem PySem.Spec PyProof.Rows L2

/-! ### slots -/
def slot : L2.St → Nat → Option V
  | [], _ => none
  | a :: _, 0 => a
  | _ :: r, n + 1 => slot r n
theorem slot_get : ∀ {σ : L2.St} {i : Nat} {v : V}, slot σ i = some v → σ[i]? = some (some v)
  | [], _, _, h => by cases h
  | a :: r, 0, v, h => by have h : a = some v := h; simp [h]
  | a :: r, n + 1, v, h => by have h : slot r n = some v := h; simpa using slot_get h

/-! ### what is read as a row of items -/
def seqAt (H : Hp) (p : Addr) : Option (List V) := match H p with
  | some (.lst xs) => some xs
  | some (.tup xs) => some xs
  | some (.frz _ (.lst xs)) => some xs
  | some (.frz _ (.tup xs)) => some xs
  | _ => none
theorem seqAt_sq {K : PySem.W.Frag} {H : Hp} {p : Addr} {xs : List V} (h : seqAt H p = some xs) : SqL K H p xs ∨ SqT K H p xs := by
  unfold seqAt at h
  split at h
  · rename_i e; cases h; exact .inl (.inl (.inl e))
  · rename_i e; cases h; exact .inr (.inl (.inl e))
  · rename_i e; cases h; exact .inl (.inl (.inr ⟨_, e⟩))
  · rename_i e; cases h; exact .inr (.inl (.inr ⟨_, e⟩))
  · cases h

def lstAt (H : Hp) (p : Addr) : Option (List V) := match H p with
  | some (.lst xs) => some xs
  | some (.frz _ (.lst xs)) => some xs
  | _ => none
theorem lstAt_sq {K : PySem.W.Frag} {H : Hp} {p : Addr} {xs : List V} (h : lstAt H p = some xs) : SqL K H p xs := by
  unfold lstAt at h
  split at h
  · rename_i e; cases h; exact .inl (.inl e)
  · rename_i e; cases h; exact .inl (.inr ⟨_, e⟩)
  · cases h
def tupAt (H : Hp) (p : Addr) : Option (List V) := match H p with
  | some (.tup xs) => some xs
  | some (.frz _ (.tup xs)) => some xs
  | _ => none
theorem tupAt_sq {K : PySem.W.Frag} {H : Hp} {p : Addr} {xs : List V} (h : tupAt H p = some xs) : SqT K H p xs := by
  unfold tupAt at h
  split at h
  · rename_i e; cases h; exact .inl (.inl e)
  · rename_i e; cases h; exact .inl (.inr ⟨_, e⟩)
  · cases h
/-! ### data at any depth -/
mutual
inductive Rp (H : Hp) : V → PyData → Prop
  | non : Rp H .non .none
  | bl (b : Bool) : Rp H (.bl b) (.bool b)
  | int (i : Int) : Rp H (.int i) (.int i)
  | str (x : Str) : Rp H (.str x) (.str x)
  | lst {a : Addr} {xs : List V} {ds : List PyData} : lstAt H a = some xs → RpA H xs ds → Rp H (.ref a) (.list ds)
  | tup {a : Addr} {xs : List V} {ds : List PyData} : tupAt H a = some xs → RpA H xs ds → Rp H (.ref a) (.tuple ds)
inductive RpA (H : Hp) : List V → List PyData → Prop
  | nil : RpA H [] []
  | cons {v : V} {vs : List V} {d : PyData} {ds : List PyData} : Rp H v d → RpA H vs ds → RpA H (v :: vs) (d :: ds)
end
mutual
theorem Rp.dp {K : PySem.W.Frag} {H : Hp} : ∀ {v : V} {d : PyData}, Rp H v d → Dp K H v d
  | _, _, .non => .non
  | _, _, .bl b => .bl b
  | _, _, .int i => .int i
  | _, _, .str x => .str x
  | _, _, .lst h k => .lst (lstAt_sq h) (RpA.dp k)
  | _, _, .tup h k => .tup (tupAt_sq h) (RpA.dp k)
theorem RpA.dp {K : PySem.W.Frag} {H : Hp} : ∀ {vs : List V} {ds : List PyData}, RpA H vs ds → DpAll K H vs ds
  | _, _, .nil => .nil
  | _, _, .cons h k => .cons (Rp.dp h) (RpA.dp k)
end
/-! ### operators by values -/
def rAdd : R2 := fun x y H Q => match x, y with
  | .int i, .int j => Q (.int (i + j)) H
  | .str a, .str b => a.length + b.length ≤ 16777216 ∧ Q (.str (a ++ b)) H
  | .ref p, .ref q => ∃ xs ys, H p = some (.lst xs) ∧ H q = some (.lst ys) ∧ xs.length + ys.length ≤ 16777216 ∧ ∀ r, H r = none → Q (.ref r) (upd H r (.lst (xs ++ ys)))
  | _, _ => False
def rSub : R2 := fun x y H Q => match x, y with
  | .int i, .int j => Q (.int (i - j)) H
  | _, _ => False
def rMul : R2 := fun x y H Q => match x, y with
  | .int i, .int j => CMul i j ∧ Q (.int (i * j)) H
  | .ref p, .int k => ∃ xs, H p = some (.lst xs) ∧ -1000000 ≤ k ∧ k ≤ 1000000 ∧ xs.length * k.toNat ≤ 16777216 ∧ ∀ r, H r = none → Q (.ref r) (upd H r (.lst (List.replicate k.toNat xs).flatten))
  | .str a, .int k => -1000000 ≤ k ∧ k ≤ 1000000 ∧ a.length * k.toNat ≤ 16777216 ∧ Q (.str (Txt.mul a k)) H
  | _, _ => False
def rMod : R2 := fun x y H Q => match x, y with
  | .int i, .int j => 0 < j ∧ Q (.int (i % j)) H
  | _, _ => False
def rDiv : R2 := fun x y H Q => match x, y with
  | .int i, .int j => 0 < j ∧ j < 1073741824 ∧ Q (.int (i / j)) H
  | _, _ => False
def rPow : R2 := fun x y H Q => match x, y with
  | .int i, .int j => 0 ≤ j ∧ j ≤ 1000000 ∧ i.natAbs < 2 ^ 64 ∧ Q (.int (i ^ j.toNat)) H
  | _, _ => False
def rCmpI (f : Int → Int → Bool) : R2 := fun x y H Q => match x, y with
  | .int i, .int j => Q (.bl (f i j)) H
  | _, _ => False
mutual
theorem Rp.plain {H : Hp} : ∀ {v : V} {d : PyData}, Rp H v d → d.plain = true
  | _, _, .non => rfl
  | _, _, .bl b => rfl
  | _, _, .int i => rfl
  | _, _, .str x => rfl
  | _, _, .lst h k => by simp only [PyData.plain]; exact RpA.plain k
  | _, _, .tup h k => by simp only [PyData.plain]; exact RpA.plain k
theorem RpA.plain {H : Hp} : ∀ {vs : List V} {ds : List PyData}, RpA H vs ds → PyData.plainAll ds = true
  | _, _, .nil => rfl
  | _, _, .cons h k => by simp only [PyData.plainAll, Rp.plain h, RpA.plain k, Bool.and_self]
end
/-- == of data at any depth -/
def rEqU : R2 := fun x y H Q => ∃ d e, Rp H x d ∧ Rp H y e ∧ min d.depth e.depth ≤ 64 ∧ Q (.bl (PyData.eqv d e)) H
def rNeU : R2 := fun x y H Q => ∃ d e, Rp H x d ∧ Rp H y e ∧ min d.depth e.depth ≤ 64 ∧ Q (.bl (!PyData.eqv d e)) H
def strIn (a b : Str) : Bool := !(Builtin.Str.occurrences b a 0 a.length 1).isEmpty
section
variable {X : Cx}
theorem sl16 : sizeLine = 16777216 := sizeLine_eq
theorem o_add : OpR X (binaryOp .Add) rAdd := by
  intro pins s σ H x y v u Q I rx ry h
  unfold rAdd at h
  split at h
  · exact op_add pins s σ H _ _ v u Q I rx ry ⟨_, _, rfl, rfl, h⟩
  · exact op_add_str pins s σ H _ _ v u Q I rx ry ⟨_, _, rfl, rfl, by rw [sl16]; exact h.1, h.2⟩
  · obtain ⟨xs, ys, h1, h2, h3, h4⟩ := h
    exact op_cat pins s σ H _ _ v u Q I rx ry ⟨_, _, _, _, rfl, rfl, h1, h2, by rw [sl16]; exact h3, h4⟩
  · exact h.elim
theorem o_sub : OpR X (binaryOp .Sub) rSub := by
  intro pins s σ H x y v u Q I rx ry h
  unfold rSub at h
  split at h
  · exact op_sub pins s σ H _ _ v u Q I rx ry ⟨_, _, rfl, rfl, h⟩
  · exact h.elim
/-- a text by its codes -/
def tx (l : List Nat) : Str := ⟨l.toArray⟩
theorem tx_toList (l : List Nat) : (tx l).cps.toList = l := by simp [tx]
theorem tx_length (l : List Nat) : (tx l).length = l.length := by simp [tx, Str.length]
theorem tx_eta (s : Str) : tx s.cps.toList = s := by cases s; simp [tx]
theorem tx_inj {a b : List Nat} : tx a = tx b ↔ a = b := ⟨fun h => by have := congrArg (fun s => s.cps.toList) h; simpa [tx] using this, fun h => by rw [h]⟩
theorem tx_append (a b : List Nat) : tx a ++ tx b = tx (a ++ b) := by
  show Str.mk _ = _
  simp [tx]
theorem txt_mul_ok {a : Str} {k : Int} (h1 : -1000000 ≤ k) (h2 : k ≤ 1000000) (h3 : a.length * k.toNat ≤ 16777216) : MulOk a k := by
  refine ⟨?_, fun h4 _ => ?_, fun _ _ => ?_⟩
  · have h5 : ¬ k < -(2 ^ 63 : Int) := by omega
    have h6 : ¬ k ≥ (2 ^ 63 : Int) := by omega
    rw [decide_eq_false h5, decide_eq_false h6]
    rfl
  · have e : (a.length : Int) * k ≤ 16777216 := by
      have e1 : ((a.length * k.toNat : Nat) : Int) ≤ ((16777216 : Nat) : Int) := Int.ofNat_le.mpr h3
      have e2 : ((k.toNat : Nat) : Int) = k := by omega
      rw [Int.natCast_mul, e2] at e1
      exact e1
    have : (a.length : Int) ≤ (2 ^ 63 - 1) / k := by
      rw [Int.le_ediv_iff_mul_le (by omega)]
      omega
    omega
  · unfold Builtin.Str.tooLong
    have : ¬ (a.length * k.toNat > sizeLine) := by rw [sl16]; omega
    exact decide_eq_false this
theorem o_mul : OpR X (binaryOp .Mult) rMul := by
  intro pins s σ H x y v u Q I rx ry h
  unfold rMul at h
  split at h
  · exact op_mul pins s σ H _ _ v u Q I rx ry ⟨_, _, rfl, rfl, h.1, h.2⟩
  · obtain ⟨xs, h1, h2, h3, h4, h5⟩ := h
    exact op_rep pins s σ H _ _ v u Q I rx ry ⟨_, _, _, rfl, rfl, h1, by omega, by omega, by rw [sl16]; exact h4, h5⟩
  · obtain ⟨h1, h2, h3, h4⟩ := h
    obtain ⟨t, rfl⟩ := rx
    obtain ⟨t', rfl⟩ := ry
    exact SB.mul (txt_mul_ok h1 h2 h3) fun t' k => ⟨.str _, H, I.tok k, ⟨_, rfl⟩, h4⟩
  · exact h.elim
theorem o_mod : OpR X (binaryOp .Mod) rMod := by
  intro pins s σ H x y v u Q I rx ry h
  unfold rMod at h
  split at h
  · exact op_mod pins s σ H _ _ v u Q I rx ry ⟨_, _, rfl, rfl, h.1, h.2⟩
  · exact h.elim
theorem o_div : OpR X (binaryOp .FloorDiv) rDiv := by
  intro pins s σ H x y v u Q I rx ry h
  unfold rDiv at h
  split at h
  · exact op_fdiv pins s σ H _ _ v u Q I rx ry ⟨_, _, rfl, rfl, ⟨h.1, h.2.1⟩, h.2.2⟩
  · exact h.elim
theorem o_pow : OpR X (binaryOp .Pow) rPow := by
  intro pins s σ H x y v u Q I rx ry h
  unfold rPow at h
  split at h
  · exact op_pow pins s σ H _ _ v u Q I rx ry ⟨_, _, rfl, rfl, ⟨h.1, h.2.1, h.2.2.1⟩, h.2.2.2⟩
  · exact h.elim
theorem cmpI_of {f : Int → Int → Bool} {op : Value → Value → Sem Value} (ho : OpR X op (rI0 fun i j => .bl (f i j))) : OpR X op (rCmpI f) := by
  intro pins s σ H x y v u Q I rx ry h
  unfold rCmpI at h
  split at h
  · exact ho pins s σ H _ _ v u Q I rx ry ⟨_, _, rfl, rfl, h⟩
  · exact h.elim
theorem o_lt : OpR X (compareOp .Lt) (rCmpI fun i j => decide (i < j)) := cmpI_of op_lt
theorem o_le : OpR X (compareOp .LtE) (rCmpI fun i j => decide (i ≤ j)) := cmpI_of op_le
theorem o_gt : OpR X (compareOp .Gt) (rCmpI fun i j => decide (j < i)) := cmpI_of op_gt
theorem o_ge : OpR X (compareOp .GtE) (rCmpI fun i j => decide (j ≤ i)) := cmpI_of op_ge
theorem o_eq (hu : X.A.units + 64 < cLine) : OpR X (compareOp .Eq) rEqU := by
  intro pins s σ H x y v u Q I rx ry h
  obtain ⟨d, e, h1, h2, h3, q⟩ := h
  obtain ⟨as, r1⟩ := Dp.reads I d x v h1.dp rx
  obtain ⟨bs, r2⟩ := Dp.reads I e y u h2.dp ry
  exact SeqAt.eq_plain r1 r2 h1.plain h2.plain (by omega) ⟨.bl _, H, I, rfl, q⟩
theorem o_ne (hu : X.A.units + 64 < cLine) : OpR X (compareOp .NotEq) rNeU := by
  intro pins s σ H x y v u Q I rx ry h
  obtain ⟨d, e, h1, h2, h3, q⟩ := h
  obtain ⟨as, r1⟩ := Dp.reads I d x v h1.dp rx
  obtain ⟨bs, r2⟩ := Dp.reads I e y u h2.dp ry
  exact SeqAt.ne_plain r1 r2 h1.plain h2.plain (by omega) ⟨.bl _, H, I, rfl, q⟩

/-! ### subscripts, slices, len, in -/
def rIxU (K : PySem.W.Frag) : R2 := fun x y H Q => match x, y with
  | .str z, .int i => z.length ≤ 16777216 ∧ ∃ c, atI z.cps.toList i = some c ∧ Q (.str (tx [c])) H
  | .ref p, .int i => ∃ xs, (SqL K H p xs ∨ SqT K H p xs) ∧ ∃ v, atI xs i = some v ∧ Q v H
  | _, _ => False
theorem i_ix {K : PySem.W.Frag} (hK : X.K = K := by rfl) : IxR X (rIxU K) := by
  subst hK
  intro value slice pins s σ H x y v u Q I rx ry h hs
  unfold rIxU at h
  split at h
  · obtain ⟨h1, c, h2, h3⟩ := h
    exact ix_str value slice pins s σ H _ _ v u Q I rx ry ⟨_, _, _, rfl, rfl, by rw [sl16]; exact h1, h2, h3⟩ hs
  · obtain ⟨xs, h1, v, h2, h3⟩ := h
    rcases h1 with h1 | h1
    · exact ix_list value slice pins s σ H _ _ _ u Q I rx ry ⟨_, _, _, _, rfl, rfl, h1, h2, h3⟩ hs
    · exact ix_tup value slice pins s σ H _ _ _ u Q I rx ry ⟨_, _, _, _, rfl, rfl, h1, h2, h3⟩ hs
  · exact h.elim
/-- a[lo:hi] of a text or a list -/
def rSlU (K : PySem.W.Frag) : V → Option Int → Option Int → Hp → VK → Prop := fun x lo hi H Q => match x with
  | .str z => z.length ≤ 16777216 ∧ Q (.str (cutS z lo hi)) H
  | .ref p => ∃ xs, SqL K H p xs ∧ ∀ q, H q = none → Q (.ref q) (upd H q (.lst (cutV xs lo hi)))
  | _ => False
theorem s_sl {K : PySem.W.Frag} (hK : X.K = K := by rfl) : SlR X (rSlU K) := by
  subst hK
  intro pins s σ H x v vl vu lo hi sl Q I rx hs pl pu h
  unfold rSlU at h
  split at h
  · exact sl_str pins s σ H _ v vl vu lo hi sl Q I rx hs pl pu ⟨_, rfl, by rw [sl16]; exact h.1, h.2⟩
  · obtain ⟨xs, h1, h2⟩ := h
    exact sl_list pins s σ H _ v vl vu lo hi sl Q I rx hs pl pu ⟨_, _, rfl, h1, h2⟩
  · exact h.elim
def rLen (K : PySem.W.Frag) : List V → Hp → VK → Prop := fun vs H Q => match vs with
  | [.str z] => z.length ≤ 16777216 ∧ Q (.int z.length) H
  | [.ref p] => (∃ xs, (SqL K H p xs ∨ SqT K H p xs) ∧ Q (.int xs.length) H)
  | _ => False
theorem c_len {K : PySem.W.Frag} (hK : X.K = K := by rfl) : CallR X (.builtin "len") (rLen K) := by
  subst hK
  intro pins s σ H xs us Q I r h
  unfold rLen at h
  split at h
  · exact call_len pins s σ H _ us Q I r ⟨_, _, rfl, ⟨by rw [sl16]; exact h.1, rfl⟩, h.2⟩
  · obtain ⟨ys, h1, h2⟩ := h
    rcases h1 with h1 | h1
    · exact call_len pins s σ H _ us Q I r ⟨_, _, rfl, .inl ⟨_, h1, rfl⟩, h2⟩
    · exact call_len pins s σ H _ us Q I r ⟨_, _, rfl, .inr ⟨_, h1, rfl⟩, h2⟩
  · exact h.elim
def rInU (neg : Bool) : R2 := fun x y H Q => match y with
  | .str b => ∃ a, x = .str a ∧ Q (.bl (if neg then !(!(Builtin.Str.occurrences b a 0 b.length 1).isEmpty) else !(Builtin.Str.occurrences b a 0 b.length 1).isEmpty)) H
  | .ref p => ∃ xs ds d, seqAt H p = some xs ∧ RpA H xs ds ∧ Rp H x d ∧ min (PyData.depthAll ds) d.depth ≤ 60 ∧ Q (.bl (if neg then !(ds.any fun y => PyData.eqv y d) else ds.any fun y => PyData.eqv y d)) H
  | _ => False
theorem seqAt_cases {H : Hp} {p : Addr} {xs : List V} (h : seqAt H p = some xs) : lstAt H p = some xs ∨ tupAt H p = some xs := by
  unfold seqAt at h
  unfold lstAt tupAt
  split at h <;> rename_i e <;> first | (cases h; rw [e]; first | exact .inl rfl | exact .inr rfl) | cases h
theorem o_in (hu : X.A.units + 64 < cLine) : OpR X (compareOp .In) (rInU false) := by
  intro pins s σ H x y v u Q I rx ry h
  unfold rInU at h
  split at h
  · obtain ⟨a, rfl, h⟩ := h
    exact op_in_str pins s σ H _ _ v u Q I rx ry ⟨_, _, rfl, rfl, h⟩
  · obtain ⟨xs, ds, d, h1, h2, h3, h4, q⟩ := h
    obtain ⟨bs, r2⟩ := Dp.reads I d x v h3.dp rx
    rcases seqAt_cases h1 with h1 | h1
    · obtain ⟨as, r1⟩ := Dp.reads I (.list ds) _ u (Rp.lst h1 h2).dp ry
      exact SeqAt.in_list_data r1 r2 h2.plain h3.plain (by omega) ⟨.bl _, H, I, rfl, q⟩
    · obtain ⟨as, r1⟩ := Dp.reads I (.tuple ds) _ u (Rp.tup h1 h2).dp ry
      exact SeqAt.in_tuple_data r1 r2 h2.plain h3.plain (by omega) ⟨.bl _, H, I, rfl, q⟩
  · exact h.elim
theorem o_nin (hu : X.A.units + 64 < cLine) : OpR X (compareOp .NotIn) (rInU true) := by
  intro pins s σ H x y v u Q I rx ry h
  unfold rInU at h
  split at h
  · obtain ⟨a, rfl, h⟩ := h
    exact op_notIn_str pins s σ H _ _ v u Q I rx ry ⟨_, _, rfl, rfl, h⟩
  · obtain ⟨xs, ds, d, h1, h2, h3, h4, q⟩ := h
    obtain ⟨bs, r2⟩ := Dp.reads I d x v h3.dp rx
    rcases seqAt_cases h1 with h1 | h1
    · obtain ⟨as, r1⟩ := Dp.reads I (.list ds) _ u (Rp.lst h1 h2).dp ry
      exact SeqAt.notIn_list_data r1 r2 h2.plain h3.plain (by omega) ⟨.bl _, H, I, rfl, q⟩
    · obtain ⟨as, r1⟩ := Dp.reads I (.tuple ds) _ u (Rp.tup h1 h2).dp ry
      exact SeqAt.notIn_tuple_data r1 r2 h2.plain h3.plain (by omega) ⟨.bl _, H, I, rfl, q⟩
  · exact h.elim
/-! ### isinstance -/
def tyO : Option HO → Option String
  | some (.lst _) => some "list"
  | some (.tup _) => some "tuple"
  | some (.dK _) => some "dict"
  | some (.dT _) => some "dict"
  | some (.frz _ (.lst _)) => some "list"
  | some (.frz _ (.tup _)) => some "tuple"
  | some (.frz _ (.dK _)) => some "dict"
  | _ => none
def tyN (H : Hp) : V → Option String
  | .non => some "NoneType"
  | .bl _ => some "bool"
  | .int _ => some "int"
  | .str _ => some "str"
  | .ref p => tyO (H p)
  | _ => none
theorem tyN_ok {K : PySem.W.Frag} {H : Hp} {v : V} {n : String} (h : tyN H v = some n) : TyX K H v (.type n) := by
  cases v with
  | non => cases h; exact .base .non
  | bl b => cases h; exact .base (.bl _)
  | int i => cases h; exact .base (.int _)
  | str x => cases h; exact .base (.str _)
  | ref p =>
    have h : tyO (H p) = some n := h
    unfold tyO at h
    split at h <;> rename_i e
    · cases h; exact .base (.lst e)
    · cases h; exact .base (.tup e)
    · cases h; exact .base (.dK e)
    · cases h; exact .base (.dT e)
    · cases h; exact .base (.frz e)
    · cases h; exact .fTuple e
    · cases h; exact .fDict e
    · cases h
  | _ => cases h
def rIs : List V → Hp → VK → Prop := fun vs H Q => match vs with
  | [x, .ty n] => ∃ t, tyN H x = some t ∧ ∃ b, kitB t n = some b ∧ Q (.bl b) H
  | _ => False
theorem c_is : CallR X (.builtin "isinstance") rIs := by
  intro pins s σ H xs us Q I r h
  unfold rIs at h
  split at h
  · obtain ⟨t, h1, b, h2, h3⟩ := h
    exact call_isi pins s σ H _ us Q I r ⟨_, _, _, _, _, rfl, .ty _, tyN_ok h1, kit_ty h2, h3⟩
  · exact h.elim
def rMax2 : List V → Hp → VK → Prop := fun vs H Q => match vs with
  | [.int i, .int j] => Q (.int (if j > i then j else i)) H
  | _ => False
def rMin2 : List V → Hp → VK → Prop := fun vs H Q => match vs with
  | [.int i, .int j] => Q (.int (if j < i then j else i)) H
  | _ => False
theorem c_max (hc : X.calm = true) : CallR X (.builtin "max") rMax2 := by
  intro pins s σ H xs us Q I r h
  unfold rMax2 at h
  split at h
  · exact call_max2 hc pins s σ H _ us Q I r ⟨_, _, rfl, h⟩
  · exact h.elim
theorem c_min (hc : X.calm = true) : CallR X (.builtin "min") rMin2 := by
  intro pins s σ H xs us Q I r h
  unfold rMin2 at h
  split at h
  · exact call_min2 hc pins s σ H _ us Q I r ⟨_, _, rfl, h⟩
  · exact h.elim
def rAllU : List V → Hp → VK → Prop := fun vs H Q => match vs with
  | [.ref p] => ∃ bs : List Bool, lstAt H p = some (bs.map V.bl) ∧ Q (.bl (bs.all id)) H
  | _ => False
theorem c_all (hc : X.calm = true) : CallR X (.builtin "all") rAllU := by
  intro pins s σ H xs us Q I r h
  unfold rAllU at h
  split at h
  · obtain ⟨bs, h1, h2⟩ := h
    exact cr_all hc pins s σ H _ us Q I r ⟨_, _, rfl, lstAt_sq h1, h2⟩
  · exact h.elim
theorem vals_of : ∀ {xs : List V} {us : List Value}, xs.length = us.length → (∀ (j : Nat) x u, xs[j]? = some x → us[j]? = some u → RelV x u) → Vals xs us
  | [], [], _, _ => .nil
  | [], _ :: _, h, _ => by simp at h
  | _ :: _, [], h, _ => by simp at h
  | a :: r, b :: s, h, k => .cons (k 0 a b rfl rfl) (vals_of (by simpa using h) fun j x u h1 h2 => k (j + 1) x u (by simpa using h1) (by simpa using h2))
theorem vals_signs {x : Str} {acc : Array Value} (h : ItemsOf (SignAt x) acc x.cps.size) : Vals (x.cps.toList.map fun c => V.str (tx [c])) acc.toList := by
  refine vals_of (by rw [List.length_map]; simp [h.1]) fun j v u h1 h2 => ?_
  obtain ⟨c, t, hc, rfl⟩ := h.2 j u (by simpa using h2)
  rw [List.getElem?_map, Array.getElem?_toList, hc] at h1
  cases h1
  exact ⟨t, rfl⟩
def rListU (K : PySem.W.Frag) : List V → Hp → VK → Prop := fun vs H Q => match vs with
  | [.str z] => z.length ≤ 16777216 ∧ ∀ p, H p = none → Q (.ref p) (upd H p (.lst (z.cps.toList.map fun c => V.str (tx [c]))))
  | [.ref p] => ∃ ys, (SqL K H p ys ∨ SqT K H p ys) ∧ ∀ l, H l = none → Q (.ref l) (upd H l (.lst ys))
  | _ => False
theorem c_list (hc : X.calm = true) {K : PySem.W.Frag} (hK : X.K = K := by rfl) : CallR X (.type "list") (rListU K) := by
  subst hK
  intro pins s σ H xs us Q I r h
  unfold rListU at h
  split at h
  · rename_i z
    obtain ⟨hz, q⟩ := h
    obtain ⟨u, rfl, t, rfl⟩ := vals1 r
    refine call_list_str (I.ok.hd hc) z t (fun h' tk acc c' kp e hacc => ?_) (by rw [sl16]; exact hz)
    have hl : (z.cps.toList.map fun c => V.str (tx [c])).length ≤ sizeLine := by rw [List.length_map, Array.length_toList, sl16]; exact hz
    exact ⟨.ref s.heap.objs.size, _, I.laid (t' := tk) kp (Nat.le_refl _) (show ObjOk X.prog X.w _ h' _ (.lst _) from ⟨hl, acc.toList, c', vals_signs hacc, by simpa using e⟩), rfl, q _ (I.hok.fresh (Nat.le_refl _))⟩
  · obtain ⟨ys, h1, h2⟩ := h
    exact call_list_of pins s σ H _ us Q I r ⟨_, _, rfl, h1, h2⟩
  · exact h.elim
def rTupU (K : PySem.W.Frag) : List V → Hp → VK → Prop := fun vs H Q => match vs with
  | [.str z] => z.length ≤ 16777216 ∧ ∀ p, H p = none → Q (.ref p) (upd H p (.tup (z.cps.toList.map fun c => V.str (tx [c]))))
  | [.ref p] => ∃ ys, (SqL K H p ys ∧ ∀ l, H l = none → Q (.ref l) (upd H l (.tup ys))) ∨ (SqT K H p ys ∧ Q (.ref p) H)
  | _ => False
theorem c_tuple (hc : X.calm = true) {K : PySem.W.Frag} (hK : X.K = K := by rfl) : CallR X (.type "tuple") (rTupU K) := by
  subst hK
  intro pins s σ H xs us Q I r h
  unfold rTupU at h
  split at h
  · rename_i z
    obtain ⟨hz, q⟩ := h
    obtain ⟨u, rfl, t, rfl⟩ := vals1 r
    refine call_tuple_str (I.ok.hd hc) z t (fun h' tk acc kp hacc => ?_) (by rw [sl16]; exact hz)
    have hl : (z.cps.toList.map fun c => V.str (tx [c])).length ≤ sizeLine := by rw [List.length_map, Array.length_toList, sl16]; exact hz
    have I1 : Inv X pins σ H { s with heap := h' } := I.kept (t' := s.toks) kp
    have ob : ObjOk X.prog X.w (upd H h'.objs.size (.tup (z.cps.toList.map fun c => V.str (tx [c])))) (h'.push { cls := .type "tuple", data := .seq acc }) h'.objs.size (.tup (z.cps.toList.map fun c => V.str (tx [c]))) := by
      have e : acc.toList.toArray = acc := by simp
      exact ⟨hl, acc.toList, vals_signs hacc, by rw [e]; exact IsTup.new _ _⟩
    exact ⟨.ref h'.objs.size, _, I1.laid (t' := tk) (fun b o e => Heap.get?_push_of_some _ e) (Nat.le_refl _) ob, rfl, q _ (I1.hok.fresh (Nat.le_refl _))⟩
  · obtain ⟨ys, h1⟩ := h
    exact call_tuple_of pins s σ H _ us Q I r ⟨_, _, rfl, h1⟩
  · exact h.elim
end
end Zb

namespace Zb
open PySem PySem.Spec PyProof.Rows L2
open Evl (tCut pss_cut)
/-! ### frames: all but M stands -/
def Fr (M : Addr → Prop) (H H' : Hp) : Prop := ∀ b o, ¬ M b → H b = some o → H' b = some o
abbrev Ex (H H' : Hp) : Prop := Fr (fun _ => False) H H'
theorem Fr.refl {M : Addr → Prop} (H : Hp) : Fr M H H := fun _ _ _ e => e
theorem Fr.trans {M : Addr → Prop} {H H1 H2 : Hp} (a : Fr M H H1) (b : Fr M H1 H2) : Fr M H H2 := fun x o n e => b x o n (a x o n e)
theorem Fr.new {M : Addr → Prop} {H : Hp} {p : Addr} {o : HO} (h : H p = none) : Fr M H (upd H p o) := fun b u _ e => by
  rw [upd_ne (ne_of_none e h)]
  exact e
theorem Fr.at {M : Addr → Prop} {H : Hp} {p : Addr} {o : HO} (h : M p) : Fr M H (upd H p o) := fun b u n e => by
  rw [upd_ne fun z => n (by rw [z]; exact h)]
  exact e
theorem Fr.up {M M' : Addr → Prop} {H H' : Hp} (e : Fr M' H H') (h : ∀ b, M' b → M b) : Fr M H H' := fun b o n q => e b o (fun m => n (h b m)) q
theorem Fr.ex {M : Addr → Prop} {H H' : Hp} (e : Ex H H') : Fr M H H' := e.up fun _ z => z.elim
/-- an object that was not there at H may change -/
theorem Fr.mut {M : Addr → Prop} {H H' : Hp} {p : Addr} {o : HO} (e : Fr M H H') (h : H p = none) : Fr M H (upd H' p o) := fun b u n q => by
  rw [upd_ne (ne_of_none q h)]
  exact e b u n q
theorem Fr.get {M : Addr → Prop} {H H' : Hp} {a : Addr} {o : HO} (e : Fr M H H') (n : ¬ M a) (h : H a = some o) : H' a = some o := e a o n h
theorem Ex.get {H H' : Hp} {a : Addr} {o : HO} (e : Ex H H') (h : H a = some o) : H' a = some o := e a o (fun z => z) h
theorem Ex.free {H H' : Hp} (e : Ex H H') {p : Addr} (h : H' p = none) : H p = none := by
  cases q : H p with
  | none => rfl
  | some o =>
    rw [e p o (fun z => z) q] at h
    cases h
theorem Fr.free {M : Addr → Prop} {H H' : Hp} (e : Fr M H H') {p : Addr} (n : ¬ M p) (h : H' p = none) : H p = none := by
  cases q : H p with
  | none => rfl
  | some o =>
    rw [e p o n q] at h
    cases h
theorem upd_old {H : Hp} {p a : Addr} {o u : HO} (hp : H p = none) (ha : H a = some u) : upd H p o a = some u := by
  rw [upd_ne (ne_of_none ha hp)]
  exact ha
theorem upd_free {H : Hp} {p q : Addr} {o : HO} (h : upd H p o q = none) : H q = none := by
  by_cases e : q = p
  · rw [e, upd_same] at h
    cases h
  · rwa [upd_ne e] at h
theorem lst_of {H : Hp} {p : Addr} {xs : List V} (h : H p = some (.lst xs)) : lstAt H p = some xs := by unfold lstAt; rw [h]
theorem tup_of {H : Hp} {p : Addr} {xs : List V} (h : H p = some (.tup xs)) : tupAt H p = some xs := by unfold tupAt; rw [h]
theorem seq_l {H : Hp} {p : Addr} {xs : List V} (h : H p = some (.lst xs)) : seqAt H p = some xs := by unfold seqAt; rw [h]
theorem seq_t {H : Hp} {p : Addr} {xs : List V} (h : H p = some (.tup xs)) : seqAt H p = some xs := by unfold seqAt; rw [h]
/-! ### one step of a reading -/
section
variable {D : Ends} {σ : L2.St} {H : Hp} {Q : VK} {K : PySem.W.Frag} {R : L2.St → Hp → Prop} {B : Bool → Hp → Prop}
theorem st_seq {t u : TS} (h : t { D with nx := u D } σ H) : tSeq t u D σ H := h
theorem st_next (h : D.nx σ H) : tNext D σ H := h
theorem st_brk (h : D.bk σ H) : tBreak D σ H := h
theorem st_cont (h : D.ct σ H) : tCont D σ H := h
theorem st_drop {te : TE} (h : te σ H (fun _ H1 => D.nx σ H1)) : tDrop te D σ H := h
theorem st_ret {te : TE} (h : te σ H D.rt) : tRet te D σ H := h
theorem st_retN (h : D.rt .non H) : tRetN D σ H := h
theorem st_ifS {c : TT} {t u : TS} (h : c σ H (fun b H1 => if b = true then t D σ H1 else u D σ H1)) : tIfS c t u D σ H := h
theorem st_asg {te : TE} {g : TG} (h : te σ H (fun x H1 => g x σ H1 D.nx)) : tAsg te g D σ H := h
theorem st_name {i : Nat} {v : V} (h : R (σ.set i (some v)) H) : gName i v σ H R := h
theorem st_sub {to ti : TE} {t : TSet} {v : V} (h : to σ H (fun o H1 => ti σ H1 fun i H2 => t o i v H2 fun H3 => R σ H3)) : gSub to ti t v σ H R := h
theorem st_augI {i : Nat} {te : TE} {f : Int → Int → Int} {z : Int} (hx : σ[i]? = some (some (.int z))) (h : te σ H (fun y H1 => ipI f (.int z) y H1 fun z H2 => D.nx (σ.set i (some z)) H2)) : tAug i te (ipI f) D σ H := ⟨_, hx, h⟩
theorem st_ipI {f : Int → Int → Int} {x y : Int} (h : Q (.int (f x y)) H) : ipI f (.int x) (.int y) H Q := ⟨_, _, rfl, rfl, h⟩
theorem st_par {i j : Nat} {ta : TA} (h : ta σ H (fun vs H1 => ∃ v w, vs = [v, w] ∧ D.nx ((σ.set i (some v)).set j (some w)) H1)) : tPar i j ta D σ H := h
theorem st_par2 {v w : V} {P : V → V → Prop} (h : P v w) : ∃ v' w', [v, w] = [v', w'] ∧ P v' w' := ⟨v, w, rfl, h⟩
theorem st_var {i : Nat} {v : V} (hv : σ[i]? = some (some v)) (h : Q v H) : tVar i σ H Q := ⟨v, hv, h⟩
theorem st_c {v : V} (h : Q v H) : tC v σ H Q := h
theorem st_op {r : R2} {ta tb : TE} (h : ta σ H (fun x H1 => tb σ H1 fun y H2 => r x y H2 Q)) : tOp r ta tb σ H Q := h
theorem st_un {r : V → Hp → VK → Prop} {ta : TE} (h : ta σ H (fun x H1 => r x H1 Q)) : tUn r ta σ H Q := h
theorem st_rU {g : Int → V} {i : Int} (h : Q (g i) H) : rU g (.int i) H Q := ⟨i, rfl, h⟩
theorem st_B {t : TE} (h : t σ H (fun x H1 => ∃ c, x = .bl c ∧ B c H1)) : tB t σ H B := h
theorem st_test {t : TE} (h : t σ H (fun x H1 => ∃ c, x = .bl c ∧ B c H1)) : tTest t σ H B := h
theorem st_isb {b : Bool} {P : Bool → Prop} (h : P b) : ∃ c, V.bl b = .bl c ∧ P c := ⟨b, rfl, h⟩
theorem st_and {t u : TT} (h : t σ H (fun c H1 => if c = true then u σ H1 B else B false H1)) : tAnd t u σ H B := h
theorem st_or {t u : TT} (h : t σ H (fun c H1 => if c = true then B true H1 else u σ H1 B)) : tOr t u σ H B := h
theorem st_not {t : TT} (h : t σ H (fun c H1 => B (!c) H1)) : tNot t σ H B := h
theorem st_andV {ta tb : TE} (h : ta σ H (fun x H1 => ∃ c, x = .bl c ∧ if c = true then tb σ H1 Q else Q (.bl false) H1)) : tAndV ta tb σ H Q := h
theorem st_orV {ta tb : TE} (h : ta σ H (fun x H1 => ∃ c, x = .bl c ∧ if c = true then Q (.bl true) H1 else tb σ H1 Q)) : tOrV ta tb σ H Q := h
theorem st_notV {ta : TE} (h : ta σ H (fun x H1 => ∃ c, x = .bl c ∧ Q (.bl (!c)) H1)) : tNotV ta σ H Q := h
theorem st_if {t : TT} {ta tb : TE} (h : t σ H (fun c H1 => if c = true then ta σ H1 Q else tb σ H1 Q)) : tIf t ta tb σ H Q := h
theorem st_nil {P : List V → Hp → Prop} (h : P [] H) : tNil σ H P := h
theorem st_cons {ta : TE} {tr : TA} {P : List V → Hp → Prop} (h : ta σ H (fun x H1 => tr σ H1 fun xs H2 => P (x :: xs) H2)) : tCons ta tr σ H P := h
def NewO (o : List V → HO) (xs : List V) (Q : VK) (H : Hp) : Prop := xs.length ≤ sizeLine ∧ ∀ p, H p = none → Q (.ref p) (upd H p (o xs))
theorem st_tup {t : TA} (h : t σ H (fun xs H1 => NewO .tup xs Q H1)) : tTup t σ H Q := h
theorem st_lst {t : TA} (h : t σ H (fun xs H1 => NewO .lst xs Q H1)) : tLst t σ H Q := h
/-- a new object: from then on the heap is a letter -/
theorem st_new {xs : List V} {o : List V → HO} (hz : xs.length ≤ 16777216) (h : ∀ p H', H p = none → Ex H H' → H' p = some (o xs) → Q (.ref p) H') : NewO o xs Q H :=
  ⟨by rw [sl16]; exact hz, fun p hp => h p _ hp (Fr.new hp) upd_same⟩
theorem st_cb {r : List V → Hp → VK → Prop} {t : TA} (h : t σ H (fun vs H1 => r vs H1 Q)) : tCB r t σ H Q := h
theorem st_call {sp : Sp} {dvs : List V} {E : XK} {t : TA} (h : t σ H (fun vs H1 => sp (vs ++ dvs) H1 Q E)) : tCall sp dvs E t σ H Q := h
theorem st_sl {r : V → Option Int → Option Int → Hp → VK → Prop} {te : TE} {tl th : TO} (h : te σ H (fun x H1 => tl σ H1 fun l H2 => th σ H2 fun u H3 => r x l u H3 Q)) : tSl r te tl th σ H Q := h
theorem st_part {te : TE} {P : Option Int → Hp → Prop} (h : te σ H (fun x H1 => ∃ i, x = .int i ∧ P (some i) H1)) : tPart te σ H P := h
theorem st_isi {i : Int} {P : Int → Prop} (h : P i) : ∃ j, V.int i = .int j ∧ P j := ⟨i, rfl, h⟩
theorem st_nopart {P : Option Int → Hp → Prop} (h : P none H) : tNoPart σ H P := h
/-! values -/
theorem st_addI {i j : Int} (h : Q (.int (i + j)) H) : rAdd (.int i) (.int j) H Q := h
theorem st_addS {a b : Str} (hz : a.length + b.length ≤ 16777216) (h : Q (.str (a ++ b)) H) : rAdd (.str a) (.str b) H Q := ⟨hz, h⟩
theorem st_addL {p q : Addr} {xs ys : List V} (h1 : H p = some (.lst xs)) (h2 : H q = some (.lst ys)) (hz : xs.length + ys.length ≤ 16777216) (h : ∀ r H', H r = none → Ex H H' → H' r = some (.lst (xs ++ ys)) → Q (.ref r) H') : rAdd (.ref p) (.ref q) H Q :=
  ⟨xs, ys, h1, h2, hz, fun r hr => h r _ hr (Fr.new hr) upd_same⟩
theorem st_subI {i j : Int} (h : Q (.int (i - j)) H) : rSub (.int i) (.int j) H Q := h
theorem st_mulI {i j : Int} (hc : (-(2 ^ 64) < i ∧ i < 2 ^ 64) ∨ (-(2 ^ 64) < j ∧ j < 2 ^ 64)) (h : Q (.int (i * j)) H) : rMul (.int i) (.int j) H Q := ⟨hc, h⟩
theorem st_mulL {p : Addr} {k : Int} {xs : List V} (h1 : H p = some (.lst xs)) (h2 : -1000000 ≤ k) (h3 : k ≤ 1000000) (hz : xs.length * k.toNat ≤ 16777216) (h : ∀ r H', H r = none → Ex H H' → H' r = some (.lst (List.replicate k.toNat xs).flatten) → Q (.ref r) H') : rMul (.ref p) (.int k) H Q :=
  ⟨xs, h1, h2, h3, hz, fun r hr => h r _ hr (Fr.new hr) upd_same⟩
theorem st_mulS {a : Str} {k : Int} (h2 : -1000000 ≤ k) (h3 : k ≤ 1000000) (hz : a.length * k.toNat ≤ 16777216) (h : Q (.str (Txt.mul a k)) H) : rMul (.str a) (.int k) H Q := ⟨h2, h3, hz, h⟩
theorem st_modI {i j : Int} (hc : 0 < j) (h : Q (.int (i % j)) H) : rMod (.int i) (.int j) H Q := ⟨hc, h⟩
theorem st_divI {i j : Int} (hc : 0 < j ∧ j < 1073741824) (h : Q (.int (i / j)) H) : rDiv (.int i) (.int j) H Q := ⟨hc.1, hc.2, h⟩
theorem st_powI {i j : Int} (hc : 0 ≤ j ∧ j ≤ 1000000 ∧ i.natAbs < 2 ^ 64) (h : Q (.int (i ^ j.toNat)) H) : rPow (.int i) (.int j) H Q := ⟨hc.1, hc.2.1, hc.2.2, h⟩
theorem st_cmpI {f : Int → Int → Bool} {i j : Int} (h : Q (.bl (f i j)) H) : rCmpI f (.int i) (.int j) H Q := h
theorem st_eqI {i j : Int} (h : Q (.bl (decide (i = j))) H) : rEqU (.int i) (.int j) H Q := ⟨_, _, .int i, .int j, by simp [PyData.depth], by
  have e : PyData.eqv (.int i) (.int j) = decide (i = j) := by simp only [PyData.eqv]; rfl
  rw [e]; exact h⟩
theorem st_neI {i j : Int} (h : Q (.bl (!decide (i = j))) H) : rNeU (.int i) (.int j) H Q := ⟨_, _, .int i, .int j, by simp [PyData.depth], by
  have e : PyData.eqv (.int i) (.int j) = decide (i = j) := by simp only [PyData.eqv]; rfl
  rw [e]; exact h⟩
theorem st_eqS {i j : Str} (h : Q (.bl (decide (i = j))) H) : rEqU (.str i) (.str j) H Q := ⟨_, _, .str i, .str j, by simp [PyData.depth], by
  have e : PyData.eqv (.str i) (.str j) = decide (i = j) := by simp only [PyData.eqv]; rfl
  rw [e]; exact h⟩
theorem st_neS {i j : Str} (h : Q (.bl (!decide (i = j))) H) : rNeU (.str i) (.str j) H Q := ⟨_, _, .str i, .str j, by simp [PyData.depth], by
  have e : PyData.eqv (.str i) (.str j) = decide (i = j) := by simp only [PyData.eqv]; rfl
  rw [e]; exact h⟩
theorem st_eqB {i j : Bool} (h : Q (.bl (i == j)) H) : rEqU (.bl i) (.bl j) H Q := ⟨_, _, .bl i, .bl j, by simp [PyData.depth], by
  have e : PyData.eqv (.bool i) (.bool j) = (i == j) := by simp only [PyData.eqv]
  rw [e]; exact h⟩
theorem st_neB {i j : Bool} (h : Q (.bl (!(i == j))) H) : rNeU (.bl i) (.bl j) H Q := ⟨_, _, .bl i, .bl j, by simp [PyData.depth], by
  have e : PyData.eqv (.bool i) (.bool j) = (i == j) := by simp only [PyData.eqv]
  rw [e]; exact h⟩
theorem st_eqD {x y : V} {d e : PyData} (h1 : Rp H x d) (h2 : Rp H y e) (hd : min d.depth e.depth ≤ 64) (h : Q (.bl (PyData.eqv d e)) H) : rEqU x y H Q := ⟨d, e, h1, h2, hd, h⟩
theorem st_neD {x y : V} {d e : PyData} (h1 : Rp H x d) (h2 : Rp H y e) (hd : min d.depth e.depth ≤ 64) (h : Q (.bl (!PyData.eqv d e)) H) : rNeU x y H Q := ⟨d, e, h1, h2, hd, h⟩
theorem st_ixL {p : Addr} {i : Int} {v : V} {xs : List V} (h1 : H p = some (.lst xs)) (h2 : atI xs i = some v) (h : Q v H) : rIxU K (.ref p) (.int i) H Q := ⟨xs, seqAt_sq (seq_l h1), v, h2, h⟩
theorem st_ixT {p : Addr} {i : Int} {v : V} {xs : List V} (h1 : H p = some (.tup xs)) (h2 : atI xs i = some v) (h : Q v H) : rIxU K (.ref p) (.int i) H Q := ⟨xs, seqAt_sq (seq_t h1), v, h2, h⟩
theorem st_ixQ {p : Addr} {i : Int} {v : V} {xs : List V} (h1 : seqAt H p = some xs) (h2 : atI xs i = some v) (h : Q v H) : rIxU K (.ref p) (.int i) H Q := ⟨xs, seqAt_sq h1, v, h2, h⟩
theorem st_ixK {p : Addr} {i : Int} {v : V} {xs : List V} (h1 : SqL K H p xs) (h2 : atI xs i = some v) (h : Q v H) : rIxU K (.ref p) (.int i) H Q := ⟨xs, .inl h1, v, h2, h⟩
theorem at_in {α : Type} {xs : List α} {i : Int} (h0 : 0 ≤ i) (h1 : i < xs.length) : ∃ v, atI xs i = some v ∧ xs[i.toNat]? = some v := by
  have hj : i.toNat < xs.length := by omega
  refine ⟨xs[i.toNat], ?_, List.getElem?_eq_getElem hj⟩
  unfold atI ixN
  rw [if_pos h0, if_pos h1]
  exact List.getElem?_eq_getElem hj
/-- an item of a row of numbers, of texts, at some place -/
theorem st_ixI {p : Addr} {i : Int} {xs : List V} (ns : List Int) (h1 : H p = some (.lst xs)) (e : xs = ns.map V.int) (h0 : 0 ≤ i) (hi : i < ns.length) (h : ∀ z, ns[i.toNat]? = some z → z ∈ ns → Q (.int z) H) : rIxU K (.ref p) (.int i) H Q := by
  subst e
  obtain ⟨v, h2, h3⟩ := at_in (xs := ns.map V.int) h0 (by rw [List.length_map]; exact hi)
  rw [List.getElem?_map] at h3
  cases q : ns[i.toNat]? with
  | none => rw [q] at h3; cases h3
  | some z =>
    rw [q] at h3
    cases h3
    exact st_ixL h1 h2 (h z q (List.mem_of_getElem? q))
theorem st_ixS {p : Addr} {i : Int} {xs : List V} (ns : List Str) (h1 : H p = some (.lst xs)) (e : xs = ns.map V.str) (h0 : 0 ≤ i) (hi : i < ns.length) (h : ∀ z, ns[i.toNat]? = some z → z ∈ ns → Q (.str z) H) : rIxU K (.ref p) (.int i) H Q := by
  subst e
  obtain ⟨v, h2, h3⟩ := at_in (xs := ns.map V.str) h0 (by rw [List.length_map]; exact hi)
  rw [List.getElem?_map] at h3
  cases q : ns[i.toNat]? with
  | none => rw [q] at h3; cases h3
  | some z =>
    rw [q] at h3
    cases h3
    exact st_ixL h1 h2 (h z q (List.mem_of_getElem? q))
/-- a sign of a text -/
theorem st_sign {z : Str} {i : Int} {c : Nat} (hz : z.length ≤ 16777216) (h2 : atI z.cps.toList i = some c) (h : Q (.str (tx [c])) H) : rIxU K (.str z) (.int i) H Q := ⟨hz, c, h2, h⟩
theorem st_slS {z : Str} {lo hi : Option Int} (hz : z.length ≤ 16777216) (h : Q (.str (cutS z lo hi)) H) : rSlU K (.str z) lo hi H Q := ⟨hz, h⟩
theorem st_slL {p : Addr} {xs : List V} {lo hi : Option Int} (h1 : lstAt H p = some xs) (h : ∀ q H', H q = none → Ex H H' → H' q = some (.lst (cutV xs lo hi)) → Q (.ref q) H') : rSlU K (.ref p) lo hi H Q := ⟨xs, lstAt_sq h1, fun q hq => h q _ hq (Fr.new hq) upd_same⟩
theorem st_slK {p : Addr} {xs : List V} {lo hi : Option Int} (h1 : SqL K H p xs) (h : ∀ q H', H q = none → Ex H H' → H' q = some (.lst (cutV xs lo hi)) → Q (.ref q) H') : rSlU K (.ref p) lo hi H Q := ⟨xs, h1, fun q hq => h q _ hq (Fr.new hq) upd_same⟩
theorem st_lenS {z : Str} (hz : z.length ≤ 16777216) (h : Q (.int z.length) H) : rLen K [.str z] H Q := ⟨hz, h⟩
theorem st_lenL {p : Addr} {xs : List V} (h1 : H p = some (.lst xs)) (h : Q (.int xs.length) H) : rLen K [.ref p] H Q := ⟨xs, seqAt_sq (seq_l h1), h⟩
theorem st_lenT {p : Addr} {xs : List V} (h1 : H p = some (.tup xs)) (h : Q (.int xs.length) H) : rLen K [.ref p] H Q := ⟨xs, seqAt_sq (seq_t h1), h⟩
theorem st_lenQ {p : Addr} {xs : List V} (h1 : seqAt H p = some xs) (h : Q (.int xs.length) H) : rLen K [.ref p] H Q := ⟨xs, seqAt_sq h1, h⟩
theorem st_lenK {p : Addr} {xs : List V} (h1 : SqL K H p xs) (h : Q (.int xs.length) H) : rLen K [.ref p] H Q := ⟨xs, .inl h1, h⟩
theorem st_max2 {i j : Int} (h : Q (.int (if j > i then j else i)) H) : Zb.rMax2 [.int i, .int j] H Q := h
theorem st_min2 {i j : Int} (h : Q (.int (if j < i then j else i)) H) : Zb.rMin2 [.int i, .int j] H Q := h
theorem st_is {x : V} {n t : String} {b : Bool} (h1 : tyN H x = some t) (h2 : kitB t n = some b) (h : Q (.bl b) H) : rIs [x, .ty n] H Q := ⟨t, h1, b, h2, h⟩
/-- xs[i] = e -/
theorem st_setL {p : Addr} {k : Int} {v : V} {xs : List V} {j : Nat} {R : Hp → Prop} (h1 : H p = some (.lst xs)) (h2 : ixN xs.length k = some j) (h : R (upd H p (.lst (xs.set j v)))) : rSetL (.ref p) (.int k) v H R := ⟨p, xs, k, j, rfl, rfl, h1, h2, h⟩
theorem st_T {A B : Prop} {b : Bool} (hb : b = true) (h : A) : if b = true then A else B := by rw [if_pos hb]; exact h
theorem st_F {A B : Prop} {b : Bool} (hb : b = false) (h : B) : if b = true then A else B := by rw [hb, if_neg Bool.false_ne_true]; exact h
theorem st_br {A B : Prop} {b : Bool} (h1 : b = true → A) (h2 : b = false → B) : if b = true then A else B := by
  cases b with
  | true => exact h1 rfl
  | false => exact h2 rfl
theorem st_br2 {A B : Prop} {p : Prop} [Decidable p] (h1 : p → A) (h2 : ¬ p → B) : if decide p = true then A else B := by
  by_cases q : p
  · rw [decide_eq_true q]; exact h1 q
  · rw [decide_eq_false q, if_neg Bool.false_ne_true]; exact h2 q
theorem st_brn {A B : Prop} {p : Prop} [Decidable p] (h1 : ¬ p → A) (h2 : p → B) : if (!decide p) = true then A else B := by
  by_cases q : p
  · rw [decide_eq_true q]; exact h2 q
  · rw [decide_eq_false q]; exact h1 q
end
/-! ### a law's purse: three numbers that each drawing changes -/
def Purse (H : Hp) (a : Addr) : Prop := ∃ x y z : Int, H a = some (.lst [.int x, .int y, .int z])
abbrev FrP (p : Addr) (H H' : Hp) : Prop := Fr (fun b => b = p) H H'
theorem FrP.at {H : Hp} {p : Addr} {o : HO} : FrP p H (upd H p o) := Fr.at (M := fun b => b = p) rfl
theorem Purse.ne {H : Hp} {p q : Addr} (h : Purse H p) (hq : H q = none) : q ≠ p := fun e => by
  obtain ⟨x, y, z, h⟩ := h
  rw [e, h] at hq
  cases hq
theorem Purse.ex {H H' : Hp} {p : Addr} (h : Purse H p) (e : Ex H H') : Purse H' p := by
  obtain ⟨x, y, z, h⟩ := h
  exact ⟨x, y, z, e.get h⟩
end Zb

namespace Zb
open PySem PySem.Spec PyProof.Rows L2
open Evl (tCut pss_cut)
/-! ### what is walked: n turns, while S stands -/
structure Runs (J : It) (n : Nat) (S : Hp → Prop) (item : Nat → V → Hp → Hp → Prop) : Prop where
  go : ∀ i H, i < n → S H → J.go i H
  stop : ∀ H, S H → J.stop n H
  yld : ∀ i H x H', i < n → S H → J.yld i H x H' → item i x H H'
theorem runs_range (lo : Int) (n : Nat) : Runs (Itr lo n) n (fun _ => True) (fun i x H H' => H' = H ∧ x = .int (lo + i)) :=
  ⟨fun _ _ h _ => h, fun _ _ => Nat.le_refl _, fun _ _ _ _ _ _ y => y⟩
theorem runs_str (z : Str) : Runs (Its z) z.length (fun _ => True) (fun i x H H' => H' = H ∧ ∃ c, z.cps.toList[i]? = some c ∧ x = .str (tx [c])) :=
  ⟨fun _ _ h _ => h, fun _ _ => Nat.le_refl _, fun _ _ _ _ _ _ y => by
    obtain ⟨h, c, e1, e2⟩ := y
    exact ⟨h, c, by rw [Array.getElem?_toList]; exact e1, e2⟩⟩
theorem runs_list (K : PySem.W.Frag) (a : Addr) (xs : List V) : Runs (Itl K a) xs.length (fun H => lstAt H a = some xs) (fun i x H H' => H' = H ∧ xs[i]? = some x) :=
  ⟨fun i H h s => ⟨xs, xs[i], lstAt_sq s, by simp [h]⟩, fun _ s => ⟨xs, lstAt_sq s, Nat.le_refl _⟩, fun _ _ _ _ _ s y => ⟨y.1, y.2 xs (lstAt_sq s)⟩⟩
theorem runs_tup (K : PySem.W.Frag) (a : Addr) (xs : List V) : Runs (Itt K a) xs.length (fun H => tupAt H a = some xs) (fun i x H H' => H' = H ∧ xs[i]? = some x) :=
  ⟨fun i H h s => ⟨xs, xs[i], tupAt_sq s, by simp [h]⟩, fun _ s => ⟨xs, tupAt_sq s, Nat.le_refl _⟩, fun _ _ _ _ _ s y => ⟨y.1, y.2 xs (tupAt_sq s)⟩⟩
theorem runs_enum (K : PySem.W.Frag) (a : Addr) (xs : List V) : Runs (Ite K a) xs.length (fun H => lstAt H a = some xs) (fun i x H H' => ∃ T v, x = .ref T ∧ H T = none ∧ Ex H H' ∧ H' T = some (.tup [.int (i : Nat), v]) ∧ xs[i]? = some v) :=
  ⟨fun i H h s => ⟨xs, xs[i], lstAt_sq s, by simp [h]⟩, fun _ s => ⟨xs, lstAt_sq s, Nat.le_refl _⟩, fun i H x H' _ s y => by
    obtain ⟨T, v, e1, e2, e3, e4⟩ := y
    subst e3
    exact ⟨T, v, e1, e2, Fr.new e2, upd_same, e4 xs (lstAt_sq s)⟩⟩
theorem runs_zip (K : PySem.W.Frag) (a b : Addr) (xs ys : List V) : Runs (Itz K a b) (min xs.length ys.length) (fun H => lstAt H a = some xs ∧ lstAt H b = some ys) (fun i x H H' => ∃ T v u, x = .ref T ∧ H T = none ∧ Ex H H' ∧ H' T = some (.tup [v, u]) ∧ xs[i]? = some v ∧ ys[i]? = some u) :=
  ⟨fun i H h s => ⟨xs, ys, xs[i]'(by omega), ys[i]'(by omega), lstAt_sq s.1, lstAt_sq s.2, by rw [List.getElem?_eq_getElem], by rw [List.getElem?_eq_getElem]⟩, fun _ s => ⟨xs, ys, lstAt_sq s.1, lstAt_sq s.2, by omega⟩, fun i H x H' _ s y => by
    obtain ⟨T, v, u, e1, e2, e3, e4, e5⟩ := y
    subst e3
    exact ⟨T, v, u, e1, e2, Fr.new e2, upd_same, e4 xs (lstAt_sq s.1), e5 ys (lstAt_sq s.2)⟩⟩
def LcGoal (J : It) (g : TG) (tt : TT) (te : TE) (vs : List Nat) (σ : L2.St) (Q : VK) (H1 : Hp) : Prop := ∀ D, H1 D = none → ∃ W : Nat → Nat → Hp → Prop, (∃ m, W 0 m (upd H1 D (.lst []))) ∧ ∀ i m H, W i m H →
      (J.stop i H ∧ Q (.ref D) H) ∨ (J.go i H ∧ ∃ Nx : Hp → Prop, (∀ H', Nx H' → ∃ m', m' < m ∧ W (i + 1) m' H') ∧ ∀ x H', J.yld i H x H' → g x (wipe σ vs) H' fun σ2 H2 => wipe σ2 vs = wipe σ vs ∧ tt σ2 H2 fun b H3 =>
        if b = true then te σ2 H3 fun y H4 => ∃ acc, H4 D = some (.lst acc) ∧ acc.length < sizeLine ∧ Nx (upd H4 D (.lst (acc ++ [y]))) else Nx H3)
def ForGoal (J : It) (g : TG) (tb : TS) (D : Ends) (σ : L2.St) (H : Hp) : Prop := ∃ W : Nat → Nat → L2.St → Hp → Prop, (∃ m, W 0 m σ H) ∧ ∀ i m σ H, W i m σ H →
      (J.stop i H ∧ D.nx σ H) ∨ (J.go i H ∧ ∃ N : L2.St → Hp → Prop, (∀ σ' H', N σ' H' → ∃ m', m' < m ∧ W (i + 1) m' σ' H') ∧ ∀ x H', J.yld i H x H' → g x σ H' fun σ2 H2 => tb { D with nx := N, ct := N, bk := D.nx } σ2 H2)
section
variable {J : It} {n : Nat} {S : Hp → Prop} {item : Nat → V → Hp → Hp → Prop} {g : TG} {σ : L2.St} {H H1 : Hp} {K : PySem.W.Frag}
/-- a for loop by its word Pv -/
theorem for_runs {tb : TS} {D : Ends} (hR : Runs J n S item) (Pv : Nat → L2.St → Hp → Prop) (h0 : Pv 0 σ H) (hS : ∀ i σ H, i ≤ n → Pv i σ H → S H)
    (hs : ∀ i x σ H H', i < n → Pv i σ H → item i x H H' → g x σ H' fun σ2 H2 => tb { D with nx := Pv (i + 1), ct := Pv (i + 1), bk := D.nx } σ2 H2) (hd : ∀ σ H, Pv n σ H → D.nx σ H) :
    ForGoal J g tb D σ H := by
  refine ⟨fun i m σ H => m = n - i ∧ i ≤ n ∧ Pv i σ H, ⟨n, by simp, Nat.zero_le _, h0⟩, ?_⟩
  rintro i m σ H ⟨rfl, hi, p⟩
  by_cases hlt : i < n
  · refine .inr ⟨hR.go i H hlt (hS i σ H hi p), Pv (i + 1), fun σ' H' p' => ⟨n - (i + 1), by omega, rfl, hlt, p'⟩, fun x H' y => ?_⟩
    exact hs i x σ H H' hlt p (hR.yld i H x H' hlt (hS i σ H hi p) y)
  · have e : i = n := by omega
    subst e
    exact .inl ⟨hR.stop H (hS i σ H hi p), hd σ H p⟩
/-- the list of a comprehension on its way -/
structure LcAt (M : Addr → Prop) (H1 : Hp) (D : Addr) (acc : List V) (H : Hp) : Prop where
  new : H1 D = none
  non : ¬ M D
  at_ : H D = some (.lst acc)
  fr : Fr M H1 H
def LcW (M : Addr → Prop) (H1 : Hp) (Pv : Nat → List V → Hp → Prop) (D : Addr) (i : Nat) (H : Hp) : Prop := ∃ acc, LcAt M H1 D acc H ∧ Pv i acc H
/-- Pv does not look at the list itself -/
def LcSt (M : Addr → Prop) (H1 : Hp) (Pv : Nat → List V → Hp → Prop) : Prop := ∀ i acc H' D o, H1 D = none → Fr M H1 H' → Pv i acc H' → Pv i acc (upd H' D o)
theorem lc_yes {M : Addr → Prop} {Pv : Nat → List V → Hp → Prop} {D : Addr} {i : Nat} {acc : List V} {H' H4 : Hp} {y : V} (L : LcAt M H1 D acc H') (hst : LcSt M H1 Pv) (e : Fr M H' H4) (hz : acc.length < 1000000) (p : Pv (i + 1) (acc ++ [y]) H4) :
    ∃ acc, H4 D = some (.lst acc) ∧ acc.length < sizeLine ∧ LcW M H1 Pv D (i + 1) (upd H4 D (.lst (acc ++ [y]))) :=
  ⟨acc, e D _ L.non L.at_, by rw [sl16]; omega, acc ++ [y], ⟨L.new, L.non, upd_same, (L.fr.trans e).mut L.new⟩, hst _ _ _ _ _ L.new (L.fr.trans e) p⟩
theorem lc_no {M : Addr → Prop} {Pv : Nat → List V → Hp → Prop} {D : Addr} {i : Nat} {acc : List V} {H' H4 : Hp} (L : LcAt M H1 D acc H') (e : Fr M H' H4) (p : Pv (i + 1) acc H4) : LcW M H1 Pv D (i + 1) H4 :=
  ⟨acc, ⟨L.new, L.non, e D _ L.non L.at_, L.fr.trans e⟩, p⟩
theorem lc_runs {tt : TT} {te : TE} {vs : List Nat} {Q : VK} (hR : Runs J n S item) (M : Addr → Prop) (Pv : Nat → List V → Hp → Prop) (hM : ∀ b, M b → H1 b ≠ none) (h0 : Pv 0 [] H1) (hst : LcSt M H1 Pv) (hS : ∀ i acc H', Fr M H1 H' → Pv i acc H' → S H')
    (hs : ∀ D i acc x H' H'', i < n → LcAt M H1 D acc H' → Pv i acc H' → item i x H' H'' → g x (wipe σ vs) H'' fun σ2 H2 => wipe σ2 vs = wipe σ vs ∧ tt σ2 H2 fun b H3 => if b = true then te σ2 H3 fun y H4 => ∃ acc, H4 D = some (.lst acc) ∧ acc.length < sizeLine ∧ LcW M H1 Pv D (i + 1) (upd H4 D (.lst (acc ++ [y]))) else LcW M H1 Pv D (i + 1) H3)
    (hd : ∀ D acc H', H1 D = none → Fr M H1 H' → H' D = some (.lst acc) → Pv n acc H' → Q (.ref D) H') :
    LcGoal J g tt te vs σ Q H1 := by
  intro D hD
  refine ⟨fun i m H => m = n - i ∧ i ≤ n ∧ LcW M H1 Pv D i H, ⟨n, by simp, Nat.zero_le _, [], ⟨hD, fun m => hM D m hD, upd_same, Fr.new hD⟩, hst _ _ _ _ _ hD (Fr.refl _) h0⟩, ?_⟩
  rintro i m H ⟨rfl, hi, acc, L, p⟩
  by_cases hlt : i < n
  · refine .inr ⟨hR.go i H hlt (hS i acc H L.fr p), LcW M H1 Pv D (i + 1), fun H' p' => ⟨n - (i + 1), by omega, rfl, hlt, p'⟩, fun x H' y => ?_⟩
    exact hs D i acc x H H' hlt L p (hR.yld i H x H' hlt (hS i acc H L.fr p) y)
  · have e : i = n := by omega
    subst e
    exact .inl ⟨hR.stop H (hS i acc H L.fr p), hd D acc H hD L.fr L.at_ p⟩
/-! a comprehension whose turns make nothing that lasts but values -/
abbrev RunsV {α : Type} (J : It) (ys : List α) (val : α → V) (S : Hp → Prop) : Prop := Runs J ys.length S (fun i x H H' => H' = H ∧ ∃ y, ys[i]? = some y ∧ x = val y)
theorem rv_str (z : Str) : RunsV (Its z) z.cps.toList (fun c => .str (tx [c])) (fun _ => True) :=
  ⟨fun i _ h _ => by show i < z.cps.size; simpa using h, fun _ _ => by show z.cps.size ≤ z.cps.toList.length; simp, fun _ _ _ _ _ _ y => by
    obtain ⟨h, c, e1, e2⟩ := y
    exact ⟨h, c, by rw [Array.getElem?_toList]; exact e1, e2⟩⟩
theorem rv_list (K : PySem.W.Frag) (a : Addr) {α : Type} (ys : List α) (val : α → V) : RunsV (Itl K a) ys val (fun H => lstAt H a = some (ys.map val)) :=
  ⟨fun i H h s => ⟨ys.map val, val ys[i], lstAt_sq s, by simp [h]⟩, fun _ s => ⟨ys.map val, lstAt_sq s, by simp⟩, fun i H x H' h s y => by
    have e := y.2 _ (lstAt_sq s)
    rw [List.getElem?_map, List.getElem?_eq_getElem h] at e
    exact ⟨y.1, ys[i], List.getElem?_eq_getElem h, (Option.some.inj e).symm⟩⟩
theorem rv_tup (K : PySem.W.Frag) (a : Addr) {α : Type} (ys : List α) (val : α → V) : RunsV (Itt K a) ys val (fun H => tupAt H a = some (ys.map val)) :=
  ⟨fun i H h s => ⟨ys.map val, val ys[i], tupAt_sq s, by simp [h]⟩, fun _ s => ⟨ys.map val, tupAt_sq s, by simp⟩, fun i H x H' h s y => by
    have e := y.2 _ (tupAt_sq s)
    rw [List.getElem?_map, List.getElem?_eq_getElem h] at e
    exact ⟨y.1, ys[i], List.getElem?_eq_getElem h, (Option.some.inj e).symm⟩⟩
theorem rv_range (lo : Int) (n : Nat) : RunsV (Itr lo n) (List.range n) (fun i => .int (lo + i)) (fun _ => True) :=
  ⟨fun _ _ h _ => by rw [List.length_range] at h; exact h, fun _ _ => by rw [List.length_range]; exact Nat.le_refl _, fun i _ _ _ h _ y => by
    rw [List.length_range] at h
    exact ⟨y.1, i, by rw [List.getElem?_range h], y.2⟩⟩
theorem lc_pure {α : Type} {ys : List α} {val : α → V} {tt : TT} {te : TE} {vs : List Nat} {Q : VK} (hR : RunsV J ys val S) (hS : ∀ H', Ex H1 H' → S H') (hz : ys.length < 1000000) (p : α → Bool) (f : α → V)
    (hs : ∀ y H', y ∈ ys → Ex H1 H' → ∀ (B : V → Hp → Prop) (A : Hp → Prop), (p y = true → ∀ H'', Ex H' H'' → B (f y) H'') → (p y = false → ∀ H'', Ex H' H'' → A H'') → g (val y) (wipe σ vs) H' fun σ2 H2 => wipe σ2 vs = wipe σ vs ∧ tt σ2 H2 fun b H3 => if b = true then te σ2 H3 B else A H3)
    (hd : ∀ D H', H1 D = none → Ex H1 H' → H' D = some (.lst ((ys.filter p).map f)) → Q (.ref D) H') :
    LcGoal J g tt te vs σ Q H1 := by
  have tk : ∀ {i : Nat} {y : α}, ys[i]? = some y → ys.take (i + 1) = ys.take i ++ [y] := fun {i y} e => by
    rw [List.take_succ, e]
    rfl
  refine lc_runs hR (fun _ => False) (fun i acc _ => acc = ((ys.take i).filter p).map f) (fun _ z => z.elim) (by simp) (fun i acc H' D o _ _ e => e) (fun i acc H' e _ => hS H' e) ?_ ?_
  · rintro D i acc x H' H'' hi L rfl ⟨rfl, y, hy, rfl⟩
    have hl : (((ys.take i).filter p).map f).length < 1000000 := by
      rw [List.length_map]
      have := List.length_filter_le p (ys.take i)
      rw [List.length_take] at this
      omega
    refine hs y H'' (List.mem_of_getElem? hy) L.fr _ _ (fun hp H3 e => ?_) (fun hp H3 e => ?_)
    · refine lc_yes L (fun i acc H' D o _ _ e => e) e hl ?_
      rw [tk hy, List.filter_append, List.map_append, List.filter_cons, if_pos hp]
      rfl
    · refine lc_no L e ?_
      rw [tk hy, List.filter_append, List.map_append, List.filter_cons, if_neg (by rw [hp]; decide)]
      simp
  · rintro D acc H' hD e h rfl
    rw [List.take_length] at h
    exact hd D H' hD e h
/-- no test -/
theorem lc_map {α : Type} {ys : List α} {val : α → V} {te : TE} {vs : List Nat} {Q : VK} (hR : RunsV J ys val S) (hS : ∀ H', Ex H1 H' → S H') (hz : ys.length < 1000000) (f : α → V)
    (hs : ∀ y H', y ∈ ys → Ex H1 H' → ∀ (B : V → Hp → Prop), (∀ H'', Ex H' H'' → B (f y) H'') → g (val y) (wipe σ vs) H' fun σ2 H2 => wipe σ2 vs = wipe σ vs ∧ te σ2 H2 B)
    (hd : ∀ D H', H1 D = none → Ex H1 H' → H' D = some (.lst (ys.map f)) → Q (.ref D) H')
    (hg : ∀ v σ H (P P' : L2.St → Hp → Prop), (∀ σ H, P σ H → P' σ H) → g v σ H P → g v σ H P' := by intro _ _ _ _ _ k h; exact k _ _ h) : LcGoal J g tYes te vs σ Q H1 := by
  refine lc_pure hR hS hz (fun _ => true) f (fun y H' hy e B A h1 h2 => ?_) (fun D H' hD e h => hd D H' hD e ?_)
  · exact hg _ _ _ _ _ (fun σ2 H2 h => ⟨h.1, h.2⟩) (hs y H' hy e B (h1 rfl))
  · rwa [List.filter_eq_self.mpr (fun _ _ => rfl)] at h
/-! how the walked thing begins -/
theorem st_yes {P : Bool → Hp → Prop} (h : P true H) : tYes σ H P := h
/-- isinstance(b, bool) -/
theorem st_isBool {Q : VK} {b : Bool} (h : Q (.bl true) H) : rIs [.bl b, .ty "bool"] H Q := ⟨"bool", rfl, true, by decide +kernel, h⟩
theorem st_iStr {te : TE} {R : It → Hp → Prop} (h : te σ H (fun v H1 => ∃ x, v = .str x ∧ R (Its x) H1)) : iStr te σ H R := h
theorem st_isStr {x : Str} {P : Str → Prop} (h : P x) : ∃ y, V.str x = .str y ∧ P y := ⟨x, rfl, h⟩
theorem st_iList {tl : TE} {R : It → Hp → Prop} (h : tl σ H (fun x H1 => ∃ a, x = .ref a ∧ (∃ xs, SqL K H1 a xs) ∧ R (Itl K a) H1)) : iList K tl σ H R := h
theorem st_isList {a : Addr} {xs : List V} {P : Addr → Prop} (h1 : lstAt H a = some xs) (h : P a) : ∃ b, V.ref a = .ref b ∧ (∃ xs, SqL K H b xs) ∧ P b := ⟨a, rfl, ⟨xs, lstAt_sq h1⟩, h⟩
theorem st_iTup {tl : TE} {R : It → Hp → Prop} (h : tl σ H (fun x H1 => ∃ a, x = .ref a ∧ (∃ xs, SqT K H1 a xs) ∧ R (Itt K a) H1)) : iTup K tl σ H R := h
theorem st_isTup {a : Addr} {xs : List V} {P : Addr → Prop} (h1 : tupAt H a = some xs) (h : P a) : ∃ b, V.ref a = .ref b ∧ (∃ xs, SqT K H b xs) ∧ P b := ⟨a, rfl, ⟨xs, tupAt_sq h1⟩, h⟩
theorem st_iR1 {ta : TA} {R : It → Hp → Prop} (h : ta σ H (fun vs H1 => ∃ j : Int, vs = [.int j] ∧ -(2 ^ 62) ≤ j ∧ j < 2 ^ 62 ∧ R (Itr 0 j.toNat) H1)) : iRng1 ta σ H R := h
theorem st_isR1 {j : Int} {P : Int → Prop} (h1 : -1000000000000 ≤ j ∧ j < 1000000000000) (h : P j) : ∃ i : Int, [V.int j] = [.int i] ∧ -(2 ^ 62) ≤ i ∧ i < 2 ^ 62 ∧ P i := ⟨j, rfl, by omega, by omega, h⟩
theorem st_iR2 {ta : TA} {R : It → Hp → Prop} (h : ta σ H (fun vs H1 => ∃ i j : Int, vs = [.int i, .int j] ∧ (-(2 ^ 62) ≤ i ∧ i < 2 ^ 62 ∧ -(2 ^ 62) ≤ j ∧ j < 2 ^ 62) ∧ R (Itr i (j - i).toNat) H1)) : iRng2 ta σ H R := h
theorem st_isR2 {i j : Int} {P : Int → Int → Prop} (h1 : -1000000000000 ≤ i ∧ i < 1000000000000 ∧ -1000000000000 ≤ j ∧ j < 1000000000000) (h : P i j) : ∃ i' j' : Int, [V.int i, V.int j] = [.int i', .int j'] ∧ (-(2 ^ 62) ≤ i' ∧ i' < 2 ^ 62 ∧ -(2 ^ 62) ≤ j' ∧ j' < 2 ^ 62) ∧ P i' j' := ⟨i, j, rfl, ⟨by omega, by omega, by omega, by omega⟩, h⟩
theorem st_iEn {ta : TA} {R : It → Hp → Prop} (h : ta σ H (fun vs H1 => ∃ a xs, vs = [.ref a] ∧ SqL K H1 a xs ∧ R (Ite K a) H1)) : iEnum K ta σ H R := h
theorem st_isEn {a : Addr} {xs : List V} {P : Addr → Prop} (h1 : lstAt H a = some xs) (h : P a) : ∃ b xs, [V.ref a] = [.ref b] ∧ SqL K H b xs ∧ P b := ⟨a, xs, rfl, lstAt_sq h1, h⟩
theorem st_iZp {ta : TA} {R : It → Hp → Prop} (h : ta σ H (fun vs H1 => ∃ a b xs ys, vs = [.ref a, .ref b] ∧ SqL K H1 a xs ∧ SqL K H1 b ys ∧ R (Itz K a b) H1)) : iZip K ta σ H R := h
theorem st_isZp {a b : Addr} {xs ys : List V} {P : Addr → Addr → Prop} (h1 : lstAt H a = some xs) (h2 : lstAt H b = some ys) (h : P a b) : ∃ a' b' xs ys, [V.ref a, V.ref b] = [.ref a', .ref b'] ∧ SqL K H a' xs ∧ SqL K H b' ys ∧ P a' b' := ⟨a, b, xs, ys, rfl, lstAt_sq h1, lstAt_sq h2, h⟩
theorem st_lc {wi : TI} {tt : TT} {te : TE} {vs : List Nat} {Q : VK} (h : wi σ H fun J H1 => LcGoal J g tt te vs σ Q H1) : tLc wi g tt te vs σ H Q := h
theorem st_for {wi : TI} {tb : TS} {D : Ends} (h : wi σ H fun J H1 => ForGoal J g tb D σ H1) : tFor wi g tb D σ H := h
end
/-! ### more values -/
section
variable {H : Hp} {Q : VK} {σ : L2.St}
theorem st_inC {c : Nat} {z : Str} (h : Q (.bl (decide (c ∈ z.cps.toList))) H) : rInU false (.str (tx [c])) (.str z) H Q := by
  refine ⟨_, rfl, ?_⟩
  show Q (.bl (!(Builtin.Str.occurrences z ⟨#[c]⟩ 0 z.length 1).isEmpty)) H
  rw [PySem.StrLaws.found_one]
  exact h
theorem st_ninC {c : Nat} {z : Str} (h : Q (.bl (!decide (c ∈ z.cps.toList))) H) : rInU true (.str (tx [c])) (.str z) H Q := by
  refine ⟨_, rfl, ?_⟩
  show Q (.bl (!(!(Builtin.Str.occurrences z ⟨#[c]⟩ 0 z.length 1).isEmpty))) H
  rw [PySem.StrLaws.found_one]
  exact h
theorem st_inL {x : V} {p : Addr} {xs : List V} {ds : List PyData} {d : PyData} (h1 : seqAt H p = some xs) (h2 : RpA H xs ds) (h3 : Rp H x d) (hd : min (PyData.depthAll ds) d.depth ≤ 60) (h : Q (.bl (ds.any fun y => PyData.eqv y d)) H) : rInU false x (.ref p) H Q := ⟨xs, ds, d, h1, h2, h3, hd, h⟩
theorem st_ninL {x : V} {p : Addr} {xs : List V} {ds : List PyData} {d : PyData} (h1 : seqAt H p = some xs) (h2 : RpA H xs ds) (h3 : Rp H x d) (hd : min (PyData.depthAll ds) d.depth ≤ 60) (h : Q (.bl (!(ds.any fun y => PyData.eqv y d))) H) : rInU true x (.ref p) H Q := ⟨xs, ds, d, h1, h2, h3, hd, h⟩
theorem st_all {p : Addr} {bs : List Bool} {xs : List V} (h1 : H p = some (.lst xs)) (e : xs = bs.map V.bl) (h : Q (.bl (bs.all id)) H) : rAllU [.ref p] H Q := ⟨bs, by rw [lst_of h1, e], h⟩
theorem st_join {a : Str} {p : Addr} {ys : List Str} {xs : List V} {K : PySem.W.Frag} (h1 : H p = some (.lst xs)) (e : xs = ys.map V.str) (hz : (ys.map (·.length)).sum + ys.length * a.length ≤ 16777216) (h : Q (.str (Txt.join a ys)) H) :
    ∃ a' p', ∃ ys : List Str, V.str a = .str a' ∧ [V.ref p] = [.ref p'] ∧ (SqL K H p' (ys.map V.str) ∨ SqT K H p' (ys.map V.str)) ∧ (ys.map (·.length)).sum + ys.length * a'.length ≤ 16777216 ∧ Q (.str (Txt.join a' ys)) H :=
  ⟨a, p, ys, rfl, rfl, .inl (lstAt_sq (by rw [lst_of h1, e])), hz, h⟩
theorem st_gtup {K : PySem.W.Frag} {a : Addr} {xs : List V} {n : Nat} {t : TGs} {R : L2.St → Hp → Prop} (h1 : H a = some (.tup xs)) (hn : xs.length = n) (h : t xs σ H R) : gTup K n t (.ref a) σ H R := ⟨a, xs, rfl, tupAt_sq (tup_of h1), hn, h⟩
theorem st_glst {K : PySem.W.Frag} {a : Addr} {xs : List V} {n : Nat} {t : TGs} {R : L2.St → Hp → Prop} (h1 : H a = some (.lst xs)) (hn : xs.length = n) (h : t xs σ H R) : gLst K n t (.ref a) σ H R := ⟨a, xs, rfl, lstAt_sq (lst_of h1), hn, h⟩
theorem st_gcons {v : V} {r : List V} {t : TG} {u : TGs} {R : L2.St → Hp → Prop} (h : t v σ H fun σ' H' => u r σ' H' R) : gCons t u (v :: r) σ H R := ⟨v, r, rfl, h⟩
theorem st_gnil {R : L2.St → Hp → Prop} (h : R σ H) : gNil [] σ H R := ⟨rfl, h⟩
theorem st_m1 {r : V → List V → Hp → VK → Prop} {to te : TE} (h : to σ H (fun x H1 => (∃ a, x = .str a) ∧ te σ H1 fun y H2 => r x [y] H2 Q)) : tM1 r to te σ H Q := h
theorem st_isS {a : Str} {P : Prop} (h : P) : (∃ b, V.str a = .str b) ∧ P := ⟨⟨a, rfl⟩, h⟩
theorem st_bm {K : PySem.W.Frag} {T : String} {r : V → List V → Hp → VK → Prop} {to : TE} {t : TA} (h : to σ H (fun x H1 => tyV K T x H1 ∧ t σ H1 fun xs H2 => r x xs H2 Q)) : tBM K T r to t σ H Q := h
theorem st_bm0 {K : PySem.W.Frag} {T : String} {r : V → List V → Hp → VK → Prop} {to : TE} (h : to σ H (fun x H1 => tyV K T x H1 ∧ r x [] H1 Q)) : tBM0 K T r to σ H Q := h
theorem st_tyL {K : PySem.W.Frag} {p : Addr} {xs : List V} {P : Prop} (h1 : H p = some (.lst xs)) (h : P) : tyV K "list" (.ref p) H ∧ P := ⟨.inl ⟨rfl, xs, lstAt_sq (lst_of h1)⟩, h⟩
theorem st_app {p : Addr} {xs : List V} {y : V} (h1 : H p = some (.lst xs)) (hz : xs.length < 16777216) (h : Q .non (upd H p (.lst (xs ++ [y])))) : rAppend (.ref p) [y] H Q := ⟨p, xs, y, rfl, rfl, h1, by rw [sl16]; exact hz, h⟩
theorem st_listS {K : PySem.W.Frag} {z : Str} (hz : z.length ≤ 16777216) (h : ∀ p H', H p = none → Ex H H' → H' p = some (.lst (z.cps.toList.map fun c => V.str (tx [c]))) → Q (.ref p) H') : rListU K [.str z] H Q := ⟨hz, fun p hp => h p _ hp (Fr.new hp) upd_same⟩
theorem st_listQ {K : PySem.W.Frag} {a : Addr} {ys : List V} (h1 : seqAt H a = some ys) (h : ∀ p H', H p = none → Ex H H' → H' p = some (.lst ys) → Q (.ref p) H') : rListU K [.ref a] H Q := ⟨ys, seqAt_sq h1, fun p hp => h p _ hp (Fr.new hp) upd_same⟩
theorem st_tupS {K : PySem.W.Frag} {z : Str} (hz : z.length ≤ 16777216) (h : ∀ p H', H p = none → Ex H H' → H' p = some (.tup (z.cps.toList.map fun c => V.str (tx [c]))) → Q (.ref p) H') : rTupU K [.str z] H Q := ⟨hz, fun p hp => h p _ hp (Fr.new hp) upd_same⟩
theorem st_tupL {K : PySem.W.Frag} {a : Addr} {ys : List V} (h1 : lstAt H a = some ys) (h : ∀ p H', H p = none → Ex H H' → H' p = some (.tup ys) → Q (.ref p) H') : rTupU K [.ref a] H Q := ⟨ys, .inl ⟨lstAt_sq h1, fun p hp => h p _ hp (Fr.new hp) upd_same⟩⟩
theorem st_tupT {K : PySem.W.Frag} {a : Addr} {ys : List V} (h1 : tupAt H a = some ys) (h : Q (.ref a) H) : rTupU K [.ref a] H Q := ⟨ys, .inr ⟨tupAt_sq h1, h⟩⟩
def DispEnd (p : Addr) (Q : VK) (ps : List (V × V)) (H2 : Hp) : Prop := H2 p = some (.dK []) ∧ ∃ kvs : List (Key × V), ps = kvs.map (fun kv => (kV kv.1, kv.2)) ∧ kvs.length ≤ 15 ∧ Q (.ref p) (upd H2 p (.dK (mergeK [] kvs)))
theorem st_disp {trs : List (TE × TE)} (h : ∀ p H', H p = none → Ex H H' → H' p = some (.dK []) → tPairs trs σ H' (DispEnd p Q)) : tDisp trs σ H Q := fun p hp => h p _ hp (Fr.new hp) upd_same
theorem st_pair {tk tv : TE} {r : List (TE × TE)} {P : List (V × V) → Hp → Prop} (h : tk σ H fun x H1 => tv σ H1 fun y H2 => tPairs r σ H2 fun ps H3 => P ((x, y) :: ps) H3) : tPairs ((tk, tv) :: r) σ H P := h
theorem st_pairs0 {P : List (V × V) → Hp → Prop} (h : P [] H) : tPairs [] σ H P := h
theorem st_dispEnd {p : Addr} {ps : List (V × V)} {H0 : Hp} (e0 : Ex H0 H) (hp : H0 p = none) (h1 : H p = some (.dK [])) (kvs : List (Key × V)) (e : ps = kvs.map (fun kv => (kV kv.1, kv.2))) (hl : kvs.length ≤ 15) (h : ∀ H', Ex H0 H' → H' p = some (.dK (mergeK [] kvs)) → Q (.ref p) H') : DispEnd p Q ps H :=
  ⟨h1, kvs, e, hl, h _ (e0.mut hp) upd_same⟩
theorem st_ixA {K : PySem.W.Frag} {p : Addr} {i : Int} {xs : List V} (h1 : seqAt H p = some xs) (h0 : 0 ≤ i) (hi : i < xs.length) (h : ∀ v, xs[i.toNat]? = some v → v ∈ xs → Q v H) : rIxU K (.ref p) (.int i) H Q := by
  obtain ⟨v, h2, h3⟩ := at_in h0 hi
  exact st_ixQ h1 h2 (h v h3 (List.mem_of_getElem? h3))
theorem st_clear {p : Addr} {xs : List V} (h1 : H p = some (.lst xs)) (h : Q .non (upd H p (.lst []))) : rClear (.ref p) [] H Q := ⟨p, xs, rfl, rfl, h1, h⟩
theorem st_isL {p : Addr} {xs : List V} {n : String} {b : Bool} (h1 : H p = some (.lst xs)) (h2 : kitB "list" n = some b) (h : Q (.bl b) H) : rIs [.ref p, .ty n] H Q := ⟨"list", by show tyO (H p) = _; rw [h1]; rfl, b, h2, h⟩
theorem st_isT {p : Addr} {xs : List V} {n : String} {b : Bool} (h1 : H p = some (.tup xs)) (h2 : kitB "tuple" n = some b) (h : Q (.bl b) H) : rIs [.ref p, .ty n] H Q := ⟨"tuple", by show tyO (H p) = _; rw [h1]; rfl, b, h2, h⟩
theorem st_isI {i : Int} {n : String} {b : Bool} (h2 : kitB "int" n = some b) (h : Q (.bl b) H) : rIs [.int i, .ty n] H Q := ⟨"int", rfl, b, h2, h⟩
theorem st_isB {i : Bool} {n : String} {b : Bool} (h2 : kitB "bool" n = some b) (h : Q (.bl b) H) : rIs [.bl i, .ty n] H Q := ⟨"bool", rfl, b, h2, h⟩
theorem st_isS' {i : Str} {n : String} {b : Bool} (h2 : kitB "str" n = some b) (h : Q (.bl b) H) : rIs [.str i, .ty n] H Q := ⟨"str", rfl, b, h2, h⟩
theorem kit_ii : kitB "int" "int" = some true := by decide +kernel
theorem kit_ib : kitB "int" "bool" = some false := by decide +kernel
theorem kit_il : kitB "int" "list" = some false := by decide +kernel
theorem kit_is : kitB "int" "str" = some false := by decide +kernel
theorem kit_it : kitB "int" "tuple" = some false := by decide +kernel
theorem kit_ll : kitB "list" "list" = some true := by decide +kernel
theorem kit_lt : kitB "list" "tuple" = some false := by decide +kernel
theorem kit_tt : kitB "tuple" "tuple" = some true := by decide +kernel
theorem kit_tl : kitB "tuple" "list" = some false := by decide +kernel
theorem kit_ss : kitB "str" "str" = some true := by decide +kernel
theorem kit_bb : kitB "bool" "bool" = some true := by decide +kernel
theorem kit_bi : kitB "bool" "int" = some true := by decide +kernel
theorem cutV_from (xs : List V) (k : Nat) : cutV xs (some (k : Int)) none = xs.drop k := by
  unfold cutV
  rw [HT.sIx_nat, HT.sIx_none]
  by_cases h : k ≤ xs.length
  · rw [Nat.min_eq_left h, List.take_of_length_le (by rw [List.length_drop]; exact Nat.le_refl _)]
  · rw [Nat.min_eq_right (by omega), List.drop_of_length_le (Nat.le_refl _), List.drop_of_length_le (by omega)]
    simp
theorem cutV_to (xs : List V) (k : Nat) : cutV xs none (some (k : Int)) = xs.take k := by
  unfold cutV
  rw [HT.sIx_nat, HT.sIx_none, Nat.sub_zero, List.drop_zero]
  by_cases h : k ≤ xs.length
  · rw [Nat.min_eq_left h]
  · rw [Nat.min_eq_right (by omega), List.take_of_length_le (Nat.le_refl _), List.take_of_length_le (by omega)]
theorem cutV_mid (xs : List V) (i j : Nat) : cutV xs (some (i : Int)) (some (j : Int)) = (xs.take j).drop i := by
  unfold cutV
  rw [HT.sIx_nat, HT.sIx_nat, List.drop_take]
  by_cases h : i ≤ xs.length
  · rw [Nat.min_eq_left h]
    by_cases h2 : j ≤ xs.length
    · rw [Nat.min_eq_left h2]
    · rw [Nat.min_eq_right (by omega), List.take_of_length_le (by rw [List.length_drop]; exact Nat.le_refl _), List.take_of_length_le (by rw [List.length_drop]; omega)]
  · rw [show min i xs.length = xs.length by omega, List.drop_of_length_le (Nat.le_refl xs.length), List.drop_of_length_le (show xs.length ≤ i by omega)]
    simp
/-- a table that is read -/
structure TabR (H : Hp) (p : Addr) (rs : List Addr) (row : Nat → List V) : Prop where
  at_ : H p = some (.lst (rs.map V.ref))
  rows : ∀ k r, rs[k]? = some r → H r = some (.lst (row k))
theorem TabR.ex {H H' : Hp} {p : Addr} {rs : List Addr} {row : Nat → List V} (T : TabR H p rs row) (e : Ex H H') : TabR H' p rs row := ⟨e.get T.at_, fun k r h => e.get (T.rows k r h)⟩
theorem refs_at {rs : List Addr} {i : Nat} {r : Addr} (h : rs[i]? = some r) : atI (rs.map V.ref) (i : Int) = some (V.ref r) := by
  unfold atI
  rw [Evl.ixN_nat (by rw [List.length_map]; exact (List.getElem?_eq_some_iff.mp h).1)]
  show (rs.map V.ref)[i]? = _
  rw [List.getElem?_map, h]
  rfl
theorem at_last {xs : List V} {n : Nat} {v : V} (hl : xs.length = n + 1) (h : xs[n]? = some v) : atI xs (-1) = some v := by
  unfold atI ixN
  rw [if_neg (by decide), hl, if_pos (by omega)]
  have e : (-1 + ((n + 1 : Nat) : Int)).toNat = n := by omega
  show xs[(-1 + ((n + 1 : Nat) : Int)).toNat]? = _
  rw [e]
  exact h
/-- x is a thing whose type is known -/
def Ty (H : Hp) (v : V) : Prop := ∃ t, tyN H v = some t
theorem ty_lst {p : Addr} {xs : List V} (h : H p = some (.lst xs)) : Ty H (.ref p) := ⟨"list", by show tyO (H p) = _; rw [h]; rfl⟩
theorem ty_tup {p : Addr} {xs : List V} (h : H p = some (.tup xs)) : Ty H (.ref p) := ⟨"tuple", by show tyO (H p) = _; rw [h]; rfl⟩
theorem ty_dK {p : Addr} {xs : List (Key × V)} (h : H p = some (.dK xs)) : Ty H (.ref p) := ⟨"dict", by show tyO (H p) = _; rw [h]; rfl⟩
theorem ty_str (z : Str) : Ty H (.str z) := ⟨"str", rfl⟩
theorem ty_int (z : Int) : Ty H (.int z) := ⟨"int", rfl⟩
theorem ty_bl (z : Bool) : Ty H (.bl z) := ⟨"bool", rfl⟩
theorem ty_non : Ty H .non := ⟨"NoneType", rfl⟩
theorem tyN_ex {H' : Hp} {v : V} {t : String} (e : Ex H H') (h : tyN H v = some t) : tyN H' v = some t := by
  cases v with
  | ref p =>
    have h : tyO (H p) = some t := h
    show tyO (H' p) = some t
    cases q : H p with
    | none => rw [q] at h; cases h
    | some o =>
      rw [e p o (fun z => z) q]
      rw [q] at h
      exact h
  | _ => exact h
theorem Ty.ex {H' : Hp} {v : V} (h : Ty H v) (e : Ex H H') : Ty H' v := by
  obtain ⟨t, h⟩ := h
  exact ⟨t, tyN_ex e h⟩
theorem cutS_len (z : Str) (lo hi : Option Int) : (cutS z lo hi).length ≤ z.length := by
  show ((z.cps.toList.drop _).take _).toArray.size ≤ z.cps.size
  simp only [List.size_toArray, List.length_take, List.length_drop, Array.length_toList]
  omega
theorem fold_len (a : Array Nat) : ∀ (n : Nat) (b : Array Nat), ((List.replicate n a).foldl (· ++ ·) b).size = b.size + n * a.size
  | 0, b => by simp
  | n + 1, b => by
    rw [List.replicate_succ, List.foldl_cons, fold_len a n, Array.size_append, Nat.succ_mul]
    omega
theorem mulS_len (z : Str) (n : Int) : (Txt.mul z n).length ≤ z.length * n.toNat := by
  unfold Txt.mul
  by_cases h : n < 1
  · rw [if_pos h]; exact Nat.zero_le _
  · rw [if_neg h]
    by_cases h2 : (n == 1 || z.length == 0) = true
    · rw [if_pos h2]
      exact Nat.le_mul_of_pos_right _ (by omega)
    · rw [if_neg h2]
      show ((List.replicate n.toNat z.cps).foldl (· ++ ·) #[]).size ≤ _
      rw [fold_len, Nat.mul_comm]
      simp
      exact Nat.le_refl _
def isStrV : V → Bool
  | .str _ => true
  | _ => false
theorem tyN_in {v : V} {t : String} (h : tyN H v = some t) : t = "NoneType" ∨ t = "bool" ∨ t = "int" ∨ t = "str" ∨ t = "list" ∨ t = "tuple" ∨ t = "dict" := by
  cases v with
  | ref p =>
    have h : tyO (H p) = some t := h
    unfold tyO at h
    split at h <;> first | (cases h; simp) | cases h
  | _ => first | (cases h; simp) | cases h
theorem kb_str : kitB "NoneType" "str" = some false ∧ kitB "bool" "str" = some false ∧ kitB "int" "str" = some false ∧ kitB "str" "str" = some true ∧ kitB "list" "str" = some false ∧ kitB "tuple" "str" = some false ∧ kitB "dict" "str" = some false := by decide +kernel
theorem kb_bool : kitB "NoneType" "bool" = some false ∧ kitB "bool" "bool" = some true ∧ kitB "int" "bool" = some false ∧ kitB "str" "bool" = some false ∧ kitB "list" "bool" = some false ∧ kitB "tuple" "bool" = some false ∧ kitB "dict" "bool" = some false := by decide +kernel
theorem st_isStrT {x : V} (h1 : Ty H x) (h : Q (.bl (isStrV x)) H) : rIs [x, .ty "str"] H Q := by
  obtain ⟨t, h1⟩ := h1
  obtain ⟨k1, k2, k3, k4, k5, k6, k7⟩ := kb_str
  refine st_is h1 (b := isStrV x) ?_ h
  cases x with
  | ref p =>
    have h1 : tyO (H p) = some t := h1
    unfold tyO at h1
    split at h1 <;> first | (cases h1; assumption) | cases h1
  | _ => first | (cases h1; assumption) | cases h1
end
/-! ### data: how lists of one kind read -/
theorem lstAt_ex {H H' : Hp} {a : Addr} {xs : List V} (e : Ex H H') (h : lstAt H a = some xs) : lstAt H' a = some xs := by
  unfold lstAt at h ⊢
  cases q : H a with
  | none => rw [q] at h; cases h
  | some o => rw [e a o (fun z => z) q]; rw [q] at h; exact h
theorem tupAt_ex {H H' : Hp} {a : Addr} {xs : List V} (e : Ex H H') (h : tupAt H a = some xs) : tupAt H' a = some xs := by
  unfold tupAt at h ⊢
  cases q : H a with
  | none => rw [q] at h; cases h
  | some o => rw [e a o (fun z => z) q]; rw [q] at h; exact h
mutual
theorem Rp.ex {H H' : Hp} (e : Ex H H') : ∀ {v : V} {d : PyData}, Rp H v d → Rp H' v d
  | _, _, .non => .non
  | _, _, .bl b => .bl b
  | _, _, .int i => .int i
  | _, _, .str x => .str x
  | _, _, .lst h k => .lst (lstAt_ex e h) (RpA.ex e k)
  | _, _, .tup h k => .tup (tupAt_ex e h) (RpA.ex e k)
theorem RpA.ex {H H' : Hp} (e : Ex H H') : ∀ {vs : List V} {ds : List PyData}, RpA H vs ds → RpA H' vs ds
  | _, _, .nil => .nil
  | _, _, .cons h k => .cons (Rp.ex e h) (RpA.ex e k)
end
theorem rpA_map {H : Hp} {α : Type} {val : α → V} {enc : α → PyData} : ∀ {xs : List α}, (∀ x ∈ xs, Rp H (val x) (enc x)) → RpA H (xs.map val) (xs.map enc)
  | [], _ => .nil
  | a :: r, h => .cons (h a List.mem_cons_self) (rpA_map fun x hx => h x (List.mem_cons_of_mem _ hx))
theorem rpA_ints {H : Hp} (ns : List Int) : RpA H (ns.map V.int) (ns.map PyData.int) := rpA_map fun _ _ => .int _
theorem rpA_strs {H : Hp} (ss : List Str) : RpA H (ss.map V.str) (ss.map PyData.str) := rpA_map fun _ _ => .str _
theorem eqvAll_map {α : Type} [DecidableEq α] {enc : α → PyData} (h : ∀ a b, PyData.eqv (enc a) (enc b) = decide (a = b)) : ∀ xs ys : List α, PyData.eqvAll (xs.map enc) (ys.map enc) = decide (xs = ys)
  | [], [] => by simp [PyData.eqvAll]
  | [], _ :: _ => by simp [PyData.eqvAll]
  | _ :: _, [] => by simp [PyData.eqvAll]
  | a :: r, b :: s => by
    have ih := eqvAll_map h r s
    simp only [List.map_cons, PyData.eqvAll, h, ih]
    rw [Bool.eq_iff_iff]
    simp
theorem eqv_int (a b : Int) : PyData.eqv (.int a) (.int b) = decide (a = b) := by simp only [PyData.eqv]; rfl
theorem eqv_str (a b : Str) : PyData.eqv (.str a) (.str b) = decide (a = b) := by simp only [PyData.eqv]; rfl
theorem eqv_list {α : Type} [DecidableEq α] {enc : α → PyData} (h : ∀ a b, PyData.eqv (enc a) (enc b) = decide (a = b)) (xs ys : List α) : PyData.eqv (.list (xs.map enc)) (.list (ys.map enc)) = decide (xs = ys) := by
  simp only [PyData.eqv]
  exact eqvAll_map h xs ys
theorem eqv_nil_r {α : Type} {enc : α → PyData} (xs : List α) : PyData.eqv (.list (xs.map enc)) (.list []) = decide (xs = []) := by
  cases xs <;> simp [PyData.eqv, PyData.eqvAll]
theorem depth_map {α : Type} {enc : α → PyData} {n : Nat} : ∀ {xs : List α}, (∀ x ∈ xs, (enc x).depth ≤ n) → PyData.depthAll (xs.map enc) ≤ n
  | [], _ => by simp [PyData.depthAll]
  | a :: r, h => by
    simp only [List.map_cons, PyData.depthAll]
    exact Nat.max_le.mpr ⟨h a List.mem_cons_self, depth_map fun x hx => h x (List.mem_cons_of_mem _ hx)⟩
/-! ### a def of the text, by its name -/
structure Df (K : PySem.W.Frag) (mg : Str → Option Value) (x : Str) (st : Stmt) (ps : List Str) (f : Addr) (fd : FuncData) : Prop where
  g : mg x = some (.ref f)
  F : Fun K x x st f fd
  b : Binds K fd ps []
theorem df_mk {K : PySem.W.Frag} {h : Heap} {mg : Str → Option Value} {x : Str} {st : Stmt} {ps : List Str} {f : Addr} {oc : Value} {od an : Option Addr} {osl : Array (Option Value)} {kV dc pm cd ct : Value} (X : K.In h) (G : h.Ns mainGlobals mg)
    (a : PySem.W.nsIn K mainGlobals x = some (some (.ref f))) (l : K.lookup f = some ⟨oc, od, .func (PySem.W.fnOf x x (defArgs st) (defBody st) (defScope st) .none kV dc pm an cd ct), osl⟩) (c : PySem.W.codeIn K cd x = true) (k : PySem.W.keepIn K (.ref f) = true)
    (hb : ∀ (kV doc pm : Value) (an : Option Addr) (cdv ct : Value) (us : List Value), us.length = ps.length → bindArgs (PySem.W.fnOf x x (defArgs st) (defBody st) (defScope st) .none kV doc pm an cdv ct) ⟨us, []⟩ = pure (ps.zip us)) :
    Df K mg x st ps f (PySem.W.fnOf x x (defArgs st) (defBody st) (defScope st) .none kV dc pm an cd ct) :=
  have F := fun_mk (st := st) l c k
  ⟨PySem.W.mg_of X G a, F, F.binds hb⟩
/-- the script: a list of ints that is read, never written -/
def Scr (K : PySem.W.Frag) (H : Hp) (a : Addr) (ns : List Int) : Prop :=
  (∃ o, H a = some (.frz o (.lst (ns.map V.int)))) ∨ ∃ (o : Obj) (its : Array Value) (n : Nat), K.lookup a = some o ∧ o.cls = .type "list" ∧ o.dict = none ∧ o.data = .seq its n ∧ its.size ≤ sizeLine ∧ Vals (ns.map V.int) its.toList
theorem FrP.fresh {H0 H1 H2 : Hp} {p : Addr} (e : Ex H0 H1) (h : H0 p = none) (f : FrP p H1 H2) : Ex H0 H2 := fun b o _ q => f b o (ne_of_none q h) (e b o (fun z => z) q)
theorem tx_nil : ("" : Str) = tx [] := by decide +kernel
theorem app_tx (a b : List Nat) : tx a ++ tx b = tx (a ++ b) := tx_append a b
/-- texts joined by nothing -/
theorem join_txs (ls : List (List Nat)) : Txt.join "" (ls.map tx) = tx ls.flatten := by
  show Builtin.Str.glued "" _ = _
  rw [PySem.StrLaws.glued_eq_join]
  induction ls with
  | nil => rfl
  | cons a r ih =>
    cases r with
    | nil => show tx a = tx (a ++ []); rw [List.append_nil]
    | cons b r =>
      show tx a ++ "" ++ Str.join "" ((b :: r).map tx) = tx (a ++ (b :: r).flatten)
      rw [ih, tx_nil, app_tx, app_tx, List.append_nil]
theorem join_signs (cs : List Nat) : Txt.join "" (cs.map fun c => tx [c]) = tx cs := by
  have h := join_txs (cs.map fun c => [c])
  rw [List.map_map] at h
  have e : ∀ l : List Nat, (l.map fun c => [c]).flatten = l := fun l => by
    induction l with
    | nil => rfl
    | cons a r ih => rw [List.map_cons, List.flatten_cons, ih]; rfl
  rw [e cs] at h
  exact h
theorem sum_signs (cs : List Nat) : ((cs.map fun c => tx [c]).map (·.length)).sum = cs.length := by
  induction cs with
  | nil => rfl
  | cons a r ih =>
    rw [List.map_cons, List.map_cons, List.sum_cons, ih, tx_length, List.length_cons, List.length_cons, List.length_nil]
    omega
theorem lst_only {K : PySem.W.Frag} {H : Hp} {a : Addr} {ns : List Int} (hO : Only H) (h : SqL K H a (ns.map V.int)) : Scr K H a ns := by
  rcases h with (h | ⟨o, h⟩) | h
  · rcases hO a with e | ⟨o, xs, e⟩
    · rw [e] at h; cases h
    · rw [e] at h; cases h
  · exact .inl ⟨o, h⟩
  · exact .inr h
theorem Scr.sq {K : PySem.W.Frag} {H : Hp} {a : Addr} {ns : List Int} (h : Scr K H a ns) : SqL K H a (ns.map V.int) := by
  rcases h with ⟨o, h⟩ | h
  · exact .inl (.inr ⟨o, h⟩)
  · exact .inr h
theorem Scr.ex {K : PySem.W.Frag} {H H' : Hp} {a : Addr} {ns : List Int} (h : Scr K H a ns) (e : Ex H H') : Scr K H' a ns := by
  rcases h with ⟨o, h⟩ | h
  · exact .inl ⟨o, e.get h⟩
  · exact .inr h
theorem Scr.frp {K : PySem.W.Frag} {H H' : Hp} {a p : Addr} {ns : List Int} (h : Scr K H a ns) (hp : Purse H p) (e : FrP p H H') : Scr K H' a ns := by
  rcases h with ⟨o, h⟩ | h
  · refine .inl ⟨o, e.get (fun z => ?_) h⟩
    obtain ⟨x, y, z', q⟩ := hp
    rw [z, q] at h
    cases h
  · exact .inr h
end Zb

/-! enumerate of a text -/
namespace Zb
open PySem PySem.Spec PyProof.Rows L2
def Ites (x : Str) : It := ⟨fun i _ => i < x.cps.size, fun i H v H' => ∃ T c, v = .ref T ∧ H T = none ∧ H' = upd H T (.tup [.int (i : Nat), .str (tx [c])]) ∧ x.cps[i]? = some c, fun i _ => i = x.cps.size⟩
theorem turn_enumS {P : Program} {w : World} {K : PySem.W.Frag} {elts : List Expr} {kk : Nat} {tpos : Pos} (x : Str) (t : Tok) (e it : Addr) (hne : e ≠ it) :
    Turn P w K (.Tuple elts kk tpos) (Ites x) [e, it] e (fun i h => (∃ old, IsEnum h e it ((0 : Int) + ((i : Nat) : Int)) old) ∧ h.IsStrIter it (strIterType x) x t i) where
  mem := by simp
  obj := fun i h st b hb => by
    obtain ⟨⟨old, he⟩, ⟨o, ho, hc, hd⟩⟩ := st
    have e' : b = e ∨ b = it := by simpa using hb
    rcases e' with z | z
    · rw [z]; exact ⟨_, he, fun v q => nomatch q⟩
    · rw [z]; exact ⟨o, ho, fun v q => by rw [hd] at q; cases q⟩
  keep := fun i h h' st k => let ⟨⟨old, he⟩, o, ho, r⟩ := st; ⟨⟨old, k e (by simp) _ he⟩, o, k it (by simp) o ho, r⟩
  item := by
    intro X hP hw hK hc i pins s σ H E I hf st hg
    subst hP hw hK
    have D : Draws X.prog X.w X.A.in1 it [it] x.cps.size (fun i v => ∃ c u, x.cps[i]? = some c ∧ v = .str ⟨#[c]⟩ u) (fun i h => h.IsStrIter it (strIterType x) x t i) := Draws.text (A := X.A.in1) (I.ok.hd hc) it x t
    have W := WalksT.enumFrom (A := X.A) 0 D e hne (by simpa using hne) (by simp)
    have hel : e < s.heap.objs.size := by obtain ⟨⟨_, he⟩, _⟩ := st; exact Heap.lt_size he
    have hil : it < s.heap.objs.size := by obtain ⟨_, _, q, _⟩ := st; exact Heap.lt_size q
    refine W.item i s _ _ hg st fun T vals h' tk hP hTn hT hM kp => ?_
    obtain ⟨t2, v, ⟨c, u, hcx, rfl⟩, rfl⟩ := hP
    refine ⟨_, rfl, W.go elts kk tpos i T { s with heap := h', toks := tk } _ _ hM fun h'' st2 kp2 => ?_⟩
    have hTa := W.apart i T h' hM
    obtain ⟨oT, hoT, hcT, nT, hdT⟩ := hT
    have new : ObjOk X.prog X.w (upd H T (.tup [.int (i : Nat), .str (tx [c])])) h'' T (.tup [.int (i : Nat), .str (tx [c])]) :=
      ⟨by show 2 ≤ sizeLine; rw [sl16]; decide, [.int ((0 : Int) + (i : Int)) t2, .str ⟨#[c]⟩ u], .cons ⟨t2, by rw [Int.zero_add]⟩ (.cons ⟨u, rfl⟩ .nil), ⟨oT, kp2 T oT hTa hoT, hcT, nT, hdT⟩⟩
    have I1 : Inv X pins σ (upd H T (.tup [.int (i : Nat), .str (tx [c])])) { s with heap := h'', toks := tk } :=
      I.turnedNew (ch := [e, it]) (fun b ob hb q => kp2 b ob hb (kp b ob hb q)) hf hTn new
    refine ⟨.ref T, _, I1, rfl, ⟨T, c, rfl, I.hok.fresh hTn, rfl, hcx⟩, st2, fun b hb => ?_⟩
    have hb' : b < s.heap.objs.size := by
      have e' : b = e ∨ b = it := by simpa using hb
      rcases e' with z | z
      · rw [z]; exact hel
      · rw [z]; exact hil
    rw [upd_ne (Nat.ne_of_lt (Nat.lt_of_lt_of_le hb' hTn))]
    exact (hf b hb).1
  done := by
    intro X hP hw hK hc i pins s σ H E I hf st hg
    subst hP hw hK
    obtain ⟨f0, f1, f2, f3, f4, f5⟩ := hf it (by simp)
    obtain ⟨⟨old, he⟩, hit⟩ := st
    have D := Draws.text (prog := X.prog) (w := X.w) (A := X.A.in1) (I.ok.hd hc) it x t
    have hg : i = x.cps.size := hg
    subst hg
    exact wpAny_pyNext_enum_endD D he hit fun h' eb => ⟨rfl, I.turned (t' := s.toks) (fun b o hb q => eb b o hb q) f0 f1 f3 f4 f5⟩
  self := fun A i s Q E st h => let ⟨⟨_, he⟩, _⟩ := st; wpAny_pyIter_enum he h
def iEnS (ta : TA) : TI := fun σ H R => ta σ H fun vs H1 => ∃ x, vs = [.str x] ∧ R (Ites x) H1
theorem pi_enumS {X : Cx} {e : Expr} {ta : TA} {p pos tpos : Pos} {elts : List Expr} {kk : Nat} (hg : Gl X "enumerate") (hm : X.mg "enumerate" = none) (ha : PA X [e] ta) (hs : starEach [e] X.env = [(false, eval e X.env)] := by rfl) :
    PI X (.Tuple elts kk tpos) (.Call (.Name "enumerate" p) [e] [] pos) (iEnS ta) := by
  refine ⟨fun pins s σ H R I h => ?_⟩
  refine Call_ (ld_blt I hg hm boot_enumerate (PyProof.Rows.callWith_type1 (thn (ha.run pos pins s σ H _ I h) fun us s1 ⟨vs, H1, I1, r1, q1⟩ => ?_) hs rfl))
  obtain ⟨x, ex, q⟩ := q1
  subst ex
  obtain ⟨u, rfl, t, rfl⟩ := vals1 r1
  refine call_enumerate_str fun h' he hit hsz hk => wpAny_pyIter_enum he ?_
  have I2 : Inv X pins σ H1 { s1 with heap := h' } := I1.kept (t' := s1.toks) hk
  refine ⟨s1.heap.objs.size + 1, [s1.heap.objs.size + 1, s1.heap.objs.size], _, _, H1, rfl, I2, turn_enumS x t (s1.heap.objs.size + 1) s1.heap.objs.size (Nat.succ_ne_self _), ⟨⟨.none, he⟩, hit⟩, fun b hb => ?_, q⟩
  have e' : b = s1.heap.objs.size + 1 ∨ b = s1.heap.objs.size := by simpa using hb
  have hle : s1.heap.objs.size ≤ b := by
    rcases e' with z | z
    · rw [z]; exact Nat.le_add_right _ _
    · rw [z]; exact Nat.le_refl _
  exact I1.fpOk hle (I1.hok.fresh hle)
theorem runs_enumS (z : Str) : Runs (Ites z) z.length (fun _ => True) (fun i x H H' => ∃ T c, x = .ref T ∧ H T = none ∧ Ex H H' ∧ H' T = some (.tup [.int (i : Nat), .str (tx [c])]) ∧ z.cps.toList[i]? = some c) :=
  ⟨fun _ _ h _ => h, fun _ _ => rfl, fun i H x H' _ _ y => by
    obtain ⟨T, c, e1, e2, e3, e4⟩ := y
    subst e3
    exact ⟨T, c, e1, e2, Fr.new e2, upd_same, by rw [Array.getElem?_toList]; exact e4⟩⟩
theorem st_iEnS {ta : TA} {σ : L2.St} {H : Hp} {R : It → Hp → Prop} (h : ta σ H (fun vs H1 => ∃ x, vs = [.str x] ∧ R (Ites x) H1)) : iEnS ta σ H R := h
theorem st_isEnS {x : Str} {P : Str → Prop} (h : P x) : ∃ y, [V.str x] = [.str y] ∧ P y := ⟨x, rfl, h⟩
end Zb

/-! exceptions: own classes over ValueError, by name -/
namespace Zb
open PySem PySem.Spec PyProof.Rows L2
def clsA (K : PySem.W.Frag) (nm : Str) : Addr := match PySem.W.nsIn K mainGlobals nm with
  | some (some (.ref C)) => C
  | _ => 0
theorem clsA_of {K : PySem.W.Frag} {nm : Str} {C : Addr} (h : PySem.W.nsIn K mainGlobals nm = some (some (.ref C))) : clsA K nm = C := by unfold clsA; rw [h]
/-- a class that is named in an except clause -/
structure EC (K : PySem.W.Frag) (mg : Str → Option Value) (nm : Str) : Prop where
  g : mg nm = some (.ref (clsA K nm))
  sb : PySem.W.subIn K (.ref (clsA K nm)) (.type "BaseException") = some true
  hd : PySem.W.hasDictIn K (clsA K nm) = true
  ty : PySem.W.typeIn K (.ref (clsA K nm)) = some (.type "type")
/-- what an isinstance, a field, of an exception in hand wants -/
structure XI (K : PySem.W.Frag) (C : Addr) : Prop where
  hc : (PySem.W.clsIn K C).isSome = true
  ga : PySem.W.findIn K (.ref C) "__getattribute__" = some (some (.builtin "BaseException.__getattribute__"))
  gg : PySem.W.findIn K (.ref C) "__getattr__" = some none
  sb : PySem.W.subIn K (.ref C) (.type "BaseException") = some true
  hd : PySem.W.hasDictIn K C = true
  ca : PySem.W.findIn K (.ref C) "__class__" = some (some (.builtin "object.__class__"))
  cn : PySem.W.specialIn K (.builtin "object.__class__") "__get__" = some (some (.builtin "getset_descriptor.__get__"))
  ct : PySem.W.takesIn K (.builtin "object.__class__") = some true
  cm : PySem.W.mroIn K C (.type "object") = some true
theorem EC.xm {K : PySem.W.Frag} {mg : Str → Option Value} {nm : Str} {cls : Value} {b : Bool} (e : EC K mg nm) (h : PySem.W.subIn K cls (.ref (clsA K nm)) = some b) : PySem.W.exmOne K cls (.ref (clsA K nm)) = some b := PySem.W.exm_ref e.sb e.hd e.ty h
theorem EC.kit {K : PySem.W.Frag} {mg : Str → Option Value} {nm : Str} {D : Addr} {b : Bool} (e : EC K mg nm) (h : PySem.W.subIn K (.ref D) (.ref (clsA K nm)) = some b) (hs : PySem.W.subIn K (.ref (clsA K nm)) (.ref (clsA K nm)) = some true) : PySem.W.kitOne K (.ref D) (.ref (clsA K nm)) = some b := by
  unfold PySem.W.kitOne
  by_cases q : D = clsA K nm
  · subst q
    rw [hs] at h
    cases h
    rw [if_pos (beq_self_eq_true _)]
  · have hq : ((Value.ref D) == (Value.ref (clsA K nm))) = false := beq_eq_false_iff_ne.mpr fun z => q (Value.ref.inj z)
    rw [hq, if_neg Bool.false_ne_true]
    show (if ((PySem.W.clsIn K (clsA K nm)).isSome && PySem.W.typeIn K (.ref (clsA K nm)) == some (.type "type")) = true then PySem.W.subIn K (.ref D) (.ref (clsA K nm)) else none) = some b
    obtain ⟨cd, hc, _⟩ := PySem.W.any_some e.hd
    rw [hc, e.ty]
    exact h
theorem kit_ve {K : PySem.W.Frag} {D : Addr} {b : Bool} (h : PySem.W.subIn K (.ref D) (.type "ValueError") = some b) : PySem.W.kitOne K (.ref D) (.type "ValueError") = some b := by
  unfold PySem.W.kitOne
  have hq : ((Value.ref D) == (Value.type "ValueError")) = false := rfl
  rw [hq, if_neg Bool.false_ne_true]
  show (if PySem.W.kitMeta "ValueError" = true then PySem.W.subIn K (.ref D) (.type "ValueError") else none) = some b
  rw [if_pos (by decide +kernel)]
  exact h
/-! ### several clauses, each with a name or none -/
abbrev Cl := Value × Option Nat × (Addr → Value → Option Addr → TS)
def goneD (i : Nat) (D : Ends) : Ends := { nx := fun σ' H' => D.nx (σ'.set i none) H', rt := D.rt, bk := fun σ' H' => D.bk (σ'.set i none) H', ct := fun σ' H' => D.ct (σ'.set i none) H' }
def clD : Option Nat → Ends → Ends
  | none, D => D
  | some i, D => goneD i D
def clS : Option Nat → Addr → L2.St → L2.St
  | none, _, σ => σ
  | some i, a, σ => σ.set i (some (.ref a))
def wG (K : PySem.W.Frag) (Wout : WX) (D : Ends) : List Cl → WX
  | [] => Wout
  | (c, i, ts) :: r => fun cls d σ H => ∃ b, PySem.W.exmOne K cls c = some b ∧ (b = true → ∀ a, H a = none → ts a cls d (clD i D) (clS i a σ) H) ∧ (b = false → wG K Wout D r cls d σ H)
inductive HdG (X : Cx) : List ExceptHandler → List Cl → Prop
  | nil : HdG X [] []
  | one {x : Str} {c : Value} {ts : Addr → Value → Option Addr → TS} {b₀ : Stmt} {suite : List Stmt} {np pos' : Pos} {hds : List ExceptHandler} {l : List Cl} (hc : Names X x c)
      (hsu : ∀ (a : Addr) (oe : Obj) (cls : Value) (d : Option Addr) (pn : List (Addr × Obj)), Zc cls d oe → (∃ vs, oe.data = .fields vs) → PSs (X.suite a ((a, oe) :: pn)) (b₀ :: suite) (ts a cls d)) (r : HdG X hds l) :
      HdG X (.ExceptHandler (some (.Name x np)) none (b₀ :: suite) pos' :: hds) ((c, none, ts) :: l)
  | named {x n : Str} {c : Value} {i : Nat} {ts : Addr → Value → Option Addr → TS} {b₀ : Stmt} {suite : List Stmt} {np pos' : Pos} {hds : List ExceptHandler} {l : List Cl} (hN : X.N.Nodup) (hi : X.N[i]? = some n) (hln : X.env.kindOf n = some .local) (hc : Names X x c)
      (hsu : ∀ (a : Addr) (oe : Obj) (cls : Value) (d : Option Addr) (pn : List (Addr × Obj)), Zc cls d oe → (∃ vs, oe.data = .fields vs) → PSs (X.suite a ((a, oe) :: pn)) (b₀ :: suite) (ts a cls d)) (r : HdG X hds l) :
      HdG X (.ExceptHandler (some (.Name x np)) (some n) (b₀ :: suite) pos' :: hds) ((c, some i, ts) :: l)
section
variable {X : Cx} {body orelse : List Stmt} {h₀ : ExceptHandler} {hds : List ExceptHandler} {l : List Cl} {pos : Pos} {tb : WX → TS} {u : TS} {Wout : WX}
def tTry (K : PySem.W.Frag) (Wout : WX) (tb : WX → TS) (u : TS) (l : List Cl) : TS := fun D σ H => tb (wG K Wout D l) { D with nx := u D } σ H
theorem ps_tryG (hs : X.stack = X.env :: X.outer) (hf : X.env.frame = some X.env.locals) (tk : Takes X Wout)
    (hb : ∀ (W : WX) (pn : List (Addr × Obj)) (xe : Value → Shared → Prop), Takes (X.tr pn xe) W → PassesOwn (model X.prog X.w) X.A X.env xe → PSs (X.tr pn xe) body (tb W))
    (hh : HdG X (h₀ :: hds) l) (ho : PSs X orelse u) : PS X (.Try body (h₀ :: hds) orelse [] pos) (tTry X.K Wout tb u l) := by
  refine ⟨fun pins s σ H D I h => ?_⟩
  have ok := I.ok
  have hfr : X.A.frames = some (X.env :: X.outer) := by rw [ok.frames, hs]
  refine wpAny_Try_except ?_
  refine wpAny_mono ((hb (wG X.K Wout D l) (X.pn ++ pins) (fun e s₁ => wpAny (model X.prog X.w) X.A (noteFrame e X.env) (fun _ s₂ => wpAny (model X.prog X.w) X.A (setFlight e none) (fun _ s₃ =>
    wpAny (model X.prog X.w) X.A (handleBy e X.env (h₀ :: hds)) (SP X pins D) X.xe s₃) X.xe s₂) X.xe s₁) (fun u s' xx => ?_) PassesOwn.looking).run [] s σ H { D with nx := u D } (I.toTry _) h) (fun f s1 hsp => ?_) (fun e s1 he => he)
  · obtain ⟨a, B, sI, pins', σ', H', cls, d, rfl, J', nb, up, sky, na, os, ag, w⟩ := xx
    have J : Inv X pins σ' H' sI := J'.ofTry ok
    have sky' : Sky B (X.env :: X.outer) a (Zc cls d) X.env.locals s'.heap := by rw [← hs]; exact sky
    show wpAny (model X.prog X.w) X.A (noteFrame (.ref a) X.env) _ _ _
    refine Sky.land Zc.steady hfr hf sky' fun h3 fl3 up3 => ?_
    have J3 : Inv X pins σ' H' { s' with heap := h3 } := J.landed nb fl3.1 (up.trans up3) os ag
    obtain ⟨oe3, vs3, he3, hz3, hd3⟩ := fl3.there
    have notFr : ∀ {h : Heap} {o : Obj} {vs : Array Value}, h.FunFrames B (X.env :: X.outer) → h.get? a = some o → o.data = .fields vs → a ∉ frs (X.env :: X.outer) := fun {h o vs} ff e dd hm => by
      obtain ⟨_, o', e', hnf⟩ := ff.mem hm
      rw [e] at e'; cases e'
      exact hnf _ dd
    have nfr := notFr fl3.2.2.1 he3 hd3
    have nL : a ≠ X.env.locals := fun z => nfr (List.mem_filterMap.mpr ⟨X.env, List.mem_cons_self, by rw [hf, z]⟩)
    have nF : a ∉ X.fs := fun hm => by
      obtain ⟨e, he, q⟩ := List.mem_filterMap.mp hm
      exact nfr (List.mem_filterMap.mpr ⟨e, List.mem_cons_of_mem _ he, q⟩)
    have S3 := J3.suite he3 hd3 na nL nF
    have LT : PySem.W.Looks (model X.prog X.w) h3 (typeOf (.ref a)) cls := fun A Q E s k q => wpAny_typeOf_ref (k _ _ he3) (by rw [hz3.1]; exact q)
    have test : ∀ {x : Str} {c : Value} {np : Pos} {Q : Value → Shared → Prop} {E : Value → Shared → Prop}, Names X x c → Q c { s' with heap := h3 } → wpAny (model X.prog X.w) (X.A.mark (some (.ref a))) (eval (.Name x np) X.env) Q E { s' with heap := h3 } := fun {x c np Q E} hc q => by
      obtain ⟨hg, hdbg, hm | ⟨hm, hv, hnn⟩⟩ := hc
      · exact ld_glob (X := X.suite a ((a, oe3) :: (X.pn ++ pins))) S3 hg hm q hdbg
      · exact ld_blt (X := X.suite a ((a, oe3) :: (X.pn ++ pins))) S3 hg hm hv q hnn hdbg
    have go : ∀ {hds' : List ExceptHandler} {l' : List Cl}, HdG X hds' l' → wG X.K Wout D l' cls d σ' H' →
        wpAny (model X.prog X.w) X.A (handleBy (.ref a) X.env hds') (SP X pins D) X.xe { s' with heap := h3 } := by
      intro hds' l' hk
      induction hk with
      | nil =>
        intro w
        refine wpAny_handleBy_nil ?_
        obtain ⟨k1, k2, k3, oe, vs, T, oT, ts', he, hz, hd, h1, hr⟩ := id fl3
        unfold PySem.passOn
        refine wpAny_bind (wpAny_field he hd h1 ?_)
        rw [if_neg (show ¬ ((Value.ref T == Value.none) = true) from by simp)]
        have fin : wpAny (model X.prog X.w) X.A (setFlight (.ref a) X.env.frame) (fun _ s4 => wpAny (model X.prog X.w) X.A (throw (.ref a) : Sem Flow) (SP X pins D) X.xe s4) X.xe { s' with heap := h3 } := by
          rw [hf]
          refine HandSPX.setFlight_upZ fl3 fun h4 hh4 up4 => wpAny_throw (tk _ _ ?_)
          exact ⟨a, B, sI, pins, σ', H', cls, d, rfl, J, nb, (up.trans up3).trans up4, .inr (.inr (by rw [hs]; exact hh4)), na, os, ag, w⟩
        first
          | exact wpAny_bind (wpAny_pure (wpAny_bind fin))
          | exact wpAny_bind fin
      | @one x c ts b₀ suite np pos' hds2 l2 hc hsu r ih =>
        intro w
        obtain ⟨b, hb1, hyes, hno⟩ := w
        refine wpAny_handleBy_cons (codeAny_handlers_test ?_) (by intro q; cases q)
        have LM := PySem.W.exm_one (M := model X.prog X.w) (J3.kIn) LT hb1
        refine test hc (LM.here ?_)
        cases b with
        | true =>
          refine codeAny_handlers_suite ?_
          refine HandSPX.lands_againZ fl3 fun h4 fl4 up4 => ?_
          have J4 : Inv X pins σ' H' { s' with heap := h4 } := J.landed nb fl4.1 ((up.trans up3).trans up4) os ag
          obtain ⟨oe4, vs4, he4, hz4, hd4⟩ := fl4.there
          have S4 := J4.suite he4 hd4 na nL nF
          refine wpAny_mono ((hsu a oe4 cls d (X.pn ++ pins) hz4 ⟨_, hd4⟩).run [] _ _ H' _ S4 (hyes rfl a na)) (fun f s6 hsp => ?_) (fun _ _ z => False.elim z)
          cases f with
          | next =>
            obtain ⟨σ6, H6, S6, q6⟩ := hsp
            exact ⟨_, _, S6.unsuite ok, q6⟩
          | brk =>
            obtain ⟨σ6, H6, S6, q6⟩ := hsp
            exact ⟨_, _, S6.unsuite ok, q6⟩
          | cont =>
            obtain ⟨σ6, H6, S6, q6⟩ := hsp
            exact ⟨_, _, S6.unsuite ok, q6⟩
          | ret u =>
            obtain ⟨v6, σ6, H6, S6, r6, q6⟩ := hsp
            exact ⟨_, _, _, S6.unsuite ok, r6, q6⟩
        | false =>
          show wpAny _ X.A (handleBy (.ref a) X.env hds2) _ _ _
          exact ih (hno rfl)
      | @named x n c i ts b₀ suite np pos' hds2 l2 hN hi hln hc hsu r ih =>
        intro w
        obtain ⟨b, hb1, hyes, hno⟩ := w
        refine wpAny_handleBy_cons (codeAny_handlers_test ?_) (by intro q; cases q)
        have LM := PySem.W.exm_one (M := model X.prog X.w) (J3.kIn) LT hb1
        refine test hc (LM.here ?_)
        have hloc : Loc X.env.scope n := .inl hln
        cases b with
        | true =>
          refine codeAny_handlers_suite_as ?_
          refine HandSPX.lands_againZ fl3 fun h4 fl4 up4 => ?_
          have J4 : Inv X pins σ' H' { s' with heap := h4 } := J.landed nb fl4.1 ((up.trans up3).trans up4) os ag
          obtain ⟨oe4, vs4, he4, hz4, hd4⟩ := fl4.there
          have S4 := J4.suite he4 hd4 na nL nF
          refine store_ok (X := X.suite a ((a, oe4) :: (X.pn ++ pins))) (v := .ref a) S4 hN hi hloc rfl (fun s5 S5 => ?_) (.inr hln)
          refine wpAny_mono ((hsu a oe4 cls d (X.pn ++ pins) hz4 ⟨_, hd4⟩).run [] s5 _ H' _ S5 (hyes rfl a na)) (fun f s6 hsp => ?_) (fun _ _ z => False.elim z)
          have end_ : ∀ {σ6 : L2.St} {H6 : Hp} {Q : Shared → Prop}, Inv (X.suite a ((a, oe4) :: (X.pn ++ pins))) [] σ6 H6 s6 → (∀ s7, Inv X pins (σ6.set i none) H6 s7 → Q s7) →
              wpAny (model X.prog X.w) X.A (do bindName X.env n .none; unbindBehindTheSuite X.env n pos') (fun _ s7 => Q s7) X.xe s6 := fun {σ6 H6 Q} S6 hq => gone_ok (S6.unsuite ok) hN hi hln hq
          cases f with
          | next =>
            obtain ⟨σ6, H6, S6, q6⟩ := hsp
            exact end_ S6 fun s7 J7 => ⟨_, _, J7, q6⟩
          | brk =>
            obtain ⟨σ6, H6, S6, q6⟩ := hsp
            exact end_ S6 fun s7 J7 => ⟨_, _, J7, q6⟩
          | cont =>
            obtain ⟨σ6, H6, S6, q6⟩ := hsp
            exact end_ S6 fun s7 J7 => ⟨_, _, J7, q6⟩
          | ret u =>
            obtain ⟨v6, σ6, H6, S6, r6, q6⟩ := hsp
            exact end_ S6 fun s7 J7 => ⟨_, _, _, J7, r6, q6⟩
        | false =>
          show wpAny _ X.A (handleBy (.ref a) X.env hds2) _ _ _
          exact ih (hno rfl)
    exact go hh w
  · cases f with
    | next =>
      obtain ⟨σ', H', J', q⟩ := hsp
      exact ho.run pins s1 σ' H' D (J'.ofTry ok) q
    | brk =>
      obtain ⟨σ', H', J', q⟩ := hsp
      exact ⟨σ', H', J'.ofTry ok, q⟩
    | cont =>
      obtain ⟨σ', H', J', q⟩ := hsp
      exact ⟨σ', H', J'.ofTry ok, q⟩
    | ret u =>
      obtain ⟨v, σ', H', J', r, q⟩ := hsp
      exact ⟨v, σ', H', J'.ofTry ok, r, q⟩
end
/-! ### in a suite: a field, isinstance -/
def XeP (K : PySem.W.Frag) (a : Addr) (cls : Value) (d : Option Addr) (n : Str) (Q : VK) : VK := fun x H1 => x = .ref a ∧ ∃ C, cls = .ref C ∧ XI K C ∧ PySem.W.findIn K (.ref C) n = some none ∧ ∃ (dd : Addr) (fs : List (Str × V)) (v : V), d = some dd ∧ H1 dd = some (.xd fs) ∧ fs.lookup n = some v ∧ Q v H1
def tXe (K : PySem.W.Frag) (a : Addr) (cls : Value) (d : Option Addr) (n : Str) (te : TE) : TE := fun σ H Q => te σ H (XeP K a cls d n Q)
theorem pe_xe {X : Cx} {a : Addr} {oe : Obj} {cls : Value} {d : Option Addr} {pn : List (Addr × Obj)} {e : Expr} {te : TE} {pos : Pos} {n : Str}
    (hz : Zc cls d oe) (hf : ∃ vs, oe.data = .fields vs) (he : PE (X.suite a ((a, oe) :: pn)) e te) (hb : attributeBase e n X.env (eval e X.env) = eval e X.env := by rfl) :
    PE (X.suite a ((a, oe) :: pn)) (.Attribute e n pos) (tXe X.K a cls d n te) := by
  refine ⟨fun pins s σ H Q I h => ?_⟩
  refine attr_of hb (thn (he.run pins s σ H _ I h) fun u s1 hh => ?_)
  obtain ⟨x, H1, I1, rx, ex, C, ec, T, hno, dd, fs, v, ed, ea, l, q⟩ := hh
  subst ex
  obtain rfl : u = Value.ref a := rx
  subst ec
  subst ed
  obtain ⟨ha, _⟩ := I1.pin (a, oe) (List.mem_append_left _ List.mem_cons_self)
  obtain ⟨vs, hd⟩ := hf
  have hx : ObjOk X.prog X.w H1 s1.heap dd (.xd fs) := I1.hok dd _ ea
  obtain ⟨mA, hns, hr⟩ := hx
  obtain ⟨od, ho, hl⟩ := lookIn_ns hns
  obtain ⟨u, hu, ru⟩ := RelO.some_of (v := v) (o := mA n) (by rw [← l]; exact hr n)
  have J : PySem.W.InstAt s1.heap a oe C (some od) := ⟨ha, hz.1, by unfold PySem.W.notCls; rw [hd] <;> rfl, by rw [hz.2]; exact ho⟩
  exact HandSPX.exc_get I1.kIn J T.ga T.gg T.sb (PySem.W.findObj_own T.hd hno rfl (by rw [hl, hu])) (handed_of ru) ⟨v, H1, I1.tok _, ru, q⟩
def rIsX (K : PySem.W.Frag) (a : Addr) (cls : Value) (d : Option Addr) : List V → Hp → VK → Prop := fun xs H Q => ∃ (c : V) (cv : Value) (b : Bool) (C dd : Addr) (fs : List (Str × V)), xs = [.ref a, c] ∧ (∀ u, RelV c u → u = cv) ∧ cls = .ref C ∧ XI K C ∧ d = some dd ∧ H dd = some (.xd fs) ∧ PySem.W.kitOne K (.ref C) cv = some b ∧ Q (.bl b) H
theorem call_isX {X : Cx} {a : Addr} {cls : Value} {d : Option Addr} {oe : Obj} {pn : List (Addr × Obj)} (hz : Zc cls d oe) (hf : ∃ vs, oe.data = .fields vs) : CallR (X.suite a ((a, oe) :: pn)) (.builtin "isinstance") (rIsX X.K a cls d) := by
  intro pins s σ H xs us Q I r h
  obtain ⟨c, cv, b, C, dd, fs, rfl, hcv, ec, T, ed, ea, e, q⟩ := h
  subst ec
  subst ed
  cases r with
  | cons rx rr =>
    cases rr with
    | cons rt rr =>
      cases rr
      cases rx
      have ecv := hcv _ rt
      subst ecv
      obtain ⟨hget, _⟩ := I.pin (a, oe) (List.mem_append.mpr (.inl List.mem_cons_self))
      obtain ⟨vs, hv⟩ := hf
      have hx : ObjOk X.prog X.w H s.heap dd (.xd fs) := I.hok dd _ ea
      obtain ⟨mA, hns, hr⟩ := hx
      obtain ⟨od, ho, hl⟩ := lookIn_ns hns
      have J : PySem.W.InstAt s.heap a oe C (some od) := ⟨hget, hz.1, by unfold PySem.W.notCls; rw [hv] <;> rfl, by rw [hz.2]; exact ho⟩
      exact PySem.W.kia_one (PySem.W.kitx_exc T.hc T.ga T.gg T.sb T.ca T.cn T.ct T.cm) I.kIn J e (fun z => nomatch z) fun tk => ⟨.bl b, H, I.kept (t' := tk) fun _ _ z => z, rfl, q⟩
/-! ### Base.__init__(self, ..), a class of the text that has none of its own -/
structure BI (K : PySem.W.Frag) (mg : Str → Option Value) (nm : Str) : Prop where
  g : mg nm = some (.ref (clsA K nm))
  ga : PySem.W.specialIn K (.ref (clsA K nm)) "__getattribute__" = some (some (.builtin "type.__getattribute__"))
  rd : PySem.W.readsIn K (clsA K nm) (.type "type") = true
  fi : PySem.W.findCls K (.ref (clsA K nm)) (.type "type") "__init__" = some (.val (.builtin "ValueError.__init__"))
section
variable {X : Cx} {e : Expr} {es : List Expr} {ta : TA} {p1 p2 pos : Pos} {nm : Str}
theorem pe_oinit {pl : Sem Bool} (B : BI X.K X.mg nm) (hg : Gl X nm) (ha : PA X (e :: es) ta) (hdb : (nm == ("__debug__" : Str)) = false := by decide)
    (hc : eval (.Call (.Attribute (.Name nm p1) "__init__" p2) (e :: es) [] pos) X.env = (do
      let ov ← eval (.Name nm p1) X.env
      standAt p2.atName
      let (f, first) ← holding [ov] (getMethod ov "__init__" pl)
      callWith pos f first (backTo pos (starEach (e :: es) X.env)) (backToKw pos (keywordEach [] X.env))) := by rfl)
    (he : starEach (e :: es) X.env = (false, eval e X.env) :: starEach es X.env := by rfl) (hpl : (backTo pos (starEach es X.env)).any (·.1) = false := by rfl) :
    PE X (.Call (.Attribute (.Name nm p1) "__init__" p2) (e :: es) [] pos) (tVeI X.K ta) := by
  refine ⟨fun pins s σ H Q I h => ?_⟩
  refine PySem.W.methodCall_KW (ld_glob I hg B.g ?_ hdb) hc
  refine PySem.W.method_cls I.kIn B.ga (PySem.W.cls_value I.kIn B.rd B.fi (by decide +kernel) ?_)
  show wpAny _ _ (callWith pos (Value.builtin "ValueError.__init__") [] (backTo pos (starEach (e :: es) X.env)) []) _ _ _
  refine PyProof.Rows.callWith_method1 (thn (ha.run pos pins _ σ H _ (I.tok _) h) fun us s1 ⟨vs, H1, I1, r1, a, C, ws, ev, hl, T, ea, q⟩ => ?_) he hpl
  subst ev
  cases r1 with
  | @cons _ u0 _ ur ra rw' =>
    obtain rfl : u0 = Value.ref a := ra
    have hlen : ur.length ≤ sizeLine := by
      rw [← Paired.length rw', sizeLine_eq]
      omega
    exact oinit_ok T I1 ea hlen fun s' J => ⟨.non, H1, J, rfl, q⟩
end
/-! ### a class that is raised -/
/-- its __init__ of one field, of two -/
def spI1 (K : PySem.W.Frag) (f : Str) : Sp := fun vs H Q _ => ∃ (a C : Addr) (y : V), vs = [.ref a, y] ∧ OexC K C ∧ PySem.W.findIn K (.ref C) f = some none ∧ H a = some (exo a C none) ∧
  ∀ dx, H dx = none → dx ≠ a → Q .non (upd (upd H dx (exd dx [(f, y)])) a (exo a C (some dx)))
def spI2 (K : PySem.W.Frag) (f g : Str) : Sp := fun vs H Q _ => ∃ (a C : Addr) (y z : V), vs = [.ref a, y, z] ∧ OexC K C ∧ PySem.W.findIn K (.ref C) f = some none ∧ PySem.W.findIn K (.ref C) g = some none ∧ H a = some (exo a C none) ∧
  ∀ dx, H dx = none → dx ≠ a → Q .non (upd (upd (upd H dx (exd dx [(f, y)])) a (exo a C (some dx))) dx (exd dx [(g, z), (f, y)]))
structure EX (P : Program) (w : World) (K : PySem.W.Frag) (mg : Str → Option Value) (base : Heap) (nm : Str) (ps : List Str) (sp : Sp) : Prop where
  g : mg nm = some (.ref (clsA K nm))
  o : OexC K (clsA K nm)
  i : ∃ (fI : Addr) (fd : FuncData), PySem.W.findIn K (.ref (clsA K nm)) "__init__" = some (some (.ref fI)) ∧ PySem.W.typeIn K (.ref fI) = some (.type "function") ∧ FnOk P w K mg base CX0 1 fI fd ps sp ∧ Binds K fd ps []
def MkG (C : Addr) (sp : Sp) (vs : List V) (Q : XK) (H1 : Hp) : Prop := vs.length ≤ 1000 ∧ ∀ a, H1 a = none → sp (.ref a :: (vs ++ [])) (upd H1 a (exo a C none))
  (fun v H2 => v = .non ∧ ∃ (d : Addr) (fs : List (Str × V)), H2 a = some (exo a C (some d)) ∧ H2 d = some (exd d fs) ∧ H1 d = none ∧ Q (.ref C) (some d) (upd (del H2 a) d (.xd fs))) (fun _ _ _ => False)
def tRaise (C : Addr) (sp : Sp) (W : WX) (ta : TA) : TS := fun _ σ H => ta σ H fun vs H1 => MkG C sp vs (fun cls d H' => W cls d σ H') H1
section
variable {X : Cx} {e : Expr} {es : List Expr} {ta : TA} {p pos pos2 : Pos} {nm : Str} {ps : List Str} {sp : Sp} {W : WX}
theorem ps_raiseG (hc : X.calm = true) (T : EX X.prog X.w X.K X.mg X.base nm ps sp) (hr : Room 2 X.A) (tk : Takes X W) (hg : Gl X nm) (ha : PA X (e :: es) ta)
    (hdb : (nm == ("__debug__" : Str)) = false := by decide) (he : starEach (e :: es) X.env = (false, eval e X.env) :: starEach es X.env := by rfl) (hpl : (backTo pos (starEach es X.env)).any (·.1) = false := by rfl) :
    PS X (.Raise (some (.Call (.Name nm p) (e :: es) [] pos)) none pos2) (tRaise (clsA X.K nm) sp W ta) := by
  obtain ⟨fI, fd, i1, i2, i3, i4⟩ := T.i
  exact ps_raise hc tk (pmk_oex (dvs := []) T.o i1 i2 i3 hr i4 .nil pass0 hg T.g ha hdb he hpl)
end
theorem mk_heap {H1 : Hp} {a dx : Addr} {o1 o2 o3 u : HO} (hn : H1 a = none) (ne : dx ≠ a) : upd (del (upd (upd (upd H1 a o1) dx o2) a o3) a) dx u = upd H1 dx u := by
  funext b
  by_cases h1 : b = dx
  · rw [h1, upd_same, upd_same]
  · rw [upd_ne h1, upd_ne h1]
    by_cases h2 : b = a
    · rw [h2, del_same, hn]
    · rw [del_ne h2, upd_ne h2, upd_ne h1, upd_ne h2]
theorem mk_heap2 {H1 : Hp} {a dx : Addr} {o1 o2 o3 o4 u : HO} (hn : H1 a = none) (ne : dx ≠ a) : upd (del (upd (upd (upd (upd H1 a o1) dx o2) a o3) dx o4) a) dx u = upd H1 dx u := by
  funext b
  by_cases h1 : b = dx
  · rw [h1, upd_same, upd_same]
  · rw [upd_ne h1, upd_ne h1]
    by_cases h2 : b = a
    · rw [h2, del_same, hn]
    · rw [del_ne h2, upd_ne h1, upd_ne h2, upd_ne h1, upd_ne h2]
section
variable {K : PySem.W.Frag} {C : Addr} {Q : XK} {H : Hp} {f g : Str}
theorem st_mk1 {v : V} (T : OexC K C) (hf : PySem.W.findIn K (.ref C) f = some none) (h : ∀ d H', H d = none → Ex H H' → H' d = some (.xd [(f, v)]) → Q (.ref C) (some d) H') : MkG C (spI1 K f) [v] Q H := by
  refine ⟨(by decide : 1 ≤ 1000), fun a ha => ⟨a, C, v, rfl, T, hf, upd_same, fun dx hdx ne => ⟨rfl, dx, [(f, v)], upd_same, ?_, ?_, ?_⟩⟩⟩
  · rw [upd_ne ne]; exact upd_same
  · rw [upd_ne ne] at hdx; exact hdx
  · rw [upd_ne ne] at hdx
    rw [mk_heap ha ne]
    exact h dx _ hdx (Fr.new hdx) upd_same
theorem st_mk2 {v z : V} (T : OexC K C) (hf : PySem.W.findIn K (.ref C) f = some none) (hg : PySem.W.findIn K (.ref C) g = some none) (h : ∀ d H', H d = none → Ex H H' → H' d = some (.xd [(g, z), (f, v)]) → Q (.ref C) (some d) H') : MkG C (spI2 K f g) [v, z] Q H := by
  refine ⟨(by decide : 2 ≤ 1000), fun a ha => ⟨a, C, v, z, rfl, T, hf, hg, upd_same, fun dx hdx ne => ⟨rfl, dx, [(g, z), (f, v)], ?_, upd_same, ?_, ?_⟩⟩⟩
  · rw [upd_ne (Ne.symm ne)]; exact upd_same
  · rw [upd_ne ne] at hdx; exact hdx
  · rw [upd_ne ne] at hdx
    rw [mk_heap2 ha ne]
    exact h dx _ hdx (Fr.new hdx) upd_same
end
structure IniF (K : PySem.W.Frag) (nm qual : Str) (st : Stmt) (ps : List Str) : Prop where
  ex : ∃ (fI : Addr) (fd : FuncData), PySem.W.findIn K (.ref (clsA K nm)) "__init__" = some (some (.ref fI)) ∧ PySem.W.typeIn K (.ref fI) = some (.type "function") ∧ Fun K "__init__" qual st fI fd ∧ Binds K fd ps []
theorem ini_mk {K : PySem.W.Frag} {nm qual : Str} {st : Stmt} {ps : List Str} {f : Addr} {oc : Value} {od an : Option Addr} {osl : Array (Option Value)} {kV dc pm cd ct : Value} (i : PySem.W.findIn K (.ref (clsA K nm)) "__init__" = some (some (.ref f))) (t : PySem.W.typeIn K (.ref f) = some (.type "function"))
    (l : K.lookup f = some ⟨oc, od, .func (PySem.W.fnOf "__init__" qual (defArgs st) (defBody st) (defScope st) .none kV dc pm an cd ct), osl⟩) (c : PySem.W.codeIn K cd qual = true) (k : PySem.W.keepIn K (.ref f) = true)
    (hb : ∀ (kV doc pm : Value) (an : Option Addr) (cdv ct : Value) (us : List Value), us.length = ps.length → bindArgs (PySem.W.fnOf "__init__" qual (defArgs st) (defBody st) (defScope st) .none kV doc pm an cdv ct) ⟨us, []⟩ = pure (ps.zip us)) : IniF K nm qual st ps :=
  have F := fun_mk (st := st) l c k
  ⟨f, _, i, t, F, F.binds hb⟩
theorem xi_mk {K : PySem.W.Frag} {C : Addr} (ga : PySem.W.findIn K (.ref C) "__getattribute__" = some (some (.builtin "BaseException.__getattribute__"))) (gg : PySem.W.findIn K (.ref C) "__getattr__" = some none) (sb : PySem.W.subIn K (.ref C) (.type "BaseException") = some true) (hd : PySem.W.hasDictIn K C = true)
    (ca : PySem.W.findIn K (.ref C) "__class__" = some (some (.builtin "object.__class__"))) (cn : PySem.W.specialIn K (.builtin "object.__class__") "__get__" = some (some (.builtin "getset_descriptor.__get__"))) (ct : PySem.W.takesIn K (.builtin "object.__class__") = some true) (cm : PySem.W.mroIn K C (.type "object") = some true) : XI K C :=
  ⟨by obtain ⟨cd, hc, _⟩ := PySem.W.any_some hd; rw [hc]; rfl, ga, gg, sb, hd, ca, cn, ct, cm⟩
theorem ini1_go {K : PySem.W.Frag} {f tx : Str} {a C : Addr} {y : V} {H : Hp} {Q : VK} (hO : OexC K C) (hn : PySem.W.findIn K (.ref C) f = some none) (ha : H a = some (exo a C none))
    (k : ∀ dx, H dx = none → dx ≠ a → Q .non (upd (upd H dx (exd dx [(f, y)])) a (exo a C (some dx)))) :
    tSeq (tDrop (tVeI K (tCons (tVar 0) (tCons (tC (.str tx)) tNil)))) (tOst K f (tVar 0) (tVar 1)) { nx := fun _ H' => Q .non H', rt := Q } [some (.ref a), some y] H :=
  ⟨.ref a, rfl, a, C, [.str tx], rfl, Nat.le_of_ble_eq_true rfl, hO, ha, y, rfl, .ref a, rfl, a, C, rfl, hO, hn, .inl ⟨ha, k⟩⟩
theorem ini2_go {K : PySem.W.Frag} {f g tx : Str} {a C : Addr} {y z : V} {H : Hp} {Q : VK} (hO : OexC K C) (hn : PySem.W.findIn K (.ref C) f = some none) (hg : PySem.W.findIn K (.ref C) g = some none) (ha : H a = some (exo a C none))
    (k : ∀ dx, H dx = none → dx ≠ a → Q .non (upd (upd (upd H dx (exd dx [(f, y)])) a (exo a C (some dx))) dx (exd dx [(g, z), (f, y)]))) :
    tSeq (tDrop (tVeI K (tCons (tVar 0) (tCons (tC (.str tx)) tNil)))) (tSeq (tOst K f (tVar 0) (tVar 1)) (tOst K g (tVar 0) (tVar 2))) { nx := fun _ H' => Q .non H', rt := Q } [some (.ref a), some y, some z] H :=
  ⟨.ref a, rfl, a, C, [.str tx], rfl, Nat.le_of_ble_eq_true rfl, hO, ha, y, rfl, .ref a, rfl, a, C, rfl, hO, hn, .inl ⟨ha, fun dx h1 h2 => ⟨z, rfl, .ref a, rfl, a, C, rfl, hO, hg, .inr ⟨dx, [(f, y)], upd_same, by rw [upd_ne h2]; exact upd_same, Nat.le_of_ble_eq_true rfl, k dx h1 h2⟩⟩⟩⟩
/-- a thing of a kind that is known; a text not too long -/
def Thg (H : Hp) (v : V) : Prop := Ty H v ∧ ∀ z, v = .str z → z.length ≤ 16777216
theorem Thg.ex {H H' : Hp} {v : V} (h : Thg H v) (e : Ex H H') : Thg H' v := ⟨h.1.ex e, h.2⟩
theorem thg_str {H : Hp} {z : Str} (h : z.length ≤ 16777216) : Thg H (.str z) := ⟨ty_str _, fun _ e => by cases e; exact h⟩
/-- an error of the class nm that holds these fields is let out -/
def RaF (K : PySem.W.Frag) (E : XK) (H : Hp) (nm : Str) (fs : List (Str × V)) : Prop := ∀ d H', H d = none → Ex H H' → H' d = some (.xd fs) → E (.ref (clsA K nm)) (some d) H'
abbrev RaR (K : PySem.W.Frag) (E : XK) (H : Hp) (nm f : Str) (v : V) : Prop := RaF K E H nm [(f, v)]
theorem RaF.ex {K : PySem.W.Frag} {E : XK} {H H1 : Hp} {nm : Str} {fs : List (Str × V)} (h : RaF K E H nm fs) (e : Ex H H1) : RaF K E H1 nm fs := fun d H' h1 h2 h3 => h d H' (Ex.free e h1) (e.trans h2) h3
/-! ### steps -/
section
variable {D : Ends} {σ : L2.St} {H : Hp} {Q : VK} {K : PySem.W.Frag}
theorem st_raise {C : Addr} {sp : Sp} {W : WX} {ta : TA} (h : ta σ H fun vs H1 => MkG C sp vs (fun cls d H' => W cls d σ H') H1) : tRaise C sp W ta D σ H := h
theorem st_try {Wout : WX} {tb : WX → TS} {u : TS} {l : List Cl} (h : tb (wG K Wout D l) { D with nx := u D } σ H) : tTry K Wout tb u l D σ H := h
theorem st_callS {sp : Sp} {W : WX} {t : TA} (h : t σ H fun vs H1 => sp vs H1 Q (WE W σ)) : tCallS sp (WE W) t σ H Q := h
theorem st_hYn {Wout : WX} {c : Value} {i : Nat} {ts : Addr → Value → Option Addr → TS} {r : List Cl} {cls : Value} {d : Option Addr} (e : PySem.W.exmOne K cls c = some true) (h : ∀ a, H a = none → ts a cls d { nx := fun σ' H' => D.nx (σ'.set i none) H', rt := D.rt, bk := fun σ' H' => D.bk (σ'.set i none) H', ct := fun σ' H' => D.ct (σ'.set i none) H' } (σ.set i (some (.ref a))) H) : wG K Wout D ((c, some i, ts) :: r) cls d σ H := ⟨true, e, fun _ => h, fun z => nomatch z⟩
theorem st_hY0 {Wout : WX} {c : Value} {ts : Addr → Value → Option Addr → TS} {r : List Cl} {cls : Value} {d : Option Addr} (e : PySem.W.exmOne K cls c = some true) (h : ∀ a, H a = none → ts a cls d D σ H) : wG K Wout D ((c, none, ts) :: r) cls d σ H := ⟨true, e, fun _ => h, fun z => nomatch z⟩
theorem st_hY {Wout : WX} {c : Value} {i : Option Nat} {ts : Addr → Value → Option Addr → TS} {r : List Cl} {cls : Value} {d : Option Addr} (e : PySem.W.exmOne K cls c = some true) (h : ∀ a, H a = none → ts a cls d (clD i D) (clS i a σ) H) : wG K Wout D ((c, i, ts) :: r) cls d σ H := ⟨true, e, fun _ => h, fun z => nomatch z⟩
theorem st_hN {Wout : WX} {c : Value} {i : Option Nat} {ts : Addr → Value → Option Addr → TS} {r : List Cl} {cls : Value} {d : Option Addr} (e : PySem.W.exmOne K cls c = some false) (h : wG K Wout D r cls d σ H) : wG K Wout D ((c, i, ts) :: r) cls d σ H := ⟨false, e, (fun z => by cases z), fun _ => h⟩
theorem st_hO {Wout : WX} {cls : Value} {d : Option Addr} (h : Wout cls d σ H) : wG K Wout D [] cls d σ H := h
theorem st_xe {a : Addr} {cls : Value} {d : Option Addr} {n : Str} {te : TE} (h : te σ H (XeP K a cls d n Q)) : tXe K a cls d n te σ H Q := h
theorem st_xeP {a C dd : Addr} {n : Str} {fs : List (Str × V)} {v : V} (T : XI K C) (hno : PySem.W.findIn K (.ref C) n = some none) (h1 : H dd = some (.xd fs)) (h2 : fs.lookup n = some v) (h : Q v H) : XeP K a (.ref C) (some dd) n Q (.ref a) H := ⟨rfl, C, rfl, T, hno, dd, fs, v, rfl, h1, h2, h⟩
theorem st_isX {a C C' dd : Addr} {fs : List (Str × V)} {b : Bool} (T : XI K C) (h1 : H dd = some (.xd fs)) (e : PySem.W.kitOne K (.ref C) (.ref C') = some b) (h : Q (.bl b) H) : rIsX K a (.ref C) (some dd) [.ref a, .ref C'] H Q := ⟨.ref C', .ref C', b, C, dd, fs, rfl, fun _ r => r, rfl, T, rfl, h1, e, h⟩
theorem st_isXT {a C dd : Addr} {fs : List (Str × V)} {n : String} {b : Bool} (T : XI K C) (h1 : H dd = some (.xd fs)) (e : PySem.W.kitOne K (.ref C) (.type n) = some b) (h : Q (.bl b) H) : rIsX K a (.ref C) (some dd) [.ref a, .ty n] H Q := ⟨.ty n, .type n, b, C, dd, fs, rfl, fun _ r => r, rfl, T, rfl, h1, e, h⟩
theorem clD_some {i : Nat} : clD (some i) D = goneD i D := rfl
theorem clD_none : clD none D = D := rfl
end
end Zb

/-! slices with a step -/
namespace Zb
open PySem PySem.Spec PyProof.Rows L2
abbrev ixSt (lo hi : Option Int) (k : Int) (n : Nat) : List Nat := Builtin.Str.strSliceIndices lo hi k n
def pick {α : Type} (is : List Nat) (xs : List α) : List α := is.filterMap (xs[·]?)
theorem vals_pick {xs : List V} {its : List Value} (r : Vals xs its) : ∀ is : List Nat, Vals (pick is xs) (pick is its)
  | [] => .nil
  | i :: is => by
    have ih := vals_pick r is
    unfold pick at ih ⊢
    rw [List.filterMap_cons, List.filterMap_cons]
    cases e : xs[i]? with
    | some v =>
      obtain ⟨u, hu, ru⟩ := r.get e
      rw [hu]
      exact .cons ru ih
    | none =>
      have hl := r.length
      rw [List.getElem?_eq_none (by rw [List.getElem?_eq_none_iff] at e; omega)]
      exact ih
theorem pick_get {α : Type} {xs : List α} : ∀ {is : List Nat}, (∀ j ∈ is, j < xs.length) → ∀ i : Nat, (pick is xs)[i]? = is[i]?.bind (xs[·]?)
  | [], _, i => by simp [pick]
  | j :: is, h, i => by
    have hj := h j List.mem_cons_self
    have ih := pick_get (xs := xs) (is := is) fun k hk => h k (List.mem_cons_of_mem _ hk)
    unfold pick at ih ⊢
    rw [List.filterMap_cons, List.getElem?_eq_getElem hj]
    cases i with
    | zero => simp [hj]
    | succ i => simpa using ih i
theorem pick_rev {α : Type} (xs : List α) : pick (ixSt none none (-1) xs.length) xs = xs.reverse := by
  have e : ixSt none none (-1) xs.length = (List.range xs.length).map fun (i : Nat) => ((xs.length : Int) - 1 + (-1) * (i : Int)).toNat := by
    show sliceRange _ _ _ = _
    unfold sliceRange
    have h0 : ¬ ((-1 : Int) > 0) := by decide
    simp only [h0, if_false]
    by_cases h : xs.length = 0
    · rw [h]; rfl
    · have h1 : ((xs.length : Int) - 1) > -1 := by omega
      simp only [h1, if_true]
      have h2 : (((xs.length : Int) - 1 - -1 - -1 - 1) / - -1).toNat = xs.length := by rw [Int.neg_neg, Int.ediv_one]; omega
      rw [h2]
  apply List.ext_getElem?
  intro i
  rw [pick_get (fun j hj => by
    rw [e, List.mem_map] at hj
    obtain ⟨i, hi, rfl⟩ := hj
    rw [List.mem_range] at hi
    show ((xs.length : Int) - 1 + (-1) * (i : Int)).toNat < xs.length
    omega), e, List.getElem?_map]
  by_cases hi : i < xs.length
  · rw [List.getElem?_range hi, List.getElem?_reverse hi]
    show xs[((xs.length : Int) - 1 + (-1) * (i : Int)).toNat]? = _
    congr 1
    omega
  · rw [List.getElem?_eq_none (l := List.range _) (by rw [List.length_range]; omega), List.getElem?_eq_none (l := xs.reverse) (by rw [List.length_reverse]; omega)]
    rfl
/-- the items at 0, 2, .. ; at 1, 3, .. -/
def evL {α : Type} : List α → List α
  | [] => []
  | [a] => [a]
  | a :: _ :: r => a :: evL r
def odL {α : Type} : List α → List α
  | [] => []
  | [_] => []
  | _ :: b :: r => b :: odL r
theorem evL_get {α : Type} : ∀ (xs : List α) (i : Nat), (evL xs)[i]? = xs[2 * i]?
  | [], i => by simp [evL]
  | [a], i => by cases i <;> simp [evL]
  | a :: b :: r, i => by
    cases i with
    | zero => simp [evL]
    | succ i =>
      have ih := evL_get r i
      show (a :: evL r)[i + 1]? = (a :: b :: r)[2 * (i + 1)]?
      rw [List.getElem?_cons_succ, ih, show 2 * (i + 1) = 2 * i + 1 + 1 from rfl, List.getElem?_cons_succ, List.getElem?_cons_succ]
theorem odL_get {α : Type} : ∀ (xs : List α) (i : Nat), (odL xs)[i]? = xs[2 * i + 1]?
  | [], i => by simp [odL]
  | [a], i => by simp [odL]
  | a :: b :: r, i => by
    cases i with
    | zero => simp [odL]
    | succ i =>
      have ih := odL_get r i
      show (b :: odL r)[i + 1]? = (a :: b :: r)[2 * (i + 1) + 1]?
      rw [List.getElem?_cons_succ, ih, show 2 * (i + 1) + 1 = 2 * i + 1 + 1 + 1 from rfl, List.getElem?_cons_succ, List.getElem?_cons_succ]
theorem pick_ev {α : Type} (xs : List α) : pick (ixSt none none 2 xs.length) xs = evL xs := by
  have e : ixSt none none 2 xs.length = (List.range ((xs.length + 1) / 2)).map fun (i : Nat) => ((0 : Int) + 2 * (i : Int)).toNat := by
    show sliceRange _ _ _ = _
    unfold sliceRange
    have h0 : ((2 : Int) > 0) := by decide
    simp only [h0, if_true]
    by_cases h : xs.length = 0
    · rw [h]; rfl
    · have h1 : (0 : Int) < (xs.length : Int) := by omega
      simp only [h1, if_true]
      have h2 : (((xs.length : Int) - 0 + 2 - 1) / 2).toNat = (xs.length + 1) / 2 := by omega
      rw [h2]
  apply List.ext_getElem?
  intro i
  rw [pick_get (fun j hj => by
    rw [e, List.mem_map] at hj
    obtain ⟨i, hi, rfl⟩ := hj
    rw [List.mem_range] at hi
    show ((0 : Int) + 2 * (i : Int)).toNat < xs.length
    omega), e, List.getElem?_map, evL_get]
  by_cases hi : i < (xs.length + 1) / 2
  · rw [List.getElem?_range hi]
    show xs[((0 : Int) + 2 * (i : Int)).toNat]? = _
    congr 1
    omega
  · rw [List.getElem?_eq_none (l := List.range _) (by rw [List.length_range]; omega), List.getElem?_eq_none (l := xs) (by omega)]
    rfl
theorem pick_od {α : Type} (xs : List α) : pick (ixSt (some 1) none 2 xs.length) xs = odL xs := by
  have e : ixSt (some 1) none 2 xs.length = (List.range (xs.length / 2)).map fun (i : Nat) => ((1 : Int) + 2 * (i : Int)).toNat := by
    show sliceRange _ _ _ = _
    unfold sliceRange
    have h0 : ((2 : Int) > 0) := by decide
    have h9 : ¬ ((1 : Int) < 0) := by decide
    simp only [h0, h9, if_true, if_false]
    by_cases h : xs.length = 0
    · rw [h]; rfl
    · have h3 : (max 0 (min 1 (xs.length : Int))) = 1 := by omega
      rw [h3]
      by_cases h1 : (1 : Int) < (xs.length : Int)
      · simp only [h1, if_true]
        have h2 : (((xs.length : Int) - 1 + 2 - 1) / 2).toNat = xs.length / 2 := by omega
        rw [h2]
      · simp only [h1, if_false]
        have h2 : xs.length / 2 = 0 := by omega
        rw [h2]
        rfl
  apply List.ext_getElem?
  intro i
  rw [pick_get (fun j hj => by
    rw [e, List.mem_map] at hj
    obtain ⟨i, hi, rfl⟩ := hj
    rw [List.mem_range] at hi
    show ((1 : Int) + 2 * (i : Int)).toNat < xs.length
    omega), e, List.getElem?_map, odL_get]
  by_cases hi : i < xs.length / 2
  · rw [List.getElem?_range hi]
    show xs[((1 : Int) + 2 * (i : Int)).toNat]? = _
    congr 1
    omega
  · rw [List.getElem?_eq_none (l := List.range _) (by rw [List.length_range]; omega), List.getElem?_eq_none (l := xs) (by omega)]
    rfl
theorem pick_len {α : Type} (is : List Nat) (xs : List α) : (pick is xs).length ≤ is.length := List.length_filterMap_le _ _
theorem ixSt_len (lo hi : Option Int) (k : Int) (n : Nat) : (ixSt lo hi k n).length ≤ n := by
  have h := PySem.sliceRange_length_le (sliceBounds lo hi (some k) n).1 (sliceBounds lo hi (some k) n).2.1 (sliceBounds lo hi (some k) n).2.2 n (fun hc => ?_) (fun hc => ?_)
  · exact h
  · simp only [sliceBounds, Option.getD_some] at hc ⊢
    simp only [hc, if_true]
    constructor
    · cases lo with
      | none => simp
      | some i => dsimp only; omega
    · cases hi with
      | none => simp
      | some i => dsimp only; omega
  · simp only [sliceBounds, Option.getD_some] at hc ⊢
    simp only [hc, if_false]
    constructor
    · cases lo with
      | none => simp
      | some i => dsimp only; omega
    · cases hi with
      | none => simp
      | some i => dsimp only; omega
def rSt (K : PySem.W.Frag) : V → Option Int → Option Int → Int → Hp → VK → Prop := fun x lo hi k H Q => match x with
  | .str z => z.length ≤ 16777216 ∧ k ≠ 0 ∧ k ≠ 1 ∧ Q (.str (tx (pick (ixSt lo hi k z.length) z.cps.toList))) H
  | .ref p => ∃ xs, SqL K H p xs ∧ k ≠ 0 ∧ ∀ q, H q = none → Q (.ref q) (upd H q (.lst (pick (ixSt lo hi k xs.length) xs)))
  | _ => False
def tSt (r : V → Option Int → Option Int → Int → Hp → VK → Prop) (te : TE) (tl th : TO) (ts : TE) : TE := fun σ H Q => te σ H fun x H1 => tl σ H1 fun l H2 => th σ H2 fun u H3 => ts σ H3 fun s H4 => ∃ k, s = .int k ∧ r x l u k H4 Q
section
variable {X : Cx} {e st : Expr} {te ts : TE} {lo hi : Option Expr} {tl th : TO} {pos p2 : Pos} {K : PySem.W.Frag}
theorem pe_slice3 (he : PE X e te) (hl : PO X lo tl) (hu : PO X hi th) (hs : PE X st ts) (hK : X.K = K := by rfl) : PE X (.Subscript e (.Slice lo hi (some st) p2) pos) (tSt (rSt K) te tl th ts) := by
  subst hK
  refine ⟨fun pins s σ H Q I h => ?_⟩
  rw [eval_Subscript]
  refine wpAny_bind (thn (he.run pins s σ H _ I h) fun v s1 ⟨x, H1, I1, r1, q1⟩ => wpAny_bind (wpAny_holding (wpAny_Slice (thn (hl.run pins s1 σ H1 _ I1 q1) fun vl s2 ⟨l, H2, I2, pl, q2⟩ => thn (hu.run pins s2 σ H2 _ I2 q2) fun vu s3 ⟨u, H3, I3, pu, q3⟩ => ?_))))
  rw [evalPart_some]
  refine thn (hs.run pins s3 σ H3 _ I3 q3) fun vk s4 ⟨xk, H4, I4, rk, q4⟩ => ?_
  obtain ⟨k, ek, q⟩ := q4
  subst ek
  obtain ⟨tk, rfl⟩ := rk
  refine wpAny_bind (wpAny_standAt ?_)
  have I5 : Inv X pins σ H4 { s4 with heap := s4.heap.push { cls := .type "slice", data := .fields #[vl, vu, .int k tk] } } := I4.kept (t' := s4.toks) fun b ob q => Heap.get?_push_of_some _ q
  have go : ∀ {T id : String}, typeLookup (.type T) "__getitem__" = pure (some (.builtin id)) → ({ s4 with heap := s4.heap.push { cls := .type "slice", data := .fields #[vl, vu, .int k tk] } } : Shared).TypeIs v T → wpAny (model X.prog X.w) X.A (getItem v (.ref s4.heap.objs.size)) (EP X pins σ Q) X.xe { s4 with heap := s4.heap.push { cls := .type "slice", data := .fields #[vl, vu, .int k tk] } } →
      wpAny (model X.prog X.w) X.A (subscriptTail e (.Slice lo hi (some st) p2) v (.ref s4.heap.objs.size)) (EP X pins σ Q) X.xe { s4 with heap := s4.heap.push { cls := .type "slice", data := .fields #[vl, vu, .int k tk] } } := by
    intro T id hT ht hg
    exact tail_any (ops := [v, .ref s4.heap.objs.size]) ht hT hg (by with_unfolding_all rfl)
  have hsl : ({ s4 with heap := s4.heap.push { cls := .type "slice", data := .fields #[vl, vu, .int k tk] } } : Shared).heap.IsSliceOf s4.heap.objs.size vl vu (.int k tk) := Heap.IsSliceOf.new ..
  cases x with
  | str z =>
    obtain ⟨hz, hk0, hk1, q⟩ := q
    obtain ⟨tz, rfl⟩ := r1
    obtain ⟨l', rfl, rfl⟩ := IsPart.raw pl
    obtain ⟨u', rfl, rfl⟩ := IsPart.raw pu
    refine go F.slot_str_getitem.lookup (typeIs_str _ _ _) ?_
    refine wpAny_getItem_str_slice (l := l') (u := u') (st := some (k, tk)) hsl (by simpa using hk0) ?_
    have c : ¬ ((k == 1 && (ixSt (l'.map (·.1)) (u'.map (·.1)) k z.length).length == z.length) = true) := by
      intro z
      rw [Bool.and_eq_true] at z
      exact hk1 (by simpa using z.1)
    show Made.post (if (k == 1 && (ixSt (l'.map (·.1)) (u'.map (·.1)) k z.length).length == z.length) = true then Made.val (.str z tz)
      else Made.str ⟨((ixSt (l'.map (·.1)) (u'.map (·.1)) k z.length).filterMap (z.cps[·]?)).toArray⟩) (EP X pins σ Q) _
    rw [if_neg c]
    have e1 : (ixSt (l'.map (·.1)) (u'.map (·.1)) k z.length).filterMap (z.cps[·]?) = pick (ixSt (l'.map (·.1)) (u'.map (·.1)) k z.length) z.cps.toList := by
      unfold pick
      congr 1
      funext j
      rw [Array.getElem?_toList]
    rw [e1]
    refine ⟨?_, .str _, H4, I5.tok _, ⟨_, rfl⟩, q⟩
    show (tx (pick _ _)).length ≤ sizeLine
    rw [tx_length, sl16]
    exact Nat.le_trans (pick_len _ _) (Nat.le_trans (ixSt_len _ _ _ _) hz)
  | ref p =>
    obtain ⟨xs, hx, hk0, q⟩ := q
    obtain rfl : v = Value.ref p := r1
    obtain ⟨its, r, ht, hz⟩ := I5.list hx
    have hlen := r.length
    refine go slot_list_getitem.lookup ht.isList.typeIs ?_
    refine wpAny_getItem_list_slice ht.isList hsl pl pu (.int k tk) (by simpa using hk0) ?_ (by rw [List.size_toArray] <;> omega)
    have e1 : slicePick its.toArray l u (some k) = (pick (ixSt l u k xs.length) its).toArray := by
      unfold slicePick pick
      congr 1
      rw [hlen]
      show (ixSt l u k its.toArray.size).filterMap _ = _
      rw [List.size_toArray]
      congr 1
      funext j
      rw [List.getElem?_toArray]
    rw [e1]
    refine ⟨.ref _, _, I5.laid (t' := s4.toks) (o := .lst (pick (ixSt l u k xs.length) xs)) (fun b ob q => Heap.get?_push_of_some _ q) (Nat.le_refl _) ?_, rfl, q _ (I5.hok.fresh (Nat.le_refl _))⟩
    exact ⟨Nat.le_trans (pick_len _ _) (Nat.le_trans (ixSt_len _ _ _ _) hz), _, 0, vals_pick r _, Heap.get?_push_size _ rfl⟩
  | _ => exact q.elim
end
/-! ### steps -/
section
variable {K : PySem.W.Frag} {H : Hp} {σ : L2.St} {Q : VK}
theorem st_st3 {r : V → Option Int → Option Int → Int → Hp → VK → Prop} {te ts : TE} {tl th : TO} (h : te σ H fun x H1 => tl σ H1 fun l H2 => th σ H2 fun u H3 => ts σ H3 fun s H4 => ∃ k, s = .int k ∧ r x l u k H4 Q) : tSt r te tl th ts σ H Q := h
theorem st_revS {z : Str} (hz : z.length ≤ 16777216) (h : Q (.str (tx z.cps.toList.reverse)) H) : rSt K (.str z) none none (-1) H Q := ⟨hz, by decide, by decide, by
  have e : z.length = z.cps.toList.length := Array.length_toList.symm
  rw [e, pick_rev]; exact h⟩
theorem st_evS {z : Str} (hz : z.length ≤ 16777216) (h : Q (.str (tx (evL z.cps.toList))) H) : rSt K (.str z) none none 2 H Q := ⟨hz, by decide, by decide, by
  have e : z.length = z.cps.toList.length := Array.length_toList.symm
  rw [e, pick_ev]; exact h⟩
theorem st_odS {z : Str} (hz : z.length ≤ 16777216) (h : Q (.str (tx (odL z.cps.toList))) H) : rSt K (.str z) (some 1) none 2 H Q := ⟨hz, by decide, by decide, by
  have e : z.length = z.cps.toList.length := Array.length_toList.symm
  rw [e, pick_od]; exact h⟩
theorem st_revL {p : Addr} {xs : List V} (hx : SqL K H p xs) (h : ∀ q H', H q = none → Ex H H' → H' q = some (.lst xs.reverse) → Q (.ref q) H') : rSt K (.ref p) none none (-1) H Q := ⟨xs, hx, by decide, fun q hq => by
  rw [pick_rev]; exact h q _ hq (Fr.new hq) upd_same⟩
theorem st_evL {p : Addr} {xs : List V} (hx : SqL K H p xs) (h : ∀ q H', H q = none → Ex H H' → H' q = some (.lst (evL xs)) → Q (.ref q) H') : rSt K (.ref p) none none 2 H Q := ⟨xs, hx, by decide, fun q hq => by
  rw [pick_ev]; exact h q _ hq (Fr.new hq) upd_same⟩
theorem st_odL {p : Addr} {xs : List V} (hx : SqL K H p xs) (h : ∀ q H', H q = none → Ex H H' → H' q = some (.lst (odL xs)) → Q (.ref q) H') : rSt K (.ref p) (some 1) none 2 H Q := ⟨xs, hx, by decide, fun q hq => by
  rw [pick_od]; exact h q _ hq (Fr.new hq) upd_same⟩
end
end Zb

/-! == of lists whose items are data, or the very same things -/
namespace Zb
open PySem PySem.Spec PyProof.Rows L2 PySem.SeqAt
inductive PEq (H : Hp) : V → V → Bool → Prop
  | same (a : Addr) : PEq H (.ref a) (.ref a) true
  | dat {x y : V} {d e : PyData} : Rp H x d → Rp H y e → min d.depth e.depth ≤ 60 → PEq H x y (PyData.eqv d e)
inductive PEqs (H : Hp) : List V → List V → List Bool → Prop
  | nil : PEqs H [] [] []
  | cons {x y : V} {b : Bool} {xs ys : List V} {bs : List Bool} : PEq H x y b → PEqs H xs ys bs → PEqs H (x :: xs) (y :: ys) (b :: bs)
theorem PEqs.len {H : Hp} : ∀ {xs ys : List V} {bs : List Bool}, PEqs H xs ys bs → ys.length = xs.length ∧ bs.length = xs.length
  | _, _, _, .nil => ⟨rfl, rfl⟩
  | _, _, _, .cons _ r => ⟨congrArg (· + 1) r.len.1, congrArg (· + 1) r.len.2⟩
theorem PEqs.at {H : Hp} : ∀ {xs ys : List V} {bs : List Bool}, PEqs H xs ys bs → ∀ j (x y : V), xs[j]? = some x → ys[j]? = some y → PEq H x y (bs.getD j true)
  | _, _, _, .nil, j, x, y, h, _ => by simp at h
  | _, _, _, .cons a r, 0, x, y, h, k => by
    have e1 : _ = x := Option.some.inj h
    have e2 : _ = y := Option.some.inj k
    rw [← e1, ← e2]
    exact a
  | _, _, _, .cons a r, j + 1, x, y, h, k => by
    have h : _ = some x := h
    have := r.at j x y (by simpa using h) (by simpa using k)
    simpa using this
theorem all_getD : ∀ bs : List Bool, (List.range bs.length).all (fun j => bs.getD j true) = bs.all id
  | [] => rfl
  | b :: bs => by
    have ih := all_getD bs
    rw [List.length_cons, List.range_succ_eq_map, List.all_cons, List.all_map, List.all_cons]
    rw [← ih]
    rfl
def rEqL : R2 := fun x y H Q => ∃ (p q : Addr) (xs ys : List V) (bs : List Bool), x = .ref p ∧ y = .ref q ∧ lstAt H p = some xs ∧ lstAt H q = some ys ∧ PEqs H xs ys bs ∧ Q (.bl (bs.all id)) H
theorem o_eqL {X : Cx} (hu : X.A.units + 64 < cLine) : OpR X (compareOp .Eq) rEqL := by
  intro pins s σ H x y v u Q I rx ry h
  obtain ⟨p, q, xs, ys, bs, rfl, rfl, hx, hy, hE, k⟩ := h
  obtain rfl : v = Value.ref p := rx
  obtain rfl : u = Value.ref q := ry
  obtain ⟨its, r1, t1, z1⟩ := I.list (lstAt_sq hx)
  obtain ⟨its2, r2, t2, z2⟩ := I.list (lstAt_sq hy)
  have l1 := r1.length
  have l2 := r2.length
  obtain ⟨m1, m2⟩ := hE.len
  have key : RcAt X.A s (.ref p) (.ref q) ((List.range its.toArray.size).all fun j => bs.getD j true) := by
    refine RcAt.lists t1.isList t2.isList (by rw [List.size_toArray, List.size_toArray]; omega) (by omega) fun j h1 h2 => ?_
    rw [List.size_toArray] at h1 h2
    have hj : j < xs.length := by omega
    have hj2 : j < ys.length := by omega
    have e1 := List.getElem?_eq_getElem hj
    have e2 := List.getElem?_eq_getElem hj2
    obtain ⟨u1, g1, ru1⟩ := r1.get e1
    obtain ⟨u2, g2, ru2⟩ := r2.get e2
    have f1 : its.toArray[j]'(by rw [List.size_toArray]; exact h1) = u1 := by
      rw [List.getElem?_eq_getElem h1] at g1
      simpa using g1
    have f2 : its2.toArray[j]'(by rw [List.size_toArray]; exact h2) = u2 := by
      rw [List.getElem?_eq_getElem h2] at g2
      simpa using g2
    rw [f1, f2]
    have hp := hE.at j _ _ e1 e2
    generalize xs[j] = x at ru1 hp
    generalize ys[j] = y at ru2 hp
    generalize bs.getD j true = b at hp
    cases hp with
    | same a =>
      obtain rfl : u1 = Value.ref a := ru1
      obtain rfl : u2 = Value.ref a := ru2
      exact EqAt.same _
    | dat h1 h2 h3 =>
      obtain ⟨as, d1⟩ := Dp.reads I _ x u1 h1.dp ru1
      obtain ⟨bs', d2⟩ := Dp.reads I _ y u2 h2.dp ru2
      refine SeqAt.eqAt_plain _ _ X.A.in1 s u1 u2 _ _ d1 d2 h1.plain h2.plain ?_
      show X.A.units + 1 + _ < _
      omega
  refine key _ _ _ _ ⟨.bl _, H, I, rfl, ?_⟩
  have e : (List.range its.toArray.size).all (fun j => bs.getD j true) = bs.all id := by
    rw [List.size_toArray, show its.length = bs.length by omega]
    exact all_getD bs
  rw [e]
  exact k
/-! ### is None, int(truth), range with a step -/
section
variable {X : Cx} {H : Hp} {Q : VK} {σ : L2.St}
def rIsN : R2 := fun x y H Q => y = .non ∧ Q (.bl (decide (x = .non))) H
def rNotN : R2 := fun x y H Q => y = .non ∧ Q (.bl (!decide (x = .non))) H
theorem o_isN : OpR X (compareOp .Is) Zb.rIsN := op_isN
theorem o_notN : OpR X (compareOp .IsNot) Zb.rNotN := op_notN
theorem st_isN {x : V} (h : Q (.bl (decide (x = .non))) H) : Zb.rIsN x .non H Q := ⟨rfl, h⟩
theorem st_notN {x : V} (h : Q (.bl (!decide (x = .non))) H) : Zb.rNotN x .non H Q := ⟨rfl, h⟩
def rInt1 : List V → Hp → VK → Prop := fun vs H Q => match vs with
  | [.int i] => Q (.int i) H
  | [.bl k] => Q (.int (if k then 1 else 0)) H
  | _ => False
theorem c_int : CallR X (.type "int") rInt1 := by
  intro pins s σ H xs us Q I r h
  unfold rInt1 at h
  split at h
  · exact call_int1 pins s σ H _ us Q I r (.inl ⟨_, rfl, h⟩)
  · exact call_int1 pins s σ H _ us Q I r (.inr ⟨_, rfl, h⟩)
  · exact h.elim
theorem st_intI {i : Int} (h : Q (.int i) H) : rInt1 [.int i] H Q := h
theorem st_intB {k : Bool} (h : Q (.int (if k then 1 else 0)) H) : rInt1 [.bl k] H Q := h
theorem runs_rangeC (lo c : Int) (n : Nat) : Runs (Itc lo c n) n (fun _ => True) (fun i x H H' => H' = H ∧ x = .int (lo + (i : Nat) * c)) :=
  ⟨fun _ _ h _ => h, fun _ _ => Nat.le_refl _, fun _ _ _ _ _ _ y => y⟩
theorem rv_rangeC (lo c : Int) (n : Nat) : RunsV (Itc lo c n) (List.range n) (fun i => .int (lo + (i : Nat) * c)) (fun _ => True) := by
  refine ⟨fun i H h _ => by rw [List.length_range] at h; exact h, fun H _ => by rw [List.length_range]; exact Nat.le_refl _, fun i H x H' h _ y => ?_⟩
  rw [List.length_range] at h
  exact ⟨y.1, i, by rw [List.getElem?_range h], y.2⟩
theorem st_iR3 {ta : TA} {R : It → Hp → Prop} (h : ta σ H (fun vs H1 => ∃ (i j c : Int) (n : Nat), vs = [.int i, .int j, .int c] ∧ RgC i j c n ∧ R (Itc i c n) H1)) : iRng3 ta σ H R := h
theorem st_isR3 {i j c : Int} (n : Nat) {P : Int → Int → Int → Nat → Prop} (h1 : RgC i j c n) (h : P i j c n) : ∃ (i' j' c' : Int) (n : Nat), [V.int i, .int j, .int c] = [.int i', .int j', .int c'] ∧ RgC i' j' c' n ∧ P i' j' c' n := ⟨i, j, c, n, rfl, h1, h⟩
end
theorem rgc_pos {i j c : Int} {n : Nat} (h0 : 0 < c) (h1 : c < 1048576) (hi : -1099511627776 ≤ i) (hi' : i < 1099511627776) (hj : -1099511627776 ≤ j) (hj' : j < 1099511627776) (hn : (n = 0 ∧ j ≤ i) ∨ (0 < n ∧ ((n : Int) - 1) * c < j - i ∧ j - i ≤ (n : Int) * c)) : RgC i j c n := by
  have hr : Builtin.Range.rangeSize i j c = n := by
    unfold Builtin.Range.rangeSize
    rw [if_pos h0]
    rcases hn with ⟨rfl, h⟩ | ⟨hp, ha, hb⟩
    · rw [if_neg (by omega)]; rfl
    · have hm : 0 ≤ ((n : Int) - 1) * c := Int.mul_nonneg (by omega) (by omega)
      rw [if_pos (by omega)]
      have e1 : (n : Int) - 1 ≤ (j - i - 1) / c := (Int.le_ediv_iff_mul_le h0).mpr (by omega)
      have e2 : (j - i - 1) / c < n := (Int.ediv_lt_iff_lt_mul h0).mpr (by omega)
      omega
  refine ⟨by omega, by omega, ?_, hr⟩
  unfold Builtin.Range.small
  rw [hr]
  simp only [Builtin.Range.rangeFitsLong, Bool.and_eq_true, Bool.or_eq_true, decide_eq_true_eq, beq_iff_eq, h0, if_true]
  have hb : (n : Int) ≤ 2199023255552 := by
    rcases hn with ⟨rfl, h⟩ | ⟨hp, ha, hb⟩
    · decide
    · have : ((n : Int) - 1) * 1 ≤ ((n : Int) - 1) * c := Int.mul_le_mul_of_nonneg_left (by omega) (by omega)
      omega
  omega
end Zb

/-! comprehensions whose items are new objects; dicts by keys; extend -/
namespace Zb
open PySem PySem.Spec PyProof.Rows L2
/-- at these addresses these objects -/
inductive ObjsAt (H : Hp) : List Addr → List HO → Prop
  | nil : ObjsAt H [] []
  | cons {a : Addr} {o : HO} {ts : List Addr} {os : List HO} : H a = some o → ObjsAt H ts os → ObjsAt H (a :: ts) (o :: os)
section
variable {H H' : Hp}
theorem ObjsAt.len : ∀ {ts : List Addr} {os : List HO}, ObjsAt H ts os → ts.length = os.length
  | _, _, .nil => rfl
  | _, _, .cons _ r => congrArg (· + 1) r.len
theorem ObjsAt.ex (e : Ex H H') : ∀ {ts : List Addr} {os : List HO}, ObjsAt H ts os → ObjsAt H' ts os
  | _, _, .nil => .nil
  | _, _, .cons h r => .cons (e.get h) (r.ex e)
theorem ObjsAt.fr {M : Addr → Prop} (e : Fr M H H') : ∀ {ts : List Addr} {os : List HO}, (∀ a ∈ ts, ¬ M a) → ObjsAt H ts os → ObjsAt H' ts os
  | _, _, _, .nil => .nil
  | _, _, hm, .cons h r => .cons (e _ _ (hm _ List.mem_cons_self) h) (r.fr e fun a ha => hm a (List.mem_cons_of_mem _ ha))
theorem ObjsAt.up {D : Addr} {u : HO} : ∀ {ts : List Addr} {os : List HO}, D ∉ ts → ObjsAt H ts os → ObjsAt (upd H D u) ts os
  | _, _, _, .nil => .nil
  | _, _, hn, .cons h r => .cons (by rw [upd_ne (fun z => hn (by rw [← z]; exact List.mem_cons_self))]; exact h) (r.up fun z => hn (List.mem_cons_of_mem _ z))
theorem ObjsAt.app : ∀ {ts us : List Addr} {os ps : List HO}, ObjsAt H ts os → ObjsAt H us ps → ObjsAt H (ts ++ us) (os ++ ps)
  | _, _, _, _, .nil, k => k
  | _, _, _, _, .cons h r, k => .cons h (r.app k)
theorem ObjsAt.one {a : Addr} {o : HO} (h : H a = some o) : ObjsAt H [a] [o] := .cons h .nil
theorem ObjsAt.at : ∀ {ts : List Addr} {os : List HO}, ObjsAt H ts os → ∀ (k : Nat) a o, ts[k]? = some a → os[k]? = some o → H a = some o
  | _, _, .nil, k, a, o, h, _ => by simp at h
  | _, _, .cons h r, 0, a, o, h1, h2 => by
    have e1 : _ = a := Option.some.inj h1
    have e2 : _ = o := Option.some.inj h2
    rw [← e1, ← e2]; exact h
  | _, _, .cons h r, k + 1, a, o, h1, h2 => r.at k a o (by simpa using h1) (by simpa using h2)
theorem ObjsAt.of : ∀ {ts : List Addr} {os : List HO}, ts.length = os.length → (∀ (k : Nat) a o, ts[k]? = some a → os[k]? = some o → H a = some o) → ObjsAt H ts os
  | [], [], _, _ => .nil
  | [], _ :: _, h, _ => by simp at h
  | _ :: _, [], h, _ => by simp at h
  | a :: ts, o :: os, h, k => .cons (k 0 a o rfl rfl) (ObjsAt.of (by simpa using h) fun j x y h1 h2 => k (j + 1) x y (by simpa using h1) (by simpa using h2))
/-- one of them changes -/
theorem ObjsAt.set {a : Addr} {u : HO} {ts : List Addr} {os : List HO} {k : Nat} (h : ObjsAt H ts os) (nd : ts.Nodup) (hk : ts[k]? = some a) : ObjsAt (upd H a u) ts (os.set k u) := by
  refine .of (by rw [List.length_set, h.len]) fun j b o h1 h2 => ?_
  by_cases e : j = k
  · subst e
    rw [hk] at h1
    cases h1
    have hl : j < os.length := by
      rw [← h.len]
      exact (List.getElem?_eq_some_iff.mp hk).1
    rw [List.getElem?_set_self hl] at h2
    cases h2
    exact upd_same
  · rw [List.getElem?_set_ne (Ne.symm e)] at h2
    rw [upd_ne (fun z : b = a => e (nd_ix nd h1 (by rw [z]; exact hk)))]
    exact h.at j b o h1 h2
end
section
variable {J : It} {S : Hp → Prop} {g : TG} {σ : L2.St} {H1 : Hp}
theorem lc_objs {α : Type} {ys : List α} {val : α → V} {tt : TT} {te : TE} {vs : List Nat} {Q : VK} (hR : RunsV J ys val S) (hS : ∀ H', Ex H1 H' → S H') (hz : ys.length < 1000000) (p : α → Bool) (o : α → HO)
    (hs : ∀ y H', y ∈ ys → Ex H1 H' → ∀ (B : V → Hp → Prop) (A : Hp → Prop), (p y = true → ∀ a H'', H' a = none → Ex H' H'' → H'' a = some (o y) → B (.ref a) H'') → (p y = false → ∀ H'', Ex H' H'' → A H'') → g (val y) (wipe σ vs) H' fun σ2 H2 => wipe σ2 vs = wipe σ vs ∧ tt σ2 H2 fun b H3 => if b = true then te σ2 H3 B else A H3)
    (hd : ∀ D H' ts, H1 D = none → Ex H1 H' → H' D = some (.lst (ts.map V.ref)) → ObjsAt H' ts ((ys.filter p).map o) → ts.Nodup → D ∉ ts → (∀ a ∈ ts, H1 a = none) → Q (.ref D) H') : LcGoal J g tt te vs σ Q H1 := by
  intro D hD
  obtain ⟨W, hW⟩ : ∃ W : Nat → Hp → Prop, W = fun i H => ∃ ts : List Addr, H D = some (.lst (ts.map V.ref)) ∧ Ex H1 H ∧ ObjsAt H ts (((ys.take i).filter p).map o) ∧ ts.Nodup ∧ D ∉ ts ∧ ∀ a ∈ ts, H1 a = none := ⟨_, rfl⟩
  have hWi : ∀ i H, W i H ↔ ∃ ts : List Addr, H D = some (.lst (ts.map V.ref)) ∧ Ex H1 H ∧ ObjsAt H ts (((ys.take i).filter p).map o) ∧ ts.Nodup ∧ D ∉ ts ∧ ∀ a ∈ ts, H1 a = none := fun i H => by rw [hW]
  refine ⟨fun i m H => m = ys.length - i ∧ i ≤ ys.length ∧ W i H, ⟨ys.length, by simp, Nat.zero_le _, (hWi _ _).mpr ⟨[], upd_same, Fr.new hD, by rw [List.take_zero]; exact .nil, List.nodup_nil, by simp, by simp⟩⟩, ?_⟩
  rintro i m H ⟨rfl, hi, hw⟩
  obtain ⟨ts, h1, h2, h3, h4, h5, h6⟩ := (hWi _ _).mp hw
  by_cases hlt : i < ys.length
  · refine .inr ⟨hR.go i H hlt (hS H h2), W (i + 1), fun H' p' => ⟨ys.length - (i + 1), by omega, rfl, hlt, p'⟩, fun x H' y => ?_⟩
    obtain ⟨rfl, y0, hy, rfl⟩ := hR.yld i H x H' hlt (hS H h2) y
    have ht : ys.take (i + 1) = ys.take i ++ [y0] := by rw [List.take_add_one, hy]; rfl
    refine hs y0 H' (List.mem_of_getElem? hy) h2 (fun v H4 => ∃ acc, H4 D = some (.lst acc) ∧ acc.length < sizeLine ∧ W (i + 1) (upd H4 D (.lst (acc ++ [v])))) (W (i + 1)) ?_ ?_
    · intro hp a H4 ha e hv
      have hDa : a ≠ D := fun z => by rw [z, h1] at ha; cases ha
      have haN : a ∉ ts := fun z => by
        obtain ⟨k, hk⟩ := List.getElem?_of_mem z
        have hk2 : k < (((ys.take i).filter p).map o).length := by
          rw [← h3.len]; exact (List.getElem?_eq_some_iff.mp hk).1
        have := h3.at k a _ hk (List.getElem?_eq_getElem hk2)
        rw [this] at ha
        cases ha
      have hlen : ts.length < 1000000 := by
        rw [h3.len, List.length_map]
        have := List.length_filter_le p (ys.take i)
        rw [List.length_take] at this
        omega
      refine ⟨ts.map V.ref, e.get h1, by rw [List.length_map, sl16]; omega, (hWi _ _).mpr ⟨ts ++ [a], by rw [upd_same, List.map_append]; rfl, (h2.trans e).mut hD, ?_, ?_, ?_, ?_⟩⟩
      · rw [ht, List.filter_append, List.map_append, List.filter_cons_of_pos hp, List.filter_nil]
        refine .up ?_ ((h3.ex e).app (.one hv))
        rw [List.mem_append, List.mem_singleton]
        rintro (z | z)
        · exact h5 z
        · exact hDa z.symm
      · rw [List.nodup_append]
        exact ⟨h4, by simp, fun b hb c hc => by rw [List.mem_singleton.mp hc]; exact fun z => haN (z ▸ hb)⟩
      · rw [List.mem_append, List.mem_singleton]
        rintro (z | z)
        · exact h5 z
        · exact hDa z.symm
      · intro b hb
        rcases List.mem_append.mp hb with h | h
        · exact h6 b h
        · rw [List.mem_singleton.mp h]; exact Ex.free h2 ha
    · intro hp H4 e
      refine (hWi _ _).mpr ⟨ts, e.get h1, h2.trans e, ?_, h4, h5, h6⟩
      rw [ht, List.filter_append, List.filter_cons_of_neg (by rw [hp]; decide), List.filter_nil, List.append_nil]
      exact h3.ex e
  · have e : i = ys.length := by omega
    subst e
    rw [List.take_length] at h3
    exact .inl ⟨hR.stop H (hS H h2), hd D H ts hD h2 h1 h3 h4 h5 h6⟩
/-- no test -/
theorem lc_objs0 {α : Type} {ys : List α} {val : α → V} {te : TE} {vs : List Nat} {Q : VK} (hR : RunsV J ys val S) (hS : ∀ H', Ex H1 H' → S H') (hz : ys.length < 1000000) (o : α → HO)
    (hs : ∀ y H', y ∈ ys → Ex H1 H' → ∀ (B : V → Hp → Prop), (∀ a H'', H' a = none → Ex H' H'' → H'' a = some (o y) → B (.ref a) H'') → g (val y) (wipe σ vs) H' fun σ2 H2 => wipe σ2 vs = wipe σ vs ∧ te σ2 H2 B)
    (hd : ∀ D H' ts, H1 D = none → Ex H1 H' → H' D = some (.lst (ts.map V.ref)) → ObjsAt H' ts (ys.map o) → ts.Nodup → D ∉ ts → (∀ a ∈ ts, H1 a = none) → Q (.ref D) H')
    (hg : ∀ v σ H (P P' : L2.St → Hp → Prop), (∀ σ H, P σ H → P' σ H) → g v σ H P → g v σ H P' := by intro _ _ _ _ _ k h; exact k _ _ h) : LcGoal J g tYes te vs σ Q H1 := by
  refine lc_objs hR hS hz (fun _ => true) o (fun y H' hy e B A h1 h2 => ?_) (fun D H' ts hD e h h3 h4 h5 h6 => hd D H' ts hD e h ?_ h4 h5 h6)
  · exact hg _ _ _ _ _ (fun σ2 H2 h => ⟨h.1, h.2⟩) (hs y H' hy e B (h1 rfl))
  · rwa [List.filter_eq_self.mpr (fun _ _ => rfl)] at h3
end
/-! ### steps -/
section
variable {H : Hp} {Q : VK} {σ : L2.St}
theorem st_ext {l b : Addr} {xs zs : List V} (h1 : H l = some (.lst xs)) (h2 : H b = some (.lst zs)) (hz : xs.length + zs.length ≤ 16777216) (h : Q .non (upd H l (.lst (xs ++ zs)))) : rExtend (.ref l) [.ref b] H Q := ⟨l, b, xs, zs, rfl, rfl, h1, h2, by rw [sl16]; exact hz, h⟩
def DGet2P (a : Addr) (y z : V) (Q : VK) (H : Hp) : Prop := ∃ o, DGet H a y o ∧ Q (o.getD z) H
theorem st_dget2 {td ty tx : TE} (h : td σ H fun x H1 => ∃ a, x = .ref a ∧ IsD H1 a ∧ ty σ H1 fun y H2 => tx σ H2 fun z H3 => DGet2P a y z Q H3) : tDGet2 td ty tx σ H Q := h
theorem st_isD {a : Addr} {kvs : List (Key × V)} {P : Addr → Prop} (h1 : H a = some (.dK kvs)) (h : P a) : ∃ b, V.ref a = .ref b ∧ IsD H b ∧ P b := ⟨a, rfl, .inl ⟨kvs, .inl h1⟩, h⟩
theorem st_dget2P {a : Addr} {k : Key} {z : V} {kvs : List (Key × V)} (h1 : H a = some (.dK kvs)) (h : Q ((valV kvs k).getD z) H) : DGet2P a (kV k) z Q H := ⟨_, .inl ⟨kvs, k, .inl h1, rfl, rfl⟩, h⟩
def DSetP (a : Addr) (y z : V) (Q : VK) (H3 : Hp) : Prop := ∃ (kvs : List (Key × V)) (k : Key), H3 a = some (.dK kvs) ∧ y = kV k ∧ kvs.length < sizeLine ∧ (∀ v, valV kvs k = some v → Q v H3) ∧ (valV kvs k = none → Q z (upd H3 a (.dK (putK kvs k z))))
theorem st_dsetd {td ty tx : TE} (h : td σ H fun x H1 => ∃ a, x = .ref a ∧ IsD H1 a ∧ ty σ H1 fun y H2 => tx σ H2 fun z H3 => DSetP a y z Q H3) : tDSetd td ty tx σ H Q := h
theorem st_dsetP {a : Addr} {z : V} {kvs : List (Key × V)} (k : Key) (h1 : H a = some (.dK kvs)) (hl : kvs.length < 16777216) (h2 : ∀ v, valV kvs k = some v → Q v H) (h3 : valV kvs k = none → Q z (upd H a (.dK (putK kvs k z)))) : DSetP a (kV k) z Q H := ⟨kvs, k, h1, rfl, by rw [sl16]; exact hl, h2, h3⟩
/-- {} -/
def DNew (Q : VK) (H : Hp) : Prop := ∀ p H', H p = none → Ex H H' → H' p = some (.dK []) → Q (.ref p) H'
theorem st_dnew (h : DNew Q H) : tDNewK σ H Q := fun p hp => h p _ hp (Fr.new hp) upd_same
theorem st_dnewP (h : ∀ p H', H p = none → Ex H H' → H' p = some (.dK []) → Q (.ref p) H') : DNew Q H := h
end
theorem at_nat {α : Type} {xs : List α} {i : Nat} {a : α} (h : xs[i]? = some a) : atI xs (i : Int) = some a := by
  unfold atI
  rw [Evl.ixN_nat (List.getElem?_eq_some_iff.mp h).1]
  exact h
theorem at_mapN {α β : Type} {f : α → β} {xs : List α} {i : Nat} {a : α} (h : xs[i]? = some a) : atI (xs.map f) (i : Int) = some (f a) := at_nat (by rw [List.getElem?_map, h]; rfl)
theorem snoc_ind {α : Type} {P : List α → Prop} (h0 : P []) (hs : ∀ l a, P l → P (l ++ [a])) (l : List α) : P l := by
  have h : ∀ r : List α, P r.reverse := by
    intro r
    induction r with
    | nil => exact h0
    | cons a r ih => rw [List.reverse_cons]; exact hs _ _ ih
  have := h l.reverse
  rwa [List.reverse_reverse] at this
theorem nodup_map {α β : Type} {f : α → β} {l : List α} (nd : l.Nodup) (h : ∀ a b, f a = f b → a = b) : (l.map f).Nodup := List.pairwise_map.mpr (List.Pairwise.imp (fun n e => n (h _ _ e)) nd)
theorem valV_none {kvs : List (Key × V)} {k : Key} : valV kvs k = none ↔ ∀ q ∈ kvs, q.1 ≠ k := by
  unfold valV
  rw [Option.map_eq_none_iff, List.find?_eq_none]
  simp
theorem putK_new {kvs : List (Key × V)} {k : Key} {v : V} (h : valV kvs k = none) : putK kvs k v = kvs ++ [(k, v)] := by
  unfold putK
  rw [if_neg]
  rw [List.any_eq_true]
  rintro ⟨q, hq, e⟩
  exact valV_none.mp h q hq (by simpa using e)
theorem valV_at {kvs : List (Key × V)} {k : Key} {v : V} {i : Nat} (nd : (kvs.map (·.1)).Nodup) (h : kvs[i]? = some (k, v)) : valV kvs k = some v := by
  induction kvs generalizing i with
  | nil => simp at h
  | cons a r ih =>
    rw [List.map_cons, List.nodup_cons] at nd
    cases i with
    | zero =>
      have e : a = (k, v) := by simpa using h
      subst e
      unfold valV
      simp
    | succ i =>
      have h' : r[i]? = some (k, v) := by simpa using h
      have hm : k ∈ r.map (·.1) := List.mem_map.mpr ⟨(k, v), List.mem_of_getElem? h', rfl⟩
      have ne : a.1 ≠ k := fun z => nd.1 (z ▸ hm)
      have := ih nd.2 h'
      unfold valV at this ⊢
      rw [List.find?_cons_of_neg (by simpa using ne)]
      exact this
end Zb

/-! sorted, pop, while, is True; lists of pairs as tuples -/
namespace Zb
open PySem PySem.Spec PyProof.Rows L2
theorem Ex.trans {H H1 H2 : Hp} (a : Ex H H1) (b : Ex H1 H2) : Ex H H2 := Fr.trans a b
section
variable {X : Cx} {H : Hp} {Q : VK} {σ : L2.St} {K : PySem.W.Frag}
def rIsB : R2 := fun x y H Q => ∃ a b, x = .bl a ∧ y = .bl b ∧ Q (.bl (decide (a = b))) H
def rNotB : R2 := fun x y H Q => ∃ a b, x = .bl a ∧ y = .bl b ∧ Q (.bl (!decide (a = b))) H
theorem o_isB : OpR X (compareOp .Is) rIsB := op_is_bl
theorem o_notB : OpR X (compareOp .IsNot) rNotB := op_isnot_bl
theorem c_sortI (hK : X.K = K := by rfl) : CallR X (.builtin "sorted") (rSortedI K) := by subst hK; exact cr_sortedI
theorem c_sortP (hK : X.K = K := by rfl) : CallR X (.builtin "sorted") (rSortedPO K) := by subst hK; exact cr_sortedPO
theorem c_sum (hc : X.calm = true) (hK : X.K = K := by rfl) : CallR X (.builtin "sum") (rSum K) := by subst hK; exact cr_sum hc
theorem c_any (hc : X.calm = true) (hK : X.K = K := by rfl) : CallR X (.builtin "any") (rAny K) := by subst hK; exact cr_any hc
theorem st_isB2 {a b : Bool} (h : Q (.bl (decide (a = b))) H) : rIsB (.bl a) (.bl b) H Q := ⟨a, b, rfl, rfl, h⟩
theorem st_notB2 {a b : Bool} (h : Q (.bl (!decide (a = b))) H) : rNotB (.bl a) (.bl b) H Q := ⟨a, b, rfl, rfl, h⟩
theorem st_popAt {l : Addr} {xs : List V} {i : Int} {y : V} (h1 : H l = some (.lst xs)) (h0 : 0 ≤ i) (hi : i < 1000000000) (hy : xs[i.toNat]? = some y) (h : Q y (upd H l (.lst (xs.eraseIdx i.toNat)))) : rPopAt (.ref l) [.int i] H Q := by
  have hl := (List.getElem?_eq_some_iff.mp hy).1
  refine ⟨l, xs, i, i.toNat, y, rfl, rfl, h1, by omega, by omega, ?_, hy, h⟩
  unfold seqIndex?
  have n0 : ¬ i < 0 := by omega
  simp only [n0, if_false]
  rw [if_pos (by simp; omega)]
theorem st_pop {l : Addr} {xs : List V} {y : V} (h1 : H l = some (.lst xs)) (hy : xs[xs.length - 1]? = some y) (h : Q y (upd H l (.lst xs.dropLast))) : rPop (.ref l) [] H Q := ⟨l, xs, y, rfl, rfl, h1, hy, h⟩
theorem st_sortI {p : Addr} {ns : List Int} (h1 : SqL K H p (ns.map V.int)) (h : ∀ (ns' : List Int) (q : Addr) (H' : Hp), ns'.Perm ns → ns'.Pairwise (· ≤ ·) → H q = none → Ex H H' → H' q = some (.lst (ns'.map V.int)) → Q (.ref q) H') : rSortedI K [.ref p] H Q :=
  ⟨p, ns, rfl, h1, fun ns' q hp hs hq => h ns' q _ hp hs hq (Fr.new hq) upd_same⟩
theorem st_chain {r r' : R2} {ta tb tc : TE} (h : ta σ H fun x H1 => tb σ H1 fun y H2 => r x y H2 fun z H3 => ∃ k, z = .bl k ∧ (if k = true then tc σ H3 fun w' H4 => r' y w' H4 Q else Q (.bl false) H3)) : tChain r r' ta tb tc σ H Q := h
def isIntV : V → Bool
  | .int _ => true
  | .bl _ => true
  | _ => false
def isBoolV : V → Bool
  | .bl _ => true
  | _ => false
theorem kb_int : kitB "NoneType" "int" = some false ∧ kitB "bool" "int" = some true ∧ kitB "int" "int" = some true ∧ kitB "str" "int" = some false ∧ kitB "list" "int" = some false ∧ kitB "tuple" "int" = some false ∧ kitB "dict" "int" = some false := by decide +kernel
theorem st_isIntT {x : V} (h1 : Ty H x) (h : Q (.bl (isIntV x)) H) : rIs [x, .ty "int"] H Q := by
  obtain ⟨t, h1⟩ := h1
  obtain ⟨k1, k2, k3, k4, k5, k6, k7⟩ := kb_int
  refine st_is h1 (b := isIntV x) ?_ h
  cases x with
  | ref p =>
    have h1 : tyO (H p) = some t := h1
    unfold tyO at h1
    split at h1 <;> first | (cases h1; assumption) | cases h1
  | _ => first | (cases h1; assumption) | cases h1
theorem st_isBoolT {x : V} (h1 : Ty H x) (h : Q (.bl (isBoolV x)) H) : rIs [x, .ty "bool"] H Q := by
  obtain ⟨t, h1⟩ := h1
  obtain ⟨k1, k2, k3, k4, k5, k6, k7⟩ := kb_bool
  refine st_is h1 (b := isBoolV x) ?_ h
  cases x with
  | ref p =>
    have h1 : tyO (H p) = some t := h1
    unfold tyO at h1
    split at h1 <;> first | (cases h1; assumption) | cases h1
  | _ => first | (cases h1; assumption) | cases h1
/-- a value as a test -/
def tTru (K : PySem.W.Frag) (ta : TE) : TT := fun σ H B => ta σ H fun x H' => ∃ k, TruV K x H' k ∧ B k H'
theorem pt_tru {a : Expr} {ta : TE} (ha : PE X a ta) (he : ∀ whole, isTrue a X.env whole = (do let v ← whole; standAt a.pos; holding [v] (truthy v))) (hK : X.K = K := by rfl) : PT X a (tTru K ta) := by subst hK; exact pt_truth ha he
theorem st_tru {ta : TE} {B : Bool → Hp → Prop} (h : ta σ H fun x H' => ∃ k, TruV K x H' k ∧ B k H') : tTru K ta σ H B := h
theorem st_truB {b : Bool} {P : Bool → Prop} (h : P b) : ∃ k, TruV K (.bl b) H k ∧ P k := ⟨b, rfl, h⟩
theorem st_truI {i : Int} {P : Bool → Prop} (h : P (i != 0)) : ∃ k, TruV K (.int i) H k ∧ P k := ⟨_, rfl, h⟩
def WhPost (W : Nat → L2.St → Hp → Prop) (m : Nat) (tb : TS) (D : Ends) (σ : L2.St) : Bool → Hp → Prop := fun b H1 => if b = true then ∃ N : L2.St → Hp → Prop, (∀ σ' H', N σ' H' → ∃ m', m' < m ∧ W m' σ' H') ∧ tb { D with nx := N, ct := N, bk := D.nx } σ H1 else D.nx σ H1
def WhGoal (c : TT) (tb : TS) (D : Ends) (σ : L2.St) (H : Hp) : Prop := ∃ W : Nat → L2.St → Hp → Prop, (∃ m, W m σ H) ∧ ∀ m σ H, W m σ H → c σ H (WhPost W m tb D σ)
theorem st_while {c : TT} {tb : TS} {D : Ends} (h : WhGoal c tb D σ H) : tWhile c tb D σ H := h
/-- W: the word of the loop, with a number that falls -/
theorem while_inv {c : TT} {tb : TS} {D : Ends} (W : Nat → L2.St → Hp → Prop) (h0 : ∃ m, W m σ H) (hs : ∀ m σ H, W m σ H → c σ H (WhPost W m tb D σ)) : WhGoal c tb D σ H := ⟨W, h0, hs⟩
theorem wh_T {W : Nat → L2.St → Hp → Prop} {m : Nat} {tb : TS} {D : Ends} {b : Bool} (hb : b = true) (h : tb { D with nx := fun σ' H' => ∃ m', m' < m ∧ W m' σ' H', ct := fun σ' H' => ∃ m', m' < m ∧ W m' σ' H', bk := D.nx } σ H) : WhPost W m tb D σ b H := by
  unfold WhPost
  rw [if_pos hb]
  exact ⟨_, fun _ _ z => z, h⟩
theorem wh_F {W : Nat → L2.St → Hp → Prop} {m : Nat} {tb : TS} {D : Ends} {b : Bool} (hb : b = false) (h : D.nx σ H) : WhPost W m tb D σ b H := by
  unfold WhPost
  rw [hb, if_neg Bool.false_ne_true]
  exact h
end
/-! ### pairs as tuples -/
def tupO (q : Nat × Nat) : HO := .tup [.int (q.1 : Nat), .int (q.2 : Nat)]
abbrev ZP := Addr × (Nat × Nat)
abbrev zV (z : ZP) : V := .ref z.1
/-- each of these stands as its tuple -/
def TP (H : Hp) (zs : List ZP) : Prop := ∀ z ∈ zs, H z.1 = some (tupO z.2)
section
variable {H H' : Hp} {zs ys : List ZP}
theorem TP.ex (h : TP H zs) (e : Ex H H') : TP H' zs := fun z hz => e.get (h z hz)
theorem TP.sub (h : TP H zs) (e : ∀ z ∈ ys, z ∈ zs) : TP H ys := fun z hz => h z (e z hz)
theorem tup_ne_purse {a p : Addr} {q : Nat × Nat} (h : H a = some (tupO q)) (hp : Purse H p) : a ≠ p := fun e => by
  obtain ⟨x, y, z, hp⟩ := hp
  rw [e, hp] at h
  cases h
theorem zs_ne_purse {a p : Addr} (h : H a = some (.lst (zs.map zV))) (hp : Purse H p) : a ≠ p := fun e => by
  obtain ⟨x, y, z, hp⟩ := hp
  rw [e, hp] at h
  cases zs with
  | nil => cases h
  | cons c r =>
    have h : HO.lst [V.int x, V.int y, V.int z] = HO.lst (V.ref c.1 :: r.map zV) := Option.some.inj h
    cases h
theorem TP.frp {p : Addr} (h : TP H zs) (hp : Purse H p) (e : FrP p H H') : TP H' zs := fun z hz => e.get (tup_ne_purse (h z hz) hp) (h z hz)
theorem TP.up {D : Addr} {xs : List V} {u : HO} (h : TP H zs) (hD : H D = some (.lst xs)) : TP (upd H D u) zs := fun z hz => by
  rw [upd_ne fun e => ?_]
  · exact h z hz
  · have := h z hz
    rw [e, hD] at this
    cases this
theorem TP.app (h : TP H zs) (k : TP H ys) : TP H (zs ++ ys) := fun z hz => by
  rcases List.mem_append.mp hz with q | q
  · exact h z q
  · exact k z q
theorem TP.cons {z : ZP} (h : H z.1 = some (tupO z.2)) (k : TP H ys) : TP H (z :: ys) := fun y hy => by
  rcases List.mem_cons.mp hy with q | q
  · rw [q]; exact h
  · exact k y q
theorem TP.perm (h : TP H zs) (e : ys.Perm zs) : TP H ys := h.sub fun z hz => e.mem_iff.mp hz
def encQ (q : Nat × Nat) : PyData := .tuple [.int (q.1 : Nat), .int (q.2 : Nat)]
theorem TP.rp1 {z : ZP} (h : H z.1 = some (tupO z.2)) : Rp H (zV z) (encQ z.2) := .tup (tup_of h) (.cons (.int _) (.cons (.int _) .nil))
theorem TP.rp (h : TP H zs) : RpA H (zs.map zV) (zs.map fun z => encQ z.2) := rpA_map fun z hz => TP.rp1 (h z hz)
theorem TP.rpL {a : Addr} (h : TP H zs) (ha : H a = some (.lst (zs.map zV))) : Rp H (.ref a) (.list (zs.map fun z => encQ z.2)) := .lst (lst_of ha) h.rp
theorem encQ_depth (q : Nat × Nat) : (encQ q).depth ≤ 2 := by simp [encQ, PyData.depth, PyData.depthAll]
theorem zs_depth (zs : List ZP) : (PyData.list (zs.map fun z => encQ z.2)).depth ≤ 64 := by
  have : PyData.depthAll (zs.map fun z => encQ z.2) ≤ 2 := depth_map fun z _ => encQ_depth z.2
  simp only [PyData.depth]
  omega
theorem eqv_encQ (a b : Nat × Nat) : PyData.eqv (encQ a) (encQ b) = decide (a = b) := by
  obtain ⟨a1, a2⟩ := a
  obtain ⟨b1, b2⟩ := b
  simp only [encQ, PyData.eqv, PyData.eqvAll, Bool.and_true]
  rw [Bool.eq_iff_iff]
  simp [Prod.ext_iff]
  omega
theorem eqv_zs (zs ys : List ZP) : PyData.eqv (.list (zs.map fun z => encQ z.2)) (.list (ys.map fun z => encQ z.2)) = decide (zs.map (·.2) = ys.map (·.2)) := by
  have h := eqv_list (enc := encQ) eqv_encQ (zs.map (·.2)) (ys.map (·.2))
  rw [List.map_map, List.map_map] at h
  exact h
end
/-- pairs in the order of their firsts, then of their seconds -/
def lexLe (a b : Nat × Nat) : Prop := a.1 < b.1 ∨ (a.1 = b.1 ∧ a.2 ≤ b.2)
theorem sorted_uniq : ∀ {l m : List (Nat × Nat)}, l.Pairwise lexLe → m.Pairwise lexLe → l.Perm m → l = m
  | [], m, _, _, h => (List.Perm.eq_nil h.symm).symm
  | x :: l, [], _, _, h => absurd h.length_eq (by simp)
  | x :: l, y :: m, hl, hm, h => by
    obtain ⟨l1, l2⟩ := List.pairwise_cons.mp hl
    obtain ⟨m1, m2⟩ := List.pairwise_cons.mp hm
    have h1 : lexLe y x := by
      rcases List.mem_cons.mp (h.mem_iff.mp (List.mem_cons_self (a := x) (l := l))) with e | hx
      · rw [e]; exact .inr ⟨rfl, Nat.le_refl _⟩
      · exact m1 x hx
    have h2 : lexLe x y := by
      rcases List.mem_cons.mp (h.mem_iff.mpr (List.mem_cons_self (a := y) (l := m))) with e | hy
      · rw [e]; exact .inr ⟨rfl, Nat.le_refl _⟩
      · exact l1 y hy
    have e : x = y := by
      obtain ⟨a, b⟩ := x
      obtain ⟨c, d⟩ := y
      unfold lexLe at h1 h2
      dsimp only at h1 h2
      have : a = c := by omega
      have : b = d := by omega
      simp [*]
    subst e
    rw [sorted_uniq l2 m2 h.cons_inv]
section
variable {H : Hp} {K : PySem.W.Frag} {Q : VK}
/-- the two ints of the tuple that v is -/
def pairAt (H : Hp) (v : V) : Int × Int := match v with
  | .ref t => match H t with
    | some (.tup [.int i, .int j]) => (i, j)
    | _ => (0, 0)
  | _ => (0, 0)
theorem pairAt_of {t : Addr} {i j : Int} (h : H t = some (.tup [.int i, .int j])) : pairAt H (.ref t) = (i, j) := by
  unfold pairAt
  simp only [h]
/-- refs to tuples of two ints, each by what it is -/
abbrev GP (α : Type) := Addr × α
abbrev gV {α : Type} (z : GP α) : V := .ref z.1
def TG2 {α : Type} (enc : α → Int × Int) (H : Hp) (zs : List (GP α)) : Prop := ∀ z ∈ zs, H z.1 = some (.tup [.int (enc z.2).1, .int (enc z.2).2])
def lexI (a b : Int × Int) : Prop := a.1 < b.1 ∨ (a.1 = b.1 ∧ a.2 ≤ b.2)
theorem perm_mapV {α β : Type} [DecidableEq α] (f : α → β) : ∀ (ys : List β) (zs : List α), ys.Perm (zs.map f) → ∃ zs' : List α, zs'.Perm zs ∧ ys = zs'.map f := by
  intro ys
  induction ys with
  | nil =>
    intro zs hp
    have := hp.length_eq
    rw [List.length_map] at this
    have : zs = [] := List.eq_nil_of_length_eq_zero this.symm
    subst this
    exact ⟨[], .nil, rfl⟩
  | cons y ys ih =>
    intro zs hp
    obtain ⟨z, hz, e⟩ := List.mem_map.mp (hp.mem_iff.mp List.mem_cons_self)
    subst e
    have hz2 : zs.Perm (z :: zs.erase z) := List.perm_cons_erase hz
    have hp2 : ys.Perm ((zs.erase z).map f) := by
      have : (f z :: ys).Perm (f z :: (zs.erase z).map f) := hp.trans (hz2.map f)
      exact this.cons_inv
    obtain ⟨zs', h1, h2⟩ := ih _ hp2
    exact ⟨z :: zs', (List.Perm.cons z h1).trans hz2.symm, by rw [h2]; rfl⟩
theorem st_sortG {α : Type} [DecidableEq α] (enc : α → Int × Int) {p : Addr} {zs : List (GP α)} (h1 : SqL K H p (zs.map gV)) (ht : TG2 enc H zs) (h : ∀ (ys : List (GP α)) q H', ys.Perm zs → (ys.map fun z => enc z.2).Pairwise lexI → H q = none → Ex H H' → H' q = some (.lst (ys.map gV)) → Q (.ref q) H') : rSortedPO K [.ref p] H Q := by
  have hk : ∀ z ∈ zs, pairAt H (gV z) = enc z.2 := fun z hz => pairAt_of (ht z hz)
  refine ⟨p, zs.map gV, pairAt H, rfl, h1, fun x hx => ?_, fun ys q hs hst hq => ?_⟩
  · obtain ⟨z, hz, rfl⟩ := List.mem_map.mp hx
    refine ⟨z.1, rfl, ?_⟩
    rw [hk z hz]
    exact ht z hz
  · obtain ⟨zs', hp, rfl⟩ := perm_mapV gV ys zs hst.perm
    refine h zs' q _ hp ?_ hq (Fr.new hq) upd_same
    have hs2 := List.pairwise_map.mp hs
    rw [List.pairwise_map]
    refine List.Pairwise.imp_of_mem (fun {a b} ha hb hab => ?_) hs2
    have a2 := hk a (hp.mem_iff.mp ha)
    have b2 := hk b (hp.mem_iff.mp hb)
    have hab : SrtO.lexB (pairAt H (gV b)) (pairAt H (gV a)) = false := hab
    rw [a2, b2] at hab
    have := SrtO.lexB_no.mp hab
    unfold lexI
    omega
/-- sorted of a list of pairs of naturals -/
theorem st_sortZ {p : Addr} {zs : List ZP} (h1 : SqL K H p (zs.map zV)) (ht : TP H zs) (h : ∀ (ys : List ZP) q H', ys.Perm zs → (ys.map (·.2)).Pairwise lexLe → H q = none → Ex H H' → H' q = some (.lst (ys.map zV)) → Q (.ref q) H') : rSortedPO K [.ref p] H Q := by
  refine st_sortG (fun q : Nat × Nat => ((q.1 : Int), (q.2 : Int))) (zs := zs) h1 ht fun ys q H' hp hs => h ys q H' hp ?_
  rw [List.pairwise_map] at hs ⊢
  refine hs.imp fun {a b} hab => ?_
  unfold lexI at hab
  unfold lexLe
  dsimp only at hab
  omega
end
end Zb

/-! repr of data: where it is known that no list is being shown -/
namespace Zb
open PySem PySem.Spec PyProof.Rows L2
/-- a def's promise, where no list is being shown -/
structure FnG (P : Program) (w : World) (K : PySem.W.Frag) (mg : Str → Option Value) (base : Heap) (CX : CXT) (k : Nat) (f : Addr) (fd : FuncData) (ps : List Str) (sp : Sp) : Prop where
  len : ∀ vs H Q E, sp vs H Q E → vs.length = ps.length
  go : ∀ (A : Around) (outer : List Env) (s : Shared) (H : Hp) (args : Args) (us : List Value) (vs : List V) (Q : VK) (E : XK), A.guards = some [] → Room k A → Env0 P w K mg base A outer s H → BindsTo s fd args (ps.zip us) → Vals vs us → sp vs H Q E →
    codeAny (model P w) A (.call (.ref f) args) (CR CX outer P w H s Q E) s
section
variable {P : Program} {w : World} {K : PySem.W.Frag} {mg : Str → Option Value} {base : Heap} {k : Nat} {f : Addr} {fd : FuncData} {ps : List Str} {sp : Sp}
theorem FnG.of {CX : CXT} (F : FnOk P w K mg base CX k f fd ps sp) : FnG P w K mg base CX k f fd ps sp := ⟨F.len, fun A outer s H args us vs Q E _ => F.run A outer s H args us vs Q E⟩
/-- .. by its body -/
theorem okG {x qual : Str} {st : Stmt} {N : List Str} (F : Fun K x qual st f fd) (S : FnScope N ps (defScope st)) (len : ∀ vs H Q E, sp vs H Q E → vs.length = ps.length)
    (hbody : ∀ (cdv : Value) (A : Around) (outer : List Env) (s : Shared) (H : Hp) (vs : List V) (Q : VK) (E : XK), (A.deeper (envOfC qual (defScope st) s.heap.objs.size f cdv)).guards = some [] → Room k (A.deeper (envOfC qual (defScope st) s.heap.objs.size f cdv)) → sp vs H Q E →
      ∃ t, PSs (cxOf CX0 P w K mg base N qual (defScope st) f cdv A outer s H E).nox (defBody st) t ∧ t { nx := fun _ H' => Q .non H', rt := Q } (start N vs) H) : FnG P w K mg base CX0 (k + 1) f fd ps sp := by
  obtain ⟨oc, od, kV, doc, pm, an, cdv, ct, osl, rfl, lk, hcd⟩ := F.ex
  refine ⟨len, fun A outer s H args us vs Q E hg hr e0 hb rv hsp => ?_⟩
  have inK : K.In s.heap := e0.mod.kin.keeps fun b o e => (e0.bs b o e).1
  have noLim : s.heap.NoLimit := e0.mod.nolimit.keeps fun b o e => (e0.bs b o e).1
  refine codeAny_call_function hr.depth (inK _ _ lk) rfl S.co S.gen rfl (PySem.W.codeRec_of inK hcd) (hb _ _ _ _ (wpAny_newFunctionEnv_cells S.kind (fun y hy => ?_) fun env he s1 x => ?_))
  · obtain ⟨n, v⟩ := y
    exact (S.par n (List.of_mem_zip hy).1).imp id fun q => ⟨q, PySem.W.cellsFrom_some _ _ _ (.inl q)⟩
  · subst he
    obtain ⟨t, ht, hq⟩ := hbody cdv A outer s H vs Q E hg (hr.deeper _) hsp
    refine ⟨noLim.keeps x.toInCall.keep, codeAny_func (wpAny_mono (ht.nox.run [] s1 (start N vs) H _ (inv_start S hr.hd e0 (len _ _ _ _ hsp) rv x) hq) (fun fl s' z => ?_) fun _ _ z => z)⟩
    cases fl with
    | next => obtain ⟨σ', H', J, q⟩ := z; exact ⟨.non, H', J.os, J.bare, J.base, J.hok, rfl, q⟩
    | ret u => obtain ⟨v, σ', H', J, r, q⟩ := z; exact ⟨v, H', J.os, J.bare, J.base, J.hok, r, q⟩
    | brk => obtain ⟨_, _, _, q⟩ := z; exact q.elim
    | cont => obtain ⟨_, _, _, q⟩ := z; exact q.elim
end
section
variable {X : Cx} {k : Nat} {f : Addr} {fd : FuncData} {ps : List Str} {sp : Sp} {x : Str} {p pos : Pos} {e : Expr} {es : List Expr} {t : TA}
/-- a call, where no list is being shown -/
theorem pe_callG (F : FnG X.prog X.w X.K X.mg X.base CX0 k f fd ps sp) (hg : X.A.guards = some []) (hr : Room k X.A) (gl : Gl X x) (hm : X.mg x = some (.ref f)) (hk : PySem.W.keepIn X.K (.ref f) = true) (hb : Binds X.K fd ps [])
    (ha : PA X (e :: es) t) (hdb : (x == ("__debug__" : Str)) = false := by decide) (he : starEach (e :: es) X.env = (false, eval e X.env) :: starEach es X.env := by rfl) (hpl : (backTo pos (starEach es X.env)).any (·.1) = false := by rfl) :
    PE X (.Call (.Name x p) (e :: es) [] pos) (tCall sp [] E0 t) := by
  refine ⟨fun pins s σ H Q I h => wpAny_Call_Name_kw (ld_glob I gl hm ?_ hdb)⟩
  refine PySem.W.callWith_K (h₀ := X.base) I.ok.mod.kin hk (thn (ha.run pos pins s σ H _ I h) fun us s1 ⟨vs, H1, I1, rv, q⟩ => ⟨I1.kIn, ?_⟩) he hpl
  have q' : sp vs H1 Q E0 := by simpa using q
  have hl : us.length = ps.length := by rw [← rv.length]; exact F.len _ _ _ _ q'
  have b := hb s1 us I1.kIn (by rw [List.append_nil]; exact hl)
  rw [List.append_nil] at b
  refine wpAny_call (codeAny_mono (F.go X.A X.stack s1 H1 ⟨us, []⟩ us vs Q E0 hg hr I1.env0 b rv q') fun r s' z => ?_)
  match r, z with
  | .ok (.ret u), z => exact I1.after z
  | .ok .next, z => exact z.elim
  | .ok .brk, z => exact z.elim
  | .ok .cont, z => exact z.elim
  | .error _, z => exact z.elim
end
/-! ### data, dicts by ints and texts among it -/
def keyD : Key → PyData
  | .inl i => .int i
  | .inr x => .str x
mutual
inductive Rq (H : Hp) : V → PyData → Prop
  | non : Rq H .non .none
  | bl (b : Bool) : Rq H (.bl b) (.bool b)
  | int (i : Int) : Rq H (.int i) (.int i)
  | str (x : Str) : Rq H (.str x) (.str x)
  | lst {a : Addr} {xs : List V} {ds : List PyData} : lstAt H a = some xs → RqA H xs ds → Rq H (.ref a) (.list ds)
  | tup {a : Addr} {xs : List V} {ds : List PyData} : tupAt H a = some xs → RqA H xs ds → Rq H (.ref a) (.tuple ds)
  | dk {a : Addr} {kvs : List (Key × V)} {ds : List PyData} : H a = some (.dK kvs) → RqA H (kvs.map (·.2)) ds → Rq H (.ref a) (.dict ((kvs.map fun q => keyD q.1).zip ds))
inductive RqA (H : Hp) : List V → List PyData → Prop
  | nil : RqA H [] []
  | cons {v : V} {vs : List V} {d : PyData} {ds : List PyData} : Rq H v d → RqA H vs ds → RqA H (v :: vs) (d :: ds)
end
theorem RqA.len {H : Hp} : ∀ {vs : List V} {ds : List PyData}, RqA H vs ds → vs.length = ds.length
  | _, _, .nil => rfl
  | _, _, .cons _ k => congrArg (· + 1) k.len
theorem Rq.dk0 {H : Hp} {a : Addr} (h : H a = some (.dK [])) : Rq H (.ref a) (.dict []) := .dk h .nil
mutual
theorem Rp.rq {H : Hp} : ∀ {v : V} {d : PyData}, Rp H v d → Rq H v d
  | _, _, .non => .non
  | _, _, .bl b => .bl b
  | _, _, .int i => .int i
  | _, _, .str x => .str x
  | _, _, .lst h k => .lst h (RpA.rq k)
  | _, _, .tup h k => .tup h (RpA.rq k)
theorem RpA.rq {H : Hp} : ∀ {vs : List V} {ds : List PyData}, RpA H vs ds → RqA H vs ds
  | _, _, .nil => .nil
  | _, _, .cons h k => .cons (Rp.rq h) (RpA.rq k)
theorem noDict {H : Hp} : ∀ {v : V} {d : PyData}, Rp H v d → d.hasDict = false
  | _, _, .non => rfl
  | _, _, .bl b => rfl
  | _, _, .int i => rfl
  | _, _, .str x => rfl
  | _, _, .lst h k => by simp only [PyData.hasDict]; exact noDictA k
  | _, _, .tup h k => by simp only [PyData.hasDict]; exact noDictA k
theorem noDictA {H : Hp} : ∀ {vs : List V} {ds : List PyData}, RpA H vs ds → PyData.hasDictAll ds = false
  | _, _, .nil => rfl
  | _, _, .cons h k => by simp only [PyData.hasDictAll, noDict h, noDictA k, Bool.or_self]
end
section
variable {X : Cx} {pins : List (Addr × Obj)} {σ : L2.St} {H : Hp} {s : Shared}
theorem pairs_keys {h : Heap} {P : Program} {w : World} : ∀ {es : List DictEntry} {kvs : List (Key × V)} {vs : List (Key × Value)}, Pairs (mixKind P w) es vs → KV kvs vs → ∃ as, ReadsAll h (es.map (·.key)) (kvs.map fun q => keyD q.1) as
  | _, _, _, .nil, .nil => ⟨_, .nil⟩
  | _, _, _, .cons (e := e) (kv := kv) h1 h2 h3, .cons (a := p) q r => by
    obtain ⟨as, k⟩ := pairs_keys (h := h) h3 r
    have hk : (mixKind P w).is kv.1 e.key = true := h1
    rcases keyIs_shape hk with ⟨i, t, e1, e2⟩ | ⟨x, t, e1, e2⟩
    · refine ⟨_, .cons (as := []) ?_ k⟩
      show Reads h e.key (keyD p.1) []
      rw [q.1, e1, e2]
      exact .int i t
    · refine ⟨_, .cons (as := []) ?_ k⟩
      show Reads h e.key (keyD p.1) []
      rw [q.1, e1, e2]
      exact .str x t
theorem pairs_vals {P : Program} {w : World} : ∀ {es : List DictEntry} {kvs : List (Key × V)} {vs : List (Key × Value)}, Pairs (mixKind P w) es vs → KV kvs vs → Vals (kvs.map (·.2)) (es.map (·.val))
  | _, _, _, .nil, .nil => .nil
  | _, _, _, .cons (e := e) (kv := kv) h1 h2 h3, .cons (a := p) q r => .cons (by show RelV p.2 e.val; rw [h2]; exact q.2) (pairs_vals h3 r)
theorem zip_fst {α β : Type} : ∀ {xs : List α} {ys : List β}, xs.length = ys.length → (xs.zip ys).map (·.1) = xs := fun h => List.map_fst_zip (Nat.le_of_eq h)
theorem zip_snd {α β : Type} : ∀ {xs : List α} {ys : List β}, xs.length = ys.length → (xs.zip ys).map (·.2) = ys := fun h => List.map_snd_zip (Nat.le_of_eq h.symm)
/-- a tracked dict, as an object -/
theorem dk_obj (I : Inv X pins σ H s) {a : Addr} {kvs : List (Key × V)} (h : H a = some (.dK kvs)) : (a == sysModules) = false ∧ ∃ (o : Obj) (es : Array DictEntry) (n : Nat), s.heap.get? a = some o ∧ o.cls = .type "dict" ∧ o.data = .dict es n ∧ (∃ as, ReadsAll s.heap (es.toList.map (·.key)) (kvs.map fun q => keyD q.1) as) ∧ Vals (kvs.map (·.2)) (es.toList.map (·.val)) := by
  obtain ⟨_, hs, vs, rv, o, es, ep, e1, e2, e3, _, e5, _⟩ := dk_of I.hok h
  exact ⟨hs, o, es, ep, e1, e2.1, e3, pairs_keys e5 rv, pairs_vals e5 rv⟩
mutual
theorem Rq.reads (I : Inv X pins σ H s) : ∀ {v : V} {d : PyData} {u : Value}, Rq H v d → RelV v u → ∃ as, Reads s.heap u d as
  | _, _, u, .non, r => by cases r; exact ⟨_, .none⟩
  | _, _, u, .bl b, r => by cases r; exact ⟨_, .bool b⟩
  | _, _, u, .int i, r => by obtain ⟨t, rfl⟩ := r; exact ⟨_, .int i t⟩
  | _, _, u, .str x, r => by obtain ⟨t, rfl⟩ := r; exact ⟨_, .str x t⟩
  | _, _, u, @Rq.lst _ a xs ds h k, r => by
    obtain rfl : u = Value.ref a := r
    obtain ⟨its, rv, p, _⟩ := I.list (lstAt_sq h)
    obtain ⟨as, q1⟩ := RqA.reads I k rv
    obtain ⟨o, n, e1, e2, e3, e4⟩ := p
    exact ⟨_, .list e1 e2 e4 q1⟩
  | _, _, u, @Rq.tup _ a xs ds h k, r => by
    obtain rfl : u = Value.ref a := r
    obtain ⟨its, rv, p, _⟩ := I.tuple (tupAt_sq h)
    obtain ⟨as, q1⟩ := RqA.reads I k rv
    obtain ⟨o, e1, e2, n, e3⟩ := p
    exact ⟨_, .tuple e1 e2 e3 q1⟩
  | _, _, u, @Rq.dk _ a kvs ds h k, r => by
    obtain rfl : u = Value.ref a := r
    obtain ⟨_, o, es, n, e1, e2, e3, ⟨as, kr⟩, rv⟩ := dk_obj I h
    obtain ⟨bs, vr⟩ := RqA.reads I k rv
    have hl : (kvs.map fun q => keyD q.1).length = ds.length := by rw [List.length_map, ← k.len, List.length_map]
    exact ⟨_, .dict e1 e2 e3 (by rw [zip_fst hl]; exact kr) (by rw [zip_snd hl]; exact vr)⟩
theorem RqA.reads (I : Inv X pins σ H s) : ∀ {vs : List V} {ds : List PyData} {us : List Value}, RqA H vs ds → Vals vs us → ∃ as, ReadsAll s.heap us ds as
  | _, _, us, .nil, r => by cases r; exact ⟨_, .nil⟩
  | _, _, us, .cons h k, r => by
    cases r with
    | cons r1 r2 =>
      obtain ⟨as, a1⟩ := Rq.reads I h r1
      obtain ⟨bs, b1⟩ := RqA.reads I k r2
      exact ⟨_, .cons a1 b1⟩
end
theorem keyD_noDict (kvs : List (Key × V)) : PyData.hasDictAll (kvs.map fun q => keyD q.1) = false := by
  induction kvs with
  | nil => rfl
  | cons q r ih =>
    obtain ⟨k, v⟩ := q
    rw [List.map_cons]
    simp only [PyData.hasDictAll, ih, Bool.or_false]
    cases k <;> rfl
mutual
/-- how a thing is shown within another -/
theorem Rq.showK (I : Inv X pins σ H s) : ∀ {v : V} {d : PyData} {u : Value}, Rq H v d → RelV v u → d.showable = true → d.shown.length ≤ sizeLine → ∃ bs, ReadAtMost s.heap d.depth bs ∧ ReprK X.prog X.w bs s.heap d.depth u d.shown
  | _, _, u, .non, r, hs, hz => by
    obtain ⟨as, rd⟩ := Rq.reads I .non r
    exact ReprK.of_reads rd hs (fun z => by cases z) hz
  | _, _, u, .bl b, r, hs, hz => by
    obtain ⟨as, rd⟩ := Rq.reads I (.bl b) r
    exact ReprK.of_reads rd hs (fun z => by cases z) hz
  | _, _, u, .int i, r, hs, hz => by
    obtain ⟨as, rd⟩ := Rq.reads I (.int i) r
    exact ReprK.of_reads rd hs (fun z => by cases z) hz
  | _, _, u, .str x, r, hs, hz => by
    obtain ⟨as, rd⟩ := Rq.reads I (.str x) r
    exact ReprK.of_reads rd hs (fun z => by cases z) hz
  | _, _, u, @Rq.lst _ a xs ds h k, r, hs, hz => by
    obtain ⟨as, rd⟩ := Rq.reads I (Rq.lst h k) r
    obtain rfl : u = Value.ref a := r
    obtain ⟨its, rv, p, _⟩ := I.list (lstAt_sq h)
    obtain ⟨o, n, e1, e2, e3, e4⟩ := p
    have hz' : (listText (PyData.shownAll ds)).length ≤ sizeLine := by simpa only [PyData.shown] using hz
    obtain ⟨bs, hb, hk⟩ := RqA.showK I k rv (by simpa [PyData.showable] using hs) (fun t ht => Nat.le_trans (listText_mem_le ht) hz')
    have hna : a ∉ bs := not_mem_of_deeper rd (by simp only [PyData.depth]; omega) hb
    refine ⟨a :: bs, ReadAtMost.cons rd (by simp only [PyData.depth]; omega) hb, ?_⟩
    simp only [PyData.depth, PyData.shown]
    cases its with
    | nil =>
      cases rv
      cases k
      simp only [PyData.shownAll, listText_nil]
      exact ReprK.listEmpty e1 e2 e4
    | cons x l => exact ReprK.list e1 e2 e4 hna (by simpa using hk.length_eq) (fun i y e => hk.item i y (by simpa using e))
  | _, _, u, @Rq.tup _ a xs ds h k, r, hs, hz => by
    obtain ⟨as, rd⟩ := Rq.reads I (Rq.tup h k) r
    obtain rfl : u = Value.ref a := r
    obtain ⟨its, rv, p, _⟩ := I.tuple (tupAt_sq h)
    obtain ⟨o, e1, e2, n, e3⟩ := p
    have hz' : (tupleText (PyData.shownAll ds)).length ≤ sizeLine := by simpa only [PyData.shown] using hz
    obtain ⟨bs, hb, hk⟩ := RqA.showK I k rv (by simpa [PyData.showable] using hs) (fun t ht => Nat.le_trans (tupleText_mem_le ht) hz')
    have hna : a ∉ bs := not_mem_of_deeper rd (by simp only [PyData.depth]; omega) hb
    refine ⟨a :: bs, ReadAtMost.cons rd (by simp only [PyData.depth]; omega) hb, ?_⟩
    simp only [PyData.depth, PyData.shown]
    exact ReprK.tuple e1 e2 e3 hna hk
  | _, _, u, @Rq.dk _ a kvs ds h k, r, hs, hz => by
    obtain ⟨as, rd⟩ := Rq.reads I (Rq.dk h k) r
    obtain rfl : u = Value.ref a := r
    obtain ⟨hsy, o, es, n, e1, e2, e3, ⟨as, kr⟩, rv⟩ := dk_obj I h
    have hl : (kvs.map fun q => keyD q.1).length = ds.length := by rw [List.length_map, ← k.len, List.length_map]
    have hz' : (dictText (PyData.shownKv ((kvs.map fun q => keyD q.1).zip ds))).length ≤ sizeLine := by simpa only [PyData.shown] using hz
    obtain ⟨hs1, hs2⟩ := PyData.showableKv_split _ (by simpa [PyData.showable] using hs)
    obtain ⟨b1, hb1, k1⟩ := ReprAllK.of_readsAll (prog := X.prog) (w := X.w) kr (by rw [zip_fst hl] at hs1; exact hs1) (fun z => by rw [keyD_noDict] at z; cases z) (fun t ht => let ⟨p, hp, hl⟩ := PyData.shownKv_key_le _ t (by rw [zip_fst hl]; exact ht); Nat.le_trans hl (Nat.le_trans (dictText_mem_le hp) hz'))
    obtain ⟨b2, hb2, k2⟩ := RqA.showK I k rv (by rw [zip_snd hl] at hs2; exact hs2) (fun t ht => let ⟨p, hp, hl⟩ := PyData.shownKv_val_le _ t (by rw [zip_snd hl]; exact ht); Nat.le_trans hl (Nat.le_trans (dictText_mem_le hp) hz'))
    have d1 := PyData.depthAll_keys_le ((kvs.map fun q => keyD q.1).zip ds)
    have d2 := PyData.depthAll_vals_le ((kvs.map fun q => keyD q.1).zip ds)
    rw [zip_fst hl] at d1
    rw [zip_snd hl] at d2
    have hb : ReadAtMost s.heap (PyData.depthKv ((kvs.map fun q => keyD q.1).zip ds)) (b1 ++ b2) := (hb1.mono d1).append (hb2.mono d2)
    have hna : a ∉ b1 ++ b2 := not_mem_of_deeper rd (by simp only [PyData.depth]; omega) hb
    refine ⟨a :: (b1 ++ b2), ReadAtMost.cons rd (by simp only [PyData.depth]; omega) hb, ?_⟩
    simp only [PyData.depth, PyData.shown, PyData.shownKv_eq]
    rw [zip_fst hl, zip_snd hl]
    exact ReprK.dict e1 e2 e3 hsy hna (ReprEntriesK.of_two es.toList _ _ (k1.more_le (fun b hb => List.mem_append_left _ hb) d1) (k2.more_le (fun b hb => List.mem_append_right _ hb) d2))
theorem RqA.showK (I : Inv X pins σ H s) : ∀ {vs : List V} {ds : List PyData} {us : List Value}, RqA H vs ds → Vals vs us → PyData.showableAll ds = true → (∀ t ∈ PyData.shownAll ds, t.length ≤ sizeLine) → ∃ bs, ReadAtMost s.heap (PyData.depthAll ds) bs ∧ ReprAllK X.prog X.w bs s.heap (PyData.depthAll ds) us (PyData.shownAll ds)
  | _, _, us, .nil, r, _, _ => by cases r; exact ⟨[], (fun _ h => nomatch h), by simp only [PyData.shownAll]; exact .nil⟩
  | _, _, us, @RqA.cons _ v vs d ds h k, r, hs, hz => by
    cases r with
    | cons r1 r2 =>
      have hs' : d.showable = true ∧ PyData.showableAll ds = true := by simpa [PyData.showableAll] using hs
      obtain ⟨b1, hb1, k1⟩ := Rq.showK I h r1 hs'.1 (hz _ (by simp only [PyData.shownAll]; exact List.mem_cons_self ..))
      obtain ⟨b2, hb2, k2⟩ := RqA.showK I k r2 hs'.2 (fun t ht => hz t (by simp only [PyData.shownAll]; exact List.mem_cons_of_mem _ ht))
      refine ⟨b1 ++ b2, ?_, ?_⟩
      · simp only [PyData.depthAll]
        exact (hb1.mono (Nat.le_max_left _ _)).append (hb2.mono (Nat.le_max_right _ _))
      · simp only [PyData.depthAll, PyData.shownAll]
        exact .cons ((k1.more fun b hb => List.mem_append_left _ hb).level_le (Nat.le_max_left _ _)) (k2.more_le (fun b hb => List.mem_append_right _ hb) (Nat.le_max_right _ _))
end
/-- how a thing is shown by itself -/
theorem Rq.shows (I : Inv X pins σ H s) {a : Addr} {d : PyData} (h : Rq H (.ref a) d) (hs : d.showable = true) (hz : d.shown.length ≤ sizeLine) : ∃ T idr, ShowsBy X.prog X.w s.heap a d T idr := by
  obtain ⟨as, rd⟩ := Rq.reads I h (u := .ref a) rfl
  cases h with
  | @lst _ xs ds h k =>
    obtain ⟨its, rv, p, _⟩ := I.list (lstAt_sq h)
    obtain ⟨o, n, e1, e2, e3, e4⟩ := p
    have hz' : (listText (PyData.shownAll ds)).length ≤ sizeLine := by simpa only [PyData.shown] using hz
    obtain ⟨bs, hb, hk⟩ := RqA.showK I k rv (by simpa [PyData.showable] using hs) (fun t ht => Nat.le_trans (listText_mem_le ht) hz')
    have hna : a ∉ bs := not_mem_of_deeper rd (by simp only [PyData.depth]; omega) hb
    refine ⟨"list", "list.__repr__", F.slot_list_repr.toG, F.slot_list_str, F.slot_list_format, fun s hk0 => ⟨o, hk0 _ _ e1, e2⟩, fun A E s Q hg hu hk0 hQ => ?_⟩
    simp only [PyData.depth] at hu
    simp only [PyData.shown] at hQ
    cases its with
    | nil =>
      cases rv
      cases k
      simp only [PyData.shownAll, listText_nil] at hQ
      exact call_list_repr_empty ⟨o, hk0 _ _ e1, e2⟩ (hk0 _ _ e1) e4 (hQ s.heap _ _ fun _ _ e => e)
    | cons x l => exact call_list_reprK e1 e2 e4 hna (by simpa using hk.length_eq) (fun i y e => hk.item i y (by simpa using e)) hg (fun b _ => Clear.nil b) hu hk0 hQ hz'
  | @tup _ xs ds h k =>
    obtain ⟨its, rv, p, _⟩ := I.tuple (tupAt_sq h)
    obtain ⟨o, e1, e2, n, e3⟩ := p
    have hz' : (tupleText (PyData.shownAll ds)).length ≤ sizeLine := by simpa only [PyData.shown] using hz
    obtain ⟨bs, hb, hk⟩ := RqA.showK I k rv (by simpa [PyData.showable] using hs) (fun t ht => Nat.le_trans (tupleText_mem_le ht) hz')
    have hna : a ∉ bs := not_mem_of_deeper rd (by simp only [PyData.depth]; omega) hb
    refine ⟨"tuple", "tuple.__repr__", F.slot_tuple_repr, F.slot_tuple_str, F.slot_tuple_format, fun s hk0 => ⟨o, hk0 _ _ e1, e2⟩, fun A E s Q hg hu hk0 hQ => ?_⟩
    simp only [PyData.depth] at hu
    simp only [PyData.shown] at hQ
    exact call_tuple_reprK e1 e2 e3 hna hk hg (fun b _ => Clear.nil b) hu hk0 hQ hz'
  | @dk _ kvs ds h k =>
    obtain ⟨hsy, o, es, n, e1, e2, e3, ⟨as, kr⟩, rv⟩ := dk_obj I h
    have hl : (kvs.map fun q => keyD q.1).length = ds.length := by rw [List.length_map, ← k.len, List.length_map]
    have hz' : (dictText (PyData.shownKv ((kvs.map fun q => keyD q.1).zip ds))).length ≤ sizeLine := by simpa only [PyData.shown] using hz
    obtain ⟨hs1, hs2⟩ := PyData.showableKv_split _ (by simpa [PyData.showable] using hs)
    obtain ⟨b1, hb1, k1⟩ := ReprAllK.of_readsAll (prog := X.prog) (w := X.w) kr (by rw [zip_fst hl] at hs1; exact hs1) (fun z => by rw [keyD_noDict] at z; cases z) (fun t ht => let ⟨p, hp, hl⟩ := PyData.shownKv_key_le _ t (by rw [zip_fst hl]; exact ht); Nat.le_trans hl (Nat.le_trans (dictText_mem_le hp) hz'))
    obtain ⟨b2, hb2, k2⟩ := RqA.showK I k rv (by rw [zip_snd hl] at hs2; exact hs2) (fun t ht => let ⟨p, hp, hl⟩ := PyData.shownKv_val_le _ t (by rw [zip_snd hl]; exact ht); Nat.le_trans hl (Nat.le_trans (dictText_mem_le hp) hz'))
    have d1 := PyData.depthAll_keys_le ((kvs.map fun q => keyD q.1).zip ds)
    have d2 := PyData.depthAll_vals_le ((kvs.map fun q => keyD q.1).zip ds)
    rw [zip_fst hl] at d1
    rw [zip_snd hl] at d2
    have hb : ReadAtMost s.heap (PyData.depthKv ((kvs.map fun q => keyD q.1).zip ds)) (b1 ++ b2) := (hb1.mono d1).append (hb2.mono d2)
    have hna : a ∉ b1 ++ b2 := not_mem_of_deeper rd (by simp only [PyData.depth]; omega) hb
    refine ⟨"dict", "dict.__repr__", F.slot_dict_repr, F.slot_dict_str, F.slot_dict_format, fun s hk0 => ⟨o, hk0 _ _ e1, e2⟩, fun A E s Q hg hu hk0 hQ => ?_⟩
    simp only [PyData.depth] at hu
    simp only [PyData.shown, PyData.shownKv_eq] at hQ
    rw [zip_fst hl, zip_snd hl] at hQ
    exact call_dict_reprK e1 e2 e3 hsy hna (ReprEntriesK.of_two es.toList _ _ (k1.more_le (fun b hb => List.mem_append_left _ hb) d1) (k2.more_le (fun b hb => List.mem_append_right _ hb) d2)) hg (fun b _ => Clear.nil b) hu hk0 hQ (by rw [PyData.shownKv_eq, zip_fst hl, zip_snd hl] at hz'; exact hz')
end
/-- repr of data -/
def rRepr : List V → Hp → VK → Prop := fun vs H Q => ∃ x d, vs = [x] ∧ Rq H x d ∧ d.showable = true ∧ d.depth ≤ 60 ∧ d.shown.length ≤ 16777216 ∧ Q (.str d.shown) H
theorem c_repr {X : Cx} (hg : X.A.guards = some []) (hu : X.A.units + 64 < cLine) : CallR X (.builtin "repr") rRepr := by
  intro pins s σ H xs us Q I r h
  obtain ⟨x, d, rfl, hd, hw, hdp, hsz, q⟩ := h
  cases r with
  | cons rx rn =>
    cases rn
    rename_i u
    have fin : ∀ h' u' tk, (∀ b o, s.heap.get? b = some o → h'.get? b = some o) → EP X pins σ Q (.str d.shown u') { s with heap := h', toks := tk } := fun h' u' tk hk => ⟨.str d.shown, H, I.kept (t' := tk) hk, ⟨_, rfl⟩, q⟩
    have hz : d.shown.length ≤ sizeLine := by rw [sl16]; exact hsz
    have go : ∀ {a : Addr}, x = .ref a → u = .ref a → wpAny (model X.prog X.w) X.A (call (.builtin "repr") [u]) (EP X pins σ Q) X.xe s := by
      intro a ex e
      subst e ex
      obtain ⟨T, idr, S⟩ := Rq.shows I hd hw hz
      exact call_repr_slot (by omega) (S.typeIs s fun _ _ e => e) S.slotRepr (S.call X.A.in1 X.xe s _ hg (by show X.A.units + 1 + d.depth < cLine; omega) (fun _ _ e => e) fun h' u tk hk => ⟨_, _, rfl, fin h' u tk hk⟩)
    cases hd with
    | non => cases rx; exact PySem.P.repr_of_none (fin _ _ _ fun _ _ e => e)
    | bl b => cases rx; exact PySem.P.repr_of_bool (fin _ _ _ fun _ _ e => e)
    | int i => obtain ⟨t, rfl⟩ := rx; exact PySem.P.repr_of_int (by simpa [PyData.showable] using hw) (fin _ _ _ fun _ _ e => e)
    | str y => obtain ⟨t, rfl⟩ := rx; exact PySem.P.repr_of_str (fin _ _ _ fun _ _ e => e) hz
    | lst h1 h2 => exact go rfl rx
    | tup h1 h2 => exact go rfl rx
    | dk h1 h2 => exact go rfl rx
/-! ### the head, where the promise knows the guards -/
section
variable {P : Program} {w : World} {K : PySem.W.Frag} {mg mb : Str → Option Value} {k : Nat} {fa a : Addr} {fd : FuncData} {x : Str} {sp : Sp} {s₁ : Shared} {vs : List Value} {ns : List Int}
/-- the call of the law's def over an abstract heap H that holds at most the script -/
theorem head_run {H : Hp} (KX : K.In s₁.heap) (hns : s₁.heap.Ns mainGlobals mg) (hb : s₁.heap.Ns builtinsNs mb) (hbb : ∀ x : Str, x ≠ "__name__" → mb x = bootBuiltins x) (hlim : s₁.heap.NoLimit) (hg : s₁.gens = #[])
    (ha : s₁.heap.get? a = some { cls := .type "list", data := .seq vs.toArray }) (hr : Room k callerA)
    (F : ∀ base : Heap, K.In base → base.Ns mainGlobals mg → FnG P w K mg base CX0 k fa fd [x] sp) (hbind : ∀ (s : Shared) (u : Value), BindsTo s fd ⟨[u], []⟩ [(x, u)])
    (hO : Only H) (hsp : sp [.ref a] H (fun v _ => v = .bl true) fun _ _ _ => False) (hok : HOk P w H s₁.heap) (hA : ∀ b, H b ≠ none → b = a) (hK : H a ≠ none → K.lookup a = none) :
    codeAny (model P w) callerA (.call (.ref fa) ⟨[.ref a], []⟩) (fun r s' => r = .ok (.ret (.bool true)) ∧ OldK s₁.heap s'.heap ∧ s'.os = s₁.os ∧ AllBare s'.gens) s₁ := by
  have untracked : ∀ {b : Addr} {o : Obj}, s₁.heap.get? b = some o → (H b ≠ none → False) → (hidT s₁.heap H).get? b = some o := fun {b o} e n => hidT_get e (by
    cases q : H b with
    | none => rfl
    | some u => exact (n (by rw [q]; simp)).elim)
  have names : ∀ {b : Addr} {m : Str → Option Value}, s₁.heap.Ns b m → (hidT s₁.heap H).Ns b m := fun {b m} z => by
    obtain ⟨o, es, ep, e, d, r⟩ := z
    refine ⟨o, es, ep, untracked e fun n => ?_, d, r⟩
    have eb := hA b n
    subst eb
    rw [ha] at e
    cases e
    cases (show Data.seq vs.toArray _ = Data.dict es ep from d)
  have inK : K.In (hidT s₁.heap H) := fun b o e => untracked (KX b o e) fun n => by
    have eb := hA b n
    subst eb
    rw [hK n] at e
    cases e
  have e0 : Env0 P w K mg (hidT s₁.heap H) callerA [] s₁ H :=
    ⟨rfl, ⟨inK, names hns, ⟨mb, names hb, hbb⟩, hlim.imp fun _ z => ⟨names z.1, z.2⟩⟩, fun _ _ e => of_hidT e, Nat.le_of_eq (hidT_size _ _), trivial, (fun b z => by cases z), hok, .of_eq hg⟩
  refine codeAny_mono ((F _ inK (names hns)).go callerA [] s₁ H ⟨[.ref a], []⟩ [.ref a] [.ref a] _ _ rfl hr e0 (hbind s₁ (.ref a)) (.cons rfl .nil) hsp) fun r s' z => ?_
  match r, z with
  | .ok (.ret u), ⟨v, H', os, bare, un, hok', rv, q⟩ =>
    have q : v = .bl true := q
    subst q
    obtain rfl : u = Value.bool true := rv
    refine ⟨rfl, .of_keep fun b o e => ?_, os, bare⟩
    rcases hO b with z | ⟨ob, xs, z⟩
    · exact un.keep b o e z (by intro z; cases z) (by simp)
    · obtain ⟨e1, _⟩ := hok b _ z
      obtain ⟨e2, _⟩ := hok' b _ (un.frzs b ob _ z)
      rw [← e, e1]
      exact e2
  | .ok .next, z => exact z.elim
  | .ok .brk, z => exact z.elim
  | .ok .cont, z => exact z.elim
  | .error _, z => exact z.elim
/-- the head: from the promise of the law's def -/
theorem walk_G {l : PySem.W.OpenLaw} {q : Program} {loose : List Str} {XP : (Str → Option Value) → Heap → Prop} {YP : World → Heap → Prop} {d : DefRec} {KK : Params → PySem.W.Frag} {spK : PySem.W.Frag → Sp}
    (hn : l.most = some 63) (hdf : d.params.defaults = []) (hr : Room k callerA) (hY : ∀ (w : World) (h : Heap), YP w h → (KK w.params).In h)
    (F : ∀ (w : World) (mg : Str → Option Value) (fa : Addr) (h : Heap), (KK w.params).In h → h.Ns mainGlobals mg → mg d.name = some (.ref fa) →
      ∃ fd : FuncData, (∀ (s : Shared) (u : Value), BindsTo s fd ⟨[u], []⟩ [(x, u)]) ∧ ∀ base : Heap, (KK w.params).In base → base.Ns mainGlobals mg → FnG l.prog w (KK w.params) mg base CX0 k fa fd [x] (spK (KK w.params)))
    (hsp : ∀ (K : PySem.W.Frag) (H : Hp) (a : Addr) (ns : List Int), ns.length ≤ 63 → Scr K H a ns → spK K [.ref a] H (fun v _ => v = .bl true) fun _ _ _ => False) :
    PySem.W.WalkO q loose XP YP l.row.toRowW d [] (fun f vs => PySem.call f vs) := by
  refine Att.attach_call hn hdf fun w s₀ s₁ mg mb fa o pm cd doc a vs ns G Y ho hd hcd hmg hobj hints hlen hg => ?_
  have KX := hY w _ Y
  obtain ⟨fd, hb, hF⟩ := F w mg fa _ KX G.T.g hmg
  have rv := vals_ints hints
  have hz : ns.length ≤ sizeLine := by rw [sl16]; omega
  cases hk : (KK w.params).lookup a with
  | some oo =>
    have e := KX a oo hk
    rw [hobj] at e
    cases e
    refine head_run (H := fun _ => none) KX G.T.g G.T.b G.T.builtins G.T.nolimit hg hobj hr hF hb (fun _ => .inl rfl) (hsp _ _ _ _ hlen (.inr ⟨_, vs.toArray, _, hk, rfl, rfl, rfl, ?_, by simpa using rv⟩)) (fun b u z => nomatch z) (fun b z => absurd rfl z) fun z => absurd rfl z
    rw [List.size_toArray, hints.length]
    exact hz
  | none =>
    have me : (fun b => if b = a then some (HO.frz { cls := .type "list", data := .seq vs.toArray } (.lst (ns.map V.int))) else none) a = some (HO.frz { cls := .type "list", data := .seq vs.toArray } (.lst (ns.map V.int))) := if_pos rfl
    refine head_run (H := fun b => if b = a then some (.frz { cls := .type "list", data := .seq vs.toArray } (.lst (ns.map V.int))) else none) KX G.T.g G.T.b G.T.builtins G.T.nolimit hg hobj hr hF hb (fun b => ?_) (hsp _ _ _ _ hlen (.inl ⟨_, me⟩)) (fun b u z => ?_) (fun b z => ?_) fun _ => hk
    · rcases Decidable.em (b = a) with e | e
      · exact .inr ⟨_, _, if_pos e⟩
      · exact .inl (if_neg e)
    · rcases Decidable.em (b = a) with e | e
      · have z' := (if_pos e).symm.trans z
        cases z'
        subst e
        exact ⟨hobj, by rw [List.length_map]; exact hz, vs, _, rv, hobj⟩
      · have z' := (if_neg e).symm.trans z
        cases z'
    · rcases Decidable.em (b = a) with e | e
      · exact e
      · exact absurd (if_neg e) z
end
end Zb

/-! what is asked of data -/
namespace Zb
open PySem PySem.Spec PyProof.Rows L2
def tyD : PyData → String
  | .none => "NoneType"
  | .bool _ => "bool"
  | .int _ => "int"
  | .str _ => "str"
  | .list _ => "list"
  | .tuple _ => "tuple"
  | .dict _ => "dict"
theorem Rq.tyn {H : Hp} {x : V} {d : PyData} (h : Rq H x d) : tyN H x = some (tyD d) := by
  cases h with
  | non => rfl
  | bl b => rfl
  | int i => rfl
  | str y => rfl
  | @lst a xs ds h _ =>
    show tyO (H a) = _
    unfold lstAt at h
    unfold tyO
    split at h <;> first | (rename_i e; rw [e]; rfl) | cases h
  | @tup a xs ds h _ =>
    show tyO (H a) = _
    unfold tupAt at h
    unfold tyO
    split at h <;> first | (rename_i e; rw [e]; rfl) | cases h
  | @dk a kvs ds h _ =>
    show tyO (H a) = _
    rw [h]
    rfl
theorem Rq.ty {H : Hp} {x : V} {d : PyData} (h : Rq H x d) : Ty H x := ⟨_, h.tyn⟩
theorem Rp.ty {H : Hp} {x : V} {d : PyData} (h : Rp H x d) : Ty H x := h.rq.ty
section
variable {H : Hp} {Q : VK} {K : PySem.W.Frag}
theorem st_isQ {x : V} {d : PyData} {n : String} {b : Bool} (h1 : Rq H x d) (h2 : kitB (tyD d) n = some b) (h : Q (.bl b) H) : rIs [x, .ty n] H Q := st_is h1.tyn h2 h
def isListD : PyData → Bool
  | .list _ => true
  | _ => false
def isTupD : PyData → Bool
  | .tuple _ => true
  | _ => false
theorem kb_list : kitB "NoneType" "list" = some false ∧ kitB "bool" "list" = some false ∧ kitB "int" "list" = some false ∧ kitB "str" "list" = some false ∧ kitB "list" "list" = some true ∧ kitB "tuple" "list" = some false ∧ kitB "dict" "list" = some false := by decide +kernel
theorem kb_tup : kitB "NoneType" "tuple" = some false ∧ kitB "bool" "tuple" = some false ∧ kitB "int" "tuple" = some false ∧ kitB "str" "tuple" = some false ∧ kitB "list" "tuple" = some false ∧ kitB "tuple" "tuple" = some true ∧ kitB "dict" "tuple" = some false := by decide +kernel
theorem st_isListD {x : V} {d : PyData} (h1 : Rq H x d) (h : Q (.bl (isListD d)) H) : rIs [x, .ty "list"] H Q := by
  obtain ⟨k1, k2, k3, k4, k5, k6, k7⟩ := kb_list
  refine st_isQ h1 (b := isListD d) ?_ h
  cases d <;> assumption
theorem st_isTupD {x : V} {d : PyData} (h1 : Rq H x d) (h : Q (.bl (isTupD d)) H) : rIs [x, .ty "tuple"] H Q := by
  obtain ⟨k1, k2, k3, k4, k5, k6, k7⟩ := kb_tup
  refine st_isQ h1 (b := isTupD d) ?_ h
  cases d <;> assumption
/-- the items of data -/
theorem Rp.listAt {x : V} {ds : List PyData} (h : Rp H x (.list ds)) : ∃ a xs, x = .ref a ∧ lstAt H a = some xs ∧ RpA H xs ds := by
  cases h with
  | lst h k => exact ⟨_, _, rfl, h, k⟩
theorem Rp.tupAt' {x : V} {ds : List PyData} (h : Rp H x (.tuple ds)) : ∃ a xs, x = .ref a ∧ tupAt H a = some xs ∧ RpA H xs ds := by
  cases h with
  | tup h k => exact ⟨_, _, rfl, h, k⟩
theorem RpA.len : ∀ {xs : List V} {ds : List PyData}, RpA H xs ds → xs.length = ds.length
  | _, _, .nil => rfl
  | _, _, .cons _ k => congrArg (· + 1) k.len
theorem RpA.at : ∀ {xs : List V} {ds : List PyData}, RpA H xs ds → ∀ (i : Nat) x, xs[i]? = some x → ∃ d, ds[i]? = some d ∧ Rp H x d
  | _, _, .nil, i, x, h => by simp at h
  | _, _, .cons a k, 0, x, h => by
    have e : _ = x := Option.some.inj h
    exact ⟨_, rfl, e ▸ a⟩
  | _, _, .cons a k, i + 1, x, h => k.at i x (by simpa using h)
theorem st_lenA {p : Addr} {xs : List V} (h1 : tupAt H p = some xs) (h : Q (.int xs.length) H) : rLen K [.ref p] H Q := ⟨xs, .inr (tupAt_sq h1), h⟩
theorem st_lenB {p : Addr} {xs : List V} (h1 : lstAt H p = some xs) (h : Q (.int xs.length) H) : rLen K [.ref p] H Q := ⟨xs, .inl (lstAt_sq h1), h⟩
theorem st_ixA2 {p : Addr} {i : Int} {v : V} {xs : List V} (h1 : tupAt H p = some xs) (h2 : atI xs i = some v) (h : Q v H) : rIxU K (.ref p) (.int i) H Q := ⟨xs, .inr (tupAt_sq h1), v, h2, h⟩
theorem st_gtupA {a : Addr} {xs : List V} {n : Nat} {t : TGs} {σ : L2.St} {R : L2.St → Hp → Prop} (h1 : tupAt H a = some xs) (hn : xs.length = n) (h : t xs σ H R) : gTup K n t (.ref a) σ H R := ⟨a, xs, rfl, tupAt_sq h1, hn, h⟩
end
end Zb

/-! data whose things are not frozen; the size of data -/
namespace Zb
open PySem PySem.Spec PyProof.Rows L2
mutual
/-- v is d, by things that are not frozen; empty dicts may be among them -/
inductive Rn (H : Hp) : V → PyData → Prop
  | non : Rn H .non .none
  | bl (b : Bool) : Rn H (.bl b) (.bool b)
  | int (i : Int) : Rn H (.int i) (.int i)
  | str (x : Str) : Rn H (.str x) (.str x)
  | lst {a : Addr} {xs : List V} {ds : List PyData} : H a = some (.lst xs) → RnA H xs ds → Rn H (.ref a) (.list ds)
  | tup {a : Addr} {xs : List V} {ds : List PyData} : H a = some (.tup xs) → RnA H xs ds → Rn H (.ref a) (.tuple ds)
  | dk {a : Addr} : H a = some (.dK []) → Rn H (.ref a) (.dict [])
inductive RnA (H : Hp) : List V → List PyData → Prop
  | nil : RnA H [] []
  | cons {v : V} {vs : List V} {d : PyData} {ds : List PyData} : Rn H v d → RnA H vs ds → RnA H (v :: vs) (d :: ds)
end
section
variable {H H' : Hp}
mutual
theorem Rn.rq : ∀ {v : V} {d : PyData}, Rn H v d → Rq H v d
  | _, _, .non => .non
  | _, _, .bl b => .bl b
  | _, _, .int i => .int i
  | _, _, .str x => .str x
  | _, _, .lst h k => .lst (lst_of h) (RnA.rq k)
  | _, _, .tup h k => .tup (tup_of h) (RnA.rq k)
  | _, _, .dk h => .dk0 h
theorem RnA.rq : ∀ {vs : List V} {ds : List PyData}, RnA H vs ds → RqA H vs ds
  | _, _, .nil => .nil
  | _, _, .cons h k => .cons (Rn.rq h) (RnA.rq k)
end
mutual
theorem Rn.rp : ∀ {v : V} {d : PyData}, Rn H v d → d.hasDict = false → Rp H v d
  | _, _, .non, _ => .non
  | _, _, .bl b, _ => .bl b
  | _, _, .int i, _ => .int i
  | _, _, .str x, _ => .str x
  | _, _, .lst h k, n => .lst (lst_of h) (RnA.rp k (by simpa only [PyData.hasDict] using n))
  | _, _, .tup h k, n => .tup (tup_of h) (RnA.rp k (by simpa only [PyData.hasDict] using n))
  | _, _, .dk h, n => by simp [PyData.hasDict] at n
theorem RnA.rp : ∀ {vs : List V} {ds : List PyData}, RnA H vs ds → PyData.hasDictAll ds = false → RpA H vs ds
  | _, _, .nil, _ => .nil
  | _, _, .cons h k, n => by
    simp only [PyData.hasDictAll, Bool.or_eq_false_iff] at n
    exact .cons (Rn.rp h n.1) (RnA.rp k n.2)
end
mutual
theorem Rn.ex (e : Ex H H') : ∀ {v : V} {d : PyData}, Rn H v d → Rn H' v d
  | _, _, .non => .non
  | _, _, .bl b => .bl b
  | _, _, .int i => .int i
  | _, _, .str x => .str x
  | _, _, .lst h k => .lst (e.get h) (RnA.ex e k)
  | _, _, .tup h k => .tup (e.get h) (RnA.ex e k)
  | _, _, .dk h => .dk (e.get h)
theorem RnA.ex (e : Ex H H') : ∀ {vs : List V} {ds : List PyData}, RnA H vs ds → RnA H' vs ds
  | _, _, .nil => .nil
  | _, _, .cons h k => .cons (Rn.ex e h) (RnA.ex e k)
end
theorem Rn.listAt {x : V} {ds : List PyData} (h : Rn H x (.list ds)) : ∃ a xs, x = .ref a ∧ H a = some (.lst xs) ∧ RnA H xs ds := by
  cases h with
  | lst h k => exact ⟨_, _, rfl, h, k⟩
theorem Rn.tupAt {x : V} {ds : List PyData} (h : Rn H x (.tuple ds)) : ∃ a xs, x = .ref a ∧ H a = some (.tup xs) ∧ RnA H xs ds := by
  cases h with
  | tup h k => exact ⟨_, _, rfl, h, k⟩
theorem RnA.len : ∀ {xs : List V} {ds : List PyData}, RnA H xs ds → xs.length = ds.length
  | _, _, .nil => rfl
  | _, _, .cons _ k => congrArg (· + 1) k.len
theorem RnA.zipped : ∀ {xs : List V} {ds : List PyData}, RnA H xs ds → ∃ zs : List (V × PyData), xs = zs.map (·.1) ∧ ds = zs.map (·.2) ∧ ∀ z ∈ zs, Rn H z.1 z.2
  | _, _, .nil => ⟨[], rfl, rfl, fun _ h => nomatch h⟩
  | _, _, .cons (v := v) (d := d) a k => by
    obtain ⟨zs, rfl, rfl, h⟩ := RnA.zipped k
    refine ⟨(v, d) :: zs, rfl, rfl, fun z hz => ?_⟩
    rcases List.mem_cons.mp hz with e | e
    · rw [e]; exact a
    · exact h z e
theorem rnA_map {α : Type} {val : α → V} {enc : α → PyData} : ∀ {xs : List α}, (∀ x ∈ xs, Rn H (val x) (enc x)) → RnA H (xs.map val) (xs.map enc)
  | [], _ => .nil
  | x :: xs, h => .cons (h x List.mem_cons_self) (rnA_map fun y hy => h y (List.mem_cons_of_mem _ hy))
theorem TP.rn1 {z : ZP} (h : H z.1 = some (tupO z.2)) : Rn H (zV z) (encQ z.2) := .tup h (.cons (.int _) (.cons (.int _) .nil))
theorem TP.rn {zs : List ZP} (h : TP H zs) : RnA H (zs.map zV) (zs.map fun z => encQ z.2) := rnA_map fun z hz => TP.rn1 (h z hz)
theorem TP.rnL {zs : List ZP} {a : Addr} (h : TP H zs) (ha : H a = some (.lst (zs.map zV))) : Rn H (.ref a) (.list (zs.map fun z => encQ z.2)) := .lst ha h.rn
end
mutual
/-- how many things data holds -/
def szD : PyData → Nat
  | .list ds => 1 + szA ds
  | .tuple ds => 1 + szA ds
  | .dict _ => 1
  | _ => 1
def szA : List PyData → Nat
  | [] => 0
  | d :: ds => szD d + szA ds
end
theorem szD_pos (d : PyData) : 0 < szD d := by cases d <;> simp [szD] <;> omega
theorem szA_len (ds : List PyData) : ds.length ≤ szA ds := by
  induction ds with
  | nil => simp [szA]
  | cons d ds ih =>
    have := szD_pos d
    simp only [szA, List.length_cons]
    omega
theorem szA_mem {ds : List PyData} {d : PyData} (h : d ∈ ds) : szD d ≤ szA ds := by
  induction ds with
  | nil => cases h
  | cons x ds ih =>
    simp only [szA]
    rcases List.mem_cons.mp h with e | e
    · subst e; omega
    · have := ih e; omega
theorem szA_append (a b : List PyData) : szA (a ++ b) = szA a + szA b := by
  induction a with
  | nil => simp [szA]
  | cons x a ih => simp only [List.cons_append, szA, ih]; omega
theorem hasDictA_mem {ds : List PyData} {d : PyData} (h : PyData.hasDictAll ds = false) (hd : d ∈ ds) : d.hasDict = false := by
  induction ds with
  | nil => cases hd
  | cons x ds ih =>
    simp only [PyData.hasDictAll, Bool.or_eq_false_iff] at h
    rcases List.mem_cons.mp hd with e | e
    · subst e; exact h.1
    · exact ih h.2 e
theorem depthA_mem {ds : List PyData} {d : PyData} (hd : d ∈ ds) : d.depth ≤ PyData.depthAll ds := by
  induction ds with
  | nil => cases hd
  | cons x ds ih =>
    simp only [PyData.depthAll]
    rcases List.mem_cons.mp hd with e | e
    · subst e; omega
    · have := ih e; omega
end Zb

/-! small data: what repr shows of it is short -/
namespace Zb
open PySem PySem.Spec PyProof.Rows L2
mutual
/-- numbers of few figures, texts that are shown by few signs, no dict but the empty one -/
def okD : PyData → Bool
  | .none => true
  | .bool _ => true
  | .int i => decide (i.natAbs < 1000000)
  | .str x => decide ((reprText x).length ≤ 14)
  | .list ds => okA ds
  | .tuple ds => okA ds
  | .dict kvs => kvs.isEmpty
def okA : List PyData → Bool
  | [] => true
  | d :: ds => okD d && okA ds
end
mutual
theorem okD_showable : ∀ d : PyData, okD d = true → d.showable = true
  | .none, _ => rfl
  | .bool _, _ => rfl
  | .str _, _ => rfl
  | .int i, h => by
    have h : i.natAbs < 1000000 := by simpa only [okD, decide_eq_true_eq] using h
    have : i.natAbs.log2 < 1920 := by
      by_cases h0 : i.natAbs = 0
      · rw [h0]; decide
      · refine (Nat.log2_lt h0).mpr (Nat.lt_of_lt_of_le (Nat.lt_trans h (show 1000000 < 2 ^ 20 by decide)) (Nat.pow_le_pow_right (by decide) (by decide)))
    simpa only [PyData.showable, decide_eq_true_eq] using this
  | .list ds, h => by
    simp only [PyData.showable]
    exact okA_showable ds (by simpa only [okD] using h)
  | .tuple ds, h => by
    simp only [PyData.showable]
    exact okA_showable ds (by simpa only [okD] using h)
  | .dict [], _ => rfl
  | .dict (_ :: _), h => by simp [okD] at h
theorem okA_showable : ∀ ds : List PyData, okA ds = true → PyData.showableAll ds = true
  | [], _ => rfl
  | d :: ds, h => by
    simp only [okA, Bool.and_eq_true] at h
    simp only [PyData.showableAll, okD_showable d h.1, okA_showable ds h.2, Bool.and_self]
end
mutual
theorem okD_shown : ∀ d : PyData, okD d = true → d.shown.length + 2 ≤ 16 * szD d
  | .none, _ => by
    have e : (PyData.shown .none).length = 4 := rfl
    simp only [szD]; omega
  | .bool b, _ => by
    have e : (PyData.shown (.bool b)).length ≤ 5 := by cases b <;> decide
    simp only [szD]; omega
  | .str x, h => by
    have h : (reprText x).length ≤ 14 := by simpa only [okD, decide_eq_true_eq] using h
    simp only [szD, PyData.shown]; omega
  | .int i, h => by
    have h : i.natAbs < 10 ^ 6 := by simpa only [okD, decide_eq_true_eq] using h
    have e := int_text_length_le10 (k := 6) (by decide) h
    simp only [szD, PyData.shown]
    have e2 : (Str.ofString (toString i)).length = (toString i).length := PySem.ofString_length _
    show (Str.ofString (toString i)).length + 2 ≤ _
    omega
  | .list ds, h => by
    have h1 := okA_shown ds (by simpa only [okD] using h)
    have h2 := listText_len_le (PyData.shownAll ds)
    have h3 := PyData.shownAll_length ds
    simp only [PyData.shown, szD]
    omega
  | .tuple ds, h => by
    have h1 := okA_shown ds (by simpa only [okD] using h)
    have h2 := tupleText_len_le (PyData.shownAll ds)
    have h3 := PyData.shownAll_length ds
    simp only [PyData.shown, szD]
    omega
  | .dict [], _ => by
    have e : (PyData.shown (.dict [])).length = 2 := by decide +kernel
    simp only [szD]; omega
  | .dict (_ :: _), h => by simp [okD] at h
theorem okA_shown : ∀ ds : List PyData, okA ds = true → ((PyData.shownAll ds).map (·.length)).sum + 2 * ds.length ≤ 16 * szA ds
  | [], _ => by simp [PyData.shownAll, szA]
  | d :: ds, h => by
    simp only [okA, Bool.and_eq_true] at h
    have h1 := okD_shown d h.1
    have h2 := okA_shown ds h.2
    simp only [PyData.shownAll, szA, List.map_cons, List.sum_cons, List.length_cons]
    omega
end
/-- data that may be handed round: d is v, small, with no dict but itself -/
structure Sd (H : Hp) (v : V) (d : PyData) : Prop where
  rn : Rn H v d
  hd : d.hasDict = true → d = .dict []
  ok : okD d = true
  sz : szD d ≤ 999999
  dp : d.depth ≤ 59
theorem Sd.ex {H H' : Hp} {v : V} {d : PyData} (h : Sd H v d) (e : Ex H H') : Sd H' v d := ⟨h.rn.ex e, h.hd, h.ok, h.sz, h.dp⟩
/-- v is small data of n things, k deep -/
def Sm (H : Hp) (v : V) (n k : Nat) : Prop := ∃ d, Rn H v d ∧ d.hasDict = false ∧ okD d = true ∧ szD d ≤ n ∧ d.depth ≤ k
section
variable {H H' : Hp} {v : V} {n k m : Nat}
theorem Sm.up {n' k' : Nat} (h : Sm H v n k) (h1 : n ≤ n') (h2 : k ≤ k') : Sm H v n' k' := by
  obtain ⟨d, a, b, c, e, f⟩ := h
  exact ⟨d, a, b, c, by omega, by omega⟩
theorem Sm.ex (h : Sm H v n k) (e : Ex H H') : Sm H' v n k := by
  obtain ⟨d, a, b⟩ := h
  exact ⟨d, a.ex e, b⟩
theorem Sm.sd (h : Sm H v n k) (h1 : n ≤ 999999) (h2 : k ≤ 59) : ∃ d, Sd H v d := by
  obtain ⟨d, a, b, c, e, f⟩ := h
  exact ⟨d, a, (fun z => by rw [b] at z; cases z), c, by omega, by omega⟩
theorem Sm.non : Sm H .non 1 0 := ⟨_, .non, rfl, rfl, by simp [szD], by simp [PyData.depth]⟩
theorem Sm.bl (b : Bool) : Sm H (.bl b) 1 0 := ⟨_, .bl b, rfl, rfl, by simp [szD], by simp [PyData.depth]⟩
theorem Sm.int {i : Int} (h : i.natAbs < 1000000) : Sm H (.int i) 1 0 := ⟨_, .int i, rfl, by simpa only [okD, decide_eq_true_eq] using h, by simp [szD], by simp [PyData.depth]⟩
theorem Sm.str {x : Str} (h : (reprText x).length ≤ 14) : Sm H (.str x) 1 0 := ⟨_, .str x, rfl, by simpa only [okD, decide_eq_true_eq] using h, by simp [szD], by simp [PyData.depth]⟩
/-- what is no list stays -/
theorem Sm.atom (h : Sm H v n 0) : Sm H' v n 0 := by
  obtain ⟨d, r, a, b, c, f⟩ := h
  cases r with
  | non => exact ⟨_, .non, a, b, c, f⟩
  | bl x => exact ⟨_, .bl x, a, b, c, f⟩
  | int x => exact ⟨_, .int x, a, b, c, f⟩
  | str x => exact ⟨_, .str x, a, b, c, f⟩
  | lst _ k => simp only [PyData.depth] at f; omega
  | tup _ k => simp only [PyData.depth] at f; omega
  | dk _ => simp [PyData.hasDict] at a
theorem Sm.all : ∀ {xs : List V}, (∀ x ∈ xs, Sm H x n k) → ∃ ds, RnA H xs ds ∧ PyData.hasDictAll ds = false ∧ okA ds = true ∧ szA ds ≤ xs.length * n ∧ PyData.depthAll ds ≤ k
  | [], _ => ⟨[], .nil, rfl, rfl, by simp [szA], by simp [PyData.depthAll]⟩
  | x :: xs, h => by
    obtain ⟨ds, a, b, c, e, f⟩ := Sm.all (xs := xs) fun y hy => h y (List.mem_cons_of_mem _ hy)
    obtain ⟨d, a1, b1, c1, e1, f1⟩ := h x List.mem_cons_self
    refine ⟨d :: ds, .cons a1 a, by simp [PyData.hasDictAll, b, b1], by simp [okA, c, c1], ?_, ?_⟩
    · simp only [szA, List.length_cons, Nat.succ_mul]; omega
    · simp only [PyData.depthAll]; omega
theorem Sm.lst {a : Addr} {xs : List V} (h : H a = some (.lst xs)) (hx : ∀ x ∈ xs, Sm H x n k) (hm : xs.length ≤ m) : Sm H (.ref a) (1 + m * n) (k + 1) := by
  obtain ⟨ds, h1, h2, h3, h4, h5⟩ := Sm.all hx
  refine ⟨.list ds, .lst h h1, by simpa only [PyData.hasDict] using h2, by simpa only [okD] using h3, ?_, by simp only [PyData.depth]; omega⟩
  have := Nat.mul_le_mul_right n hm
  simp only [szD]; omega
theorem Sm.tup {a : Addr} {xs : List V} (h : H a = some (.tup xs)) (hx : ∀ x ∈ xs, Sm H x n k) (hm : xs.length ≤ m) : Sm H (.ref a) (1 + m * n) (k + 1) := by
  obtain ⟨ds, h1, h2, h3, h4, h5⟩ := Sm.all hx
  refine ⟨.tuple ds, .tup h h1, by simpa only [PyData.hasDict] using h2, by simpa only [okD] using h3, ?_, by simp only [PyData.depth]; omega⟩
  have := Nat.mul_le_mul_right n hm
  simp only [szD]; omega
theorem Sd.dk {a : Addr} (h : H a = some (.dK [])) : Sd H (.ref a) (.dict []) := ⟨.dk h, fun _ => rfl, rfl, by simp [szD], by simp [PyData.depth, PyData.depthKv]⟩
theorem Sm.mem {xs : List V} (h : ∀ x ∈ xs, Sm H x n k) (hv : v ∈ xs) : Sm H v n k := h v hv
theorem Sm.cons {xs : List V} (h : Sm H v n k) (t : ∀ x ∈ xs, Sm H x n k) : ∀ x ∈ v :: xs, Sm H x n k := fun x hx => by
  rcases List.mem_cons.mp hx with e | e
  · rw [e]; exact h
  · exact t x e
theorem Sm.nil : ∀ x ∈ ([] : List V), Sm H x n k := fun _ h => nomatch h
theorem Sm.app {xs ys : List V} (h : ∀ x ∈ xs, Sm H x n k) (t : ∀ x ∈ ys, Sm H x n k) : ∀ x ∈ xs ++ ys, Sm H x n k := fun x hx => by
  rcases List.mem_append.mp hx with e | e
  · exact h x e
  · exact t x e
theorem Sm.exA {xs : List V} (h : ∀ x ∈ xs, Sm H x n k) (e : Ex H H') : ∀ x ∈ xs, Sm H' x n k := fun x hx => (h x hx).ex e
theorem Sm.upA {xs : List V} {n' k' : Nat} (h : ∀ x ∈ xs, Sm H x n k) (h1 : n ≤ n') (h2 : k ≤ k') : ∀ x ∈ xs, Sm H x n' k' := fun x hx => (h x hx).up h1 h2
variable {K : PySem.W.Frag} {Q : VK}
theorem st_repr {d : PyData} (h : Sd H v d) (q : Q (.str d.shown) H) : rRepr [v] H Q := by
  refine ⟨v, d, rfl, h.rn.rq, okD_showable d h.ok, Nat.le_succ_of_le h.dp, ?_, q⟩
  have h1 := okD_shown d h.ok
  have h2 := h.sz
  omega
end
/-! ### cuts of mapped lists -/
def cutL {α : Type} (xs : List α) (lo hi : Option Int) : List α := (xs.drop (HT.sIx xs.length 0 lo)).take (HT.sIx xs.length xs.length hi - HT.sIx xs.length 0 lo)
theorem cutV_map {α : Type} (f : α → V) (xs : List α) (lo hi : Option Int) : cutV (xs.map f) lo hi = (cutL xs lo hi).map f := by
  unfold cutV cutL
  rw [List.map_take, List.map_drop, List.length_map]
theorem cutL_sub {α : Type} (xs : List α) (lo hi : Option Int) : (cutL xs lo hi).Sublist xs := (List.take_sublist _ _).trans (List.drop_sublist _ _)
theorem cutL_len {α : Type} (xs : List α) (lo hi : Option Int) : (cutL xs lo hi).length ≤ xs.length := (cutL_sub xs lo hi).length_le
theorem cutV_mem {xs : List V} {lo hi : Option Int} {x : V} (h : x ∈ cutV xs lo hi) : x ∈ xs := by
  have h2 := cutV_map id xs lo hi
  rw [List.map_id, List.map_id] at h2
  rw [h2] at h
  exact (cutL_sub xs lo hi).subset h
/-! ### lists of lists of pairs -/
abbrev HZ := Addr × List ZP
abbrev hV (g : HZ) : V := .ref g.1
/-- a few small pairs, each as its tuple -/
structure SP (H : Hp) (zs : List ZP) : Prop where
  tp : TP H zs
  few : zs.length ≤ 2305
  small : ∀ z ∈ zs, z.2.1 ≤ 1000 ∧ z.2.2 ≤ 1000
def HP (H : Hp) (gs : List HZ) : Prop := ∀ g ∈ gs, H g.1 = some (.lst (g.2.map zV)) ∧ SP H g.2
section
variable {H H' : Hp} {gs : List HZ} {zs ys : List ZP}
theorem SP.ex (h : SP H zs) (e : Ex H H') : SP H' zs := ⟨h.tp.ex e, h.few, h.small⟩
theorem SP.frp {p : Addr} (h : SP H zs) (hp : Purse H p) (e : FrP p H H') : SP H' zs := ⟨h.tp.frp hp e, h.few, h.small⟩
theorem SP.sub (h : SP H zs) (e : ys.Sublist zs) : SP H ys := ⟨h.tp.sub fun z hz => e.subset hz, Nat.le_trans e.length_le h.few, fun z hz => h.small z (e.subset hz)⟩
theorem SP.perm (h : SP H zs) (e : ys.Perm zs) : SP H ys := ⟨h.tp.perm e, by rw [e.length_eq]; exact h.few, fun z hz => h.small z (e.mem_iff.mp hz)⟩
theorem SP.up {D : Addr} {xs : List V} {u : HO} (h : SP H zs) (hD : H D = some (.lst xs)) : SP (upd H D u) zs := ⟨h.tp.up hD, h.few, h.small⟩
theorem SP.sm (h : SP H zs) : ∀ x ∈ zs.map zV, Sm H x 3 2 := fun x hx => by
  obtain ⟨z, hz, rfl⟩ := List.mem_map.mp hx
  have := h.small z hz
  exact (Sm.tup (n := 1) (k := 1) (m := 2) (h.tp z hz) (Sm.cons ((Sm.int (by omega)).up (by decide) (by decide)) (Sm.cons ((Sm.int (by omega)).up (by decide) (by decide)) Sm.nil)) (Nat.le_refl _))
theorem HP.ex (h : HP H gs) (e : Ex H H') : HP H' gs := fun g hg => ⟨e.get (h g hg).1, (h g hg).2.ex e⟩
theorem HP.frp {p : Addr} (h : HP H gs) (hp : Purse H p) (e : FrP p H H') : HP H' gs := fun g hg => ⟨e.get (zs_ne_purse (h g hg).1 hp) (h g hg).1, (h g hg).2.frp hp e⟩
theorem HP.sub {fs : List HZ} (h : HP H gs) (e : ∀ g ∈ fs, g ∈ gs) : HP H fs := fun g hg => h g (e g hg)
theorem HP.upQ {q : Addr} {xs : List V} {u : HO} (h : HP H gs) (hq : H q = some (.lst xs)) (n : ∀ g ∈ gs, g.1 ≠ q) : HP (upd H q u) gs := fun g hg => ⟨by rw [upd_ne (n g hg)]; exact (h g hg).1, (h g hg).2.up hq⟩
theorem HP.sm1 {g : HZ} (h : HP H gs) (hg : g ∈ gs) : Sm H (hV g) 6916 3 := by
  obtain ⟨h1, h2⟩ := h g hg
  exact Sm.lst (m := 2305) h1 h2.sm (by rw [List.length_map]; exact h2.few)
theorem HP.sm (h : HP H gs) : ∀ x ∈ gs.map hV, Sm H x 6916 3 := fun x hx => by
  obtain ⟨g, hg, rfl⟩ := List.mem_map.mp hx
  exact h.sm1 hg
/-- one of the lists changes -/
theorem HP.set {g : HZ} {i : Nat} (h : HP H gs) (nd : (gs.map (·.1)).Nodup) (hg : gs[i]? = some g) (hz : SP H zs) : HP (upd H g.1 (.lst (zs.map zV))) (gs.set i (g.1, zs)) := by
  have hgm := List.mem_of_getElem? hg
  have h1 := (h g hgm).1
  intro f hf
  obtain ⟨j, hj⟩ := List.getElem?_of_mem hf
  have hi : i < gs.length := (List.getElem?_eq_some_iff.mp hg).1
  by_cases e : j = i
  · subst e
    rw [List.getElem?_set_self hi] at hj
    cases hj
    exact ⟨upd_same, hz.up h1⟩
  · rw [List.getElem?_set_ne (Ne.symm e)] at hj
    have hfm := List.mem_of_getElem? hj
    have ne : f.1 ≠ g.1 := fun z => e (nd_ix (x := f.1) nd (by rw [List.getElem?_map, hj]; rfl) (by rw [List.getElem?_map, hg]; exact congrArg some z.symm))
    exact ⟨by rw [upd_ne ne]; exact (h f hfm).1, (h f hfm).2.up h1⟩
theorem hz_set_map {g : HZ} {i : Nat} (hg : gs[i]? = some g) : (gs.set i (g.1, zs)).map hV = gs.map hV ∧ (gs.set i (g.1, zs)).map (·.1) = gs.map (·.1) := by
  constructor
  · apply List.ext_getElem?
    intro j
    rw [List.getElem?_map, List.getElem?_map]
    by_cases e : j = i
    · subst e
      rw [List.getElem?_set_self (List.getElem?_eq_some_iff.mp hg).1, hg]
      rfl
    · rw [List.getElem?_set_ne (Ne.symm e)]
  · apply List.ext_getElem?
    intro j
    rw [List.getElem?_map, List.getElem?_map]
    by_cases e : j = i
    · subst e
      rw [List.getElem?_set_self (List.getElem?_eq_some_iff.mp hg).1, hg]
      rfl
    · rw [List.getElem?_set_ne (Ne.symm e)]
def encH (g : HZ) : PyData := .list (g.2.map fun z => encQ z.2)
theorem HP.rn {a : Addr} (h : HP H gs) (ha : H a = some (.lst (gs.map hV))) : Rn H (.ref a) (.list (gs.map encH)) := .lst ha (rnA_map fun g hg => (h g hg).2.tp.rnL (h g hg).1)
theorem HP.rp {a : Addr} (h : HP H gs) (ha : H a = some (.lst (gs.map hV))) : Rp H (.ref a) (.list (gs.map encH)) := .lst (lst_of ha) (rpA_map fun g hg => (h g hg).2.tp.rpL (h g hg).1)
theorem encH_depth (g : HZ) : (encH g).depth ≤ 3 := by
  have : PyData.depthAll (g.2.map fun z => encQ z.2) ≤ 2 := depth_map fun z _ => encQ_depth z.2
  simp only [encH, PyData.depth]
  omega
theorem gs_depth (gs : List HZ) : (PyData.list (gs.map encH)).depth ≤ 4 := by
  have : PyData.depthAll (gs.map encH) ≤ 3 := depth_map fun g _ => encH_depth g
  simp only [PyData.depth]
  omega
theorem okA_of {ds : List PyData} (h : ∀ d ∈ ds, okD d = true) : okA ds = true := by
  induction ds with
  | nil => rfl
  | cons d ds ih => simp only [okA, h d List.mem_cons_self, ih fun x hx => h x (List.mem_cons_of_mem _ hx), Bool.and_self]
theorem szA_le {ds : List PyData} {n : Nat} (h : ∀ d ∈ ds, szD d ≤ n) : szA ds ≤ ds.length * n := by
  induction ds with
  | nil => simp [szA]
  | cons d ds ih =>
    have h1 := h d List.mem_cons_self
    have h2 := ih fun x hx => h x (List.mem_cons_of_mem _ hx)
    simp only [szA, List.length_cons, Nat.succ_mul]
    omega
theorem hasDictA_of {ds : List PyData} (h : ∀ d ∈ ds, d.hasDict = false) : PyData.hasDictAll ds = false := by
  induction ds with
  | nil => rfl
  | cons d ds ih => simp only [PyData.hasDictAll, h d List.mem_cons_self, ih fun x hx => h x (List.mem_cons_of_mem _ hx), Bool.or_self]
theorem HP.sd {a : Addr} (h : HP H gs) (ha : H a = some (.lst (gs.map hV))) (hl : gs.length ≤ 100) : Sd H (.ref a) (.list (gs.map encH)) := by
  refine ⟨h.rn ha, fun z => ?_, ?_, ?_, Nat.le_trans (gs_depth gs) (by decide)⟩
  · have : PyData.hasDictAll (gs.map encH) = false := hasDictA_of fun d hd => by
      obtain ⟨g, hg, rfl⟩ := List.mem_map.mp hd
      exact hasDictA_of fun d hd => by
        obtain ⟨z, hz, rfl⟩ := List.mem_map.mp hd
        rfl
    simp only [PyData.hasDict, this] at z
    cases z
  · refine okA_of fun d hd => ?_
    obtain ⟨g, hg, rfl⟩ := List.mem_map.mp hd
    refine okA_of fun d hd => ?_
    obtain ⟨z, hz, rfl⟩ := List.mem_map.mp hd
    have := (h g hg).2.small z hz
    simp only [encQ, okD, okA, Bool.and_true, Bool.and_eq_true, decide_eq_true_eq]
    omega
  · have h1 : szA (gs.map encH) ≤ (gs.map encH).length * 6916 := szA_le fun d hd => by
      obtain ⟨g, hg, rfl⟩ := List.mem_map.mp hd
      have h2 : szA (g.2.map fun z => encQ z.2) ≤ (g.2.map fun z => encQ z.2).length * 3 := szA_le fun d hd => by
        obtain ⟨z, hz, rfl⟩ := List.mem_map.mp hd
        simp [encQ, szD, szA]
      have h3 := (h g hg).2.few
      rw [List.length_map] at h2
      simp only [encH, szD]
      omega
    rw [List.length_map] at h1
    simp only [szD]
    omega
theorem eqv_gs_nil (gs : List HZ) : PyData.eqv (.list (gs.map encH)) (.list []) = decide (gs = []) := eqv_nil_r gs
variable {K : PySem.W.Frag} {Q : VK}
theorem st_ixH {D : Addr} {i : Int} (h1 : H D = some (.lst (gs.map hV))) (h0 : 0 ≤ i) (hi : i < gs.length) (h : ∀ g, gs[i.toNat]? = some g → g ∈ gs → Q (hV g) H) : rIxU K (.ref D) (.int i) H Q := by
  obtain ⟨g, hg⟩ : ∃ g, gs[i.toNat]? = some g := ⟨gs[i.toNat]'(by omega), List.getElem?_eq_getElem _⟩
  refine st_ixL h1 (v := hV g) ?_ (h g hg (List.mem_of_getElem? hg))
  have := at_mapN (f := hV) hg
  rwa [show ((i.toNat : Nat) : Int) = i by omega] at this
theorem st_ixP {D : Addr} {i : Int} (h1 : H D = some (.lst (zs.map zV))) (h0 : 0 ≤ i) (hi : i < zs.length) (h : ∀ z, zs[i.toNat]? = some z → z ∈ zs → Q (zV z) H) : rIxU K (.ref D) (.int i) H Q := by
  obtain ⟨z, hz⟩ : ∃ z, zs[i.toNat]? = some z := ⟨zs[i.toNat]'(by omega), List.getElem?_eq_getElem _⟩
  refine st_ixL h1 (v := zV z) ?_ (h z hz (List.mem_of_getElem? hz))
  have := at_mapN (f := zV) hz
  rwa [show ((i.toNat : Nat) : Int) = i by omega] at this
/-- new lists with the pairs of others -/
theorem hp_copy {ts : List Addr} (f : List ZP → List ZP) (h : ObjsAt H' ts (gs.map fun g => .lst ((f g.2).map zV))) (hs : ∀ g ∈ gs, SP H' (f g.2)) : ∃ fs : List HZ, fs.map hV = ts.map V.ref ∧ fs.map (·.1) = ts ∧ fs.map (·.2) = gs.map (fun g => f g.2) ∧ HP H' fs := by
  have hl := h.len
  rw [List.length_map] at hl
  refine ⟨ts.zip (gs.map fun g => f g.2), ?_, List.map_fst_zip (by rw [List.length_map]; omega), List.map_snd_zip (by rw [List.length_map]; omega), ?_⟩
  · have : (ts.zip (gs.map fun g => f g.2)).map Prod.fst = ts := List.map_fst_zip (by rw [List.length_map]; omega)
    rw [show (hV : HZ → V) = V.ref ∘ Prod.fst from rfl, ← List.map_map, this]
  · intro g hg
    obtain ⟨j, hj⟩ := List.getElem?_of_mem hg
    rw [List.getElem?_zip_eq_some] at hj
    obtain ⟨j1, j2⟩ := hj
    rw [List.getElem?_map] at j2
    cases hq : gs[j]? with
    | none => rw [hq] at j2; cases j2
    | some z =>
      rw [hq] at j2
      have e : f z.2 = g.2 := Option.some.inj j2
      have := h.at j _ _ j1 (by rw [List.getElem?_map, hq]; rfl)
      rw [this, ← e]
      exact ⟨rfl, hs z (List.mem_of_getElem? hq)⟩
end
theorem Sm.cut {H : Hp} {xs : List V} {n k : Nat} {lo hi : Option Int} (h : ∀ x ∈ xs, Sm H x n k) : ∀ x ∈ cutV xs lo hi, Sm H x n k := fun x hx => h x (cutV_mem hx)
/-- any small data -/
def SdE (H : Hp) (v : V) : Prop := ∃ d, Sd H v d
theorem SdE.of {H : Hp} {v : V} {n k : Nat} (h : Sm H v n k) (h1 : n ≤ 999999) (h2 : k ≤ 59) : SdE H v := h.sd h1 h2
theorem SdE.ex {H H' : Hp} {v : V} (h : SdE H v) (e : Ex H H') : SdE H' v := by
  obtain ⟨d, h⟩ := h
  exact ⟨d, h.ex e⟩
theorem allE_nil {P : V → Prop} : ∀ x ∈ ([] : List V), P x := fun _ h => nomatch h
theorem allE_cons {P : V → Prop} {y : V} {ys : List V} (h : P y) (k : ∀ x ∈ ys, P x) : ∀ x ∈ y :: ys, P x := fun x hx => by
  rcases List.mem_cons.mp hx with e | e
  · rw [e]; exact h
  · exact k x e
theorem allE_app {P : V → Prop} {xs ys : List V} (h : ∀ x ∈ xs, P x) (k : ∀ x ∈ ys, P x) : ∀ x ∈ xs ++ ys, P x := fun x hx => by
  rcases List.mem_append.mp hx with e | e
  · exact h x e
  · exact k x e
mutual
/-- a thing is one data -/
theorem Rn.det {H : Hp} : ∀ {v : V} {d d' : PyData}, Rn H v d → Rn H v d' → d = d'
  | _, _, _, .non, .non => rfl
  | _, _, _, .bl _, .bl _ => rfl
  | _, _, _, .int _, .int _ => rfl
  | _, _, _, .str _, .str _ => rfl
  | _, _, _, .lst h k, .lst h' k' => by
    rw [h] at h'
    cases h'
    rw [RnA.det k k']
  | _, _, _, .tup h k, .tup h' k' => by
    rw [h] at h'
    cases h'
    rw [RnA.det k k']
  | _, _, _, .dk _, .dk _ => rfl
  | _, _, _, .lst h _, .tup h' _ => by rw [h] at h'; cases h'
  | _, _, _, .lst h _, .dk h' => by rw [h] at h'; cases h'
  | _, _, _, .tup h _, .lst h' _ => by rw [h] at h'; cases h'
  | _, _, _, .tup h _, .dk h' => by rw [h] at h'; cases h'
  | _, _, _, .dk h, .lst h' _ => by rw [h] at h'; cases h'
  | _, _, _, .dk h, .tup h' _ => by rw [h] at h'; cases h'
theorem RnA.det {H : Hp} : ∀ {vs : List V} {ds ds' : List PyData}, RnA H vs ds → RnA H vs ds' → ds = ds'
  | _, _, _, .nil, .nil => rfl
  | _, _, _, .cons h k, .cons h' k' => by rw [Rn.det h h', RnA.det k k']
end
theorem SdE.sd {H : Hp} {v : V} {d : PyData} (h : SdE H v) (r : Rn H v d) : Sd H v d := by
  obtain ⟨d', h⟩ := h
  rw [r.det h.rn]
  exact h
/-! ### sizes summed up -/
def SmA (H : Hp) (xs : List V) (n k : Nat) : Prop := ∃ ds, RnA H xs ds ∧ PyData.hasDictAll ds = false ∧ okA ds = true ∧ szA ds ≤ n ∧ PyData.depthAll ds ≤ k
section
variable {H : Hp} {v : V} {xs ys : List V} {n m k : Nat}
theorem SmA.of (h : ∀ x ∈ xs, Sm H x n k) (hm : xs.length ≤ m) : SmA H xs (m * n) k := by
  obtain ⟨ds, a, b, c, d, e⟩ := Sm.all h
  exact ⟨ds, a, b, c, Nat.le_trans d (Nat.mul_le_mul_right n hm), e⟩
theorem SmA.up {n' k' : Nat} (h : SmA H xs n k) (h1 : n ≤ n') (h2 : k ≤ k') : SmA H xs n' k' := by
  obtain ⟨ds, a, b, c, d, e⟩ := h
  exact ⟨ds, a, b, c, by omega, by omega⟩
theorem SmA.nil : SmA H [] 0 k := ⟨[], .nil, rfl, rfl, by simp [szA], by simp [PyData.depthAll]⟩
theorem SmA.cons (h : Sm H v n k) (t : SmA H xs m k) : SmA H (v :: xs) (n + m) k := by
  obtain ⟨ds, a, b, c, d, e⟩ := t
  obtain ⟨x, a1, b1, c1, d1, e1⟩ := h
  refine ⟨x :: ds, .cons a1 a, by simp [PyData.hasDictAll, b, b1], by simp [okA, c, c1], ?_, ?_⟩
  · simp only [szA]; omega
  · simp only [PyData.depthAll]; omega
theorem SmA.app : ∀ {xs : List V} {n : Nat}, SmA H xs n k → SmA H ys m k → SmA H (xs ++ ys) (n + m) k
  | [], n, _, t => t.up (by omega) (Nat.le_refl _)
  | x :: xs, n, ⟨ds, a, b, c, d, e⟩, t => by
    cases a with
    | @cons _ _ d0 ds0 a1 a2 =>
      simp only [PyData.hasDictAll, Bool.or_eq_false_iff] at b
      simp only [okA, Bool.and_eq_true] at c
      simp only [szA] at d
      simp only [PyData.depthAll] at e
      have h := SmA.app (xs := xs) ⟨ds0, a2, b.2, c.2, Nat.le_refl _, by omega⟩ t
      exact (SmA.cons (n := szD d0) ⟨d0, a1, b.1, c.1, Nat.le_refl _, by omega⟩ h).up (by omega) (Nat.le_refl _)
theorem SmA.lst {a : Addr} (h : H a = some (.lst xs)) (t : SmA H xs n k) : Sm H (.ref a) (1 + n) (k + 1) := by
  obtain ⟨ds, h1, h2, h3, h4, h5⟩ := t
  exact ⟨.list ds, .lst h h1, by simpa only [PyData.hasDict] using h2, by simpa only [okD] using h3, by simp only [szD]; omega, by simp only [PyData.depth]; omega⟩
theorem SmA.tup {a : Addr} (h : H a = some (.tup xs)) (t : SmA H xs n k) : Sm H (.ref a) (1 + n) (k + 1) := by
  obtain ⟨ds, h1, h2, h3, h4, h5⟩ := t
  exact ⟨.tuple ds, .tup h h1, by simpa only [PyData.hasDict] using h2, by simpa only [okD] using h3, by simp only [szD]; omega, by simp only [PyData.depth]; omega⟩
theorem ObjsAt.mem {ts : List Addr} {os : List HO} (h : ObjsAt H ts os) {a : Addr} (ha : a ∈ ts) : ∃ o ∈ os, H a = some o := by
  obtain ⟨j, hj⟩ := List.getElem?_of_mem ha
  have hl := h.len
  have hjl := (List.getElem?_eq_some_iff.mp hj).1
  obtain ⟨o, ho⟩ : ∃ o, os[j]? = some o := ⟨os[j]'(by omega), List.getElem?_eq_getElem _⟩
  exact ⟨o, List.mem_of_getElem? ho, h.at j a o hj ho⟩
theorem SP.smA {zs : List ZP} (h : SP H zs) (hm : zs.length ≤ m) : SmA H (zs.map zV) (m * 3) 2 := SmA.of h.sm (by rw [List.length_map]; exact hm)
theorem HP.smA {gs : List HZ} (h : HP H gs) (hm : gs.length ≤ m) : SmA H (gs.map hV) (m * 6916) 3 := SmA.of h.sm (by rw [List.length_map]; exact hm)
theorem SmA.cut {lo hi : Option Int} (h : ∀ x ∈ xs, Sm H x n k) (hm : xs.length ≤ m) : SmA H (cutV xs lo hi) (m * n) k := SmA.of (Sm.cut h) (Nat.le_trans (cutV_length _ _ _) hm)
end
theorem eqv_gs (gs fs : List HZ) : PyData.eqv (.list (gs.map encH)) (.list (fs.map encH)) = decide (gs.map (fun g => g.2.map (·.2)) = fs.map fun g => g.2.map (·.2)) := by
  have h := eqv_list (enc := fun l : List (Nat × Nat) => PyData.list (l.map encQ)) (eqv_list eqv_encQ) (gs.map fun g => g.2.map (·.2)) (fs.map fun g => g.2.map (·.2))
  have e : ∀ gs : List HZ, gs.map encH = (gs.map fun g => g.2.map (·.2)).map fun l : List (Nat × Nat) => PyData.list (l.map encQ) := fun gs => by
    rw [List.map_map]
    exact List.map_congr_left fun g _ => by simp only [encH, Function.comp, List.map_map]; rfl
  rw [e, e]
  exact h
/-! ### where one list q changes -/
theorem SP.frq {H H' : Hp} {q : Addr} {zs : List ZP} {xs : List V} (h : SP H zs) (hq : H q = some (.lst xs)) (e : FrP q H H') : SP H' zs := ⟨fun z hz => e.get (fun y => by have := h.tp z hz; rw [y, hq] at this; cases this) (h.tp z hz), h.few, h.small⟩
theorem HP.frq {H H' : Hp} {q : Addr} {gs : List HZ} {xs : List V} (h : HP H gs) (hq : H q = some (.lst xs)) (n : ∀ g ∈ gs, g.1 ≠ q) (e : FrP q H H') : HP H' gs := fun g hg => ⟨e.get (n g hg) (h g hg).1, (h g hg).2.frq hq e⟩
theorem Purse.frq {H H' : Hp} {p q : Addr} (h : Purse H p) (n : p ≠ q) (e : FrP q H H') : Purse H' p := by
  obtain ⟨x, y, z, h⟩ := h
  exact ⟨x, y, z, e.get n h⟩
/-! ### where things of M change, none of them a tuple -/
theorem SP.frm {M : Addr → Prop} {H H' : Hp} {zs : List ZP} (h : SP H zs) (e : Fr M H H') (t : ∀ b xs, H b = some (.tup xs) → ¬ M b) : SP H' zs := ⟨fun z hz => e.get (t _ _ (h.tp z hz)) (h.tp z hz), h.few, h.small⟩
theorem HP.frm {M : Addr → Prop} {H H' : Hp} {gs : List HZ} (h : HP H gs) (e : Fr M H H') (n : ∀ g ∈ gs, ¬ M g.1) (t : ∀ b xs, H b = some (.tup xs) → ¬ M b) : HP H' gs := fun g hg => ⟨e.get (n g hg) (h g hg).1, (h g hg).2.frm e t⟩
theorem Ex.comp {M : Addr → Prop} {H0 H H' : Hp} (e0 : Ex H0 H) (e : Fr M H H') (n : ∀ b, M b → H0 b = none) : Ex H0 H' := fun b o _ q => e b o (fun m => by rw [n b m] at q; cases q) (e0 b o (fun z => z) q)
end Zb

/-! things that are shown; isinstance of several classes -/
namespace Zb
open PySem PySem.Spec PyProof.Rows L2
mutual
theorem Rq.ex {H H' : Hp} (e : Ex H H') : ∀ {v : V} {d : PyData}, Rq H v d → Rq H' v d
  | _, _, .non => .non
  | _, _, .bl b => .bl b
  | _, _, .int i => .int i
  | _, _, .str x => .str x
  | _, _, .lst h k => .lst (lstAt_ex e h) (RqA.ex e k)
  | _, _, .tup h k => .tup (tupAt_ex e h) (RqA.ex e k)
  | _, _, .dk h k => .dk (e.get h) (RqA.ex e k)
theorem RqA.ex {H H' : Hp} (e : Ex H H') : ∀ {vs : List V} {ds : List PyData}, RqA H vs ds → RqA H' vs ds
  | _, _, .nil => .nil
  | _, _, .cons h k => .cons (Rq.ex e h) (RqA.ex e k)
end
/-- v is d, and is shown by n signs at most, k deep -/
structure Sh (H : Hp) (v : V) (d : PyData) (n k : Nat) : Prop where
  rq : Rq H v d
  sw : d.showable = true
  dp : d.depth ≤ k
  sz : d.shown.length ≤ n
section
variable {H H' : Hp} {v : V} {d : PyData} {n k : Nat} {Q : VK}
theorem Sh.ex (h : Sh H v d n k) (e : Ex H H') : Sh H' v d n k := ⟨h.rq.ex e, h.sw, h.dp, h.sz⟩
theorem Sh.up {n' k' : Nat} (h : Sh H v d n k) (h1 : n ≤ n') (h2 : k ≤ k') : Sh H v d n' k' := ⟨h.rq, h.sw, by have := h.dp; omega, by have := h.sz; omega⟩
theorem Sd.sh (h : Sd H v d) : Sh H v d 16000000 59 := ⟨h.rn.rq, okD_showable d h.ok, h.dp, by
  have h1 := okD_shown d h.ok
  have h2 := h.sz
  omega⟩
theorem st_reprS (h : Sh H v d 16777216 60) (q : Q (.str d.shown) H) : rRepr [v] H Q := ⟨v, d, rfl, h.rq, h.sw, h.dp, h.sz, q⟩
theorem Sh.non : Sh H .non .none 4 0 := ⟨.non, rfl, by simp [PyData.depth], by decide⟩
theorem Sh.bl (b : Bool) : Sh H (.bl b) (.bool b) 5 0 := ⟨.bl b, rfl, by simp [PyData.depth], by cases b <;> decide⟩
theorem Sh.str {x : Str} (hx : ∀ c ∈ x.cps.toList, c < 16 ^ 8) : Sh H (.str x) (.str x) (10 * x.length + 2) 0 := ⟨.str x, rfl, by simp [PyData.depth], PySem.StrLaws.reprText_len x hx⟩
theorem Sh.int {i : Int} {m : Nat} (hm : 0 < m) (h : i.natAbs < 10 ^ m) (h2 : i.natAbs.log2 < 1920) : Sh H (.int i) (.int i) (m + 1) 0 := ⟨.int i, by simpa only [PyData.showable, decide_eq_true_eq] using h2, by simp [PyData.depth], by
  have e := int_text_length_le10 hm h
  have e2 : (Str.ofString (toString i)).length = (toString i).length := PySem.ofString_length _
  show (Str.ofString (toString i)).length ≤ _
  omega⟩
/-- rows of shown things -/
inductive ShA (H : Hp) (k : Nat) : List V → List PyData → Nat → Prop
  | nil : ShA H k [] [] 0
  | cons {v : V} {d : PyData} {n : Nat} {vs : List V} {ds : List PyData} {m : Nat} : Sh H v d n k → ShA H k vs ds m → ShA H k (v :: vs) (d :: ds) (n + 2 + m)
theorem ShA.all : ∀ {vs : List V} {ds : List PyData} {m : Nat}, ShA H k vs ds m → RqA H vs ds ∧ PyData.showableAll ds = true ∧ PyData.depthAll ds ≤ k ∧ ((PyData.shownAll ds).map (·.length)).sum + 2 * ds.length ≤ m
  | _, _, _, .nil => ⟨.nil, rfl, by simp [PyData.depthAll], by simp [PyData.shownAll]⟩
  | _, _, _, .cons h t => by
    obtain ⟨a, b, c, e⟩ := ShA.all t
    refine ⟨.cons h.rq a, by simp [PyData.showableAll, h.sw, b], ?_, ?_⟩
    · have := h.dp
      simp only [PyData.depthAll]; omega
    · have := h.sz
      simp only [PyData.shownAll, List.map_cons, List.sum_cons, List.length_cons]; omega
theorem ShA.lst {a : Addr} {xs : List V} {ds : List PyData} (h : H a = some (.lst xs)) (t : ShA H k xs ds n) : Sh H (.ref a) (.list ds) (n + 3) (k + 1) := by
  obtain ⟨r, s, dp, sz⟩ := t.all
  have h2 := listText_len_le (PyData.shownAll ds)
  have h3 := PyData.shownAll_length ds
  exact ⟨.lst (lst_of h) r, by simpa only [PyData.showable] using s, by simp only [PyData.depth]; omega, by simp only [PyData.shown]; omega⟩
theorem ShA.tup {a : Addr} {xs : List V} {ds : List PyData} (h : H a = some (.tup xs)) (t : ShA H k xs ds n) : Sh H (.ref a) (.tuple ds) (n + 3) (k + 1) := by
  obtain ⟨r, s, dp, sz⟩ := t.all
  have h2 := tupleText_len_le (PyData.shownAll ds)
  have h3 := PyData.shownAll_length ds
  exact ⟨.tup (tup_of h) r, by simpa only [PyData.showable] using s, by simp only [PyData.depth]; omega, by simp only [PyData.shown]; omega⟩
theorem ShA.map {α : Type} {val : α → V} {enc : α → PyData} {m : Nat} : ∀ {xs : List α}, (∀ x ∈ xs, Sh H (val x) (enc x) m k) → ShA H k (xs.map val) (xs.map enc) (xs.length * (m + 2))
  | [], _ => by rw [List.length_nil, Nat.zero_mul]; exact .nil
  | x :: xs, h => by
    have := ShA.cons (h x List.mem_cons_self) (ShA.map fun y hy => h y (List.mem_cons_of_mem _ hy))
    rw [List.length_cons, Nat.succ_mul]
    rwa [show xs.length * (m + 2) + (m + 2) = m + 2 + xs.length * (m + 2) by omega]
theorem Sh.dk0 {a : Addr} (h : H a = some (.dK [])) : Sh H (.ref a) (.dict []) 2 1 := ⟨.dk0 h, rfl, by simp [PyData.depth, PyData.depthKv], by decide +kernel⟩
/-- {x: v} by a text -/
theorem Sh.dk1 {a : Addr} {x : Str} (hx : ∀ c ∈ x.cps.toList, c < 16 ^ 8) (h : H a = some (.dK [(.inr x, v)])) (hv : Sh H v d n k) : Sh H (.ref a) (.dict [(.str x, d)]) (10 * x.length + n + 9) (k + 1) := by
  refine ⟨.dk h (.cons hv.rq .nil), by simp [PyData.showable, PyData.showableKv, hv.sw], ?_, ?_⟩
  · have := hv.dp
    simp only [PyData.depth, PyData.depthKv]; omega
  · have h1 := PySem.StrLaws.reprText_len x hx
    have h2 := hv.sz
    have h3 := dictText_len_le (PyData.shownKv [(.str x, d)])
    have e2 : ((PyData.str x).shown ++ ": " ++ d.shown).length = (PyData.str x).shown.length + 2 + d.shown.length := by
      rw [strLen_append, strLen_append]; rfl
    have e3 : (PyData.str x).shown.length = (reprText x).length := rfl
    simp only [PyData.shown, PyData.shownKv, List.map_cons, List.map_nil, List.sum_cons, List.sum_nil, List.length_cons, List.length_nil] at h3 e2 e3 ⊢
    omega
end
/-! ### isinstance of an exception, of several classes -/
def rIsXs (K : PySem.W.Frag) (a : Addr) (cls : Value) (d : Option Addr) : List V → Hp → VK → Prop := fun xs H Q => ∃ (tp : Addr) (cs : List V) (cvs : List Value) (b : Bool) (C dd : Addr) (fs : List (Str × V)), xs = [.ref a, .ref tp] ∧ H tp = some (.tup cs) ∧ (∀ us, Vals cs us → us = cvs) ∧ cls = .ref C ∧ XI K C ∧ d = some dd ∧ H dd = some (.xd fs) ∧ PySem.W.kitAny K (.ref C) cvs = some b ∧ Q (.bl b) H
theorem call_isXs {X : Cx} {a : Addr} {cls : Value} {d : Option Addr} {oe : Obj} {pn : List (Addr × Obj)} (hz : Zc cls d oe) (hf : ∃ vs, oe.data = .fields vs) : CallR (X.suite a ((a, oe) :: pn)) (.builtin "isinstance") (rIsXs X.K a cls d) := by
  intro pins s σ H xs us Q I r h
  obtain ⟨tp, cs, cvs, b, C, dd, fs, rfl, htp, hcv, ec, T, ed, ea, e, q⟩ := h
  subst ec
  subst ed
  cases r with
  | cons rx rr =>
    cases rr with
    | cons rt rr =>
      cases rr
      cases rx
      cases rt
      obtain ⟨its, rv, ⟨o, h1, h2, n, h3⟩, _⟩ := I.tuple (.inl (.inl htp))
      have := hcv its rv
      subst this
      obtain ⟨hget, _⟩ := I.pin (a, oe) (List.mem_append.mpr (.inl List.mem_cons_self))
      obtain ⟨vs, hv⟩ := hf
      have hx : ObjOk X.prog X.w H s.heap dd (.xd fs) := I.hok dd _ ea
      obtain ⟨mA, hns, hr⟩ := hx
      obtain ⟨od, ho, hl⟩ := lookIn_ns hns
      have J : PySem.W.InstAt s.heap a oe C (some od) := ⟨hget, hz.1, by unfold PySem.W.notCls; rw [hv] <;> rfl, by rw [hz.2]; exact ho⟩
      obtain ⟨oc, odd, oda, osl⟩ := o
      dsimp only at h2 h3
      subst h2 h3
      exact PySem.W.kia_tup (PySem.W.kitx_exc T.hc T.ga T.gg T.sb T.ca T.cn T.ct T.cm) I.kIn J h1 e (fun z => nomatch z) fun tk => ⟨.bl b, H, I.kept (t' := tk) fun _ _ z => z, rfl, q⟩
section
variable {K : PySem.W.Frag} {H : Hp} {Q : VK}
theorem st_isXs2 {a C C1 C2 dd tp : Addr} {fs : List (Str × V)} {b1 b2 : Bool} (T : XI K C) (h1 : H dd = some (.xd fs)) (ht : H tp = some (.tup [.ref C1, .ref C2])) (e1 : PySem.W.kitOne K (.ref C) (.ref C1) = some b1) (e2 : PySem.W.kitOne K (.ref C) (.ref C2) = some b2) (h : Q (.bl (b1 || b2)) H) : rIsXs K a (.ref C) (some dd) [.ref a, .ref tp] H Q := by
  refine ⟨tp, _, [.ref C1, .ref C2], b1 || b2, C, dd, fs, rfl, ht, fun us r => ?_, rfl, T, rfl, h1, ?_, h⟩
  · cases r with
    | cons r1 rr =>
      cases rr with
      | cons r2 rr =>
        cases rr
        cases r1
        cases r2
        rfl
  · unfold PySem.W.kitAny
    rw [e1]
    cases b1 with
    | true => rfl
    | false =>
      show PySem.W.kitAny K _ [.ref C2] = _
      unfold PySem.W.kitAny
      rw [e2]
      cases b2 <;> rfl
end
/-! ### lengths of texts -/
theorem fold_len' (z : Str) (n : Nat) (h : 1 < n) (hz : 0 < z.length) : (Txt.mul z (n : Int)).length = z.length * n := by
  unfold Txt.mul
  rw [if_neg (by omega)]
  have h2 : ¬ (((n : Int) == 1 || z.length == 0) = true) := by simp; omega
  rw [if_neg h2]
  show ((List.replicate (n : Int).toNat z.cps).foldl (· ++ ·) #[]).size = _
  rw [fold_len, Int.toNat_natCast, Nat.mul_comm]
  simp
  rfl
theorem cutS_to_len (z : Str) (n : Nat) (h : n ≤ z.length) : (cutS z none (some (n : Int))).length = n := by
  show ((z.cps.toList.drop _).take _).toArray.size = _
  rw [HT.sIx_none, HT.sIx_nat, List.size_toArray, List.length_take, List.length_drop, Array.length_toList]
  show min (min n z.cps.size - 0) (z.cps.size - 0) = n
  have : z.cps.size = z.length := rfl
  omega
theorem fold_mem {x : Nat} (a : Array Nat) : ∀ (n : Nat) (b : Array Nat), x ∈ ((List.replicate n a).foldl (· ++ ·) b).toList → x ∈ b.toList ∨ x ∈ a.toList
  | 0, b, h => .inl h
  | n + 1, b, h => by
    rw [List.replicate_succ, List.foldl_cons] at h
    rcases fold_mem a n _ h with h | h
    · rw [Array.toList_append] at h
      exact List.mem_append.mp h
    · exact .inr h
theorem mul_mem {x : Nat} {z : Str} {n : Int} (h : x ∈ (Txt.mul z n).cps.toList) : x ∈ z.cps.toList := by
  unfold Txt.mul at h
  split at h
  · cases h
  · split at h
    · exact h
    · rcases fold_mem _ _ _ h with h | h
      · cases h
      · exact h
/-! ### a heap without one thing -/
def hid (p : Addr) (H : Hp) : Hp := fun b => if b = p then none else H b
theorem hid_get {p a : Addr} {H : Hp} {o : HO} (h : H a = some o) (n : a ≠ p) : hid p H a = some o := by
  unfold hid
  rw [if_neg n]
  exact h
theorem hid_ex (p : Addr) (H : Hp) : Ex (hid p H) H := fun b o _ h => by
  unfold hid at h
  split at h
  · cases h
  · exact h
theorem hid_frp {p : Addr} {H H' : Hp} (e : FrP p H H') : Ex (hid p H) (hid p H') := fun b o _ h => by
  unfold hid at h ⊢
  by_cases n : b = p
  · rw [if_pos n] at h; cases h
  · rw [if_neg n] at h ⊢
    exact e b o n h
end Zb

/-! == of data, or of one empty dict with itself -/
namespace Zb
open PySem PySem.Spec PyProof.Rows L2
def rEqA (K : PySem.W.Frag) : R2 := fun x y H Q => rEqU x y H Q ∨ rEqV K x y H Q
theorem o_eqA {X : Cx} {K : PySem.W.Frag} (hu : X.A.units + 64 < cLine) (hK : X.K = K := by rfl) : OpR X (compareOp .Eq) (rEqA K) := by
  subst hK
  intro pins s σ H x y v u Q I rx ry h
  rcases h with h | h
  · exact o_eq hu pins s σ H x y v u Q I rx ry h
  · exact op_eqV hu pins s σ H x y v u Q I rx ry h
section
variable {K : PySem.W.Frag} {H : Hp} {Q : VK}
theorem st_eqA {x y : V} {d e : PyData} (h1 : Rp H x d) (h2 : Rp H y e) (hd : min d.depth e.depth ≤ 64) (h : Q (.bl (PyData.eqv d e)) H) : rEqA K x y H Q := .inl ⟨d, e, h1, h2, hd, h⟩
theorem st_eqA0 {a : Addr} (h1 : H a = some (.dK [])) (h : Q (.bl true) H) : rEqA K (.ref a) (.ref a) H Q :=
  .inr ⟨0, by decide, .inr ⟨a, a, [], [], rfl, rfl, h1, h1, rfl, fun _ h => (List.not_mem_nil h).elim⟩, h⟩
mutual
theorem eqv_self : ∀ d : PyData, d.hasDict = false → PyData.eqv d d = true
  | .none, _ => rfl
  | .bool b, _ => by simp [PyData.eqv]
  | .int i, _ => by simp [PyData.eqv]
  | .str x, _ => by simp [PyData.eqv]
  | .list ds, h => by
    simp only [PyData.eqv]
    exact eqvAll_self ds (by simpa only [PyData.hasDict] using h)
  | .tuple ds, h => by
    simp only [PyData.eqv]
    exact eqvAll_self ds (by simpa only [PyData.hasDict] using h)
  | .dict kvs, h => by simp [PyData.hasDict] at h
theorem eqvAll_self : ∀ ds : List PyData, PyData.hasDictAll ds = false → PyData.eqvAll ds ds = true
  | [], _ => rfl
  | d :: ds, h => by
    simp only [PyData.hasDictAll, Bool.or_eq_false_iff] at h
    simp only [PyData.eqvAll, eqv_self d h.1, eqvAll_self ds h.2, Bool.and_self]
end
/-- a thing is like itself -/
theorem st_eqSelf {x : V} {d : PyData} (h1 : Rn H x d) (hd : d.hasDict = true → d = .dict []) (hp : d.depth ≤ 64) (h : Q (.bl true) H) : rEqA K x x H Q := by
  cases hb : d.hasDict with
  | false => exact st_eqA (h1.rp hb) (h1.rp hb) (by omega) (by rw [eqv_self d hb]; exact h)
  | true =>
    have := hd hb
    subst this
    cases h1 with
    | dk h2 => exact st_eqA0 h2 h
end
end Zb

/-! stores into slices, list(range), walks over a list or a tuple, enumerate of a tuple -/
namespace Zb
open PySem PySem.Spec PyProof.Rows L2
/-! ### o[lo:hi] = a list -/
def gSl (to : TE) (tl th : TO) : TG := fun v σ H Q => to σ H fun o H1 => tl σ H1 fun l H2 => th σ H2 fun u H3 => ∃ (p q : Addr) (xs ys : List V) (a c : Int), o = .ref p ∧ v = .ref q ∧ l = some a ∧ u = some c ∧ H3 p = some (.lst xs) ∧ H3 q = some (.lst ys) ∧ p ≠ q ∧ 0 ≤ a ∧ a ≤ c ∧ c ≤ xs.length ∧ xs.length + ys.length ≤ 16777216 ∧ Q σ (upd H3 p (.lst (xs.take a.toNat ++ ys ++ xs.drop c.toNat)))
theorem pg_slice {X : Cx} {pos p2 : Pos} {o : Expr} {lo hi : Option Expr} {to : TE} {tl th : TO} (ho : PE X o to) (hl : PO X lo tl) (hu : PO X hi th)
    (ha : ∀ v, assign (.Subscript o (.Slice lo hi none p2) pos) X.env v = (do
      let w ← holding [v] (eval o X.env)
      let k ← holding [v, w] (eval (.Slice lo hi none p2) X.env)
      standAt pos
      holding [v, w, k] (setItem w k v)
      release [k, v, w] []) := by intro _; rfl) : PG X (.Subscript o (.Slice lo hi none p2) pos) (gSl to tl th) := by
  refine ⟨fun pins s σ H v u Q I r h => ?_⟩
  rw [ha]
  refine wpAny_bind (wpAny_holding (thn (ho.run pins s σ H _ I h) fun w s1 ⟨x, H1, I1, r1, q1⟩ => ?_))
  refine wpAny_bind (wpAny_holding (wpAny_Slice (thn (hl.run pins s1 σ H1 _ I1 q1) fun vl s2 ⟨l, H2, I2, pl, q2⟩ => thn (hu.run pins s2 σ H2 _ I2 q2) fun vu s3 ⟨m, H3, I3, pu, q3⟩ => ?_)))
  rw [evalPart_none]
  refine wpAny_pure ?_
  obtain ⟨p, q, xs, ys, a, c, rfl, rfl, rfl, rfl, hp, hq, hne, h0, hac, hc, hz, q3⟩ := q3
  have I4 : Inv X pins σ H3 { s3 with heap := s3.heap.push { cls := .type "slice", data := .fields #[vl, vu, .none] } } := I3.kept (t' := s3.toks) fun _ _ z => Heap.get?_push_of_some _ z
  cases r
  cases r1
  cases pl with
  | int _ ta =>
    cases pu with
    | int _ tc =>
      refine wpAny_bind (wpAny_standAt (wpAny_bind (wpAny_holding (set_slice I4 hp hq hne (Heap.IsSliceOf.new ..) ⟨ta, rfl⟩ ⟨tc, rfl⟩ h0 hac hc (by rw [sl16]; exact hz) fun s5 I5 => ?_))))
      exact wpAny_release ⟨σ, _, I5, q3⟩
theorem st_gsl {to : TE} {tl th : TO} {v : V} {σ : L2.St} {H : Hp} {R : L2.St → Hp → Prop} (h : to σ H fun o H1 => tl σ H1 fun l H2 => th σ H2 fun u H3 => ∃ (p q : Addr) (xs ys : List V) (a c : Int), o = .ref p ∧ v = .ref q ∧ l = some a ∧ u = some c ∧ H3 p = some (.lst xs) ∧ H3 q = some (.lst ys) ∧ p ≠ q ∧ 0 ≤ a ∧ a ≤ c ∧ c ≤ xs.length ∧ xs.length + ys.length ≤ 16777216 ∧ R σ (upd H3 p (.lst (xs.take a.toNat ++ ys ++ xs.drop c.toNat)))) : gSl to tl th v σ H R := h
/-! ### list(range(..)) -/
abbrev TRg := L2.St → Hp → (Int → Int → Int → Hp → Prop) → Prop
def PRgC (X : Cx) (e : Expr) (t : TRg) : Prop := ∀ (pins : List (Addr × Obj)) (s : Shared) (σ : L2.St) (H : Hp) (Q : Int → Int → Int → Hp → Prop), Inv X pins σ H s → t σ H Q →
  wpAny (model X.prog X.w) X.A (eval e X.env) (fun x s' => ∃ r a b c t u v H', x = .ref r ∧ IsRange s'.heap r a b c t u v ∧ Inv X pins σ H' s' ∧ Q a b c H') X.xe s
def tRgC (ta : TA) : TRg := fun σ H Q => ta σ H fun vs H1 => match vs with
  | [.int n] => Q 0 n 1 H1
  | [.int i, .int j] => Q i j 1 H1
  | [.int i, .int j, .int c] => c ≠ 0 ∧ c.natAbs < 1073741824 ∧ Q i j c H1
  | _ => False
section
variable {X : Cx}
theorem prgC {es : List Expr} {e : Expr} {ta : TA} {p pos : Pos} (hg : Gl X "range") (hm : X.mg "range" = none) (ha : PA X (e :: es) ta) (hs : starEach (e :: es) X.env = (false, eval e X.env) :: starEach es X.env := by rfl)
    (hpl : (backTo pos (starEach es X.env)).any (·.1) = false := by rfl) : PRgC X (.Call (.Name "range" p) (e :: es) [] pos) (tRgC ta) := by
  intro pins s σ H Q I h
  refine Call_ (ld_blt I hg hm boot_range (PyProof.Rows.callWith_type1 (thn (ha.run pos pins s σ H _ I h) fun us s1 ⟨vs, H1, I1, r1, q1⟩ => ?_) hs hpl))
  dsimp only at q1
  split at q1
  · obtain ⟨u, rfl, t, rfl⟩ := vals1 r1
    exact call_range_1 ⟨_, _, _, _, _, _, _, H1, rfl, IsRange.new _ _ _ _ _ _ _, I1.kept fun _ _ z => Heap.get?_push_of_some _ z, q1⟩
  · obtain ⟨u, w, rfl, ⟨t, rfl⟩, t', rfl⟩ := vals2 r1
    exact call_range_2 ⟨_, _, _, _, _, _, _, H1, rfl, IsRange.new _ _ _ _ _ _ _, I1.kept fun _ _ z => Heap.get?_push_of_some _ z, q1⟩
  · obtain ⟨c0, c1, q1⟩ := q1
    cases r1 with
    | cons r rr =>
      obtain ⟨u, w, rfl, ⟨t1, rfl⟩, t2, rfl⟩ := vals2 rr
      obtain ⟨t, rfl⟩ := r
      exact call_range_3 c0 ⟨_, _, _, _, _, _, _, H1, rfl, IsRange.new _ _ _ _ _ _ _, I1.kept fun _ _ z => Heap.get?_push_of_some _ z, q1⟩ (.inl (PyProof.noPylong_small c1))
  · exact q1.elim
def rgL (a c : Int) (n : Nat) : List Int := (List.range n).map fun i : Nat => a + (i : Int) * c
theorem vals_rgL {a c : Int} {n : Nat} {acc : Array Value} (h : ItemsOf (fun i v => ∃ t, v = .int (a + i * c) t) acc n) : Vals ((rgL a c n).map V.int) acc.toList := by
  have e : acc.toList.length = n := by rw [Array.length_toList]; exact h.1
  unfold rgL
  rw [← e, List.map_map]
  refine vals_of_get acc.toList _ fun j u hj => ?_
  obtain ⟨t, rfl⟩ := h.2 j u (by rw [← hj, Array.getElem?_toList])
  exact ⟨t, rfl⟩
def tListRg (t : TRg) : TE := fun σ H Q => t σ H fun a b c H1 => ∃ n : Nat, Builtin.Range.small a b c = true ∧ Builtin.Range.rangeSize a b c = n ∧ n ≤ 16777216 ∧ ∀ q, H1 q = none → Q (.ref q) (upd H1 q (.lst ((rgL a c n).map V.int)))
theorem pe_listRgC {e : Expr} {t : TRg} {p pos : Pos} (hc : X.calm = true) (hg : Gl X "list") (hm : X.mg "list" = none) (he : PRgC X e t) (na : starEach [e] X.env = (false, eval e X.env) :: starEach [] X.env := by rfl) : PE X (.Call (.Name "list" p) [e] [] pos) (tListRg t) := by
  refine ⟨fun pins s σ H Q I h => ?_⟩
  refine Call_ (ld_blt I hg hm boot_list (PyProof.Rows.callWith_type1 (args_cons (thn (he pins s σ H _ I h) fun x s1 ⟨r, a, b, c, t, u, v, H1, ex, hr, I1, n, o1, o2, o3, q⟩ => args_nil ?_) na) na))
  subst ex
  refine call_list_range (n := n) (I1.ok.hd hc) hr o1 o2 o3 fun h' tk acc c' hk e' hi => ?_
  have hl : ((rgL a c n).map V.int).length ≤ sizeLine := by rw [List.length_map, rgL, List.length_map, List.length_range, sl16]; exact o3
  refine ⟨.ref s1.heap.objs.size, _, I1.laid (t' := tk) hk (Nat.le_refl _) (show ObjOk X.prog X.w _ h' _ (.lst _) from ⟨hl, acc.toList, c', vals_rgL hi, ?_⟩), rfl, q _ (I1.hok.fresh (Nat.le_refl _))⟩
  rw [Array.toArray_toList]
  exact e'
end
section
variable {σ : L2.St} {H : Hp} {Q : VK} {K : PySem.W.Frag}
def RgP (Q : VK) (a b c : Int) (H1 : Hp) : Prop := ∃ n : Nat, Builtin.Range.small a b c = true ∧ Builtin.Range.rangeSize a b c = n ∧ n ≤ 16777216 ∧ ∀ q, H1 q = none → Q (.ref q) (upd H1 q (.lst ((rgL a c n).map V.int)))
theorem st_listRg {t : TRg} (h : t σ H (RgP Q)) : tListRg t σ H Q := h
def RgQ (P : Int → Int → Int → Hp → Prop) (vs : List V) (H1 : Hp) : Prop := match vs with
  | [.int n] => P 0 n 1 H1
  | [.int i, .int j] => P i j 1 H1
  | [.int i, .int j, .int c] => c ≠ 0 ∧ c.natAbs < 1073741824 ∧ P i j c H1
  | _ => False
theorem st_rgC {ta : TA} {P : Int → Int → Int → Hp → Prop} (h : ta σ H (RgQ P)) : tRgC ta σ H P := h
theorem st_rg1 {n : Int} {P : Int → Int → Int → Hp → Prop} (h : P 0 n 1 H) : RgQ P [.int n] H := h
theorem st_rg2 {i j : Int} {P : Int → Int → Int → Hp → Prop} (h : P i j 1 H) : RgQ P [.int i, .int j] H := h
theorem st_rg3 {i j : Int} {P : Int → Int → Int → Hp → Prop} (h : P i j (-1) H) : RgQ P [.int i, .int j, .int (-1)] H := ⟨by decide, by decide, h⟩
theorem st_rgUp {a b : Int} (hz : -1000000 ≤ a ∧ a ≤ 1000000 ∧ -1000000 ≤ b ∧ b ≤ 1000000) (h : ∀ q H', H q = none → Ex H H' → H' q = some (.lst ((rgL a 1 (b - a).toNat).map V.int)) → Q (.ref q) H') : RgP Q a b 1 H :=
  ⟨(b - a).toNat, small_one (by omega) (by omega) (by omega) (by omega), rangeSize_nat a b, by omega, fun q hq => h q _ hq (Fr.new hq) upd_same⟩
theorem st_rgDown {a b : Int} (hz : -1000000 ≤ a ∧ a ≤ 1000000 ∧ -1000000 ≤ b ∧ b ≤ 1000000) (h : ∀ q H', H q = none → Ex H H' → H' q = some (.lst ((rgL a (-1) (a - b).toNat).map V.int)) → Q (.ref q) H') : RgP Q a b (-1) H :=
  ⟨(a - b).toNat, PySem.W.small_down (by omega) (by omega) (by omega) (by omega), PySem.W.rangeSize_downNat a b, by omega, fun q hq => h q _ hq (Fr.new hq) upd_same⟩
theorem rgL_up (n : Nat) : rgL 0 1 n = (List.range n).map fun i : Nat => (i : Int) := by
  unfold rgL
  exact List.map_congr_left fun i _ => by omega
end
/-! ### a list or a tuple, walked -/
def iSeq (K : PySem.W.Frag) (tl : TE) : TI := fun σ H R => tl σ H fun x H1 => ∃ a xs, x = .ref a ∧ seqAt H1 a = some xs ∧ ∀ (J : It) (S : Hp → Prop), Runs J xs.length S (fun i x H H' => H' = H ∧ xs[i]? = some x) → (∀ H', H' a = H1 a → S H') → R J H1
theorem lstAt_eq {H H' : Hp} {a : Addr} {xs : List V} (h : lstAt H a = some xs) (e : H' a = H a) : lstAt H' a = some xs := by
  unfold lstAt at h ⊢
  rw [e]
  exact h
theorem tupAt_eq {H H' : Hp} {a : Addr} {xs : List V} (h : tupAt H a = some xs) (e : H' a = H a) : tupAt H' a = some xs := by
  unfold tupAt at h ⊢
  rw [e]
  exact h
theorem pi_seq {X : Cx} {l tg : Expr} {tl : TE} {K : PySem.W.Frag} (hl : PE X l tl) (hK : X.K = K := by rfl) : PI X tg l (iSeq K tl) := by
  subst hK
  refine ⟨fun pins s σ H R I h => ?_⟩
  refine thn (hl.run pins s σ H _ I h) fun v s1 ⟨x, H1, I1, r1, q1⟩ => ?_
  obtain ⟨a, xs, rfl, hq, q⟩ := q1
  cases r1
  have fp : ∀ b ∈ [s1.heap.objs.size], b = s1.heap.objs.size := fun b hb => by simpa using hb
  rcases seqAt_cases hq with hq | hq
  · obtain ⟨its, rv, p, hz⟩ := I1.list (lstAt_sq hq)
    refine wpAny_pyIter_list p.isList ?_
    refine ⟨s1.heap.objs.size, [s1.heap.objs.size], _, _, H1, rfl, I1.kept (t' := s1.toks) fun _ _ e => Heap.get?_push_of_some _ e, turn_list a _, ⟨_, Heap.get?_push_size _ rfl, rfl, rfl⟩, fun b hb => ?_, q _ _ (runs_list X.K a xs) fun H' e => lstAt_eq hq e⟩
    rw [fp b hb]
    exact I1.fpOk (Nat.le_refl _) (I1.hok.fresh (Nat.le_refl _))
  · obtain ⟨its, rv, p, hz⟩ := I1.tuple (tupAt_sq hq)
    refine wpAny_pyIter_tuple (show s1.heap.IsTuple a its.toArray from p) ?_
    refine ⟨s1.heap.objs.size, [s1.heap.objs.size], _, _, H1, rfl, I1.kept (t' := s1.toks) fun _ _ e => Heap.get?_push_of_some _ e, turn_tuple a _, ⟨_, Heap.get?_push_size _ rfl, rfl, rfl⟩, fun b hb => ?_, q _ _ (runs_tup X.K a xs) fun H' e => tupAt_eq hq e⟩
    rw [fp b hb]
    exact I1.fpOk (Nat.le_refl _) (I1.hok.fresh (Nat.le_refl _))
/-! ### enumerate of a tuple -/
def Itet (K : PySem.W.Frag) (a : Addr) : It :=
  ⟨fun i H => ∃ (xs : List V) (x : V), SqT K H a xs ∧ xs[i]? = some x, fun i H v H' => ∃ T x, v = .ref T ∧ H T = none ∧ H' = upd H T (.tup [.int (i : Nat), x]) ∧ ∀ xs, SqT K H a xs → xs[i]? = some x, fun i H => ∃ xs : List V, SqT K H a xs ∧ xs.length ≤ i⟩
theorem sqT_inj {X : Cx} {pins : List (Addr × Obj)} {σ : L2.St} {H : Hp} {s : Shared} {a : Addr} {xs ys : List V} (I : Inv X pins σ H s) (h1 : SqT X.K H a xs) (h2 : SqT X.K H a ys) : xs = ys := I.tuple_inj h1 h2
theorem turn_enumT {P : Program} {w : World} {K : PySem.W.Frag} {elts : List Expr} {kk : Nat} {tpos : Pos} (a e it : Addr) :
    Turn P w K (.Tuple elts kk tpos) (Itet K a) [e, it] e (fun i h => (∃ old, IsEnum h e it ((i : Nat) : Int) old) ∧ h.IsTupleIter it a i ∧ e ≠ it) where
  mem := by simp
  obj := fun i h st b hb => by
    obtain ⟨⟨old, he⟩, ⟨o, ho, hc, hd⟩, _⟩ := st
    rcases (show b = e ∨ b = it by simpa using hb) with z | z
    · rw [z]; exact ⟨_, he, fun v q => nomatch q⟩
    · rw [z]; exact ⟨o, ho, fun v q => by rw [hd] at q; cases q⟩
  keep := fun i h h' st k => let ⟨⟨old, he⟩, hi, hne⟩ := st; ⟨⟨old, k e (by simp) _ he⟩, hi.at fun _ q => k it (by simp) _ q, hne⟩
  item := by
    intro X hP hw hK hc i pins s σ H E I hf st hg
    subst hP hw hK
    obtain ⟨⟨old, he⟩, hit, hne⟩ := st
    obtain ⟨xs, x, hq, hx⟩ := hg
    obtain ⟨its, rv, p, hz⟩ := I.tuple hq
    obtain ⟨u, hu, ru⟩ := rv.get hx
    have hel : e < s.heap.objs.size := Heap.lt_size he
    have hil : it < s.heap.objs.size := by obtain ⟨_, q, _⟩ := hit; exact Heap.lt_size q
    have hta : a ≠ it := fun z => by
      obtain ⟨o1, g1, c1, _⟩ := hit
      obtain ⟨o2, g2, c2, _⟩ := p
      rw [z] at g2
      rw [g1] at g2
      cases g2
      rw [c1] at c2
      exact absurd c2 (by decide)
    have hte : e ≠ a := fun z => by
      obtain ⟨o2, g2, c2, _⟩ := p
      rw [← z, he] at g2
      cases g2
      exact absurd (show Value.type "enumerate" = Value.type "tuple" from c2) (by decide)
    have D : Draws X.prog X.w X.A.in1 it [it, a] its.toArray.size (fun i v => its.toArray[i]? = some v) (fun i h => h.IsTupleIter it a i ∧ h.IsTuple a its.toArray) := Draws.tuple (A := X.A.in1) (I.ok.hd hc) it a hta its.toArray
    have hlt : i < its.toArray.size := by
      rw [List.size_toArray, ← rv.length]
      exact (List.getElem?_eq_some_iff.mp hx).1
    refine wpAny_pyNext_enum_itemC D he ⟨hit, p⟩ hlt hne (by simp [hne, hte]) fun y h' tk hy ho st2 hT hsz hk => ?_
    have hyu : y = u := by
      have : its.toArray[i]? = some u := by simpa using hu
      rw [this] at hy
      exact (Option.some.inj hy).symm
    subst hyu
    refine ⟨_, rfl, wpAny_letOwnedTupleGo_enum (s := { s with heap := h', toks := tk + 1 }) ho fun h'' he' sb => ?_⟩
    have hT2 : h''.get? s.heap.objs.size = some { cls := .type "tuple", data := .seq #[.int (i : Nat) tk, y] } := (sb.2 _ (Nat.ne_of_gt hel)).trans hT
    have new : ObjOk X.prog X.w (upd H s.heap.objs.size (.tup [.int (i : Nat), x])) h'' s.heap.objs.size (.tup [.int (i : Nat), x]) :=
      ⟨by show 2 ≤ sizeLine; rw [sl16]; decide, [.int (i : Nat) tk, y], .cons ⟨_, rfl⟩ (.cons ru .nil), ⟨_, hT2, rfl, _, rfl⟩⟩
    have I1 : Inv X pins σ (upd H s.heap.objs.size (.tup [.int (i : Nat), x])) { s with heap := h'', toks := tk + 1 } :=
      I.turnedNew (ch := [e, it]) (fun b ob hb q => (sb.2 b (fun z => hb (by simp [z]))).trans (hk b ob (fun z => hb (by simp [z])) (fun z => hb (by simp [z])) q)) hf (Nat.le_refl _) new
    refine ⟨.ref s.heap.objs.size, _, I1, rfl, ⟨_, x, rfl, I.hok.fresh (Nat.le_refl _), rfl, fun ys hy => by rw [sqT_inj I hy hq]; exact hx⟩, ⟨⟨y, ?_⟩, st2.1.at fun o q => (sb.2 it (Ne.symm hne)).trans q, hne⟩, fun b hb => ?_⟩
    · rw [show ((i + 1 : Nat) : Int) = (i : Int) + 1 by omega]; exact he'
    · have hb' : b < s.heap.objs.size := by
        rcases (show b = e ∨ b = it by simpa using hb) with z | z
        · rw [z]; exact hel
        · rw [z]; exact hil
      rw [upd_ne (Nat.ne_of_lt hb')]
      exact (hf b hb).1
  done := by
    intro X hP hw hK hc i pins s σ H E I hf st hg
    subst hP hw hK
    obtain ⟨⟨old, he⟩, hit, hne⟩ := st
    obtain ⟨xs, hq, hx⟩ := hg
    obtain ⟨its, rv, p, hz⟩ := I.tuple hq
    obtain ⟨f0, f1, f2, f3, f4, f5⟩ := hf it (by simp)
    have hl := rv.length
    have hT : s.TypeIs (.ref e) "enumerate" := ⟨_, he, rfl⟩
    unfold pyNext
    refine wpAny_bind (wpAny_attempt (wpAny_callSpecial?_slot (name := Str.ofString "__next__") hT F.slot_enumerate_next (wpAny_call_entry F.slot_enumerate_next hT F.entry_enumerate_next ?_ (F.args_enumerate_next_1 _))))
    show wpAny _ _ (field (.ref e) 2 >>= _) _ _ _
    refine wpAny_bind (wpAny_field he rfl (x := .ref it) rfl ?_)
    refine wpAny_bind (wpAny_nextOf_tuple_end (I.ok.hd hc) hit p (by simp; omega) fun h' x xb hx' => ?_)
    obtain ⟨o, ho, hoc⟩ := hx'
    refine wpAny_bind (wpAny_isInstance (T := "StopIteration") (b := true) ⟨o, ho, hoc⟩ isSubtype_stop ?_)
    exact wpAny_pure ⟨rfl, I.turned (t' := s.toks) (fun b o hb q => xb b o hb q) f0 f1 f3 f4 f5⟩
  self := fun A i s Q E st h => let ⟨⟨_, he⟩, _⟩ := st; wpAny_pyIter_enum he h
theorem meets_enumT (l : Addr) (items : Array Value) (n : Nat) (dct : Option Addr) (sl : Array (Option Value)) :
    Meets (Builtin.«enumerate.__new__» ⟨[.type "enumerate", .ref l], []⟩) (fun _ R s => s.heap.get? l = some { cls := .type "tuple", dict := dct, data := .seq items n, slots := sl } ∧
      R (.ok (.ret (.ref (s.heap.push { cls := .type "tuple_iterator", data := .fields #[.ref l, .int 0 0] }).objs.size)))
        { s with heap := (s.heap.push { cls := .type "tuple_iterator", data := .fields #[.ref l, .int 0 0] }).push { cls := .type "enumerate", data := .fields #[.none, .bool false, .ref s.heap.objs.size, rawInt 0, .none, .none] } }) :=
  .of_wp fun prog w A R s h => by
    obtain ⟨hp, g, d, tk, os⟩ := s
    obtain ⟨hl, h⟩ := h
    have hsub := sub_enumerate
    have hT : Heap.IsTuple (Shared.heap ⟨hp, g, d, tk, os⟩) l items := ⟨_, hl, rfl, n, rfl⟩
    wp_walk using AutoSeq1.wpAny_loadPart' hl
    refine wpAny_stack_any fun st => wpAny_pure ?_
    split
    · rename_i c _ _ _ _ _
      cases (c == Value.type "enumerate")
      · wp_walk using AutoSeq1.wpAny_loadPart' hl, wpAny_pyIter_tuple hT
        exact ⟨_, rfl, h⟩
      · wp_walk using AutoSeq1.wpAny_loadPart' hl, wpAny_pyIter_tuple hT
        exact ⟨_, rfl, h⟩
    · wp_walk using AutoSeq1.wpAny_loadPart' hl, wpAny_pyIter_tuple hT
      exact ⟨_, rfl, h⟩
theorem call_enumT {prog : Program} {w : World} {A : Around} {E : Value → Shared → Prop} {s : Shared} {l : Addr} {items : Array Value} {Q : Value → Shared → Prop} (hL : s.heap.IsTuple l items)
    (h : ∀ h', IsEnum h' (s.heap.objs.size + 1) s.heap.objs.size 0 .none → h'.IsTupleIter s.heap.objs.size l 0 → h'.objs.size = s.heap.objs.size + 2 →
      (∀ b o, s.heap.get? b = some o → h'.get? b = some o) → Q (.ref (s.heap.objs.size + 1)) { s with heap := h' }) : wpAny (model prog w) A (call (.type "enumerate") [.ref l]) Q E s := by
  obtain ⟨⟨c, dct, dt, sl⟩, hl, hc, n, hd⟩ := hL
  replace hc : c = .type "tuple" := hc
  replace hd : dt = .seq items n := hd
  subst hc hd
  obtain ⟨io, hio⟩ : ∃ io : Obj, io = { cls := .type "tuple_iterator", data := .fields #[.ref l, .int 0 0] } := ⟨_, rfl⟩
  obtain ⟨eo, heo⟩ : ∃ eo : Obj, eo = { cls := .type "enumerate", data := .fields #[.none, .bool false, .ref s.heap.objs.size, rawInt 0, .none, .none] } := ⟨_, rfl⟩
  refine callType_new F.called_enumerate (by decide) (F.typeCall_enumerate_1 _) (F.newCall_enumerate_1 _) (fun obj => F.args_object_init_2 obj _) F.entry_enumerate_new (meets_enumT l items n dct sl) ⟨hl, ?_⟩
  rw [← hio, ← heo]
  have hz : (s.heap.push io).objs.size = s.heap.objs.size + 1 := Heap.size_push ..
  show _ ∧ _
  rw [hz]
  have he : IsEnum ((s.heap.push io).push eo) (s.heap.objs.size + 1) s.heap.objs.size 0 .none := by
    have := Heap.get?_push_size (s.heap.push io) (o := eo) (by rw [heo]; rfl)
    rw [hz, heo] at this
    rw [heo]
    exact this
  refine ⟨⟨_, he, rfl⟩, h _ he ⟨_, Heap.get?_push_of_some _ (Heap.get?_push_size _ (by rw [hio]; rfl)), by rw [hio], by rw [hio]; rfl⟩ (by rw [Heap.size_push, hz]) fun b o x => Heap.get?_push_of_some _ (Heap.get?_push_of_some _ x)⟩
theorem runs_enumT (K : PySem.W.Frag) (a : Addr) (xs : List V) : Runs (Itet K a) xs.length (fun H => tupAt H a = some xs) (fun i x H H' => ∃ T v, x = .ref T ∧ H T = none ∧ Ex H H' ∧ H' T = some (.tup [.int (i : Nat), v]) ∧ xs[i]? = some v) :=
  ⟨fun i H h s => ⟨xs, xs[i], tupAt_sq s, by simp [h]⟩, fun _ s => ⟨xs, tupAt_sq s, Nat.le_refl _⟩, fun i H x H' _ s y => by
    obtain ⟨T, v, e1, e2, e3, e4⟩ := y
    subst e3
    exact ⟨T, v, e1, e2, Fr.new e2, upd_same, e4 xs (tupAt_sq s)⟩⟩
/-- enumerate of a list or a tuple -/
def iEnQ (K : PySem.W.Frag) (ta : TA) : TI := fun σ H R => ta σ H fun vs H1 => ∃ a xs, vs = [.ref a] ∧ seqAt H1 a = some xs ∧ ∀ (J : It) (S : Hp → Prop), Runs J xs.length S (fun i x H H' => ∃ T v, x = .ref T ∧ H T = none ∧ Ex H H' ∧ H' T = some (.tup [.int (i : Nat), v]) ∧ xs[i]? = some v) → (∀ H', H' a = H1 a → S H') → R J H1
theorem pi_enumQ {X : Cx} {e : Expr} {ta : TA} {p pos tpos : Pos} {elts : List Expr} {kk : Nat} {K : PySem.W.Frag} (hg : Gl X "enumerate") (hm : X.mg "enumerate" = none) (ha : PA X [e] ta) (hs : starEach [e] X.env = [(false, eval e X.env)] := by rfl) (hK : X.K = K := by rfl) :
    PI X (.Tuple elts kk tpos) (.Call (.Name "enumerate" p) [e] [] pos) (iEnQ K ta) := by
  subst hK
  refine ⟨fun pins s σ H R I h => ?_⟩
  refine Call_ (ld_blt I hg hm boot_enumerate (PyProof.Rows.callWith_type1 (thn (ha.run pos pins s σ H _ I h) fun us s1 ⟨vs, H1, I1, r1, q1⟩ => ?_) hs rfl))
  obtain ⟨a, xs, ex, hq, q⟩ := q1
  subst ex
  obtain ⟨u, rfl, ru⟩ := vals1 r1
  cases ru
  have bnd : ∀ b ∈ [s1.heap.objs.size + 1, s1.heap.objs.size], s1.heap.objs.size ≤ b := fun b hb => by
    rcases (show b = s1.heap.objs.size + 1 ∨ b = s1.heap.objs.size by simpa using hb) with z | z <;> omega
  rcases seqAt_cases hq with hq | hq
  · obtain ⟨its, rv, p', hz⟩ := I1.list (lstAt_sq hq)
    refine call_enumerate_list p'.isList fun h' he hit hsz hk => wpAny_pyIter_enum he ?_
    have I2 : Inv X pins σ H1 { s1 with heap := h' } := I1.kept (t' := s1.toks) hk
    exact ⟨s1.heap.objs.size + 1, [s1.heap.objs.size + 1, s1.heap.objs.size], _, _, H1, rfl, I2, turn_enum a (s1.heap.objs.size + 1) s1.heap.objs.size, ⟨⟨.none, he⟩, hit, Nat.succ_ne_self _⟩, fun b hb => I1.fpOk (bnd b hb) (I1.hok.fresh (bnd b hb)), q _ _ (runs_enum X.K a xs) fun H' e => lstAt_eq hq e⟩
  · obtain ⟨its, rv, p', hz⟩ := I1.tuple (tupAt_sq hq)
    refine call_enumT (show s1.heap.IsTuple a its.toArray from p') fun h' he hit hsz hk => wpAny_pyIter_enum he ?_
    have I2 : Inv X pins σ H1 { s1 with heap := h' } := I1.kept (t' := s1.toks) hk
    exact ⟨s1.heap.objs.size + 1, [s1.heap.objs.size + 1, s1.heap.objs.size], _, _, H1, rfl, I2, turn_enumT a (s1.heap.objs.size + 1) s1.heap.objs.size, ⟨⟨.none, he⟩, hit, Nat.succ_ne_self _⟩, fun b hb => I1.fpOk (bnd b hb) (I1.hok.fresh (bnd b hb)), q _ _ (runs_enumT X.K a xs) fun H' e => tupAt_eq hq e⟩
section
variable {σ : L2.St} {H : Hp} {K : PySem.W.Frag}
theorem st_iSeq {tl : TE} {R : It → Hp → Prop} (h : tl σ H fun x H1 => ∃ a xs, x = .ref a ∧ seqAt H1 a = some xs ∧ ∀ (J : It) (S : Hp → Prop), Runs J xs.length S (fun i x H H' => H' = H ∧ xs[i]? = some x) → (∀ H', H' a = H1 a → S H') → R J H1) : iSeq K tl σ H R := h
theorem st_isSeq {a : Addr} {xs : List V} {R : It → Hp → Prop} (h1 : seqAt H a = some xs) (h : ∀ (J : It) (S : Hp → Prop), Runs J xs.length S (fun i x H H' => H' = H ∧ xs[i]? = some x) → (∀ H', H' a = H a → S H') → R J H) : ∃ a' xs', V.ref a = .ref a' ∧ seqAt H a' = some xs' ∧ ∀ (J : It) (S : Hp → Prop), Runs J xs'.length S (fun i x H H' => H' = H ∧ xs'[i]? = some x) → (∀ H', H' a' = H a' → S H') → R J H := ⟨a, xs, rfl, h1, h⟩
theorem st_iEnQ {ta : TA} {R : It → Hp → Prop} (h : ta σ H fun vs H1 => ∃ a xs, vs = [.ref a] ∧ seqAt H1 a = some xs ∧ ∀ (J : It) (S : Hp → Prop), Runs J xs.length S (fun i x H H' => ∃ T v, x = .ref T ∧ H T = none ∧ Ex H H' ∧ H' T = some (.tup [.int (i : Nat), v]) ∧ xs[i]? = some v) → (∀ H', H' a = H1 a → S H') → R J H1) : iEnQ K ta σ H R := h
theorem st_isEnQ {a : Addr} {xs : List V} {R : It → Hp → Prop} (h1 : seqAt H a = some xs) (h : ∀ (J : It) (S : Hp → Prop), Runs J xs.length S (fun i x H H' => ∃ T v, x = .ref T ∧ H T = none ∧ Ex H H' ∧ H' T = some (.tup [.int (i : Nat), v]) ∧ xs[i]? = some v) → (∀ H', H' a = H a → S H') → R J H) : ∃ a' xs', [V.ref a] = [.ref a'] ∧ seqAt H a' = some xs' ∧ ∀ (J : It) (S : Hp → Prop), Runs J xs'.length S (fun i x H H' => ∃ T v, x = .ref T ∧ H T = none ∧ Ex H H' ∧ H' T = some (.tup [.int (i : Nat), v]) ∧ xs'[i]? = some v) → (∀ H', H' a' = H a' → S H') → R J H := ⟨a, xs, rfl, h1, h⟩
end
/-! ### isinstance(x, (A, B)) -/
def rIsT2 : List V → Hp → VK → Prop := fun vs H Q => ∃ (x : V) (tp : Addr) (n m t : String) (b c : Bool), vs = [x, .ref tp] ∧ H tp = some (.tup [.ty n, .ty m]) ∧ tyN H x = some t ∧ kitB t n = some b ∧ kitB t m = some c ∧ Q (.bl (b || c)) H
theorem kitAny_two {K : PySem.W.Frag} {t n m : String} {b c : Bool} (h1 : kitB t n = some b) (h2 : kitB t m = some c) : PySem.W.kitAny K (.type t) [.type n, .type m] = some (b || c) := by
  refine kitAny_cons (kit_ty h1) (fun hb => ?_) (fun hb => by rw [hb]; rfl)
  refine kitAny_cons (kit_ty h2) (fun hc => ?_) (fun hc => by rw [hc, Bool.or_true])
  rw [hb, hc]
  rfl
theorem c_isT2 {X : Cx} : CallR X (.builtin "isinstance") rIsT2 := by
  intro pins s σ H xs us Q I r h
  obtain ⟨x, tp, n, m, t, b, c, rfl, hT, ht, h1, h2, q⟩ := h
  exact call_isiT pins s σ H _ us Q I r ⟨x, tp, _, _, [.type n, .type m], b || c, rfl, hT, .cons (.ty _) (.cons (.ty _) .nil), tyN_ok ht, kitAny_two h1 h2, q⟩
theorem st_isT2 {H : Hp} {Q : VK} {x : V} {tp : Addr} {n m t : String} {b c : Bool} (hT : H tp = some (.tup [.ty n, .ty m])) (ht : tyN H x = some t) (h1 : kitB t n = some b) (h2 : kitB t m = some c) (h : Q (.bl (b || c)) H) : rIsT2 [x, .ref tp] H Q := ⟨x, tp, n, m, t, b, c, rfl, hT, ht, h1, h2, h⟩
theorem seqAt_eq {H H' : Hp} {a : Addr} {xs : List V} (h : seqAt H a = some xs) (e : H' a = H a) : seqAt H' a = some xs := by
  unfold seqAt at h ⊢
  rw [e]
  exact h
theorem seqAt_ex {H H' : Hp} {a : Addr} {xs : List V} (e : Ex H H') (h : seqAt H a = some xs) : seqAt H' a = some xs := by
  cases q : H a with
  | none => unfold seqAt at h; rw [q] at h; cases h
  | some o => exact seqAt_eq h (by rw [e a o (fun z => z) q, q])
theorem seqAt_same {H H' : Hp} {a : Addr} {xs : List V} (e : Ex H H') (h : seqAt H a = some xs) : H' a = H a := by
  cases q : H a with
  | none => unfold seqAt at h; rw [q] at h; cases h
  | some o => exact e a o (fun z => z) q
theorem seqAt_same' {M : Addr → Prop} {H H' : Hp} {a : Addr} {xs : List V} (e : Fr M H H') (n : ¬ M a) (h : seqAt H a = some xs) : H' a = H a := by
  cases q : H a with
  | none => unfold seqAt at h; rw [q] at h; cases h
  | some o => exact e a o n q
/-- the place of a number in a list of numbers -/
theorem st_index {H : Hp} {Q : VK} {K : PySem.W.Frag} {p : Addr} {ns : List Int} {y : Int} {j : Nat} (h1 : SqL K H p (ns.map V.int)) (hj : ns[j]? = some y) (hn : ∀ i, i < j → ns[i]? ≠ some y) (h : Q (.int (j : Nat)) H) : rIndex K (.ref p) [.int y] H Q := by
  refine ⟨p, ns.map V.int, .int y, j, .int y, rfl, rfl, h1, rfl, ?_, ?_, ?_, ?_, h⟩
  · rw [List.all_eq_true]
    intro v hv
    obtain ⟨i, _, rfl⟩ := List.mem_map.mp hv
    rfl
  · rw [List.getElem?_map, hj]
    rfl
  · show (y == y) = true
    exact beq_self_eq_true y
  · intro m z hm hz
    rw [List.getElem?_map] at hz
    cases q : ns[m]? with
    | none => rw [q] at hz; cases hz
    | some i =>
      rw [q] at hz
      cases hz
      show (i == y) = false
      rw [beq_eq_false_iff_ne]
      intro e
      exact hn m hm (by rw [q, e])
theorem st_isLT {H : Hp} {Q : VK} {x : V} {d : PyData} {tp : Addr} (h1 : Rq H x d) (hT : H tp = some (.tup [.ty "list", .ty "tuple"])) (h : Q (.bl (isListD d || isTupD d)) H) : rIsT2 [x, .ref tp] H Q := by
  obtain ⟨a1, a2, a3, a4, a5, a6, a7⟩ := kb_list
  obtain ⟨b1, b2, b3, b4, b5, b6, b7⟩ := kb_tup
  refine st_isT2 hT h1.tyn (b := isListD d) (c := isTupD d) ?_ ?_ h
  all_goals (cases d <;> assumption)
theorem Rn.seq {H : Hp} {x : V} {d : PyData} (h : Rn H x d) (hd : (isListD d || isTupD d) = true) : ∃ a xs ds, x = .ref a ∧ seqAt H a = some xs ∧ RnA H xs ds ∧ (d = .list ds ∨ d = .tuple ds) := by
  cases h with
  | lst h k => exact ⟨_, _, _, rfl, seq_l h, k, .inl rfl⟩
  | tup h k => exact ⟨_, _, _, rfl, seq_t h, k, .inr rfl⟩
  | _ => cases hd
/-! ### // by a great number -/
def rDivW : R2 := fun x y H Q => match x, y with
  | .int i, .int j => 0 < j ∧ j < 1267650600228229401496703205376 ∧ Q (.int (i / j)) H
  | _, _ => False
theorem o_divW {X : Cx} : OpR X (binaryOp .FloorDiv) rDivW := by
  intro pins s σ H x y v u Q I rx ry h
  unfold rDivW at h
  split at h
  · obtain ⟨h1, h2, q⟩ := h
    exact op_fdivW pins s σ H _ _ v u Q I rx ry ⟨_, _, rfl, rfl, wide_div (b := 100) h1 (by omega) (by decide) (by decide), q⟩
  · exact h.elim
theorem st_divW {H : Hp} {Q : VK} {i j : Int} (hc : 0 < j ∧ j < 1267650600228229401496703205376) (h : Q (.int (i / j)) H) : rDivW (.int i) (.int j) H Q := ⟨hc.1, hc.2, h⟩
/-! ### a method within a comprehension -/
section
variable {X : Cx} {K : PySem.W.Frag} {T id : String} {name : Str} {r : V → List V → Hp → VK → Prop} {o e : Expr} {es : List Expr} {to : TE} {t : TA} {apos cpos : Pos}
theorem m_index (hK : X.K = K := by rfl) : MtR X "list.index" (rIndex K) := by
  subst hK
  exact mt_index
theorem pe_bmK (pa : PlainAttrs T) (slot : Slot T name id) (hty : typeOf (.builtin id) = pure (.type "method_descriptor")) (hm : MtR X id r) (ho : PE X o to) (ha : PA X (e :: es) t) (hK : X.K = K := by rfl)
    (h1 : attributeBase o name X.env (eval o X.env) = eval o X.env := by rfl)
    (h2 : ((backTo cpos (starEach (e :: es) X.env)).all (fun x => !x.1) && (backToKw cpos (keywordEach [] X.env)).all (fun x => x.1.isSome) && decide ((e :: es).length + ([] : List Keyword).length + (if ([] : List Keyword).isEmpty then 0 else 1) < 30)) = true := by rfl)
    (h3 : (apos.endLine == cpos.line) = true := by rfl) (h4 : starEach (e :: es) X.env = (false, eval e X.env) :: starEach es X.env := by rfl) (h5 : (backTo cpos (starEach es X.env)).any (·.1) = false := by rfl) :
    PE X (.Call (.Attribute o name apos) (e :: es) [] cpos) (tBM K T r to t) := by
  subst hK
  exact pe_bm pa slot hty hm ho ha h1 h2 h3 h4 h5
end
/-! ### != of data, or of one dict with itself; slices of tuples -/
def rNeA (K : PySem.W.Frag) : R2 := fun x y H Q => rNeU x y H Q ∨ rNeDA x y H Q
theorem o_neA {X : Cx} {K : PySem.W.Frag} (hu : X.A.units + 64 < cLine) : OpR X (compareOp .NotEq) (rNeA K) := by
  intro pins s σ H x y v u Q I rx ry h
  rcases h with h | h
  · exact o_ne hu pins s σ H x y v u Q I rx ry h
  · exact op_ne_dictA (by omega) pins s σ H x y v u Q I rx ry h
section
variable {K : PySem.W.Frag} {H : Hp} {Q : VK}
theorem st_neA {x y : V} {d e : PyData} (h1 : Rp H x d) (h2 : Rp H y e) (hd : min d.depth e.depth ≤ 64) (h : Q (.bl (!PyData.eqv d e)) H) : rNeA K x y H Q := .inl ⟨d, e, h1, h2, hd, h⟩
theorem st_neA0 {a : Addr} (h1 : H a = some (.dK [])) (h : Q (.bl false) H) : rNeA K (.ref a) (.ref a) H Q := .inr ⟨a, a, [], [], rfl, rfl, h1, h1, rfl, fun _ h => (List.not_mem_nil h).elim, h⟩
theorem st_neA1 {a : Addr} {k : Key} {v : V} (hv : flatB v = true) (h1 : H a = some (.dK [(k, v)])) (h : Q (.bl false) H) : rNeA K (.ref a) (.ref a) H Q := .inr ⟨a, a, _, _, rfl, rfl, h1, h1, rfl, fun p hp => by
  rw [List.mem_singleton.mp hp]
  refine ⟨?_, hv⟩
  exact valV_at (i := 0) (List.pairwise_singleton _ _) rfl, h⟩
/-- a thing is like itself -/
theorem st_neSelf {x : V} {d : PyData} (h1 : Rn H x d) (hd : d.hasDict = true → d = .dict []) (hp : d.depth ≤ 64) (h : Q (.bl false) H) : rNeA K x x H Q := by
  cases hb : d.hasDict with
  | false => exact st_neA (h1.rp hb) (h1.rp hb) (by omega) (by rw [eqv_self d hb]; exact h)
  | true =>
    have := hd hb
    subst this
    cases h1 with
    | dk h2 => exact st_neA0 h2 h
theorem s_slA {X : Cx} (hK : X.K = K := by rfl) : SlR X (rSlA K) := by
  subst hK
  exact sl_tupA
theorem st_slA {a : Addr} {xs : List V} {lo hi : Option Int} (h1 : tupAt H a = some xs) (hw : ¬ (HT.sIx xs.length 0 lo = 0 ∧ HT.sIx xs.length xs.length hi = xs.length)) (h : ∀ q H', H q = none → Ex H H' → H' q = some (.tup (cutV xs lo hi)) → Q (.ref q) H') : rSlA K (.ref a) lo hi H Q :=
  ⟨a, xs, rfl, tupAt_sq h1, fun z => absurd z hw, fun _ q hq => h q _ hq (Fr.new hq) upd_same⟩
theorem st_slA0 {a : Addr} {xs : List V} {lo hi : Option Int} (h1 : tupAt H a = some xs) (hw : HT.sIx xs.length 0 lo = 0 ∧ HT.sIx xs.length xs.length hi = xs.length) (h : Q (.ref a) H) : rSlA K (.ref a) lo hi H Q :=
  ⟨a, xs, rfl, tupAt_sq h1, fun _ => h, fun z => absurd hw z⟩
end
end Zb

/-! min, max of a list of numbers; slices of a list or a tuple -/
namespace Zb
open PySem PySem.Spec PyProof.Rows L2
section
variable {X : Cx} {K : PySem.W.Frag} {H : Hp} {Q : VK}
def rMinL (K : PySem.W.Frag) : List V → Hp → VK → Prop := rMin K
theorem c_min1 (hc : X.calm = true) (hK : X.K = K := by rfl) : CallR X (.builtin "min") (rMinL K) := by subst hK; exact cr_min hc
def rMaxL (K : PySem.W.Frag) : List V → Hp → VK → Prop := rMax K
theorem c_max1 (hc : X.calm = true) (hK : X.K = K := by rfl) : CallR X (.builtin "max") (rMaxL K) := by subst hK; exact cr_max hc
theorem st_minL {a : Addr} {ns : List Int} (h1 : SqL K H a (ns.map V.int)) (h0 : 0 < ns.length) (h : ∀ m, m ∈ ns → (∀ y, y ∈ ns → m ≤ y) → Q (.int m) H) : rMinL K [.ref a] H Q := ⟨a, ns, rfl, h1, h0, h⟩
theorem st_maxL {a : Addr} {ns : List Int} (h1 : SqL K H a (ns.map V.int)) (h0 : 0 < ns.length) (h : ∀ m, m ∈ ns → (∀ y, y ∈ ns → y ≤ m) → Q (.int m) H) : rMaxL K [.ref a] H Q := ⟨a, ns, rfl, h1, h0, h⟩
/-! o[lo:hi] of a list or a tuple -/
def rSlQ (K : PySem.W.Frag) : V → Option Int → Option Int → Hp → VK → Prop := fun x lo hi H Q => rSlU K x lo hi H Q ∨ rSlA K x lo hi H Q
theorem s_slQ (hK : X.K = K := by rfl) : SlR X (rSlQ K) := by
  intro pins s σ H x v vl vu lo hi sl Q I rx hs pl pu h
  rcases h with h | h
  · exact s_sl hK pins s σ H x v vl vu lo hi sl Q I rx hs pl pu h
  · exact s_slA hK pins s σ H x v vl vu lo hi sl Q I rx hs pl pu h
theorem sIx_le (n d : Nat) (hd : d ≤ n) (x : Option Int) : HT.sIx n d x ≤ n := by
  cases x with
  | none => rw [HT.sIx_none]; exact hd
  | some v =>
    have := HT.clip_eq v n d
    split at this <;> omega
theorem st_slQ {a : Addr} {xs : List V} {lo hi : Option Int} (h1 : seqAt H a = some xs) (h : ∀ q H', Ex H H' → seqAt H' q = some (cutV xs lo hi) → Q (.ref q) H') : rSlQ K (.ref a) lo hi H Q := by
  rcases seqAt_cases h1 with h2 | h2
  · exact .inl ⟨xs, lstAt_sq h2, fun q hq => h q _ (Fr.new hq) (seq_l upd_same)⟩
  · refine .inr ⟨a, xs, rfl, tupAt_sq h2, fun hw => h a H (Fr.refl _) ?_, fun _ q hq => h q _ (Fr.new hq) (seq_t upd_same)⟩
    rw [h1]
    have e : cutV xs lo hi = xs := by
      unfold cutV
      rw [hw.1, hw.2, List.drop_zero, Nat.sub_zero, List.take_length]
    rw [e]
end
theorem rv_of {α : Type} {J : It} {S : Hp → Prop} {ys : List α} {val : α → V} (h : Runs J (ys.map val).length S (fun i x H H' => H' = H ∧ (ys.map val)[i]? = some x)) : RunsV J ys val S := by
  rw [List.length_map] at h
  refine ⟨h.go, h.stop, fun i H x H' hi s y => ?_⟩
  obtain ⟨e1, e2⟩ := h.yld i H x H' hi s y
  rw [List.getElem?_map] at e2
  cases q : ys[i]? with
  | none => rw [q] at e2; cases e2
  | some z =>
    rw [q] at e2
    exact ⟨e1, z, rfl, (Option.some.inj e2).symm⟩
/-- a comprehension, turn by turn, no test -/
theorem lc_turns {J : It} {S : Hp → Prop} {item : Nat → V → Hp → Hp → Prop} {g : TG} {σ : L2.St} {H1 : Hp} {te : TE} {vs : List Nat} {Q : VK} {n : Nat} (hR : Runs J n S item) (hE : ∀ i x H H', item i x H H' → Ex H H') (hS : ∀ H', Ex H1 H' → S H') (hz : n < 1000000) (f : Nat → V)
    (hs : ∀ i x H' H'', i < n → Ex H1 H' → item i x H' H'' → ∀ (B : V → Hp → Prop), (∀ H3, Ex H'' H3 → B (f i) H3) → g x (wipe σ vs) H'' fun σ2 H2 => wipe σ2 vs = wipe σ vs ∧ te σ2 H2 B)
    (hd : ∀ D H', H1 D = none → Ex H1 H' → H' D = some (.lst ((List.range n).map f)) → Q (.ref D) H')
    (hg : ∀ v σ H (P P' : L2.St → Hp → Prop), (∀ σ H, P σ H → P' σ H) → g v σ H P → g v σ H P' := by intro _ _ _ _ _ k h; exact k _ _ h) : LcGoal J g tYes te vs σ Q H1 := by
  refine lc_runs hR (fun _ => False) (fun i acc _ => acc = (List.range i).map f) (fun _ z => z.elim) rfl (fun i acc H' D o _ _ e => e) (fun i acc H' e _ => hS H' e) ?_ ?_
  · rintro D i acc x H' H'' hi L rfl hx
    have e := hE _ _ _ _ hx
    refine hg _ _ _ _ _ (fun σ2 H2 h => ⟨h.1, h.2⟩) (hs i x H' H'' hi L.fr hx (fun v H4 => ∃ acc, H4 D = some (.lst acc) ∧ acc.length < sizeLine ∧ LcW (fun _ => False) H1 (fun i acc _ => acc = (List.range i).map f) D (i + 1) (upd H4 D (.lst (acc ++ [v])))) fun H3 e3 => ?_)
    refine lc_yes L (fun i acc H' D o _ _ e => e) (e.trans e3) (by rw [List.length_map, List.length_range]; omega) ?_
    rw [List.range_succ, List.map_append]
    rfl
  · rintro D acc H' hD e h rfl
    exact hd D H' hD e h
theorem gTup_mono {K : PySem.W.Frag} {n i j : Nat} : ∀ v σ H (P P' : L2.St → Hp → Prop), (∀ σ H, P σ H → P' σ H) → gTup K n (gCons (gName i) (gCons (gName j) gNil)) v σ H P → gTup K n (gCons (gName i) (gCons (gName j) gNil)) v σ H P' := by
  intro v σ H P P' k h
  obtain ⟨a, xs, h1, h2, h3, v1, r1, e1, v2, r2, e2, e3, h4⟩ := h
  exact ⟨a, xs, h1, h2, h3, v1, r1, e1, v2, r2, e2, e3, k _ _ h4⟩
/-- turns of a range that goes down to nought -/
theorem rgc_down {i : Int} {n : Nat} (h0 : i = (n : Int) - 1) (hn : n ≤ 1000000) : RgC i (-1) (-1) n := by
  subst h0
  have := RgC.neg (i := (n : Int) - 1) (j := -1) (by omega) (by omega) (by omega) (by omega)
  rwa [show ((n : Int) - 1 - -1).toNat = n by omega] at this
/-! a comprehension within a comprehension -/
theorem relabel_free {env : Env} : ∀ {names : List (Str × NameKind)} {x : Str}, names.lookup x = some .cell ∨ names.lookup x = some .free →
    (names.map fun (n, k) => if (k == NameKind.free && env.scope.kind == .function && env.kindOf n == some .cell) then (n, NameKind.cell) else (n, k)).lookup x = some .cell ∨
    (names.map fun (n, k) => if (k == NameKind.free && env.scope.kind == .function && env.kindOf n == some .cell) then (n, NameKind.cell) else (n, k)).lookup x = some .free
  | [], _, h => by simp at h
  | (n, k) :: r, x, h => by
    have ih := @relabel_free env r x
    show List.lookup x ((if (k == NameKind.free && env.scope.kind == .function && env.kindOf n == some .cell) = true then (n, NameKind.cell) else (n, k)) :: _) = _ ∨ List.lookup x ((if (k == NameKind.free && env.scope.kind == .function && env.kindOf n == some .cell) = true then (n, NameKind.cell) else (n, k)) :: _) = _
    cases hx : x == n with
    | true =>
      simp only [List.lookup_cons, hx] at h
      by_cases hc : (k == NameKind.free && env.scope.kind == .function && env.kindOf n == some .cell) = true
      · rw [if_pos hc]; exact .inl (by simp only [List.lookup_cons, hx])
      · rw [if_neg hc]; simp only [List.lookup_cons, hx]; exact h
    | false =>
      simp only [List.lookup_cons, hx] at h
      by_cases hc : (k == NameKind.free && env.scope.kind == .function && env.kindOf n == some .cell) = true
      · rw [if_pos hc]; simp only [List.lookup_cons, hx]; exact ih h
      · rw [if_neg hc]; simp only [List.lookup_cons, hx]; exact ih h
theorem blkOk_rel {N : List Str} {sc scope : Scope} {env : Env} {own : List (Str × Nat)} (h : BlkOk N sc scope own) : BlkOk N (relabel sc env) scope own :=
  ⟨h.kind, h.uniq, h.ix, fun y hy e => relabel_free (h.free y hy e), h.own⟩
section
variable {X : Cx} {K : PySem.W.Frag}
theorem pi_listK {l tg : Expr} {tl : TE} (hl : PE X l tl) (hK : X.K = K := by rfl) : PI X tg l (iList K tl) := by subst hK; exact pi_list hl
theorem pi_tupK {l tg : Expr} {tl : TE} (hl : PE X l tl) (hK : X.K = K := by rfl) : PI X tg l (iTup K tl) := by subst hK; exact pi_tup hl
theorem pi_enumK {e : Expr} {ta : TA} {p pos tpos : Pos} {elts : List Expr} {kk : Nat} (hg : Gl X "enumerate") (hm : X.mg "enumerate" = none) (ha : PA X [e] ta) (hK : X.K = K := by rfl) (hs : starEach [e] X.env = [(false, eval e X.env)] := by rfl) :
    PI X (.Tuple elts kk tpos) (.Call (.Name "enumerate" p) [e] [] pos) (iEnum K ta) := by subst hK; exact pi_enum hg hm ha hs
theorem pi_zipK {e e2 : Expr} {ta : TA} {p pos tpos : Pos} {elts : List Expr} {kk : Nat} (hg : Gl X "zip") (hm : X.mg "zip" = none) (ha : PA X [e, e2] ta) (hK : X.K = K := by rfl)
    (hs : starEach [e, e2] X.env = (false, eval e X.env) :: starEach [e2] X.env := by rfl) (hpl : (backTo pos (starEach [e2] X.env)).any (·.1) = false := by rfl) :
    PI X (.Tuple elts kk tpos) (.Call (.Name "zip" p) [e, e2] [] pos) (iZip K ta) := by subst hK; exact pi_zip hg hm ha hs hpl
end
/-! != of tuples whose items are data, or the very same things -/
def rNeT (K : PySem.W.Frag) : R2 := fun x y H Q => ∃ (p q : Addr) (xs ys : List V) (bs : List Bool), x = .ref p ∧ y = .ref q ∧ tupAt H p = some xs ∧ tupAt H q = some ys ∧ PEqs H xs ys bs ∧ Q (.bl (!(bs.all id))) H
open PySem.SeqAt in
theorem o_neT {X : Cx} {K : PySem.W.Frag} (hu : X.A.units + 64 < cLine) : OpR X (compareOp .NotEq) (rNeT K) := by
  intro pins s σ H x y v u Q I rx ry h
  obtain ⟨p, q, xs, ys, bs, rfl, rfl, hx, hy, hE, k⟩ := h
  obtain rfl : v = Value.ref p := rx
  obtain rfl : u = Value.ref q := ry
  obtain ⟨its, r1, t1, z1⟩ := I.tuple (tupAt_sq hx)
  obtain ⟨its2, r2, t2, z2⟩ := I.tuple (tupAt_sq hy)
  have l1 := r1.length
  have l2 := r2.length
  obtain ⟨m1, m2⟩ := hE.len
  have key : RcNeAt X.A s (.ref p) (.ref q) (!((List.range (min its.toArray.size its2.toArray.size)).all (fun j => bs.getD j true) && its.toArray.size == its2.toArray.size)) := by
    refine RcNeAt.tuples t1 t2 (by omega) fun j h1 h2 => ?_
    rw [List.size_toArray] at h1 h2
    have hj : j < xs.length := by omega
    have hj2 : j < ys.length := by omega
    have e1 := List.getElem?_eq_getElem hj
    have e2 := List.getElem?_eq_getElem hj2
    obtain ⟨u1, g1, ru1⟩ := r1.get e1
    obtain ⟨u2, g2, ru2⟩ := r2.get e2
    have f1 : its.toArray[j]'(by rw [List.size_toArray]; exact h1) = u1 := by
      rw [List.getElem?_eq_getElem h1] at g1
      simpa using g1
    have f2 : its2.toArray[j]'(by rw [List.size_toArray]; exact h2) = u2 := by
      rw [List.getElem?_eq_getElem h2] at g2
      simpa using g2
    rw [f1, f2]
    have hp := hE.at j _ _ e1 e2
    generalize xs[j] = x at ru1 hp
    generalize ys[j] = y at ru2 hp
    generalize bs.getD j true = b at hp
    cases hp with
    | same a =>
      obtain rfl : u1 = Value.ref a := ru1
      obtain rfl : u2 = Value.ref a := ru2
      exact EqAt.same _
    | dat h1 h2 h3 =>
      obtain ⟨as, d1⟩ := Dp.reads I _ x u1 h1.dp ru1
      obtain ⟨bs', d2⟩ := Dp.reads I _ y u2 h2.dp ru2
      refine SeqAt.eqAt_plain _ _ X.A.in1 s u1 u2 _ _ d1 d2 h1.plain h2.plain ?_
      show X.A.units + 1 + _ < _
      omega
  refine key _ _ _ _ ⟨.bl _, H, I, rfl, ?_⟩
  have e : (List.range (min its.toArray.size its2.toArray.size)).all (fun j => bs.getD j true) = bs.all id := by
    rw [List.size_toArray, List.size_toArray, show min its.length its2.length = bs.length by omega]
    exact all_getD bs
  rw [e, show (its.toArray.size == its2.toArray.size) = true by rw [List.size_toArray, List.size_toArray, beq_iff_eq]; omega, Bool.and_true]
  exact k
/-- tuples of like things: the very same ones, or data that are alike -/
inductive Lk (H : Hp) : V → V → Prop
  | same (a : Addr) : Lk H (.ref a) (.ref a)
  | dat {x y : V} {d e : PyData} : Rp H x d → Rp H y e → min d.depth e.depth ≤ 60 → PyData.eqv d e = true → Lk H x y
inductive Lks (H : Hp) : List V → List V → Prop
  | nil : Lks H [] []
  | cons {x y : V} {xs ys : List V} : Lk H x y → Lks H xs ys → Lks H (x :: xs) (y :: ys)
theorem Lks.pe {H : Hp} : ∀ {xs ys : List V}, Lks H xs ys → ∃ bs, PEqs H xs ys bs ∧ bs.all id = true
  | _, _, .nil => ⟨[], .nil, rfl⟩
  | _, _, .cons h r => by
    obtain ⟨bs, p, q⟩ := r.pe
    cases h with
    | same a => exact ⟨true :: bs, .cons (.same a) p, by rw [List.all_cons, q]; rfl⟩
    | dat h1 h2 h3 h4 => exact ⟨_ :: bs, .cons (.dat h1 h2 h3) p, by rw [List.all_cons, q, h4]; rfl⟩
section
variable {K : PySem.W.Frag} {H : Hp} {Q : VK}
theorem st_neT {p q : Addr} {xs ys : List V} (h1 : H p = some (.tup xs)) (h2 : H q = some (.tup ys)) (h3 : Lks H xs ys) (h : Q (.bl false) H) : rNeT K (.ref p) (.ref q) H Q := by
  obtain ⟨bs, h4, h5⟩ := h3.pe
  exact ⟨p, q, xs, ys, bs, rfl, rfl, tup_of h1, tup_of h2, h4, by rw [h5]; exact h⟩
theorem Lk.self {x : V} {d : PyData} (h1 : Rn H x d) (hd : d.hasDict = true → d = .dict []) (hp : d.depth ≤ 60) : Lk H x x := by
  cases hb : d.hasDict with
  | false => exact .dat (h1.rp hb) (h1.rp hb) (by omega) (eqv_self d hb)
  | true =>
    have := hd hb
    subst this
    cases h1 with
    | dk h2 => exact .same _
theorem Lk.str (z : Str) : Lk H (.str z) (.str z) := .dat (.str z) (.str z) (by simp [PyData.depth]) (by rw [eqv_str]; exact decide_eq_true rfl)
theorem Lk.bl (z : Bool) : Lk H (.bl z) (.bl z) := .dat (.bl z) (.bl z) (by simp [PyData.depth]) (by cases z <;> rfl)
theorem Lk.int (z : Int) : Lk H (.int z) (.int z) := .dat (.int z) (.int z) (by simp [PyData.depth]) (by rw [eqv_int]; exact decide_eq_true rfl)
/-! + of tuples -/
def rAddT (K : PySem.W.Frag) : R2 := rCatT K
theorem o_addT {X : Cx} (hK : X.K = K := by rfl) : OpR X (binaryOp .Add) (rAddT K) := by subst hK; exact op_catT
theorem st_addT {p q : Addr} {x y : V} {xs ys : List V} (h1 : H p = some (.tup (x :: xs))) (h2 : H q = some (.tup (y :: ys))) (hz : xs.length + ys.length ≤ 1000000) (h : ∀ r H', H r = none → Ex H H' → H' r = some (.tup (x :: xs ++ y :: ys)) → Q (.ref r) H') : rAddT K (.ref p) (.ref q) H Q :=
  ⟨p, q, _, _, rfl, rfl, tupAt_sq (tup_of h1), tupAt_sq (tup_of h2), (fun z => nomatch z), by rw [sl16]; simp only [List.length_cons]; omega, (fun z => nomatch z), fun _ r hr => h r _ hr (Fr.new hr) upd_same⟩
/-! dicts whose keys are tuples -/
theorem st_lenDT {p : Addr} {kvs : List (List Key × V)} (h1 : H p = some (.dT kvs)) (h : Q (.int ((kvs.length : Nat) : Int)) H) : rLenT [.ref p] H Q := ⟨p, kvs, rfl, h1, h⟩
theorem st_dinT {a b : Addr} {kvs : List (List Key × V)} {k : List Key} (h1 : H a = some (.dT kvs)) (h2 : H b = some (.tup (k.map kV))) (h : Q (.bl (valV kvs k).isSome) H) : ∃ a' o, V.ref a = .ref a' ∧ DGet H a' (.ref b) o ∧ Q (.bl o.isSome) H := ⟨a, _, rfl, DGet.t h1 h2, h⟩
theorem st_dninT {a b : Addr} {kvs : List (List Key × V)} {k : List Key} (h1 : H a = some (.dT kvs)) (h2 : H b = some (.tup (k.map kV))) (h : Q (.bl (!(valV kvs k).isSome)) H) : ∃ a' o, V.ref a = .ref a' ∧ DGet H a' (.ref b) o ∧ Q (.bl (!o.isSome)) H := ⟨a, _, rfl, DGet.t h1 h2, h⟩
theorem st_dinU {ty td : TE} {σ : L2.St} (h : ty σ H fun y H1 => td σ H1 fun x H2 => ∃ a o, x = .ref a ∧ DGet H2 a y o ∧ Q (.bl o.isSome) H2) : tDIn ty td σ H Q := h
theorem st_dninU {ty td : TE} {σ : L2.St} (h : ty σ H fun y H1 => td σ H1 fun x H2 => ∃ a o, x = .ref a ∧ DGet H2 a y o ∧ Q (.bl (!o.isSome)) H2) : tDNotIn ty td σ H Q := h
theorem st_dputU {td ty tv : TE} {D : Ends} {σ : L2.St} (h : tv σ H fun v H1 => td σ H1 fun x H2 => ty σ H2 fun y H3 => ∃ a H4, x = .ref a ∧ DPut H3 a y v H4 ∧ D.nx σ H4) : sDPut td ty tv D σ H := h
theorem st_dputT {a b : Addr} {kvs : List (List Key × V)} {k : List Key} {v : V} {P : Hp → Prop} (h1 : H a = some (.dT kvs)) (h2 : H b = some (.tup (k.map kV))) (hl : kvs.length < 1000000) (h : P (upd H a (.dT (putK kvs k v)))) : ∃ a' H4, V.ref a = .ref a' ∧ DPut H a' (.ref b) v H4 ∧ P H4 := ⟨a, _, rfl, DPut.t h1 h2 (by rw [sl16]; omega), h⟩
theorem st_dputK {a : Addr} {kvs : List (Key × V)} {k : Key} {v : V} {P : Hp → Prop} (h1 : H a = some (.dK kvs)) (hl : kvs.length < 1000000) (h : P (upd H a (.dK (putK kvs k v)))) : ∃ a' H4, V.ref a = .ref a' ∧ DPut H a' (kV k) v H4 ∧ P H4 := ⟨a, _, rfl, DPut.k h1 (by rw [sl16]; omega), h⟩
theorem st_dnewT {σ : L2.St} (h : ∀ p H', H p = none → Ex H H' → H' p = some (.dT []) → Q (.ref p) H') : tDNewT σ H Q := fun p hp => h p _ hp (Fr.new hp) upd_same
theorem st_dinB {a b : Addr} {kvs : List (List Key × V)} {k : List Key} {P : Bool → Prop} (h1 : H a = some (.dT kvs)) (h2 : H b = some (.tup (k.map kV))) (h : P (valV kvs k).isSome) : ∃ a' o, V.ref a = .ref a' ∧ DGet H a' (.ref b) o ∧ ∃ c, V.bl o.isSome = .bl c ∧ P c := ⟨a, _, rfl, DGet.t h1 h2, _, rfl, h⟩
theorem st_dninB {a b : Addr} {kvs : List (List Key × V)} {k : List Key} {P : Bool → Prop} (h1 : H a = some (.dT kvs)) (h2 : H b = some (.tup (k.map kV))) (h : P (!(valV kvs k).isSome)) : ∃ a' o, V.ref a = .ref a' ∧ DGet H a' (.ref b) o ∧ ∃ c, V.bl (!o.isSome) = .bl c ∧ P c := ⟨a, _, rfl, DGet.t h1 h2, _, rfl, h⟩
theorem putK_newT {kvs : List (List Key × V)} {k : List Key} {v : V} (h : valV kvs k = none) : putK kvs k v = kvs ++ [(k, v)] := by
  unfold putK
  rw [if_neg]
  rw [List.any_eq_true]
  rintro ⟨q, hq, e⟩
  unfold valV at h
  rw [Option.map_eq_none_iff, List.find?_eq_none] at h
  exact h q hq e
end
end Zb

/-! own classes: objects, fields, methods -/
namespace Zb
open PySem PySem.Spec PyProof.Rows L2
/-- a method of the class cls -/
structure Dm (K : PySem.W.Frag) (cls m qual : Str) (st : Stmt) (ps : List Str) (f : Addr) (fd : FuncData) : Prop where
  g : Meth K (clsA K cls) m f
  F : Fun K m qual st f fd
  b : Binds K fd ps []
theorem dm_mk {K : PySem.W.Frag} {cls m qual : Str} {st : Stmt} {ps : List Str} {f : Addr} {oc : Value} {od an : Option Addr} {osl : Array (Option Value)} {kV dc pm cd ct : Value}
    (a : PySem.W.findIn K (.ref (clsA K cls)) m = some (some (.ref f))) (i : PySem.W.isFn K (.ref f) = true) (l : K.lookup f = some ⟨oc, od, .func (PySem.W.fnOf m qual (defArgs st) (defBody st) (defScope st) .none kV dc pm an cd ct), osl⟩) (c : PySem.W.codeIn K cd qual = true) (k : PySem.W.keepIn K (.ref f) = true)
    (hb : ∀ (kV doc pm : Value) (an : Option Addr) (cdv ct : Value) (us : List Value), us.length = ps.length → bindArgs (PySem.W.fnOf m qual (defArgs st) (defBody st) (defScope st) .none kV doc pm an cdv ct) ⟨us, []⟩ = pure (ps.zip us)) :
    Dm K cls m qual st ps f (PySem.W.fnOf m qual (defArgs st) (defBody st) (defScope st) .none kV dc pm an cd ct) :=
  have F := fun_mk (st := st) l c k
  ⟨⟨a, i, k⟩, F, F.binds hb⟩
section
variable {X : Cx} {K : PySem.W.Frag} {e o value : Expr} {f : Str} {pos pos' : Pos} {ta tv : TE}
theorem pe_fldK (he : PE X e ta) (hb : attributeBase e f X.env (eval e X.env) = eval e X.env) (hK : X.K = K := by rfl) : PE X (.Attribute e f pos) (tFld K ta f) := by subst hK; exact pe_fld he hb
theorem ps_fldK (ha : PE X o ta) (hv : PE X value tv) (hs : swapsWith value (some (.Attribute o f pos')) pos.line X.env = pure false) (hK : X.K = K := by rfl) : PS X (.Assign [.Attribute o f pos'] value pos) (sFld K ta tv f) := by subst hK; exact ps_fld ha hv hs
end
section
variable {K : PySem.W.Frag} {σ : L2.St} {H : Hp} {Q : VK} {D : Ends} {C : Addr}
def FldP (K : PySem.W.Frag) (f : Str) (Q : VK) (x : V) (H1 : Hp) : Prop := ∃ a C dx fs v, x = .ref a ∧ H1 a = some (.ins C dx fs) ∧ Cls K C ∧ NoAttr K C f ∧ fs.lookup f = some v ∧ Q v H1
theorem st_fld {ta : TE} {f : Str} (h : ta σ H (FldP K f Q)) : tFld K ta f σ H Q := h
theorem st_fldP {f : Str} {a dx : Addr} {fs : List (Str × V)} {v : V} (h1 : H a = some (.ins C dx fs)) (c : Cls K C) (n : NoAttr K C f) (l : fs.lookup f = some v) (h : Q v H) : FldP K f Q (.ref a) H := ⟨a, C, dx, fs, v, rfl, h1, c, n, l, h⟩
def FldS (K : PySem.W.Frag) (f : Str) (y : V) (P : Hp → Prop) (x : V) (H2 : Hp) : Prop := ∃ a C dx fs, x = .ref a ∧ H2 a = some (.ins C dx fs) ∧ Cls K C ∧ NoAttr K C f ∧ fs.length < 1000 ∧ P (upd H2 a (.ins C dx (putF f y fs)))
theorem st_fldS {ta tv : TE} {f : Str} (h : tv σ H fun y H1 => ta σ H1 (FldS K f y (D.nx σ))) : sFld K ta tv f D σ H := h
theorem st_fldSP {f : Str} {y : V} {P : Hp → Prop} {a dx : Addr} {fs : List (Str × V)} (h1 : H a = some (.ins C dx fs)) (c : Cls K C) (n : NoAttr K C f) (l : fs.length < 1000) (h : P (upd H a (.ins C dx (putF f y fs)))) : FldS K f y P (.ref a) H := ⟨a, C, dx, fs, rfl, h1, c, n, l, h⟩
theorem putF_nil {f : Str} {y : V} : putF f y [] = [(f, y)] := rfl
theorem putF_ne {f g : Str} {y v : V} {r : List (Str × V)} (h : ¬ g = f) : putF f y ((g, v) :: r) = (g, v) :: putF f y r := by
  show (if g = f then _ else _) = _
  rw [if_neg h]
theorem putF_eq {f : Str} {y v : V} {r : List (Str × V)} : putF f y ((f, v) :: r) = (f, y) :: r := by
  show (if f = f then _ else _) = _
  rw [if_pos rfl]
def MethP (C : Addr) (m : Str) (sp : Sp) (dvs : List V) (E : XK) (t : TA) (σ : L2.St) (Q : VK) (x : V) (H1 : Hp) : Prop := ∃ a dx fs, x = .ref a ∧ H1 a = some (.ins C dx fs) ∧ fs.lookup m = none ∧ t σ H1 fun vs H2 => sp (x :: (vs ++ dvs)) H2 Q E
theorem st_meth {m : Str} {sp : Sp} {dvs : List V} {E : XK} {ta : TE} {t : TA} (h : ta σ H (MethP C m sp dvs E t σ Q)) : tMeth C m sp dvs E ta t σ H Q := h
theorem st_methP {m : Str} {sp : Sp} {dvs : List V} {E : XK} {t : TA} {a dx : Addr} {fs : List (Str × V)} (h1 : H a = some (.ins C dx fs)) (l : fs.lookup m = none) (h : t σ H fun vs H2 => sp (.ref a :: (vs ++ dvs)) H2 Q E) : MethP C m sp dvs E t σ Q (.ref a) H := ⟨a, dx, fs, rfl, h1, l, h⟩
def MakeP (C : Addr) (sp : Sp) (dvs : List V) (E : XK) (Q : VK) (vs : List V) (H1 : Hp) : Prop := ∀ x dx, H1 x = none → H1 dx = none → dx ≠ x → sp (.ref x :: (vs ++ dvs)) (upd (upd H1 dx (.own x)) x (.ins C dx [])) (fun v H2 => v = .non ∧ Q (.ref x) H2) E
theorem st_make {sp : Sp} {dvs : List V} {E : XK} {t : TA} (h : t σ H (MakeP C sp dvs E Q)) : tMake C sp dvs E t σ H Q := h
theorem st_makeP {sp : Sp} {dvs : List V} {E : XK} {vs : List V} (h : ∀ x dx H', H x = none → Ex H H' → H' x = some (.ins C dx []) → sp (.ref x :: (vs ++ dvs)) H' (fun v H2 => v = .non ∧ Q (.ref x) H2) E) : MakeP C sp dvs E Q vs H := fun x dx nx nd ne =>
  h x dx _ nx ((Fr.new nd).trans (Fr.new (by rw [upd_ne (Ne.symm ne)]; exact nx))) upd_same
end
/-- a comprehension whose items are new objects of which something is told -/
theorem lc_mk {J : It} {S : Hp → Prop} {item : Nat → V → Hp → Hp → Prop} {g : TG} {σ : L2.St} {H1 : Hp} {te : TE} {vs : List Nat} {Q : VK} {n : Nat} (hR : Runs J n S item) (hE : ∀ i x H H', item i x H H' → Ex H H') (hS : ∀ H', Ex H1 H' → S H') (hz : n < 1000000) (R : Nat → HO → Prop)
    (hs : ∀ i x H' H'', i < n → Ex H1 H' → item i x H' H'' → ∀ (B : V → Hp → Prop), (∀ a H3 o, H'' a = none → Ex H'' H3 → H3 a = some o → R i o → B (.ref a) H3) → g x (wipe σ vs) H'' fun σ2 H2 => wipe σ2 vs = wipe σ vs ∧ te σ2 H2 B)
    (hd : ∀ D H' ts os, H1 D = none → Ex H1 H' → H' D = some (.lst (ts.map V.ref)) → ObjsAt H' ts os → os.length = n → (∀ i o, os[i]? = some o → R i o) → D ∉ ts → (∀ a ∈ ts, H1 a = none) → Q (.ref D) H')
    (hg : ∀ v σ H (P P' : L2.St → Hp → Prop), (∀ σ H, P σ H → P' σ H) → g v σ H P → g v σ H P' := by intro _ _ _ _ _ k h; exact k _ _ h) : LcGoal J g tYes te vs σ Q H1 := by
  intro D hD
  let W : Nat → Hp → Prop := fun i H => ∃ (ts : List Addr) (os : List HO), H D = some (.lst (ts.map V.ref)) ∧ Ex H1 H ∧ ObjsAt H ts os ∧ os.length = i ∧ (∀ j o, os[j]? = some o → R j o) ∧ D ∉ ts ∧ ∀ a ∈ ts, H1 a = none
  refine ⟨fun i m H => m = n - i ∧ i ≤ n ∧ W i H, ⟨n, by simp, Nat.zero_le _, [], [], upd_same, Fr.new hD, .nil, rfl, by simp, by simp, by simp⟩, ?_⟩
  rintro i m H ⟨rfl, hi, ts, os, h1, h2, h3, h4, h5, h6, h7⟩
  by_cases hlt : i < n
  · refine .inr ⟨hR.go i H hlt (hS H h2), W (i + 1), fun H' p' => ⟨n - (i + 1), by omega, rfl, hlt, p'⟩, fun x H' y => ?_⟩
    have hx := hR.yld i H x H' hlt (hS H h2) y
    have e := hE _ _ _ _ hx
    refine hg _ _ _ _ _ (fun σ2 H2 h => ⟨h.1, h.2⟩) (hs i x H H' hlt h2 hx (fun v H4 => ∃ acc, H4 D = some (.lst acc) ∧ acc.length < sizeLine ∧ W (i + 1) (upd H4 D (.lst (acc ++ [v])))) ?_)
    intro a H3 o ha e3 hv hr
    have h1' := e.get h1
    have hDa : a ≠ D := fun z => by rw [z, h1'] at ha; cases ha
    have haN : a ∉ ts := fun z => by
      obtain ⟨k, hk⟩ := List.getElem?_of_mem z
      have hk2 : k < os.length := by
        rw [← h3.len]; exact (List.getElem?_eq_some_iff.mp hk).1
      have := e.get (h3.at k a _ hk (List.getElem?_eq_getElem hk2))
      rw [this] at ha
      cases ha
    refine ⟨ts.map V.ref, e3.get h1', by rw [List.length_map, h3.len, sl16]; omega, ts ++ [a], os ++ [o], by rw [upd_same, List.map_append]; rfl, ((h2.trans e).trans e3).mut hD, ?_, by rw [List.length_append, h4]; rfl, ?_, ?_, ?_⟩
    · refine .up ?_ (((h3.ex e).ex e3).app (.one hv))
      rw [List.mem_append, List.mem_singleton]
      rintro (z | z)
      · exact h6 z
      · exact hDa z.symm
    · intro j o' ho
      by_cases hj : j < os.length
      · rw [List.getElem?_append_left hj] at ho
        exact h5 j o' ho
      · rw [List.getElem?_append_right (by omega)] at ho
        have hj0 : j - os.length = 0 := by
          have := (List.getElem?_eq_some_iff.mp ho).1
          rw [List.length_singleton] at this
          omega
        rw [hj0] at ho
        cases ho
        rw [show j = i by omega]
        exact hr
    · rw [List.mem_append, List.mem_singleton]
      rintro (z | z)
      · exact h6 z
      · exact hDa z.symm
    · intro b hb
      rcases List.mem_append.mp hb with h | h
      · exact h7 b h
      · rw [List.mem_singleton.mp h]; exact Ex.free (h2.trans e) ha
  · have e : i = n := by omega
    subst e
    exact .inl ⟨hR.stop H (hS H h2), hd D H ts os hD h2 h1 h3 h4 h5 h6 h7⟩
theorem objs_choose {α : Type} {f : α → HO} {P : Nat → α → Prop} : ∀ {os : List HO}, (∀ i o, os[i]? = some o → ∃ c, o = f c ∧ P i c) → ∃ cs : List α, os = cs.map f ∧ ∀ i c, cs[i]? = some c → P i c := by
  intro os
  induction os using snoc_ind with
  | h0 => intro _; exact ⟨[], rfl, by simp⟩
  | hs l a ih =>
    intro h
    obtain ⟨cs, h1, h2⟩ := ih fun i o ho => h i o (by rw [List.getElem?_append_left (List.getElem?_eq_some_iff.mp ho).1]; exact ho)
    obtain ⟨c, h3, h4⟩ := h l.length a (by rw [List.getElem?_append_right (Nat.le_refl _), Nat.sub_self]; rfl)
    have hl : l.length = cs.length := by rw [h1, List.length_map]
    refine ⟨cs ++ [c], by rw [h1, h3, List.map_append]; rfl, fun i d hd => ?_⟩
    by_cases hi : i < cs.length
    · rw [List.getElem?_append_left hi] at hd
      exact h2 i d hd
    · rw [List.getElem?_append_right (by omega)] at hd
      have hi0 : i - cs.length = 0 := by
        have := (List.getElem?_eq_some_iff.mp hd).1
        rw [List.length_singleton] at this
        omega
      rw [hi0] at hd
      cases hd
      rw [show i = l.length by omega]
      exact h4
theorem evL_len {α : Type} : ∀ xs : List α, (evL xs).length = (xs.length + 1) / 2
  | [] => by simp [evL]
  | [_] => by simp [evL]
  | a :: b :: r => by
    show (evL r).length + 1 = (r.length + 2 + 1) / 2
    rw [evL_len r]
    omega
theorem odL_len {α : Type} : ∀ xs : List α, (odL xs).length = xs.length / 2
  | [] => by simp [odL]
  | [_] => by simp [odL]
  | a :: b :: r => by
    show (odL r).length + 1 = (r.length + 2) / 2
    rw [odL_len r]
    omega
/-- what is new in H' -/
def newO (H H' : Hp) : Hp := fun b => if H b = none then H' b else none
theorem newO_get {H H' : Hp} {a : Addr} {o : HO} (h : H' a = some o) (n : H a = none) : newO H H' a = some o := by
  unfold newO
  rw [if_pos n]
  exact h
theorem newO_is {H H' : Hp} {a : Addr} {o : HO} (h : newO H H' a = some o) : H a = none ∧ H' a = some o := by
  unfold newO at h
  by_cases n : H a = none
  · rw [if_pos n] at h; exact ⟨n, h⟩
  · rw [if_neg n] at h; cases h
theorem newO_ex (H H' : Hp) : Ex (newO H H') H' := fun _ _ _ h => (newO_is h).2
theorem newO_mono {H H' H'' : Hp} (e : Ex H' H'') : Ex (newO H H') (newO H H'') := fun b o _ h => newO_get (e.get (newO_is h).2) (newO_is h).1
/-- an old place is changed, a new thing stands -/
theorem newO_fr {H H' G : Hp} (h : ∀ b o, H b = none → H' b = some o → G b = some o) : Ex (newO H H') G := fun b o _ q => h b o (newO_is q).1 (newO_is q).2
theorem objs_in {H G : Hp} : ∀ {ts : List Addr} {os : List HO}, (∀ a ∈ ts, ∀ o, H a = some o → G a = some o) → ObjsAt H ts os → ObjsAt G ts os
  | _, _, _, .nil => .nil
  | _, _, hm, .cons h r => .cons (hm _ List.mem_cons_self _ h) (objs_in (fun a ha => hm a (List.mem_cons_of_mem _ ha)) r)
/-- a comprehension of which something is told item by item -/
theorem lc_rel {J : It} {S : Hp → Prop} {item : Nat → V → Hp → Hp → Prop} {g : TG} {σ : L2.St} {H1 : Hp} {te : TE} {vs : List Nat} {Q : VK} {n : Nat} (hR : Runs J n S item) (hE : ∀ i x H H', item i x H H' → Ex H H') (hS : ∀ H', Ex H1 H' → S H') (hz : n < 1000000) (R : Nat → V → Prop)
    (hs : ∀ i x H' H'', i < n → Ex H1 H' → item i x H' H'' → ∀ (B : V → Hp → Prop), (∀ v H3, R i v → Ex H'' H3 → B v H3) → g x (wipe σ vs) H'' fun σ2 H2 => wipe σ2 vs = wipe σ vs ∧ te σ2 H2 B)
    (hd : ∀ D H' acc, H1 D = none → Ex H1 H' → H' D = some (.lst acc) → acc.length = n → (∀ i v, acc[i]? = some v → R i v) → Q (.ref D) H')
    (hg : ∀ v σ H (P P' : L2.St → Hp → Prop), (∀ σ H, P σ H → P' σ H) → g v σ H P → g v σ H P' := by intro _ _ _ _ _ k h; exact k _ _ h) : LcGoal J g tYes te vs σ Q H1 := by
  refine lc_runs hR (fun _ => False) (fun i acc _ => acc.length = i ∧ ∀ j v, acc[j]? = some v → R j v) (fun _ z => z.elim) ⟨rfl, by simp⟩ (fun i acc H' D o _ _ e => e) (fun i acc H' e _ => hS H' e) ?_ ?_
  · rintro D i acc x H' H'' hi L ⟨hl, hacc⟩ hx
    have e := hE _ _ _ _ hx
    refine hg _ _ _ _ _ (fun σ2 H2 h => ⟨h.1, h.2⟩) (hs i x H' H'' hi L.fr hx (fun v H4 => ∃ acc, H4 D = some (.lst acc) ∧ acc.length < sizeLine ∧ LcW (fun _ => False) H1 (fun i acc _ => acc.length = i ∧ ∀ j v, acc[j]? = some v → R j v) D (i + 1) (upd H4 D (.lst (acc ++ [v])))) fun v H3 hr e3 => ?_)
    refine lc_yes L (fun i acc H' D o _ _ e => e) (e.trans e3) (by omega) ⟨by rw [List.length_append, hl]; rfl, fun j w hw => ?_⟩
    by_cases hj : j < acc.length
    · rw [List.getElem?_append_left hj] at hw
      exact hacc j w hw
    · rw [List.getElem?_append_right (by omega)] at hw
      have hj0 : j - acc.length = 0 := by
        have := (List.getElem?_eq_some_iff.mp hw).1
        rw [List.length_singleton] at this
        omega
      rw [hj0] at hw
      cases hw
      rw [show j = i by omega]
      exact hr
  · rintro D acc H' hD e h ⟨hl, hacc⟩
    exact hd D H' acc hD e h hl hacc
end Zb

/-! texts: <= of texts, split at a sign -/
namespace Zb
open PySem PySem.Spec PyProof.Rows L2
section
variable {X : Cx} {H : Hp} {Q : VK}
def rLeS : R2 := fun x y H Q => ∃ i j, x = .str i ∧ y = .str j ∧ Q (.bl (!decide (j.cps.toList < i.cps.toList))) H
theorem o_leS : OpR X (compareOp .LtE) rLeS := by
  intro pins s σ H x y v u Q I rx ry h
  obtain ⟨i, j, rfl, rfl, q⟩ := h
  obtain ⟨t, rfl⟩ := rx
  obtain ⟨t', rfl⟩ := ry
  exact P.le_str (fin_bl I q rfl)
theorem st_leS {i j : Str} (h : Q (.bl (!decide (j.cps.toList < i.cps.toList))) H) : rLeS (.str i) (.str j) H Q := ⟨i, j, rfl, rfl, h⟩
end
/-! a list of numbers parted at one of them -/
def splitL (c : Nat) : List Nat → List (List Nat)
  | [] => [[]]
  | a :: r => if a = c then [] :: splitL c r else match splitL c r with
    | [] => [[a]]
    | w :: ws => (a :: w) :: ws
theorem splitL_ne (c : Nat) : ∀ u : List Nat, splitL c u ≠ []
  | [] => by simp [splitL]
  | a :: r => by
    unfold splitL
    split
    · simp
    · split <;> simp
/-- a word without the sign, then the sign -/
theorem splitL_app {c : Nat} : ∀ {w : List Nat} (r : List Nat), c ∉ w → splitL c (w ++ c :: r) = w :: splitL c r
  | [], r, _ => by simp [splitL]
  | a :: w, r, h => by
    have h1 : a ≠ c := fun e => h (by simp [e])
    have ih := splitL_app (c := c) (w := w) r fun e => h (List.mem_cons_of_mem _ e)
    rw [List.cons_append, splitL, if_neg h1, ih]
theorem splitL_free {c : Nat} : ∀ {w : List Nat}, c ∉ w → splitL c w = [w]
  | [], _ => rfl
  | a :: w, h => by
    have h1 : a ≠ c := fun e => h (by simp [e])
    have ih := splitL_free (c := c) (w := w) fun e => h (List.mem_cons_of_mem _ e)
    rw [splitL, if_neg h1, ih]
theorem str_toList {a b : Str} (h : a.cps.toList = b.cps.toList) : a = b := by
  cases a
  cases b
  congr 1
  exact Array.toList_inj.mp h
theorem app_toList (a b : Str) : (a ++ b).cps.toList = a.cps.toList ++ b.cps.toList := by
  show (a.cps ++ b.cps).toList = _
  rw [Array.toList_append]
theorem split_join {c : Nat} : ∀ {ps : List Str}, ps ≠ [] → (∀ p ∈ ps, c ∉ p.cps.toList) → splitL c (Str.join ⟨#[c]⟩ ps).cps.toList = ps.map fun p => p.cps.toList
  | [], h, _ => absurd rfl h
  | [p], _, h => by
    show splitL c p.cps.toList = [p.cps.toList]
    exact splitL_free (h p (by simp))
  | p :: q :: r, _, h => by
    show splitL c (p ++ (⟨#[c]⟩ : Str) ++ Str.join ⟨#[c]⟩ (q :: r)).cps.toList = _
    rw [app_toList, app_toList]
    have ih := split_join (c := c) (ps := q :: r) (by simp) fun x hx => h x (List.mem_cons_of_mem _ hx)
    rw [List.append_assoc]
    show splitL c (p.cps.toList ++ (c :: (Str.join ⟨#[c]⟩ (q :: r)).cps.toList)) = _
    rw [splitL_app _ (h p (by simp)), ih]
    rfl
theorem split_ne (x y : Str) : Txt.split x y ≠ [] := by
  unfold Txt.split
  split
  · simp
  · split
    · simp
    · intro h
      have := congrArg List.length h
      rw [length_partsBetween] at this
      simp at this
/-- the words of a text, by its signs -/
theorem split_signs (x : Str) (c : Nat) : (Txt.split x ⟨#[c]⟩).map (fun p => p.cps.toList) = splitL c x.cps.toList := by
  have h := split_join (c := c) (split_ne x ⟨#[c]⟩) (StrLaws.split_free x c)
  rw [StrLaws.join_split] at h
  exact h.symm
end Zb

/-! exceptions that are kept behind their clause -/
namespace Zb
open PySem PySem.Spec PyProof.Rows L2
open Evl (tCut pss_cut)
/-- an exception of the class cls, its dict at d, kept at a -/
def XkO (a : Addr) (cls : Value) (d : Option Addr) : HO := .ext fun h => ∃ (oe : Obj) (vs : Array Value), h.get? a = some oe ∧ Zc cls d oe ∧ oe.data = .fields vs
theorem xkO_ok {P : Program} {w : World} {H : Hp} {h : Heap} {a : Addr} {cls : Value} {d : Option Addr} {oe : Obj} {vs : Array Value} (e : h.get? a = some oe) (z : Zc cls d oe) (hd : oe.data = .fields vs) : ObjOk P w H h a (XkO a cls d) :=
  ⟨⟨oe, vs, e, z, hd⟩, ⟨oe, e⟩, fun _ _ ⟨o, v, q, r⟩ k => ⟨o, v, k o q, r⟩⟩
section
variable {X : Cx} {pins : List (Addr × Obj)} {σ : L2.St} {H : Hp} {s : Shared}
/-- an object that was not there at the entry is tracked from now on -/
theorem Inv.track {a : Addr} {o : HO} (I : Inv X pins σ H s) (n0 : X.s_0.heap.get? a = none) (hn : H a = none) (hp : ∀ p ∈ X.pn ++ pins, p.1 ≠ a) (hL : X.env.locals ≠ a) (hC : ∀ x c, X.env.cells.lookup x = some c → c ≠ a)
    (new : ObjOk X.prog X.w (upd H a o) s.heap a o) : Inv X pins σ (upd H a o) s := by
  have ne0 : ∀ b u, X.s_0.heap.get? b = some u → b ≠ a := fun b u e z => by
    rw [z, n0] at e
    cases e
  have neH : ∀ b u, H b = some u → b ≠ a := fun b u e z => by
    rw [z, hn] at e
    cases e
  refine ⟨I.ok, I.os, I.bare, ⟨I.base.keep, I.base.slot, fun b u e n hx => ?_, I.base.there, fun b xs e => ?_, fun b u y e => ?_, fun b ps e => ?_⟩, I.loc, I.cell, ?_, fun x c e => ?_, fun p hq => ?_, I.hok.laidN (fun _ _ e => e) hn new, I.len⟩
  · rw [upd_ne (ne0 b u e)]
    exact I.base.free b u e n hx
  · have q := I.base.tups b xs e
    rw [upd_ne (neH b _ q)]
    exact q
  · have q := I.base.frzs b u y e
    rw [upd_ne (neH b _ q)]
    exact q
  · obtain ⟨m, q⟩ := I.base.tbls b ps e
    exact ⟨m, by rw [upd_ne (neH b _ q)]; exact q⟩
  · rw [upd_ne hL]
    exact I.free
  · rw [upd_ne (hC x c e)]
    exact I.freeC x c e
  · obtain ⟨e, n, r⟩ := I.pin p hq
    exact ⟨e, by rw [upd_ne (hp p hq)]; exact n, r⟩
end
abbrev keepD (a : Addr) (cls : Value) (d : Option Addr) (D : Ends) : Ends := { nx := fun σ' H' => D.nx σ' (upd H' a (XkO a cls d)), rt := D.rt, bk := fun σ' H' => D.bk σ' (upd H' a (XkO a cls d)), ct := fun σ' H' => D.ct σ' (upd H' a (XkO a cls d)) }
abbrev keepT (ts : Addr → Value → Option Addr → TS) : Addr → Value → Option Addr → TS := fun a cls d D σ H => ts a cls d (keepD a cls d D) σ H
inductive HdK (X : Cx) : List ExceptHandler → List Cl → Prop
  | nil : HdK X [] []
  | one {x : Str} {c : Value} {ts : Addr → Value → Option Addr → TS} {b₀ : Stmt} {suite : List Stmt} {np pos' : Pos} {hds : List ExceptHandler} {l : List Cl} (hc : Names X x c)
      (hsu : ∀ (a : Addr) (oe : Obj) (cls : Value) (d : Option Addr) (pn : List (Addr × Obj)), Zc cls d oe → (∃ vs, oe.data = .fields vs) → PSs (X.suite a ((a, oe) :: pn)) (b₀ :: suite) (ts a cls d)) (r : HdK X hds l) :
      HdK X (.ExceptHandler (some (.Name x np)) none (b₀ :: suite) pos' :: hds) ((c, none, ts) :: l)
  | named {x n : Str} {c : Value} {i : Nat} {ts : Addr → Value → Option Addr → TS} {b₀ : Stmt} {suite : List Stmt} {np pos' : Pos} {hds : List ExceptHandler} {l : List Cl} (hN : X.N.Nodup) (hi : X.N[i]? = some n) (hln : X.env.kindOf n = some .local) (hc : Names X x c)
      (hsu : ∀ (a : Addr) (oe : Obj) (cls : Value) (d : Option Addr) (pn : List (Addr × Obj)), Zc cls d oe → (∃ vs, oe.data = .fields vs) → PSs (X.suite a ((a, oe) :: pn)) (b₀ :: suite) (ts a cls d)) (r : HdK X hds l) :
      HdK X (.ExceptHandler (some (.Name x np)) (some n) (b₀ :: suite) pos' :: hds) ((c, some i, ts) :: l)
  | kept {x n : Str} {c : Value} {i : Nat} {ts : Addr → Value → Option Addr → TS} {b₀ : Stmt} {suite : List Stmt} {np pos' : Pos} {hds : List ExceptHandler} {l : List Cl} (hN : X.N.Nodup) (hi : X.N[i]? = some n) (hln : X.env.kindOf n = some .local) (hc : Names X x c)
      (hsu : ∀ (a : Addr) (oe : Obj) (cls : Value) (d : Option Addr) (pn : List (Addr × Obj)), Zc cls d oe → (∃ vs, oe.data = .fields vs) → PSs (X.suite a ((a, oe) :: pn)) (b₀ :: suite) (ts a cls d)) (r : HdK X hds l) :
      HdK X (.ExceptHandler (some (.Name x np)) (some n) (b₀ :: suite) pos' :: hds) ((c, some i, keepT ts) :: l)
section
variable {X : Cx} {body orelse : List Stmt} {h₀ : ExceptHandler} {hds : List ExceptHandler} {l : List Cl} {pos : Pos} {tb : WX → TS} {u : TS} {Wout : WX}
theorem ps_tryK (hs : X.stack = X.env :: X.outer) (hf : X.env.frame = some X.env.locals) (tk : Takes X Wout)
    (hb : ∀ (W : WX) (pn : List (Addr × Obj)) (xe : Value → Shared → Prop), Takes (X.tr pn xe) W → PassesOwn (model X.prog X.w) X.A X.env xe → PSs (X.tr pn xe) body (tb W))
    (hh : HdK X (h₀ :: hds) l) (ho : PSs X orelse u) (hex : X.ex = [] := by rfl) : PS X (.Try body (h₀ :: hds) orelse [] pos) (tTry X.K Wout tb u l) := by
  refine ⟨fun pins s σ H D I h => ?_⟩
  have ok := I.ok
  have hfr : X.A.frames = some (X.env :: X.outer) := by rw [ok.frames, hs]
  refine wpAny_Try_except ?_
  refine wpAny_mono ((hb (wG X.K Wout D l) (X.pn ++ pins) (fun e s₁ => wpAny (model X.prog X.w) X.A (noteFrame e X.env) (fun _ s₂ => wpAny (model X.prog X.w) X.A (setFlight e none) (fun _ s₃ =>
    wpAny (model X.prog X.w) X.A (handleBy e X.env (h₀ :: hds)) (L2.SP X pins D) X.xe s₃) X.xe s₂) X.xe s₁) (fun u s' xx => ?_) PassesOwn.looking).run [] s σ H { D with nx := u D } (I.toTry _) h) (fun f s1 hsp => ?_) (fun e s1 he => he)
  · obtain ⟨a, B, sI, pins', σ', H', cls, d, rfl, J', nb, up, sky, na, os, ag, w⟩ := xx
    have J : Inv X pins σ' H' sI := J'.ofTry ok
    have sky' : Sky B (X.env :: X.outer) a (Zc cls d) X.env.locals s'.heap := by rw [← hs]; exact sky
    show wpAny (model X.prog X.w) X.A (noteFrame (.ref a) X.env) _ _ _
    refine Sky.land Zc.steady hfr hf sky' fun h3 fl3 up3 => ?_
    have J3 : Inv X pins σ' H' { s' with heap := h3 } := J.landed nb fl3.1 (up.trans up3) os ag
    have hBa : B.get? a = none := fl3.2.1
    obtain ⟨oe3, vs3, he3, hz3, hd3⟩ := fl3.there
    have notFr : ∀ {h : Heap} {o : Obj} {vs : Array Value}, h.FunFrames B (X.env :: X.outer) → h.get? a = some o → o.data = .fields vs → a ∉ frs (X.env :: X.outer) := fun {h o vs} ff e dd hm => by
      obtain ⟨_, o', e', hnf⟩ := ff.mem hm
      rw [e] at e'; cases e'
      exact hnf _ dd
    have nfr := notFr fl3.2.2.1 he3 hd3
    have nL : a ≠ X.env.locals := fun z => nfr (List.mem_filterMap.mpr ⟨X.env, List.mem_cons_self, by rw [hf, z]⟩)
    have nF : a ∉ X.fs := fun hm => by
      obtain ⟨e, he, q⟩ := List.mem_filterMap.mp hm
      exact nfr (List.mem_filterMap.mpr ⟨e, List.mem_cons_of_mem _ he, q⟩)
    have nfr' : a ∉ frs X.stack := by rw [hs]; exact nfr
    have nsI : sI.heap.get? a = none := by
      cases e : sI.heap.get? a with
      | none => rfl
      | some o =>
        have z := nb a o e nfr'
        rw [hBa] at z
        cases z
    have ns0 : X.s_0.heap.get? a = none := by
      cases e : X.s_0.heap.get? a with
      | none => rfl
      | some o =>
        obtain ⟨o', z⟩ := J.base.there a o e (by rw [hex]; exact fun z => nomatch z)
        rw [nsI] at z
        cases z
    have npin : ∀ p ∈ X.pn ++ pins, p.1 ≠ a := fun p hp z => by
      obtain ⟨e, _⟩ := J.pin p hp
      rw [z, nsI] at e
      cases e
    have ncell : ∀ x c, X.env.cells.lookup x = some c → c ≠ a := fun x c e z => by
      obtain ⟨v, o, ho, _⟩ := J.cell x c e
      rw [z, nsI] at ho
      cases ho
    have S3 := J3.suite he3 hd3 na nL nF
    have LT : PySem.W.Looks (model X.prog X.w) h3 (typeOf (.ref a)) cls := fun A Q E s k q => wpAny_typeOf_ref (k _ _ he3) (by rw [hz3.1]; exact q)
    have test : ∀ {x : Str} {c : Value} {np : Pos} {Q : Value → Shared → Prop} {E : Value → Shared → Prop}, Names X x c → Q c { s' with heap := h3 } → wpAny (model X.prog X.w) (X.A.mark (some (.ref a))) (eval (.Name x np) X.env) Q E { s' with heap := h3 } := fun {x c np Q E} hc q => by
      obtain ⟨hg, hdbg, hm | ⟨hm, hv, hnn⟩⟩ := hc
      · exact ld_glob (X := X.suite a ((a, oe3) :: (X.pn ++ pins))) S3 hg hm q hdbg
      · exact ld_blt (X := X.suite a ((a, oe3) :: (X.pn ++ pins))) S3 hg hm hv q hnn hdbg
    have go : ∀ {hds' : List ExceptHandler} {l' : List Cl}, HdK X hds' l' → wG X.K Wout D l' cls d σ' H' →
        wpAny (model X.prog X.w) X.A (handleBy (.ref a) X.env hds') (L2.SP X pins D) X.xe { s' with heap := h3 } := by
      intro hds' l' hk
      induction hk with
      | nil =>
        intro w
        refine wpAny_handleBy_nil ?_
        obtain ⟨k1, k2, k3, oe, vs, T, oT, ts', he, hz, hd, h1, hr⟩ := id fl3
        unfold PySem.passOn
        refine wpAny_bind (wpAny_field he hd h1 ?_)
        rw [if_neg (show ¬ ((Value.ref T == Value.none) = true) from by simp)]
        have fin : wpAny (model X.prog X.w) X.A (setFlight (.ref a) X.env.frame) (fun _ s4 => wpAny (model X.prog X.w) X.A (throw (.ref a) : Sem Flow) (L2.SP X pins D) X.xe s4) X.xe { s' with heap := h3 } := by
          rw [hf]
          refine HandSPX.setFlight_upZ fl3 fun h4 hh4 up4 => wpAny_throw (tk _ _ ?_)
          exact ⟨a, B, sI, pins, σ', H', cls, d, rfl, J, nb, (up.trans up3).trans up4, .inr (.inr (by rw [hs]; exact hh4)), na, os, ag, w⟩
        first
          | exact wpAny_bind (wpAny_pure (wpAny_bind fin))
          | exact wpAny_bind fin
      | @one x c ts b₀ suite np pos' hds2 l2 hc hsu r ih =>
        intro w
        obtain ⟨b, hb1, hyes, hno⟩ := w
        refine wpAny_handleBy_cons (codeAny_handlers_test ?_) (by intro q; cases q)
        have LM := PySem.W.exm_one (M := model X.prog X.w) (J3.kIn) LT hb1
        refine test hc (LM.here ?_)
        cases b with
        | true =>
          refine codeAny_handlers_suite ?_
          refine HandSPX.lands_againZ fl3 fun h4 fl4 up4 => ?_
          have J4 : Inv X pins σ' H' { s' with heap := h4 } := J.landed nb fl4.1 ((up.trans up3).trans up4) os ag
          obtain ⟨oe4, vs4, he4, hz4, hd4⟩ := fl4.there
          have S4 := J4.suite he4 hd4 na nL nF
          refine wpAny_mono ((hsu a oe4 cls d (X.pn ++ pins) hz4 ⟨_, hd4⟩).run [] _ _ H' _ S4 (hyes rfl a na)) (fun f s6 hsp => ?_) (fun _ _ z => False.elim z)
          cases f with
          | next =>
            obtain ⟨σ6, H6, S6, q6⟩ := hsp
            exact ⟨_, _, S6.unsuite ok, q6⟩
          | brk =>
            obtain ⟨σ6, H6, S6, q6⟩ := hsp
            exact ⟨_, _, S6.unsuite ok, q6⟩
          | cont =>
            obtain ⟨σ6, H6, S6, q6⟩ := hsp
            exact ⟨_, _, S6.unsuite ok, q6⟩
          | ret u =>
            obtain ⟨v6, σ6, H6, S6, r6, q6⟩ := hsp
            exact ⟨_, _, _, S6.unsuite ok, r6, q6⟩
        | false =>
          show wpAny _ X.A (handleBy (.ref a) X.env hds2) _ _ _
          exact ih (hno rfl)
      | @named x n c i ts b₀ suite np pos' hds2 l2 hN hi hln hc hsu r ih =>
        intro w
        obtain ⟨b, hb1, hyes, hno⟩ := w
        refine wpAny_handleBy_cons (codeAny_handlers_test ?_) (by intro q; cases q)
        have LM := PySem.W.exm_one (M := model X.prog X.w) (J3.kIn) LT hb1
        refine test hc (LM.here ?_)
        have hloc : Loc X.env.scope n := .inl hln
        cases b with
        | true =>
          refine codeAny_handlers_suite_as ?_
          refine HandSPX.lands_againZ fl3 fun h4 fl4 up4 => ?_
          have J4 : Inv X pins σ' H' { s' with heap := h4 } := J.landed nb fl4.1 ((up.trans up3).trans up4) os ag
          obtain ⟨oe4, vs4, he4, hz4, hd4⟩ := fl4.there
          have S4 := J4.suite he4 hd4 na nL nF
          refine store_ok (X := X.suite a ((a, oe4) :: (X.pn ++ pins))) (v := .ref a) S4 hN hi hloc rfl (fun s5 S5 => ?_) (.inr hln)
          refine wpAny_mono ((hsu a oe4 cls d (X.pn ++ pins) hz4 ⟨_, hd4⟩).run [] s5 _ H' _ S5 (hyes rfl a na)) (fun f s6 hsp => ?_) (fun _ _ z => False.elim z)
          have end_ : ∀ {σ6 : L2.St} {H6 : Hp} {Q : Shared → Prop}, Inv (X.suite a ((a, oe4) :: (X.pn ++ pins))) [] σ6 H6 s6 → (∀ s7, Inv X pins (σ6.set i none) H6 s7 → Q s7) →
              wpAny (model X.prog X.w) X.A (do bindName X.env n .none; unbindBehindTheSuite X.env n pos') (fun _ s7 => Q s7) X.xe s6 := fun {σ6 H6 Q} S6 hq => gone_ok (S6.unsuite ok) hN hi hln hq
          cases f with
          | next =>
            obtain ⟨σ6, H6, S6, q6⟩ := hsp
            exact end_ S6 fun s7 J7 => ⟨_, _, J7, q6⟩
          | brk =>
            obtain ⟨σ6, H6, S6, q6⟩ := hsp
            exact end_ S6 fun s7 J7 => ⟨_, _, J7, q6⟩
          | cont =>
            obtain ⟨σ6, H6, S6, q6⟩ := hsp
            exact end_ S6 fun s7 J7 => ⟨_, _, J7, q6⟩
          | ret u =>
            obtain ⟨v6, σ6, H6, S6, r6, q6⟩ := hsp
            exact end_ S6 fun s7 J7 => ⟨_, _, _, J7, r6, q6⟩
        | false =>
          show wpAny _ X.A (handleBy (.ref a) X.env hds2) _ _ _
          exact ih (hno rfl)
      | @kept x n c i ts b₀ suite np pos' hds2 l2 hN hi hln hc hsu r ih =>
        intro w
        obtain ⟨b, hb1, hyes, hno⟩ := w
        refine wpAny_handleBy_cons (codeAny_handlers_test ?_) (by intro q; cases q)
        have LM := PySem.W.exm_one (M := model X.prog X.w) (J3.kIn) LT hb1
        refine test hc (LM.here ?_)
        have hloc : Loc X.env.scope n := .inl hln
        cases b with
        | true =>
          refine codeAny_handlers_suite_as ?_
          refine HandSPX.lands_againZ fl3 fun h4 fl4 up4 => ?_
          have J4 : Inv X pins σ' H' { s' with heap := h4 } := J.landed nb fl4.1 ((up.trans up3).trans up4) os ag
          obtain ⟨oe4, vs4, he4, hz4, hd4⟩ := fl4.there
          have S4 := J4.suite he4 hd4 na nL nF
          refine store_ok (X := X.suite a ((a, oe4) :: (X.pn ++ pins))) (v := .ref a) S4 hN hi hloc rfl (fun s5 S5 => ?_) (.inr hln)
          refine wpAny_mono ((hsu a oe4 cls d (X.pn ++ pins) hz4 ⟨_, hd4⟩).run [] s5 _ H' _ S5 (hyes rfl a na)) (fun f s6 hsp => ?_) (fun _ _ z => False.elim z)
          have end_ : ∀ {σ6 : L2.St} {H6 : Hp} {Q : Shared → Prop}, Inv (X.suite a ((a, oe4) :: (X.pn ++ pins))) [] σ6 H6 s6 → (∀ s7, Inv X pins (σ6.set i none) (upd H6 a (XkO a cls d)) s7 → Q s7) →
              wpAny (model X.prog X.w) X.A (do bindName X.env n .none; unbindBehindTheSuite X.env n pos') (fun _ s7 => Q s7) X.xe s6 := fun {σ6 H6 Q} S6 hq => by
            have P6 := S6.pin (a, oe4) (List.mem_append_left _ List.mem_cons_self)
            have J6 : Inv X ((a, oe4) :: pins) σ6 H6 s6 := (S6.unsuite ok).pins_of fun p hp => by
              rcases List.mem_cons.mp hp with e | h
              · rw [e]; exact P6
              · exact (S6.unsuite ok).pin p (List.mem_append_right _ h)
            refine gone_ok J6 hN hi hln fun s7 J7 => hq s7 ?_
            obtain ⟨h7, hn7, _⟩ := J7.pin (a, oe4) (List.mem_append_right _ List.mem_cons_self)
            have K7 : Inv X pins (σ6.set i none) H6 s7 := J7.pins_of fun p hp => J7.pin p (List.mem_append_right _ (List.mem_cons_of_mem _ hp))
            exact Inv.track K7 ns0 hn7 npin (fun z => nL z.symm) ncell (xkO_ok h7 hz4 hd4)
          cases f with
          | next =>
            obtain ⟨σ6, H6, S6, q6⟩ := hsp
            exact end_ S6 fun s7 J7 => ⟨_, _, J7, q6⟩
          | brk =>
            obtain ⟨σ6, H6, S6, q6⟩ := hsp
            exact end_ S6 fun s7 J7 => ⟨_, _, J7, q6⟩
          | cont =>
            obtain ⟨σ6, H6, S6, q6⟩ := hsp
            exact end_ S6 fun s7 J7 => ⟨_, _, J7, q6⟩
          | ret u =>
            obtain ⟨v6, σ6, H6, S6, r6, q6⟩ := hsp
            refine gone_ok (S6.unsuite ok) hN hi hln fun s7 J7 => ⟨_, _, _, J7, r6, q6⟩
        | false =>
          show wpAny _ X.A (handleBy (.ref a) X.env hds2) _ _ _
          exact ih (hno rfl)
    exact go hh w
  · cases f with
    | next =>
      obtain ⟨σ', H', J', q⟩ := hsp
      exact ho.run pins s1 σ' H' D (J'.ofTry ok) q
    | brk =>
      obtain ⟨σ', H', J', q⟩ := hsp
      exact ⟨σ', H', J'.ofTry ok, q⟩
    | cont =>
      obtain ⟨σ', H', J', q⟩ := hsp
      exact ⟨σ', H', J'.ofTry ok, q⟩
    | ret u =>
      obtain ⟨v, σ', H', J', r, q⟩ := hsp
      exact ⟨v, σ', H', J'.ofTry ok, r, q⟩
end
/-! ### a kept exception: a field, isinstance -/
def XkP (K : PySem.W.Frag) (n : Str) (Q : VK) : VK := fun x H1 => ∃ (a C dd : Addr) (fs : List (Str × V)) (v : V), x = .ref a ∧ H1 a = some (XkO a (.ref C) (some dd)) ∧ XI K C ∧ PySem.W.findIn K (.ref C) n = some none ∧ H1 dd = some (.xd fs) ∧ fs.lookup n = some v ∧ Q v H1
def tXk (K : PySem.W.Frag) (n : Str) (te : TE) : TE := fun σ H Q => te σ H (XkP K n Q)
section
variable {X : Cx} {K : PySem.W.Frag}
theorem pe_xk {e : Expr} {te : TE} {pos : Pos} {n : Str} (he : PE X e te) (hb : attributeBase e n X.env (eval e X.env) = eval e X.env := by rfl) (hK : X.K = K := by rfl) : PE X (.Attribute e n pos) (tXk K n te) := by
  subst hK
  refine ⟨fun pins s σ H Q I h => ?_⟩
  refine attr_of hb (thn (he.run pins s σ H _ I h) fun u s1 hh => ?_)
  obtain ⟨x, H1, I1, rx, a, C, dd, fs, v, ex, ha0, T, hno, ea, l, q⟩ := hh
  subst ex
  obtain rfl : u = Value.ref a := rx
  obtain ⟨⟨oe, vs, ha, hz, hd⟩, _, _⟩ := I1.hok a _ ha0
  have hx : ObjOk X.prog X.w H1 s1.heap dd (.xd fs) := I1.hok dd _ ea
  obtain ⟨mA, hns, hr⟩ := hx
  obtain ⟨od, ho, hl⟩ := lookIn_ns hns
  obtain ⟨u, hu, ru⟩ := RelO.some_of (v := v) (o := mA n) (by rw [← l]; exact hr n)
  have J : PySem.W.InstAt s1.heap a oe C (some od) := ⟨ha, hz.1, by unfold PySem.W.notCls; rw [hd] <;> rfl, by rw [hz.2]; exact ho⟩
  exact HandSPX.exc_get I1.kIn J T.ga T.gg T.sb (PySem.W.findObj_own T.hd hno rfl (by rw [hl, hu])) (handed_of ru) ⟨v, H1, I1.tok _, ru, q⟩
/-- isinstance(e, C), isinstance(e, (C1, ..)), e a kept exception -/
def rIsK (K : PySem.W.Frag) : List V → Hp → VK → Prop := fun xs H Q => ∃ (a : Addr) (c : V) (cv : Value) (b : Bool) (C dd : Addr) (fs : List (Str × V)), xs = [.ref a, c] ∧ H a = some (XkO a (.ref C) (some dd)) ∧ (∀ u, RelV c u → u = cv) ∧ XI K C ∧ H dd = some (.xd fs) ∧ PySem.W.kitOne K (.ref C) cv = some b ∧ Q (.bl b) H
def rIsKs (K : PySem.W.Frag) : List V → Hp → VK → Prop := fun xs H Q => ∃ (a tp : Addr) (cs : List V) (cvs : List Value) (b : Bool) (C dd : Addr) (fs : List (Str × V)), xs = [.ref a, .ref tp] ∧ H a = some (XkO a (.ref C) (some dd)) ∧ H tp = some (.tup cs) ∧ (∀ us, Vals cs us → us = cvs) ∧ XI K C ∧ H dd = some (.xd fs) ∧ PySem.W.kitAny K (.ref C) cvs = some b ∧ Q (.bl b) H
theorem call_isK (hK : X.K = K := by rfl) : CallR X (.builtin "isinstance") (rIsK K) := by
  subst hK
  intro pins s σ H xs us Q I r h
  obtain ⟨a, c, cv, b, C, dd, fs, rfl, ha0, hcv, T, ea, e, q⟩ := h
  cases r with
  | cons rx rr =>
    cases rr with
    | cons rt rr =>
      cases rr
      cases rx
      have ecv := hcv _ rt
      subst ecv
      obtain ⟨⟨oe, vs, hget, hz, hv⟩, _, _⟩ := I.hok a _ ha0
      have hx : ObjOk X.prog X.w H s.heap dd (.xd fs) := I.hok dd _ ea
      obtain ⟨mA, hns, hr⟩ := hx
      obtain ⟨od, ho, hl⟩ := lookIn_ns hns
      have J : PySem.W.InstAt s.heap a oe C (some od) := ⟨hget, hz.1, by unfold PySem.W.notCls; rw [hv] <;> rfl, by rw [hz.2]; exact ho⟩
      exact PySem.W.kia_one (PySem.W.kitx_exc T.hc T.ga T.gg T.sb T.ca T.cn T.ct T.cm) I.kIn J e (fun z => nomatch z) fun tk => ⟨.bl b, H, I.kept (t' := tk) fun _ _ z => z, rfl, q⟩
theorem call_isKs (hK : X.K = K := by rfl) : CallR X (.builtin "isinstance") (rIsKs K) := by
  subst hK
  intro pins s σ H xs us Q I r h
  obtain ⟨a, tp, cs, cvs, b, C, dd, fs, rfl, ha0, htp, hcv, T, ea, e, q⟩ := h
  cases r with
  | cons rx rr =>
    cases rr with
    | cons rt rr =>
      cases rr
      cases rx
      cases rt
      obtain ⟨its, rv, ⟨o, h1, h2, n, h3⟩, _⟩ := I.tuple (.inl (.inl htp))
      have := hcv its rv
      subst this
      obtain ⟨⟨oe, vs, hget, hz, hv⟩, _, _⟩ := I.hok a _ ha0
      have hx : ObjOk X.prog X.w H s.heap dd (.xd fs) := I.hok dd _ ea
      obtain ⟨mA, hns, hr⟩ := hx
      obtain ⟨od, ho, hl⟩ := lookIn_ns hns
      have J : PySem.W.InstAt s.heap a oe C (some od) := ⟨hget, hz.1, by unfold PySem.W.notCls; rw [hv] <;> rfl, by rw [hz.2]; exact ho⟩
      obtain ⟨oc, odd, oda, osl⟩ := o
      dsimp only at h2 h3
      subst h2 h3
      exact PySem.W.kia_tup (PySem.W.kitx_exc T.hc T.ga T.gg T.sb T.ca T.cn T.ct T.cm) I.kIn J h1 e (fun z => nomatch z) fun tk => ⟨.bl b, H, I.kept (t' := tk) fun _ _ z => z, rfl, q⟩
end
section
variable {K : PySem.W.Frag} {σ : L2.St} {H : Hp} {Q : VK}
theorem st_xk {n : Str} {te : TE} (h : te σ H (XkP K n Q)) : tXk K n te σ H Q := h
theorem st_xkP {a C dd : Addr} {n : Str} {fs : List (Str × V)} {v : V} (h0 : H a = some (XkO a (.ref C) (some dd))) (T : XI K C) (hno : PySem.W.findIn K (.ref C) n = some none) (h1 : H dd = some (.xd fs)) (h2 : fs.lookup n = some v) (h : Q v H) : XkP K n Q (.ref a) H := ⟨a, C, dd, fs, v, rfl, h0, T, hno, h1, h2, h⟩
theorem st_isK {a C C' dd : Addr} {fs : List (Str × V)} {b : Bool} (h0 : H a = some (XkO a (.ref C) (some dd))) (T : XI K C) (h1 : H dd = some (.xd fs)) (e : PySem.W.kitOne K (.ref C) (.ref C') = some b) (h : Q (.bl b) H) : rIsK K [.ref a, .ref C'] H Q :=
  ⟨a, .ref C', .ref C', b, C, dd, fs, rfl, h0, fun u r => by cases r; rfl, T, h1, e, h⟩
theorem st_isKT {a C dd : Addr} {fs : List (Str × V)} {n : String} {b : Bool} (h0 : H a = some (XkO a (.ref C) (some dd))) (T : XI K C) (h1 : H dd = some (.xd fs)) (e : PySem.W.kitOne K (.ref C) (.type n) = some b) (h : Q (.bl b) H) : rIsK K [.ref a, .ty n] H Q :=
  ⟨a, .ty n, .type n, b, C, dd, fs, rfl, h0, fun u r => by cases r; rfl, T, h1, e, h⟩
/-- of no class among these -/
inductive KitN (K : PySem.W.Frag) (C : Addr) : List V → Prop
  | nil : KitN K C []
  | cons {D : Addr} {l : List V} : PySem.W.kitOne K (.ref C) (.ref D) = some false → KitN K C l → KitN K C (.ref D :: l)
theorem KitN.any {C : Addr} : ∀ {l : List V}, KitN K C l → ∃ cvs : List Value, (∀ us, Vals l us → us = cvs) ∧ PySem.W.kitAny K (.ref C) cvs = some false
  | _, .nil => ⟨[], fun us r => by cases r; rfl, rfl⟩
  | _, .cons (D := D) h t => by
    obtain ⟨cvs, h1, h2⟩ := t.any
    refine ⟨.ref D :: cvs, fun us r => ?_, ?_⟩
    · cases r with
      | cons r1 rr =>
        cases r1
        rw [h1 _ rr]
    · unfold PySem.W.kitAny
      rw [h]
      exact h2
theorem st_isKs {a C dd tp : Addr} {cs : List V} {fs : List (Str × V)} (h0 : H a = some (XkO a (.ref C) (some dd))) (T : XI K C) (h1 : H dd = some (.xd fs)) (ht : H tp = some (.tup cs)) (k : KitN K C cs) (h : Q (.bl false) H) : rIsKs K [.ref a, .ref tp] H Q := by
  obtain ⟨cvs, k1, k2⟩ := k.any
  exact ⟨a, tp, cs, cvs, false, C, dd, fs, rfl, h0, ht, k1, T, h1, k2, h⟩
end
end Zb

/-! a list or a tuple turned about -/
namespace HT
open PySem PySem.Spec PyProof.Rows L2
section
variable {prog : Program} {w : World} {A : Around} {E : Value → Shared → Prop} {s : Shared}
theorem sliceApplied_rev {sl : Addr} {tk : Tok} {n : Nat} {Q : Int × Int × Nat → Shared → Prop} (hs : s.heap.IsSliceOf sl .none .none (.int (-1) tk))
    (h : Q ((n : Int) - 1, -1, n) s) : wpAny (model prog w) A (Builtin.Slice.sliceApplied (.ref sl) (pure (n : Int))) Q E s := by
  obtain ⟨os, hos, hcs, hds⟩ := id hs
  unfold Builtin.Slice.sliceApplied Builtin.Slice.sliceFields
  refine wpAny_bind (wpAny_bind (wpAny_field hos hds (x := .none) rfl (wpAny_bind (wpAny_field hos hds (x := .none) rfl (wpAny_bind (wpAny_field hos hds (x := .int (-1) tk) rfl (wpAny_pure ?_)))))))
  refine wpAny_bind (slicePart_ (o := some (-1)) (.int (-1) tk) ?_)
  show wpAny _ _ (if ((-1 : Int) == 0) = true then _ else _) _ _ s
  rw [if_neg (by decide)]
  refine wpAny_bind (slicePart_ .none (wpAny_bind (slicePart_ .none (wpAny_bind (wpAny_pure ?_)))))
  show wpAny _ _ (match Builtin.Slice.sliceAdjust none none (-1) (n : Int) with | (lo, hi) => pure (lo, (-1 : Int), Builtin.Slice.slicePlaces lo hi (-1))) _ _ s
  have e1 : Builtin.Slice.sliceAdjust none none (-1) (n : Int) = ((n : Int) - 1, -1) := by
    unfold Builtin.Slice.sliceAdjust
    simp
  have e2 : Builtin.Slice.slicePlaces ((n : Int) - 1) (-1) (-1) = n := by
    unfold Builtin.Slice.slicePlaces
    rw [if_neg (by decide)]
    by_cases h : (n : Int) - 1 > -1
    · rw [if_pos h]
      have : ((n : Int) - 1 - -1 - 1) / (- -1) + 1 = n := by
        rw [Int.neg_neg, Int.ediv_one]
        omega
      rw [this]
      exact Int.toNat_natCast n
    · rw [if_neg h]
      show 0 = n
      omega
  rw [e1]
  show wpAny _ _ (pure ((n : Int) - 1, (-1 : Int), Builtin.Slice.slicePlaces ((n : Int) - 1) (-1) (-1))) _ _ s
  rw [e2]
  exact wpAny_pure h
theorem pick_rev (xs : Array Value) : ((List.range xs.size).filterMap fun (m : Nat) => xs[(((xs.size : Int) - 1) + (m : Int) * (-1)).toNat]?) = xs.toList.reverse := by
  have e : (List.range xs.size).filterMap (fun (m : Nat) => xs[(((xs.size : Int) - 1) + (m : Int) * (-1)).toNat]?) = Zb.pick ((List.range xs.size).map fun m => xs.size - 1 - m) xs.toList := by
    unfold Zb.pick
    rw [List.filterMap_map]
    have g : ∀ l : List Nat, (∀ m ∈ l, m < xs.size) → l.filterMap (fun (m : Nat) => xs[(((xs.size : Int) - 1) + (m : Int) * (-1)).toNat]?) = l.filterMap ((fun x => xs.toList[x]?) ∘ fun m => xs.size - 1 - m) := by
      intro l
      induction l with
      | nil => intro _; rfl
      | cons m l ih =>
        intro h
        have hm := h m List.mem_cons_self
        have e1 : xs[(((xs.size : Int) - 1) + (m : Int) * (-1)).toNat]? = ((fun x => xs.toList[x]?) ∘ fun m => xs.size - 1 - m) m := by
          show _ = xs.toList[xs.size - 1 - m]?
          rw [Array.getElem?_toList, show (((xs.size : Int) - 1) + (m : Int) * (-1)).toNat = xs.size - 1 - m by omega]
        rw [List.filterMap_cons, List.filterMap_cons, e1, ih fun x hx => h x (List.mem_cons_of_mem _ hx)]
    exact g _ fun m hm => List.mem_range.mp hm
  rw [e]
  refine List.ext_getElem? fun i => ?_
  rw [Zb.pick_get (fun j hj => ?_)]
  · by_cases hi : i < xs.size
    · rw [List.getElem?_map, List.getElem?_range hi, List.getElem?_reverse (by simpa using hi), Array.length_toList]
      rfl
    · rw [List.getElem?_eq_none (by simp; omega), List.getElem?_eq_none (by simp; omega)]
      rfl
  · obtain ⟨m, hm, rfl⟩ := List.mem_map.mp hj
    have := List.mem_range.mp hm
    rw [Array.length_toList]
    omega
theorem getItem_tuple_rev {t sl : Addr} {items : Array Value} {tk : Tok} {Q : Value → Shared → Prop} (ht : IsTup s.heap t items) (hs : s.heap.IsSliceOf sl .none .none (.int (-1) tk))
    (h : Q (.ref s.heap.objs.size) { s with heap := s.heap.push { cls := .type "tuple", data := .seq items.toList.reverse.toArray } })
    (hsz : items.size ≤ sizeLine) : wpAny (model prog w) A (getItem (.ref t) (.ref sl)) Q E s := by
  have htake : sizeOk (.seq items.toList.reverse.toArray) := by
    show items.toList.reverse.toArray.size ≤ sizeLine
    rw [List.size_toArray, List.length_reverse, Array.length_toList]
    exact hsz
  obtain ⟨os, hos, hcs, hds⟩ := id hs
  have hTs : s.TypeIs (.ref sl) "slice" := ⟨os, hos, hcs⟩
  unfold getItem
  try with_reducible refine wpAny_holding ?_
  first | refine wpAny_bind (wpAny_pure ?_) | skip
  refine wpAny_bind (wpAny_sequenceKey ht.typeIs (by decide) ?_)
  refine wpAny_bind (wpAny_callSpecial?_slot (name := Str.ofString "__getitem__") ht.typeIs PyProof.Rows.slot_tuple_getitem
    (wpAny_call_entry PyProof.Rows.slot_tuple_getitem ht.typeIs entry_tuple_getitem ?_ (args_tuple_getitem _ _)))
  show wpAny _ _ (Builtin.Tuple.tupleItemsOf (.ref t) >>= _) _ _ s
  refine wpAny_bind (tupleItemsOf_ ht ?_)
  refine wpAny_bind (wpAny_typeOf hTs ?_)
  rw [if_pos (by decide)]
  refine wpAny_bind (sliceApplied_rev hs ?_)
  show wpAny _ _ (if (((items.size : Int) - 1) == 0 && (-1 : Int) == 1 && (items.size : Nat) == items.size) = true then _ else _) _ _ s
  rw [if_neg (by intro q; rw [Bool.and_eq_true, Bool.and_eq_true] at q; exact absurd q.1.2 (by decide)), pick_rev]
  first
    | exact wpAny_bind (m := Builtin.Tuple.tupleExact _) (wpAny_newObj_type (wpAny_pure ⟨_, rfl, wpAny_pure h⟩) htake)
    | exact wpAny_bind (m := Builtin.Tuple.tupleExact _) (wpAny_newObj_type (wpAny_bind (wpAny_pure (wpAny_pure ⟨_, rfl, wpAny_pure h⟩))) htake)
    | exact wpAny_bind (wpAny_bind (m := Builtin.Tuple.tupleExact _) (wpAny_newObj_type (wpAny_pure (wpAny_pure ⟨_, rfl, wpAny_pure h⟩)) htake))
    | exact wpAny_bind (wpAny_bind (m := Builtin.Tuple.tupleExact _) (wpAny_newObj_type (wpAny_pure ⟨_, rfl, wpAny_pure h⟩) htake))
end
end HT
namespace Zb
open PySem PySem.Spec PyProof.Rows L2
open Evl (tCut pss_cut)
def rRv : V → Hp → VK → Prop := fun x H Q => ∃ a xs, x = .ref a ∧ ((lstAt H a = some xs ∧ ∀ q, H q = none → Q (.ref q) (upd H q (.lst xs.reverse))) ∨ (tupAt H a = some xs ∧ ∀ q, H q = none → Q (.ref q) (upd H q (.tup xs.reverse))))
def tRv (te ts : TE) : TE := fun σ H Q => te σ H fun x H1 => ts σ H1 fun s H4 => s = .int (-1) ∧ rRv x H4 Q
section
variable {X : Cx} {e st : Expr} {te ts : TE} {pos p2 : Pos}
/-- e[::-1], a list or a tuple -/
theorem pe_rev (he : PE X e te) (hs : PE X st ts) : PE X (.Subscript e (.Slice none none (some st) p2) pos) (tRv te ts) := by
  refine ⟨fun pins s σ H Q I h => ?_⟩
  rw [eval_Subscript]
  refine wpAny_bind (thn (he.run pins s σ H _ I h) fun v s1 ⟨x, H1, I1, r1, q1⟩ => wpAny_bind (wpAny_holding (wpAny_Slice ?_)))
  rw [evalPart_none]
  refine wpAny_pure ?_
  refine wpAny_pure ?_
  rw [evalPart_some]
  refine thn (hs.run pins s1 σ H1 _ I1 q1) fun vk s4 ⟨xk, H4, I4, rk, q4⟩ => ?_
  obtain ⟨ek, q⟩ := q4
  subst ek
  obtain ⟨tk, rfl⟩ := rk
  refine wpAny_bind (wpAny_standAt ?_)
  have I5 : Inv X pins σ H4 { s4 with heap := s4.heap.push { cls := .type "slice", data := .fields #[.none, .none, .int (-1) tk] } } := I4.kept (t' := s4.toks) fun b ob q => Heap.get?_push_of_some _ q
  have go : ∀ {T id : String}, typeLookup (.type T) "__getitem__" = pure (some (.builtin id)) → ({ s4 with heap := s4.heap.push { cls := .type "slice", data := .fields #[.none, .none, .int (-1) tk] } } : Shared).TypeIs v T → wpAny (model X.prog X.w) X.A (getItem v (.ref s4.heap.objs.size)) (EP X pins σ Q) X.xe { s4 with heap := s4.heap.push { cls := .type "slice", data := .fields #[.none, .none, .int (-1) tk] } } →
      wpAny (model X.prog X.w) X.A (subscriptTail e (.Slice none none (some st) p2) v (.ref s4.heap.objs.size)) (EP X pins σ Q) X.xe { s4 with heap := s4.heap.push { cls := .type "slice", data := .fields #[.none, .none, .int (-1) tk] } } := by
    intro T id hT ht hg
    exact tail_any (ops := [v, .ref s4.heap.objs.size]) ht hT hg (by with_unfolding_all rfl)
  have hsl : ({ s4 with heap := s4.heap.push { cls := .type "slice", data := .fields #[.none, .none, .int (-1) tk] } } : Shared).heap.IsSliceOf s4.heap.objs.size .none .none (.int (-1) tk) := Heap.IsSliceOf.new ..
  obtain ⟨p, xs, rfl, ⟨hx, q⟩ | ⟨hx, q⟩⟩ := q
  · obtain rfl : v = Value.ref p := r1
    obtain ⟨its, r, ht, hz⟩ := I5.list (lstAt_sq hx)
    have hlen := r.length
    refine go slot_list_getitem.lookup ht.isList.typeIs ?_
    refine wpAny_getItem_list_slice ht.isList hsl .none .none (.int (-1) tk) (by simp) ?_ (by rw [List.size_toArray] <;> omega)
    have e1 : slicePick its.toArray none none (some (-1)) = (pick (ixSt none none (-1) xs.length) its).toArray := by
      unfold slicePick pick
      congr 1
      rw [hlen]
      show (ixSt none none (-1) its.toArray.size).filterMap _ = _
      rw [List.size_toArray]
      congr 1
      funext j
      rw [List.getElem?_toArray]
    rw [e1]
    have e2 : pick (ixSt none none (-1) xs.length) xs = xs.reverse := pick_rev xs
    refine ⟨.ref _, _, I5.laid (t' := s4.toks) (o := .lst xs.reverse) (fun b ob q => Heap.get?_push_of_some _ q) (Nat.le_refl _) ?_, rfl, q _ (I5.hok.fresh (Nat.le_refl _))⟩
    rw [← e2]
    exact ⟨Nat.le_trans (pick_len _ _) (Nat.le_trans (ixSt_len _ _ _ _) hz), _, 0, vals_pick r _, Heap.get?_push_size _ rfl⟩
  · obtain rfl : v = Value.ref p := r1
    obtain ⟨its, r, ht, hz⟩ := I5.tuple (tupAt_sq hx)
    have hlen := r.length
    refine go PyProof.Rows.slot_tuple_getitem.lookup ht.typeIs ?_
    refine HT.getItem_tuple_rev ht hsl ?_ (by rw [List.size_toArray] <;> omega)
    refine ⟨.ref _, _, I5.laid (t' := s4.toks) (o := .tup xs.reverse) (fun b ob q => Heap.get?_push_of_some _ q) (Nat.le_refl _) ?_, rfl, q _ (I5.hok.fresh (Nat.le_refl _))⟩
    refine ⟨by rw [List.length_reverse]; exact hz, its.reverse, ?_, ?_⟩
    · have : ∀ {xs : List V} {us : List Value}, Vals xs us → Vals xs.reverse us.reverse := fun {xs us} r => by
        induction r with
        | nil => exact .nil
        | cons a t ih =>
          rw [List.reverse_cons, List.reverse_cons]
          exact ih.append (.cons a .nil)
      exact this r
    · exact IsTup.new _ _
end
section
variable {K : PySem.W.Frag} {σ : L2.St} {H : Hp} {Q : VK}
def RvP (Q : VK) (x s : V) (H4 : Hp) : Prop := s = .int (-1) ∧ rRv x H4 Q
theorem st_rv {te ts : TE} (h : te σ H fun x H1 => ts σ H1 fun s H4 => RvP Q x s H4) : tRv te ts σ H Q := h
theorem st_rvQ {a : Addr} {xs : List V} (h1 : seqAt H a = some xs) (h : ∀ q H', H q = none → Ex H H' → seqAt H' q = some xs.reverse → Q (.ref q) H') : RvP Q (.ref a) (.int (-1)) H :=
  ⟨rfl, a, xs, rfl, (seqAt_cases h1).elim (fun z => .inl ⟨z, fun q hq => h q _ hq (Fr.new hq) (seq_l upd_same)⟩) fun z => .inr ⟨z, fun q hq => h q _ hq (Fr.new hq) (seq_t upd_same)⟩⟩
end
end Zb
namespace SrtO
open PySem PyProof.Rows Srt
section
variable {prog : Program} {w : World} {A : Around} {E : Value → Shared → Prop} {s : Shared}
theorem collect_tup {l : Addr} {vs : List Value} {Q : List Value → Shared → Prop} (hl : IsTup s.heap l vs.toArray)
    (h : Q vs { s with heap := (s.heap.push (seqObj "list" #[] 0)).update s.heap.objs.size (Obj.mapSeq (· ++ vs.toArray)) }) (hsz : vs.length ≤ sizeLine) :
    wpAny (model prog w) A (collect (.ref l)) Q E s := by
  obtain ⟨o, ho, hc, n, hd⟩ := id hl
  unfold collect
  refine wpAny_bind (wpAny_runValue (codeAny_builtin entry_proto_collect' ?_))
  show wpAny _ _ (do again (.builtin "list.__iadd__" ⟨[← newList [], .ref l], []⟩)) _ _ s
  refine wpAny_bind (wpAny_newList (wpAny_pure ⟨Code.quiet_builtin _ (by decide +kernel), codeAny_builtin entry_list_iadd' ?_⟩))
  show wpAny _ _ (Builtin.List.listExtendWith (.ref s.heap.objs.size) (.ref l) (.ref s.heap.objs.size)) _ _ { s with heap := s.heap.push (seqObj "list" #[] 0) }
  unfold Builtin.List.listExtendWith
  have ho' : (s.heap.push (seqObj "list" #[] 0)).get? l = some o := Heap.get?_push_of_some _ ho
  refine wpAny_bind (wpAny_typeOf (T := "tuple") ⟨o, ho', hc⟩ ?_)
  have ht : (Value.type "tuple" == Value.type "tuple") = true := by rfl
  rw [if_pos (by rw [ht]; simp)]
  refine wpAny_bind (listItems_at ho' hd ?_)
  refine wpAny_bind (listItems_at (xs := #[]) (n := 0) (Heap.get?_push_size _ rfl) rfl ?_)
  rw [if_neg (by simp)]
  refine wpAny_bind (listUpdate_at (xs := #[]) (n := 0) (Heap.get?_push_size _ rfl) rfl ?_ (Nat.zero_le _) (by show (#[] ++ vs.toArray).size ≤ sizeLine + 1; simp only [Array.size_append, List.size_toArray, List.length_nil]; omega))
  refine wpAny_pure ?_
  show wpAny (model prog w) A (do
      let o ← load s.heap.objs.size
      match o.data with
      | .seq xs _ => pure xs.toList
      | _ => unsupported "internal:collect") Q E { s with heap := (s.heap.push (seqObj "list" #[] 0)).update s.heap.objs.size (Obj.mapSeq (· ++ vs.toArray)) }
  refine wpAny_bind (wpAny_load (get?_update_seq (Heap.get?_push_size _ rfl) _) ?_)
  show wpAny _ _ (pure ((#[] : Array Value) ++ vs.toArray).toList) Q E _
  rw [show ((#[] : Array Value) ++ vs.toArray).toList = vs by simp]
  exact wpAny_pure h
theorem sorted_ordT {l : Addr} {vs : List Value} {ltv : Value → Value → Bool} {Q : Value → Shared → Prop} (O : Swo ltv) (hl : IsTup s.heap l vs.toArray) (hz : vs.length ≤ sizeLine)
    (hS : 2 ≤ vs.length → ∀ (h₁ : Heap) (a : Addr), h₁.get? a = some (seqObj "list" vs.toArray 0) → (∀ b o, s.heap.get? b = some o → b ≠ a ∧ h₁.get? b = some o) → SortableO prog w A.in1.in1 { s with heap := h₁ } a vs ltv)
    (h : ∀ out : List Value, Srtd ltv out → Stb ltv out vs → Q (.ref (s.heap.objs.size + 1)) { s with heap := sortedAll s.heap vs out.toArray }) :
    wpAny (model prog w) A (call (.builtin "sorted") [.ref l]) Q E s := by
  refine Calls.call_function_entry kind_sorted plain_sorted entry_sorted (args_sorted1 _) ?_
  unfold Builtin.«sorted»
  refine wpAny_bind (m := checkCount "sorted" 1 1 _) (wpAny_pure ?_)
  refine wpAny_bind (collect_tup hl ?_ hz)
  refine wpAny_bind (wpAny_newList ?_ hz)
  have hsz : ((s.heap.push (seqObj "list" #[] 0)).update s.heap.objs.size (Obj.mapSeq (· ++ vs.toArray))).objs.size = s.heap.objs.size + 1 := by
    rw [Heap.size_update, size_push']
  have hoL : (((s.heap.push (seqObj "list" #[] 0)).update s.heap.objs.size (Obj.mapSeq (· ++ vs.toArray))).push (seqObj "list" vs.toArray 0)).get? (s.heap.objs.size + 1) = some (seqObj "list" vs.toArray 0) := by
    rw [← hsz]; exact Heap.get?_push_size _ rfl
  have keep : ∀ b o, s.heap.get? b = some o → b ≠ s.heap.objs.size + 1 ∧ (((s.heap.push (seqObj "list" #[] 0)).update s.heap.objs.size (Obj.mapSeq (· ++ vs.toArray))).push (seqObj "list" vs.toArray 0)).get? b = some o := fun b o q => by
    have hlt : b < s.heap.objs.size := Heap.lt_size q
    refine ⟨Nat.ne_of_lt (Nat.lt_succ_of_lt hlt), Heap.get?_push_of_some _ ?_⟩
    rw [Heap.get?_update_ne _ _ _ _ (Nat.ne_of_lt hlt)]
    exact Heap.get?_push_of_some _ q
  show wpAny _ _ _ _ _ { s with heap := ((s.heap.push (seqObj "list" #[] 0)).update s.heap.objs.size (Obj.mapSeq (· ++ vs.toArray))).push (seqObj "list" vs.toArray 0) }
  rw [hsz]
  refine wpAny_bind (wpAny_holding (wpAny_call_entry slot_list_sort ⟨_, hoL, rfl⟩ entry_list_sort (list_sort_ord O hoL hz (fun h2 => hS h2 _ _ hoL keep) fun out hs hb => ⟨_, rfl, ?_⟩) (args_list_sort _)))
  exact wpAny_pure ⟨_, rfl, h out hs hb⟩
end
end SrtO
namespace Zb
open PySem PySem.Spec PyProof.Rows L2
/-- sorted of a list or a tuple of ints -/
def rSortedQ : List V → Hp → VK → Prop := fun vs H Q => ∃ (a : Addr) (ns : List Int), vs = [V.ref a] ∧ seqAt H a = some (ns.map V.int) ∧
  ∀ (ns' : List Int) (p : Addr), ns'.Perm ns → ns'.Pairwise (· ≤ ·) → H p = none → Q (.ref p) (upd H p (.lst (ns'.map V.int)))
theorem c_sortQ {X : Cx} : CallR X (.builtin "sorted") rSortedQ := by
  intro pins s σ H vs us Q I r h
  obtain ⟨a, ns, rfl, hs, q⟩ := h
  rcases seqAt_cases hs with hs | hs
  · exact cr_sortedI pins s σ H _ us Q I r ⟨a, ns, rfl, lstAt_sq hs, q⟩
  · obtain ⟨its, rv, hl, hz⟩ := I.tuple (tupAt_sq hs)
    rw [Vals.ref1 r]
    have hi := rv.ints
    refine SrtO.sorted_ordT SrtO.swo_int hl (by rw [← rv.length]; exact hz) (fun h2 h₁ a' _ _ => SrtO.ints_sortable hi h2) fun out h1 h2 => ?_
    obtain ⟨k1, k2, k3⟩ := SrtO.ints_out hi h1 h2
    obtain ⟨ep, he'⟩ := PyProof.Rows.sortedAll_at s.heap its out.toArray
    have hlen : ((out.map SrtO.iv).map V.int).length ≤ sizeLine := by
      rw [List.length_map, k2.length_eq]
      rw [List.length_map] at hz
      exact hz
    exact ⟨.ref _, upd H (s.heap.objs.size + 1) (.lst ((out.map SrtO.iv).map V.int)), I.laid (t' := s.toks) (fun _ _ => PyProof.Rows.sortedAll_old) (Nat.le_succ _) ⟨hlen, out, ep, vals_of_ints k1, he'⟩, rfl, q _ _ k2 k3 (I.hok.fresh (Nat.le_succ _))⟩
theorem st_sortQ {H : Hp} {Q : VK} {p : Addr} {ns : List Int} (h1 : seqAt H p = some (ns.map V.int)) (h : ∀ (ns' : List Int) (q : Addr) (H' : Hp), ns'.Perm ns → ns'.Pairwise (· ≤ ·) → H q = none → Ex H H' → H' q = some (.lst (ns'.map V.int)) → Q (.ref q) H') : rSortedQ [.ref p] H Q :=
  ⟨p, ns, rfl, h1, fun ns' q k1 k2 hq => h ns' q _ k1 k2 hq (Fr.new hq) upd_same⟩
end Zb
namespace Zb
open PySem PySem.Spec PyProof.Rows L2
/-- x += a text -/
def rIpS : R2 := fun x y H Q => ∃ a b : Str, x = .str a ∧ y = .str b ∧ a.length + b.length ≤ 16777216 ∧ Q (.str (a ++ b)) H
theorem ip_addS {X : Cx} : PIp X .Add rIpS := by
  intro pins s σ H x y v u Q I r1 r2 h
  obtain ⟨a, b, rfl, rfl, hz, q⟩ := h
  exact iop_add_str pins s σ H _ _ v u Q I r1 r2 ⟨a, b, rfl, rfl, by rw [sl16]; exact hz, q⟩
section
variable {σ : L2.St} {H : Hp} {Q : VK} {D : Ends}
theorem st_augS {i : Nat} {te : TE} {z : Str} (hx : σ[i]? = some (some (.str z))) (h : te σ H (fun y H1 => rIpS (.str z) y H1 fun z H2 => D.nx (σ.set i (some z)) H2)) : tAug i te rIpS D σ H := ⟨_, hx, h⟩
theorem st_ipS {x y : Str} (hz : x.length + y.length ≤ 16777216) (h : Q (.str (x ++ y)) H) : rIpS (.str x) (.str y) H Q := ⟨x, y, rfl, rfl, hz, h⟩
end
end Zb
namespace Zb
open PySem PySem.Spec PyProof.Rows L2
section
variable {J : It} {S : Hp → Prop} {g : TG} {σ : L2.St} {H1 : Hp}
/-- a comprehension whose turns each make new things: P, what is told of the one at an address -/
theorem lc_made {α : Type} {ys : List α} {val : α → V} {te : TE} {vs : List Nat} {Q : VK} (hR : RunsV J ys val S) (hS : ∀ H', Ex H1 H' → S H') (hz : ys.length < 1000000) (P : α → Addr → Hp → Prop) (hP : ∀ y a H H', P y a H → Ex H H' → P y a H')
    (hs : ∀ y H', y ∈ ys → Ex H1 H' → ∀ (B : V → Hp → Prop), (∀ a H'', Ex H' H'' → (∀ G : Hp, (∀ b o, H' b = none → H'' b = some o → G b = some o) → P y a G) → B (.ref a) H'') → g (val y) (wipe σ vs) H' fun σ2 H2 => wipe σ2 vs = wipe σ vs ∧ te σ2 H2 B)
    (hd : ∀ D H' (ts : List Addr), H1 D = none → Ex H1 H' → H' D = some (.lst (ts.map V.ref)) → ts.length = ys.length → (∀ (k : Nat) (a : Addr) (y : α), ts[k]? = some a → ys[k]? = some y → P y a H') → Q (.ref D) H')
    (hg : ∀ v σ H (P P' : L2.St → Hp → Prop), (∀ σ H, P σ H → P' σ H) → g v σ H P → g v σ H P' := by intro _ _ _ _ _ k h; exact k _ _ h) : LcGoal J g tYes te vs σ Q H1 := by
  intro D hD
  obtain ⟨W, hW⟩ : ∃ W : Nat → Hp → Prop, W = fun i H => ∃ ts : List Addr, H D = some (.lst (ts.map V.ref)) ∧ Ex H1 H ∧ ts.length = i ∧ ∀ (k : Nat) (a : Addr) (y : α), ts[k]? = some a → ys[k]? = some y → P y a (hid D H) := ⟨_, rfl⟩
  have hWi : ∀ i H, W i H ↔ ∃ ts : List Addr, H D = some (.lst (ts.map V.ref)) ∧ Ex H1 H ∧ ts.length = i ∧ ∀ (k : Nat) (a : Addr) (y : α), ts[k]? = some a → ys[k]? = some y → P y a (hid D H) := fun i H => by rw [hW]
  refine ⟨fun i m H => m = ys.length - i ∧ i ≤ ys.length ∧ W i H, ⟨ys.length, by simp, Nat.zero_le _, (hWi _ _).mpr ⟨[], upd_same, Fr.new hD, rfl, fun k a y h _ => by simp at h⟩⟩, ?_⟩
  rintro i m H ⟨rfl, hi, hw⟩
  obtain ⟨ts, h1, h2, h3, h4⟩ := (hWi _ _).mp hw
  by_cases hlt : i < ys.length
  · refine .inr ⟨hR.go i H hlt (hS H h2), W (i + 1), fun H' p' => ⟨ys.length - (i + 1), by omega, rfl, hlt, p'⟩, fun x H' y => ?_⟩
    obtain ⟨rfl, y0, hy, rfl⟩ := hR.yld i H x H' hlt (hS H h2) y
    refine hg _ _ _ _ _ (fun σ2 H2 h => ⟨h.1, h.2⟩) (hs y0 H' (List.mem_of_getElem? hy) h2 (fun v H4 => ∃ acc, H4 D = some (.lst acc) ∧ acc.length < sizeLine ∧ W (i + 1) (upd H4 D (.lst (acc ++ [v])))) ?_)
    intro a H4 e hn
    have hup : ∀ o, hid D (upd H4 D o) = hid D H4 := fun o => by
      funext b
      unfold hid
      by_cases n : b = D
      · rw [if_pos n, if_pos n]
      · rw [if_neg n, if_neg n, upd_ne n]
    have hst : Ex (hid D H') (hid D H4) := fun b o _ q => by
      unfold hid at q ⊢
      by_cases n : b = D
      · rw [if_pos n] at q; cases q
      · rw [if_neg n] at q ⊢
        exact e.get q
    refine ⟨ts.map V.ref, e.get h1, by rw [List.length_map, sl16]; omega, (hWi _ _).mpr ⟨ts ++ [a], by rw [upd_same, List.map_append]; rfl, (h2.trans e).mut hD, by rw [List.length_append, h3]; rfl, fun k b y hk hky => ?_⟩⟩
    rw [hup]
    by_cases hkl : k < ts.length
    · rw [List.getElem?_append_left hkl] at hk
      exact hP y b _ _ (h4 k b y hk hky) hst
    · rw [List.getElem?_append_right (by omega)] at hk
      have hk0 : k = ts.length := by
        have := (List.getElem?_eq_some_iff.mp hk).1
        rw [List.length_singleton] at this
        omega
      subst hk0
      rw [Nat.sub_self] at hk
      cases hk
      rw [h3, hy] at hky
      cases hky
      exact hn _ fun b o hb ho => hid_get ho fun z => by rw [z, h1] at hb; cases hb
  · have e : i = ys.length := by omega
    subst e
    exact .inl ⟨hR.stop H (hS H h2), hd D H ts hD h2 h1 h3 fun k a y hk hky => hP y a _ _ (h4 k a y hk hky) (hid_ex D H)⟩
end
end Zb

/-! methods called, objects made inside a try -/
namespace Zb
open PySem PySem.Spec PyProof.Rows L2
section
variable {X : Cx} {CX : CXT} {k : Nat} {f C : Addr} {fd : FuncData} {ps : List Str} {sp : Sp} {E : L2.St → XK} {x m : Str} {p pos apos : Pos} {e o : Expr} {es : List Expr} {ta : TE} {t : TA}
def tMethS (C : Addr) (m : Str) (sp : Sp) (E : L2.St → XK) (ta : TE) (t : TA) : TE := fun σ H Q => ta σ H (MethP C m sp [] (E σ) t σ Q)
theorem pe_methT {pl : Sem Bool} (he : PE X o ta) (c : Cls X.K C) (hm : Meth X.K C m f) (F : FnOk X.prog X.w X.K X.mg X.base CX k f fd ps sp) (hr : Room k X.A) (hb : Binds X.K fd ps []) (_ : Vals ([] : List V) ([] : List Value)) (hx : ∀ σ, PassesAt CX X σ (E σ)) (ha : PA X (e :: es) t)
    (hst : starEach (e :: es) X.env = (false, eval e X.env) :: starEach es X.env := by rfl) (hpl : (backTo pos (starEach es X.env)).any (·.1) = false := by rfl)
    (ht : eval (.Call (.Attribute o m apos) (e :: es) [] pos) X.env = (do
      let ov ← eval o X.env
      standAt apos.atName
      let (f, first) ← holding [ov] (getMethod ov m pl)
      callWith pos f first (backTo pos (starEach (e :: es) X.env)) (backToKw pos (keywordEach [] X.env))) := by rfl) :
    PE X (.Call (.Attribute o m apos) (e :: es) [] pos) (tMethS C m sp E ta t) := by
  refine ⟨fun pins s σ H Q I h => ?_⟩
  refine PySem.W.methodCall_KW (pl := pl) (thn (he.run pins s σ H _ I h) fun u s1 ⟨x, H1, I1, rx, a, dx, fs, ex, ea, l, q⟩ => ?_) ht
  subst ex
  obtain rfl : u = Value.ref a := rx
  refine getmeth_ok I1 ea c hm l ?_
  refine PySem.W.callWith_K (first := [.ref a]) (h₀ := X.base) I.ok.mod.kin hm.kp (thn (ha.run pos pins s1 σ H1 _ I1 q) fun us s2 ⟨vs, H2, I2, r, q2⟩ => ⟨I2.kIn, ?_⟩) hst hpl
  have q2 : sp (.ref a :: (vs ++ [])) H2 Q (E σ) := q2
  rw [List.append_nil] at q2
  exact run_fnS (us := .ref a :: us) (vs := .ref a :: vs) F hr hb (hx σ) I2 (.cons rfl r) q2
theorem pe_methT0 {pl : Sem Bool} (he : PE X o ta) (c : Cls X.K C) (hm : Meth X.K C m f) (F : FnOk X.prog X.w X.K X.mg X.base CX k f fd ps sp) (hr : Room k X.A) (hb : Binds X.K fd ps []) (_ : Vals ([] : List V) ([] : List Value)) (hx : ∀ σ, PassesAt CX X σ (E σ))
    (ht : eval (.Call (.Attribute o m apos) [] [] pos) X.env = (do
      let ov ← eval o X.env
      standAt apos.atName
      let (f, first) ← holding [ov] (getMethod ov m pl)
      callWith pos f first (backTo pos (starEach [] X.env)) (backToKw pos (keywordEach [] X.env))) := by rfl) :
    PE X (.Call (.Attribute o m apos) [] [] pos) (tMethS C m sp E ta tNil) := by
  refine ⟨fun pins s σ H Q I h => ?_⟩
  refine PySem.W.methodCall_KW (pl := pl) (thn (he.run pins s σ H _ I h) fun u s1 ⟨x, H1, I1, rx, a, dx, fs, ex, ea, l, q⟩ => ?_) ht
  subst ex
  obtain rfl : u = Value.ref a := rx
  refine getmeth_ok I1 ea c hm l ?_
  exact PySem.W.callWith_K0 (first := [.ref a]) I1.kIn hm.kp (run_fnS (us := [.ref a]) (vs := [.ref a]) F hr hb (hx σ) I1 (.cons rfl .nil) q)
theorem run_makeS {pins : List (Addr × Obj)} {σ : L2.St} {H : Hp} {s : Shared} {Q : VK} {us : List Value} {vs : List V} {E : XK} (M : Mk X.K C f) (F : FnOk X.prog X.w X.K X.mg X.base CX k f fd ps sp) (hr : Room (k + 1) X.A) (hb : Binds X.K fd ps [])
    (hx : PassesAt CX X σ E) (I : Inv X pins σ H s) (r : Vals vs us)
    (h : ∀ x dx, H x = none → H dx = none → dx ≠ x → sp (.ref x :: vs) (upd (upd H dx (.own x)) x (.ins C dx [])) (fun v H2 => v = .non ∧ Q (.ref x) H2) E) :
    wpAny (model X.prog X.w) X.A (call (.ref C) us) (EP X pins σ Q) X.xe s := by
  have hq := h (s.heap.objs.size + 1) s.heap.objs.size (I.hok.fresh (Nat.le_succ _)) (I.hok.fresh (Nat.le_refl _)) (Nat.ne_of_lt (Nat.lt_succ_self _))
  have I2 := Inv.made (C := C) I
  have r2 : Vals (V.ref (s.heap.objs.size + 1) :: vs) (Value.ref (s.heap.objs.size + 1) :: us) := .cons rfl r
  have hl : (Value.ref (s.heap.objs.size + 1) :: us).length = ps.length := by
    have e := r2.length
    rw [F.len _ _ _ _ hq] at e
    exact e.symm
  have b := hb { s with heap := _ } (Value.ref (s.heap.objs.size + 1) :: us) I2.kIn (by rw [List.append_nil]; exact hl)
  rw [List.append_nil] at b
  refine wpAny_call (make_map (f := f) I.kIn M.makes M.init (beq_iff_eq.mp M.fn) (codeAny_mono (F.run _ X.stack _ _ ⟨Value.ref (s.heap.objs.size + 1) :: us, []⟩ (Value.ref (s.heap.objs.size + 1) :: us) _ _ E (hr.make C us [])
    (I2.env0.make C us []) b r2 hq) fun r s' hq' => ?_))
  cases r with
  | error e => exact hx pins _ _ e s' I2 hq'
  | ok fl =>
    cases fl with
    | ret u =>
      obtain ⟨v, H', I3, rv, ev, q3⟩ := I2.after hq'
      subst ev
      exact ⟨rv, ⟨V.ref (s.heap.objs.size + 1), H', I3, rfl, q3⟩⟩
    | next => exact False.elim hq'
    | brk => exact False.elim hq'
    | cont => exact False.elim hq'
def tMakeS (C : Addr) (sp : Sp) (E : L2.St → XK) (t : TA) : TE := fun σ H Q => t σ H (MakeP C sp [] (E σ) Q)
theorem pe_makeT (M : Mk X.K C f) (F : FnOk X.prog X.w X.K X.mg X.base CX k f fd ps sp) (hr : Room (k + 1) X.A) (hg : Gl X x) (hm : X.mg x = some (.ref C)) (hb : Binds X.K fd ps []) (_ : Vals ([] : List V) ([] : List Value)) (hx : ∀ σ, PassesAt CX X σ (E σ))
    (ha : PA X (e :: es) t) (hdb : (x == ("__debug__" : Str)) = false := by decide) (he : starEach (e :: es) X.env = (false, eval e X.env) :: starEach es X.env := by rfl) (hpl : (backTo pos (starEach es X.env)).any (·.1) = false := by rfl) :
    PE X (.Call (.Name x p) (e :: es) [] pos) (tMakeS C sp E t) := by
  refine ⟨fun pins s σ H Q I h => ?_⟩
  refine wpAny_Call_Name_kw (ld_glob I hg hm ?_ hdb)
  refine PySem.W.callWith_K (h₀ := X.base) I.ok.mod.kin M.kp (thn (ha.run pos pins s σ H _ I h) fun us s1 ⟨vs, H1, I1, r, q⟩ => ⟨I1.kIn, ?_⟩) he hpl
  refine run_makeS M F hr hb (hx σ) I1 r fun x dx h1 h2 h3 => ?_
  have := q x dx h1 h2 h3
  rwa [List.append_nil] at this
end
section
variable {σ : L2.St} {H : Hp} {Q : VK} {C : Addr} {sp : Sp} {W : WX}
theorem st_methS {m : Str} {ta : TE} {t : TA} (h : ta σ H (MethP C m sp [] (WE W σ) t σ Q)) : tMethS C m sp (WE W) ta t σ H Q := h
theorem st_makeS {t : TA} (h : t σ H (MakeP C sp [] (WE W σ) Q)) : tMakeS C sp (WE W) t σ H Q := h
end
end Zb

/-! sorted of lists of three ints each; min of three -/
namespace Zb
open PySem PySem.Spec PyProof.Rows L2 SrtO
def IsTri (h : Heap) (v : Value) (k : Int × Int × Int) : Prop := ∃ a o t u r n, v = .ref a ∧ h.get? a = some o ∧ o.cls = .type "tuple" ∧ o.data = .seq #[.int k.1 t, .int k.2.1 u, .int k.2.2 r] n
theorem IsTri.keeps {h h' : Heap} {v : Value} {k : Int × Int × Int} (p : IsTri h v k) (kk : ∀ b o, h.get? b = some o → o.cls = .type "tuple" → h'.get? b = some o) : IsTri h' v k := by
  obtain ⟨a, o, t, u, r, n, e, ho, hc, hd⟩ := p
  exact ⟨a, o, t, u, r, n, e, kk _ _ ho hc, hc, hd⟩
theorem firsts3 {h : Heap} : ∀ {vs : List Value}, (∀ v ∈ vs, ∃ k, IsTri h v k) → ∃ fs : List Value, PySem.W.KatTups h vs fs ∧ fs.length = vs.length ∧ ∀ f ∈ fs, ∃ x t, f = Value.int x t
  | [], _ => ⟨[], PySem.W.KatTups.nil, rfl, fun _ hm => by simp at hm⟩
  | v :: vs, hp => by
    obtain ⟨fs, h1, h2, h3⟩ := firsts3 (vs := vs) fun v' hm => hp v' (List.mem_cons_of_mem _ hm)
    obtain ⟨k, a, o, t, u, r, n, e, ho, hc, hd⟩ := hp v (List.mem_cons_self ..)
    subst e
    refine ⟨.int k.1 t :: fs, PySem.W.KatTups.cons ho hc hd rfl h1, by rw [List.length_cons, List.length_cons, h2], fun f hm => ?_⟩
    rcases List.mem_cons.mp hm with rfl | hm
    · exact ⟨k.1, t, rfl⟩
    · exact h3 f hm
def lex3 (p q : Int × Int × Int) : Bool := if p.1 = q.1 then (if p.2.1 = q.2.1 then decide (p.2.2 < q.2.2) else decide (p.2.1 < q.2.1)) else decide (p.1 < q.1)
theorem lex3_iff {p q : Int × Int × Int} : lex3 p q = true ↔ p.1 < q.1 ∨ (p.1 = q.1 ∧ (p.2.1 < q.2.1 ∨ (p.2.1 = q.2.1 ∧ p.2.2 < q.2.2))) := by
  unfold lex3
  by_cases e : p.1 = q.1
  · rw [if_pos e]
    by_cases f : p.2.1 = q.2.1
    · rw [if_pos f, decide_eq_true_eq]
      omega
    · rw [if_neg f, decide_eq_true_eq]
      omega
  · rw [if_neg e, decide_eq_true_eq]
    omega
theorem lex3_no {p q : Int × Int × Int} : lex3 p q = false ↔ ¬ (p.1 < q.1 ∨ (p.1 = q.1 ∧ (p.2.1 < q.2.1 ∨ (p.2.1 = q.2.1 ∧ p.2.2 < q.2.2)))) := by
  rw [← lex3_iff]
  cases lex3 p q <;> simp
theorem swo3 {α : Type} (k : α → Int × Int × Int) : Swo fun v u => lex3 (k v) (k u) := by
  refine ⟨fun x y h => ?_, fun x y z h1 h2 => ?_⟩
  · have a := lex3_iff.mp h
    refine lex3_no.mpr ?_
    omega
  · have a := lex3_no.mp h1
    have b := lex3_no.mp h2
    refine lex3_no.mpr ?_
    omega
section
variable {prog : Program} {w : World} {A : Around} {s : Shared} {E : Value → Shared → Prop}
theorem tri_cmp {vs : List Value} {k : Value → Int × Int × Int} (hp : ∀ v ∈ vs, IsTri s.heap v (k v)) : Cmp prog w A s (tuples' true) (fun p => p.1 ∈ vs) (lt2 fun v u => lex3 (k v) (k u)) := by
  intro p q hm hm'
  have h1 := hp _ hm
  have h2 := hp _ hm'
  show wpAny (model prog w) A (keyLt' (tuples' true) p.1 q.1) (fun r s' => s' = s ∧ r = lex3 (k p.1) (k q.1)) (fun _ _ => False) s
  unfold lex3
  generalize k p.1 = kp at h1 ⊢
  generalize k q.1 = kq at h2 ⊢
  obtain ⟨x, y, z⟩ := kp
  obtain ⟨x', y', z'⟩ := kq
  obtain ⟨a, o, t, u, r, n, e, ho, hc, hd⟩ := h1
  obtain ⟨a', o', t', u', r', n', e', ho', hc', hd'⟩ := h2
  rw [e, e']
  refine PySem.W.kat_lt ho hd ho' hd' ?_
  show PySem.W.KatLex prog w A true (decide (3 < 3)) _ [(.int x t, .int x' t'), (.int y u, .int y' u'), (.int z r, .int z' r')] 0 s
  refine PySem.W.kat_cons (SeqAt.EqAt.int_int x t x' t' prog w _ _ ?_)
  refine PySem.W.kat_go (fun e1 => ?_) (fun e1 => ?_)
  · have ex : x = x' := by simpa using e1
    refine PySem.W.kat_yes (PySem.W.kat_cons (SeqAt.EqAt.int_int y u y' u' prog w _ _ ?_))
    refine PySem.W.kat_go (fun e2 => ?_) (fun e2 => ?_)
    · have ey : y = y' := by simpa using e2
      refine PySem.W.kat_yes (PySem.W.kat_cons (SeqAt.EqAt.int_int z r z' r' prog w _ _ ?_))
      refine PySem.W.kat_go (fun e3 => ?_) (fun e3 => ?_)
      · have ez : z = z' := by simpa using e3
        have e4 : (if x = x' then (if y = y' then decide (z < z') else decide (y < y')) else decide (x < x')) = false := by
          rw [if_pos ex, if_pos ey, ez]
          exact decide_eq_false (Int.lt_irrefl _)
        exact PySem.W.kat_yes (PySem.W.kat_nil ⟨rfl, e4.symm⟩)
      · have e4 : (if x = x' then (if y = y' then decide (z < z') else decide (y < y')) else decide (x < x')) = decide (z < z') := by rw [if_pos ex, if_pos ey]
        refine PySem.W.kat_no (PySem.W.kat_one _ _ (PyProof.Rows.lt_int ?_))
        exact (show s = s ∧ decide (z < z') = (if x = x' then (if y = y' then decide (z < z') else decide (y < y')) else decide (x < x')) from ⟨rfl, e4.symm⟩)
    · have ey : ¬ y = y' := by simpa using e2
      have e3 : (if x = x' then (if y = y' then decide (z < z') else decide (y < y')) else decide (x < x')) = decide (y < y') := by rw [if_pos ex, if_neg ey]
      refine PySem.W.kat_no (PySem.W.kat_one _ _ (PyProof.Rows.lt_int ?_))
      exact (show s = s ∧ decide (y < y') = (if x = x' then (if y = y' then decide (z < z') else decide (y < y')) else decide (x < x')) from ⟨rfl, e3.symm⟩)
  · have ex : ¬ x = x' := by simpa using e1
    have e3 : (if x = x' then (if y = y' then decide (z < z') else decide (y < y')) else decide (x < x')) = decide (x < x') := if_neg ex
    exact PySem.W.kat_no (oneLt_int ⟨rfl, e3.symm⟩)
theorem tri_sortableO {a : Addr} {vs : List Value} {k : Value → Int × Int × Int} (h0 : 0 < vs.length) (hp : ∀ v ∈ vs, IsTri s.heap v (k v)) (ha : ∀ o, s.heap.get? a = some o → o.cls ≠ .type "tuple") : SortableO prog w A s a vs fun v u => lex3 (k v) (k u) := by
  intro h' keep
  have hp' : ∀ v ∈ vs, IsTri h' v (k v) := fun v hm => (hp v hm).keeps fun b o e c => keep b o (fun z => by subst z; exact ha o e c) e
  obtain ⟨fs, h1, h2, h3⟩ := firsts3 fun v hm => ⟨_, hp' v hm⟩
  refine ⟨tuples' true, fun Q E hq => ?_, tri_cmp hp'⟩
  refine PySem.W.kat_kind (T := .type "int") h1 (by omega) (fun f hm => ?_) (by rfl) ?_
  · obtain ⟨x, t, rfl⟩ := h3 f hm
    exact PySem.W.Looks.now
  · have e : (Value.type "int" != Value.type "tuple") = true := by first | decide +kernel | rfl | decide
    rw [e]
    exact hq
theorem sorted_tri {l : Addr} {vs : List Value} {k : Value → Int × Int × Int} {Q : Value → Shared → Prop} (hl : s.heap.IsList l vs.toArray) (hz : vs.length ≤ sizeLine) (hp : ∀ v ∈ vs, IsTri s.heap v (k v))
    (h : ∀ (h' : Heap) (d : Addr) (out : List Value), Srtd (fun v u => lex3 (k v) (k u)) out → Stb (fun v u => lex3 (k v) (k u)) out vs → (∀ b o, s.heap.get? b = some o → h'.get? b = some o) → s.heap.objs.size ≤ d → (∃ n, h'.get? d = some (seqObj "list" out.toArray n)) → Q (.ref d) { s with heap := h' }) :
    wpAny (model prog w) A (call (.builtin "sorted") [.ref l]) Q E s := by
  refine sorted_ord (swo3 k) hl hz (fun h2 h₁ a ha kk => ?_) fun out hs hb => ?_
  · refine tri_sortableO (s := { s with heap := h₁ }) (by omega) (fun v hm => (hp v hm).keeps fun b o e _ => (kk b o e).2) fun o e => ?_
    have e' : some o = some (seqObj "list" vs.toArray 0) := e.symm.trans ha
    cases e'
    intro c
    exact absurd (Value.type.inj c) (by decide)
  · exact h _ _ out hs hb (fun b o e => sortedAll_old e) (Nat.le_succ _) (sortedAll_at s.heap vs out.toArray)
end
theorem vals3q {x y z : V} {us : List Value} (r : Vals [x, y, z] us) : ∃ u w' t', us = [u, w', t'] ∧ RelV x u ∧ RelV y w' ∧ RelV z t' := by
  cases r with
  | cons a r => cases r with
    | cons b r => cases r with
      | cons c r => cases r; exact ⟨_, _, _, rfl, a, b, c⟩
def rSorted3 (K : PySem.W.Frag) : List V → Hp → VK → Prop := fun vs H Q => ∃ (a : Addr) (xs : List V) (k : V → Int × Int × Int), vs = [V.ref a] ∧ SqL K H a xs ∧ (∀ x ∈ xs, ∃ t, x = V.ref t ∧ H t = some (.tup [.int (k x).1, .int (k x).2.1, .int (k x).2.2])) ∧
  ∀ ys p, Srtd (fun v u => lex3 (k v) (k u)) ys → ys.Perm xs → H p = none → Q (.ref p) (upd H p (.lst ys))
section
variable {X : Cx} {K : PySem.W.Frag}
theorem c_sort3 (hK : X.K = K := by rfl) : CallR X (.builtin "sorted") (rSorted3 K) := by
  subst hK
  intro pins s σ H vs us Q I r h
  obtain ⟨a, xs, k, rfl, hs, hx, q⟩ := h
  obtain ⟨its, rv, hl, hz⟩ := I.list hs
  obtain ⟨u, rfl, ru⟩ := vals1 r
  obtain rfl : u = Value.ref a := ru
  obtain ⟨e1, e2⟩ := refs_back rv fun x m => by
    obtain ⟨t, e, _⟩ := hx x m
    exact ⟨t, e⟩
  refine sorted_tri (k := fun u => k (backV u)) hl.isList (by rw [← rv.length]; exact hz) (fun v hv => ?_) fun h' d out h1 h2 kp hd hn => ?_
  · obtain ⟨t, rfl⟩ := e2 v hv
    have hm : V.ref t ∈ xs := by rw [e1]; exact List.mem_map.mpr ⟨_, hv, rfl⟩
    obtain ⟨t', e, ht⟩ := hx _ hm
    cases e
    obtain ⟨_, its2, r2, o, ho, hc, n, hd⟩ := I.hok _ _ ht
    obtain ⟨u1, u2, u3, rfl, ri, rj, rk⟩ := vals3q r2
    obtain ⟨t1, rfl⟩ := ri
    obtain ⟨t2, rfl⟩ := rj
    obtain ⟨t3, rfl⟩ := rk
    exact ⟨t, o, t1, t2, t3, n, rfl, ho, hc, hd⟩
  · have h3 : ∀ u ∈ out, ∃ a, u = Value.ref a := fun u hu => e2 u (h2.perm.mem_iff.mp hu)
    obtain ⟨n, hn⟩ := hn
    have hb : Stb (fun v u => lex3 (k v) (k u)) (out.map backV) xs := by
      rw [e1]
      exact Stb.map (swo3 k) backV h2
    refine ⟨.ref d, upd H d (.lst (out.map backV)), I.laid (t' := s.toks) kp hd ⟨?_, out, n, vals_back h3, hn⟩, rfl, q _ d (srtd_map h1) hb.perm (I.hok.fresh hd)⟩
    rw [hb.len]
    exact hz
end
/-! lists of triples -/
def tri3 (q : Int × Int × Int) : HO := .tup [.int q.1, .int q.2.1, .int q.2.2]
abbrev ZT := Addr × (Int × Int × Int)
abbrev z3V (z : ZT) : V := .ref z.1
def T3 (H : Hp) (zs : List ZT) : Prop := ∀ z ∈ zs, H z.1 = some (tri3 z.2)
def lexI3 (a b : Int × Int × Int) : Prop := a.1 < b.1 ∨ (a.1 = b.1 ∧ (a.2.1 < b.2.1 ∨ (a.2.1 = b.2.1 ∧ a.2.2 ≤ b.2.2)))
section
variable {H H' : Hp} {zs ys : List ZT}
theorem T3.ex (h : T3 H zs) (e : Ex H H') : T3 H' zs := fun z hz => e.get (h z hz)
theorem T3.up {D : Addr} {xs : List V} {u : HO} (h : T3 H zs) (hD : H D = some (.lst xs)) : T3 (upd H D u) zs := fun z hz => by
  rw [upd_ne fun e => by have := h z hz; rw [e, hD] at this; cases this]
  exact h z hz
theorem T3.app (h : T3 H zs) (k : T3 H ys) : T3 H (zs ++ ys) := fun z hz => (List.mem_append.mp hz).elim (h z) (k z)
theorem T3.cons {z : ZT} (h : H z.1 = some (tri3 z.2)) (k : T3 H ys) : T3 H (z :: ys) := fun y hy => by
  rcases List.mem_cons.mp hy with rfl | hy
  · exact h
  · exact k y hy
theorem T3.perm (h : T3 H zs) (e : ys.Perm zs) : T3 H ys := fun z hz => h z (e.mem_iff.mp hz)
def triAt (H : Hp) (v : V) : Int × Int × Int := match v with
  | .ref a => match H a with
    | some (.tup [.int i, .int j, .int k]) => (i, j, k)
    | _ => (0, 0, 0)
  | _ => (0, 0, 0)
theorem triAt_of {t : Addr} {q : Int × Int × Int} (h : H t = some (tri3 q)) : triAt H (.ref t) = q := by
  unfold triAt
  simp only [h, tri3]
theorem st_sort3 {K : PySem.W.Frag} {Q : VK} {p : Addr} (h1 : SqL K H p (zs.map z3V)) (ht : T3 H zs) (h : ∀ (ys : List ZT) q H', ys.Perm zs → (ys.map (·.2)).Pairwise lexI3 → H q = none → Ex H H' → H' q = some (.lst (ys.map z3V)) → Q (.ref q) H') : rSorted3 K [.ref p] H Q := by
  have hk : ∀ z ∈ zs, triAt H (z3V z) = z.2 := fun z hz => triAt_of (ht z hz)
  refine ⟨p, zs.map z3V, triAt H, rfl, h1, fun x hx => ?_, fun ys q hs hst hq => ?_⟩
  · obtain ⟨z, hz, rfl⟩ := List.mem_map.mp hx
    refine ⟨z.1, rfl, ?_⟩
    rw [hk z hz]
    exact ht z hz
  · obtain ⟨zs', hp, rfl⟩ := perm_mapV z3V ys zs hst
    refine h zs' q _ hp ?_ hq (Fr.new hq) upd_same
    have hs2 := List.pairwise_map.mp hs
    rw [List.pairwise_map]
    refine List.Pairwise.imp_of_mem (fun {a b} ha hb hab => ?_) hs2
    have a2 := hk a (hp.mem_iff.mp ha)
    have b2 := hk b (hp.mem_iff.mp hb)
    have hab : lex3 (triAt H (z3V b)) (triAt H (z3V a)) = false := hab
    rw [a2, b2] at hab
    have := lex3_no.mp hab
    unfold lexI3
    omega
theorem sorted3_uniq : ∀ {l m : List (Int × Int × Int)}, l.Pairwise lexI3 → m.Pairwise lexI3 → l.Perm m → l = m
  | [], m, _, _, h => (List.Perm.eq_nil h.symm).symm
  | x :: l, [], _, _, h => absurd h.length_eq (by simp)
  | x :: l, y :: m, hl, hm, h => by
    have e : x = y := by
      rcases List.mem_cons.mp (h.mem_iff.mp List.mem_cons_self) with e | hx
      · exact e
      · rcases List.mem_cons.mp (h.mem_iff.mpr List.mem_cons_self) with e | hy
        · exact e.symm
        · have a := (List.pairwise_cons.mp hm).1 x hx
          have b := (List.pairwise_cons.mp hl).1 y hy
          unfold lexI3 at a b
          exact Prod.ext (by omega) (Prod.ext (by omega) (by omega))
    subst e
    rw [sorted3_uniq (List.pairwise_cons.mp hl).2 (List.pairwise_cons.mp hm).2 h.cons_inv]
end
/-! min of three ints -/
def rMin3 : List V → Hp → VK → Prop := fun vs H Q => match vs with
  | [.int i, .int j, .int k] => Q (.int (min (min i j) k)) H
  | _ => False
theorem c_min3 {X : Cx} (hc : X.calm = true) : CallR X (.builtin "min") rMin3 := by
  intro pins s σ H xs us Q I r h
  unfold rMin3 at h
  split at h
  · rename_i i j k
    refine call_min3Nu hc pins s σ H _ us Q I r ⟨_, _, _, V.int (min (min i j) k), rfl, ?_, h⟩
    show ((nuLt (V.int j) (V.int i)).map fun c => if c = true then V.int j else V.int i).bind (fun m => (nuLt (V.int k) m).map fun c => if c = true then V.int k else m) = _
    have lt : ∀ a b : Int, nuLt (V.int a) (V.int b) = some (decide (a < b)) := fun a b => rfl
    rw [lt]
    by_cases c : j < i
    · rw [show min i j = j by omega]
      simp only [Option.map_some, Option.bind_some, decide_eq_true c, if_true, lt]
      by_cases d : k < j
      · rw [show min j k = k by omega, decide_eq_true d]; rfl
      · rw [show min j k = j by omega, decide_eq_false d]; rfl
    · rw [show min i j = i by omega]
      simp only [Option.map_some, Option.bind_some, decide_eq_false c, if_false, lt, Bool.false_eq_true]
      by_cases d : k < i
      · rw [show min i k = k by omega, decide_eq_true d]; rfl
      · rw [show min i k = i by omega, decide_eq_false d]; rfl
  · exact h.elim
theorem st_min3 {i j k : Int} {H : Hp} {Q : VK} (h : Q (.int (min (min i j) k)) H) : Zb.rMin3 [.int i, .int j, .int k] H Q := h
end Zb

/-! classes under a class: the base's def called by name, methods of one of several classes, isinstance of own classes -/
namespace Zb
open PySem PySem.Spec PyProof.Rows L2
/-- the def m of the class nm, read off the class -/
structure BF (K : PySem.W.Frag) (mg : Str → Option Value) (nm m : Str) (f : Addr) : Prop where
  g : mg nm = some (.ref (clsA K nm))
  ga : PySem.W.specialIn K (.ref (clsA K nm)) "__getattribute__" = some (some (.builtin "type.__getattribute__"))
  rd : PySem.W.readsIn K (clsA K nm) (.type "type") = true
  fi : PySem.W.findCls K (.ref (clsA K nm)) (.type "type") m = some (.val (.ref f))
section
variable {X : Cx} {CX : CXT} {k : Nat} {f : Addr} {fd : FuncData} {ps : List Str} {sp : Sp} {E : XK} {e o : Expr} {es : List Expr} {ta : TE} {t : TA} {p1 p2 pos apos : Pos} {nm m : Str}
theorem pe_bfn {pl : Sem Bool} (B : BF X.K X.mg nm m f) (F : FnOk X.prog X.w X.K X.mg X.base CX k f fd ps sp) (hr : Room k X.A) (hk : PySem.W.keepIn X.K (.ref f) = true) (hb : Binds X.K fd ps []) (hx : Passes CX X E) (hg : Gl X nm) (ha : PA X (e :: es) t)
    (hdb : (nm == ("__debug__" : Str)) = false := by decide)
    (hc : eval (.Call (.Attribute (.Name nm p1) m p2) (e :: es) [] pos) X.env = (do
      let ov ← eval (.Name nm p1) X.env
      standAt p2.atName
      let (f, first) ← holding [ov] (getMethod ov m pl)
      callWith pos f first (backTo pos (starEach (e :: es) X.env)) (backToKw pos (keywordEach [] X.env))) := by rfl)
    (he : starEach (e :: es) X.env = (false, eval e X.env) :: starEach es X.env := by rfl) (hpl : (backTo pos (starEach es X.env)).any (·.1) = false := by rfl) :
    PE X (.Call (.Attribute (.Name nm p1) m p2) (e :: es) [] pos) (tCall sp [] E t) := by
  refine ⟨fun pins s σ H Q I h => ?_⟩
  refine PySem.W.methodCall_KW (ld_glob I hg B.g ?_ hdb) hc
  refine PySem.W.method_cls I.kIn B.ga (PySem.W.cls_value I.kIn B.rd B.fi rfl ?_)
  refine PySem.W.callWith_K (first := []) (h₀ := X.base) I.ok.mod.kin hk (thn (ha.run pos pins _ σ H _ (I.tok _) h) fun us s1 ⟨vs, H1, I1, r, q⟩ => ⟨I1.kIn, ?_⟩) he hpl
  exact run_fn (us := us) (vs := vs) F hr hb .nil hx I1 r q
/-- a method of an instance of one of several classes -/
def DynM (P : Program) (w : World) (K : PySem.W.Frag) (mg : Str → Option Value) (base : Heap) (CX : CXT) (k : Nat) (ps : List Str) (m : Str) (CS : Addr → Prop) (sp : Addr → Sp) : Prop := ∀ C, CS C → Cls K C ∧ ∃ f fd, Meth K C m f ∧ FnOk P w K mg base CX k f fd ps (sp C) ∧ Binds K fd ps []
def MethD (CS : Addr → Prop) (m : Str) (sp : Addr → Sp) (E : XK) (t : TA) (σ : L2.St) (Q : VK) (x : V) (H1 : Hp) : Prop := ∃ a C dx fs, x = .ref a ∧ H1 a = some (.ins C dx fs) ∧ CS C ∧ fs.lookup m = none ∧ t σ H1 fun vs H2 => sp C (x :: vs) H2 Q E
def tMethD (CS : Addr → Prop) (m : Str) (sp : Addr → Sp) (E : XK) (ta : TE) (t : TA) : TE := fun σ H Q => ta σ H (MethD CS m sp E t σ Q)
variable {CS : Addr → Prop} {spD : Addr → Sp}
theorem pe_methD {pl : Sem Bool} (he : PE X o ta) (D : DynM X.prog X.w X.K X.mg X.base CX k ps m CS spD) (hr : Room k X.A) (hx : Passes CX X E) (ha : PA X (e :: es) t)
    (hst : starEach (e :: es) X.env = (false, eval e X.env) :: starEach es X.env := by rfl) (hpl : (backTo pos (starEach es X.env)).any (·.1) = false := by rfl)
    (ht : eval (.Call (.Attribute o m apos) (e :: es) [] pos) X.env = (do
      let ov ← eval o X.env
      standAt apos.atName
      let (f, first) ← holding [ov] (getMethod ov m pl)
      callWith pos f first (backTo pos (starEach (e :: es) X.env)) (backToKw pos (keywordEach [] X.env))) := by rfl) :
    PE X (.Call (.Attribute o m apos) (e :: es) [] pos) (tMethD CS m spD E ta t) := by
  refine ⟨fun pins s σ H Q I h => ?_⟩
  refine PySem.W.methodCall_KW (pl := pl) (thn (he.run pins s σ H _ I h) fun u s1 ⟨x, H1, I1, rx, a, C, dx, fs, ex, ea, hC, l, q⟩ => ?_) ht
  subst ex
  obtain rfl : u = Value.ref a := rx
  obtain ⟨c, f, fd, hm, F, hb⟩ := D C hC
  refine getmeth_ok I1 ea c hm l ?_
  refine PySem.W.callWith_K (first := [.ref a]) (h₀ := X.base) I.ok.mod.kin hm.kp (thn (ha.run pos pins s1 σ H1 _ I1 q) fun us s2 ⟨vs, H2, I2, r, q2⟩ => ⟨I2.kIn, ?_⟩) hst hpl
  have q2 : spD C (.ref a :: vs) H2 Q E := q2
  exact run_fn (us := .ref a :: us) (vs := .ref a :: vs) F hr hb .nil hx I2 (.cons rfl r) (by rw [List.append_nil]; exact q2)
theorem pe_methD0 {pl : Sem Bool} (he : PE X o ta) (D : DynM X.prog X.w X.K X.mg X.base CX k ps m CS spD) (hr : Room k X.A) (hx : Passes CX X E)
    (ht : eval (.Call (.Attribute o m apos) [] [] pos) X.env = (do
      let ov ← eval o X.env
      standAt apos.atName
      let (f, first) ← holding [ov] (getMethod ov m pl)
      callWith pos f first (backTo pos (starEach [] X.env)) (backToKw pos (keywordEach [] X.env))) := by rfl) :
    PE X (.Call (.Attribute o m apos) [] [] pos) (tMethD CS m spD E ta tNil) := by
  refine ⟨fun pins s σ H Q I h => ?_⟩
  refine PySem.W.methodCall_KW (pl := pl) (thn (he.run pins s σ H _ I h) fun u s1 ⟨x, H1, I1, rx, a, C, dx, fs, ex, ea, hC, l, q⟩ => ?_) ht
  subst ex
  obtain rfl : u = Value.ref a := rx
  obtain ⟨c, f, fd, hm, F, hb⟩ := D C hC
  refine getmeth_ok I1 ea c hm l ?_
  have q : spD C [.ref a] H1 Q E := q
  exact PySem.W.callWith_K0 (first := [.ref a]) I1.kIn hm.kp (run_fn (us := [.ref a]) (vs := [.ref a]) F hr hb .nil hx I1 (.cons rfl .nil) (by rw [List.append_nil]; exact q))
end
section
variable {σ : L2.St} {H : Hp} {Q : VK} {CS : Addr → Prop} {m : Str} {sp : Addr → Sp} {E : XK}
theorem st_methD {ta : TE} {t : TA} (h : ta σ H (MethD CS m sp E t σ Q)) : tMethD CS m sp E ta t σ H Q := h
theorem st_methDP {t : TA} {a C dx : Addr} {fs : List (Str × V)} (h1 : H a = some (.ins C dx fs)) (hC : CS C) (l : fs.lookup m = none) (h : t σ H fun vs H2 => sp C (.ref a :: vs) H2 Q E) : MethD CS m sp E t σ Q (.ref a) H := ⟨a, C, dx, fs, rfl, h1, hC, l, h⟩
end
/-! isinstance(x, C), C a class of the text -/
def rIsO (K : PySem.W.Frag) : List V → Hp → VK → Prop := fun xs H Q => ∃ (x : V) (C : Addr) (t : Value) (b : Bool), xs = [x, .ref C] ∧ TyX K H x t ∧ PySem.W.kitOne K t (.ref C) = some b ∧ Q (.bl b) H
theorem c_isO {X : Cx} {K : PySem.W.Frag} (hK : X.K = K := by rfl) : CallR X (.builtin "isinstance") (rIsO K) := by
  subst hK
  intro pins s σ H xs us Q I r h
  obtain ⟨x, C, t, b, rfl, ht, hk, q⟩ := h
  exact call_isi pins s σ H _ us Q I r ⟨x, .ref C, t, .ref C, b, rfl, .own C, ht, hk, q⟩
/-- instances of C may be asked for their class -/
structure OI (K : PySem.W.Frag) (C : Addr) : Prop where
  cl : Cls K C
  ha : PySem.W.findIn K (.ref C) "__class__" = some (some (.builtin "object.__class__"))
  hn : PySem.W.specialIn K (.builtin "object.__class__") "__get__" = some (some (.builtin "getset_descriptor.__get__"))
  ht : PySem.W.takesIn K (.builtin "object.__class__") = some true
  hm : PySem.W.mroIn K C (.type "object") = some true
theorem st_isO {K : PySem.W.Frag} {H : Hp} {Q : VK} {a C C' dx : Addr} {fs : List (Str × V)} {b : Bool} (h1 : H a = some (.ins C' dx fs)) (o : OI K C') (k : PySem.W.kitOne K (.ref C') (.ref C) = some b) (h : Q (.bl b) H) : rIsO K [.ref a, .ref C] H Q := ⟨_, C, .ref C', b, rfl, .base (.ins h1 o.cl o.ha o.hn o.ht o.hm), k, h⟩
end Zb

/-! != of lists with the very same things; a dict's value by its key -/
namespace Zb
open PySem PySem.Spec PyProof.Rows L2
def rNeL (K : PySem.W.Frag) : R2 := fun x y H Q => ∃ (p q : Addr) (xs ys : List V) (bs : List Bool), x = .ref p ∧ y = .ref q ∧ lstAt H p = some xs ∧ lstAt H q = some ys ∧ PEqs H xs ys bs ∧ Q (.bl (!(bs.all id))) H
open PySem.SeqAt in
theorem o_neL {X : Cx} {K : PySem.W.Frag} (hu : X.A.units + 64 < cLine) : OpR X (compareOp .NotEq) (rNeL K) := by
  intro pins s σ H x y v u Q I rx ry h
  obtain ⟨p, q, xs, ys, bs, rfl, rfl, hx, hy, hE, k⟩ := h
  obtain rfl : v = Value.ref p := rx
  obtain rfl : u = Value.ref q := ry
  obtain ⟨its, r1, t1, z1⟩ := I.list (lstAt_sq hx)
  obtain ⟨its2, r2, t2, z2⟩ := I.list (lstAt_sq hy)
  have l1 := r1.length
  have l2 := r2.length
  obtain ⟨m1, m2⟩ := hE.len
  have key : RcNeAt X.A s (.ref p) (.ref q) (!(List.range its.toArray.size).all fun j => bs.getD j true) := by
    refine RcNeAt.lists t1.isList t2.isList (by rw [List.size_toArray, List.size_toArray]; omega) (by omega) fun j h1 h2 => ?_
    rw [List.size_toArray] at h1 h2
    have hj : j < xs.length := by omega
    have hj2 : j < ys.length := by omega
    have e1 := List.getElem?_eq_getElem hj
    have e2 := List.getElem?_eq_getElem hj2
    obtain ⟨u1, g1, ru1⟩ := r1.get e1
    obtain ⟨u2, g2, ru2⟩ := r2.get e2
    have f1 : its.toArray[j]'(by rw [List.size_toArray]; exact h1) = u1 := by
      rw [List.getElem?_eq_getElem h1] at g1
      simpa using g1
    have f2 : its2.toArray[j]'(by rw [List.size_toArray]; exact h2) = u2 := by
      rw [List.getElem?_eq_getElem h2] at g2
      simpa using g2
    rw [f1, f2]
    have hp := hE.at j _ _ e1 e2
    generalize xs[j] = x at ru1 hp
    generalize ys[j] = y at ru2 hp
    generalize bs.getD j true = b at hp
    cases hp with
    | same a =>
      obtain rfl : u1 = Value.ref a := ru1
      obtain rfl : u2 = Value.ref a := ru2
      exact EqAt.same _
    | dat h1 h2 h3 =>
      obtain ⟨as, d1⟩ := Dp.reads I _ x u1 h1.dp ru1
      obtain ⟨bs', d2⟩ := Dp.reads I _ y u2 h2.dp ru2
      refine SeqAt.eqAt_plain _ _ X.A.in1 s u1 u2 _ _ d1 d2 h1.plain h2.plain ?_
      show X.A.units + 1 + _ < _
      omega
  refine key _ _ _ _ ⟨.bl _, H, I, rfl, ?_⟩
  have e : (List.range its.toArray.size).all (fun j => bs.getD j true) = bs.all id := by
    rw [List.size_toArray, show its.length = bs.length by omega]
    exact all_getD bs
  rw [e]
  exact k
theorem Lks.selfs {H : Hp} : ∀ (as : List Addr), Lks H (as.map V.ref) (as.map V.ref)
  | [] => .nil
  | _ :: r => .cons (.same _) (Lks.selfs r)
section
variable {K : PySem.W.Frag} {H : Hp} {Q : VK}
theorem st_neLs {p q : Addr} {xs ys : List V} (h1 : H p = some (.lst xs)) (h2 : H q = some (.lst ys)) (h3 : Lks H xs ys) (h : Q (.bl false) H) : rNeL K (.ref p) (.ref q) H Q := by
  obtain ⟨bs, h4, h5⟩ := h3.pe
  exact ⟨p, q, xs, ys, bs, rfl, rfl, lst_of h1, lst_of h2, h4, by rw [h5]; exact h⟩
theorem st_eqLs {p q : Addr} {xs ys : List V} (h1 : H p = some (.lst xs)) (h2 : H q = some (.lst ys)) (h3 : Lks H xs ys) (h : Q (.bl true) H) : rEqL (.ref p) (.ref q) H Q := by
  obtain ⟨bs, h4, h5⟩ := h3.pe
  exact ⟨p, q, xs, ys, bs, rfl, rfl, lst_of h1, lst_of h2, h4, by rw [h5]; exact h⟩
theorem st_dget {td ty : TE} {σ : L2.St} (h : td σ H fun x H1 => ty σ H1 fun y H2 => ∃ a v, x = .ref a ∧ DGet H2 a y (some v) ∧ Q v H2) : tDGet td ty σ H Q := h
theorem st_dgetK {a : Addr} {kvs : List (Key × V)} {k : Key} {v : V} (h1 : H a = some (.dK kvs)) (h2 : valV kvs k = some v) (h : Q v H) : ∃ a' v', V.ref a = .ref a' ∧ DGet H a' (kV k) (some v') ∧ Q v' H := ⟨a, v, rfl, h2 ▸ DGet.k h1, h⟩
theorem st_dgetT {a b : Addr} {kvs : List (List Key × V)} {k : List Key} {v : V} (h1 : H a = some (.dT kvs)) (h2 : H b = some (.tup (k.map kV))) (h3 : valV kvs k = some v) (h : Q v H) : ∃ a' v', V.ref a = .ref a' ∧ DGet H a' (.ref b) (some v') ∧ Q v' H := ⟨a, v, rfl, h3 ▸ DGet.t h1 h2, h⟩
end
/-- == of a list of any things with an empty one -/
def rEqE (K : PySem.W.Frag) : R2 := fun x y H Q => ∃ (p q : Addr) (xs : List V), x = .ref p ∧ y = .ref q ∧ lstAt H p = some xs ∧ lstAt H q = some [] ∧ Q (.bl xs.isEmpty) H
open PySem.SeqAt in
theorem o_eqE {X : Cx} {K : PySem.W.Frag} (hu : X.A.units + 64 < cLine) : OpR X (compareOp .Eq) (rEqE K) := by
  intro pins s σ H x y v u Q I rx ry h
  obtain ⟨p, q, xs, rfl, rfl, hx, hy, k⟩ := h
  cases xs with
  | nil => exact o_eqL hu pins s σ H _ _ v u Q I rx ry ⟨p, q, [], [], [], rfl, rfl, hx, hy, .nil, k⟩
  | cons a r =>
    obtain rfl : v = Value.ref p := rx
    obtain rfl : u = Value.ref q := ry
    obtain ⟨its, r1, t1, z1⟩ := I.list (lstAt_sq hx)
    obtain ⟨its2, r2, t2, z2⟩ := I.list (lstAt_sq hy)
    have l1 := r1.length
    have l2 := r2.length
    have key : RcAt X.A s (.ref p) (.ref q) false := RcAt.lists_lengths t1.isList t2.isList (by rw [List.size_toArray, List.size_toArray, bne_iff_ne]; simp at l1 l2; omega) (by omega)
    exact key _ _ _ _ ⟨.bl _, H, I, rfl, k⟩
theorem st_eqE {K : PySem.W.Frag} {H : Hp} {Q : VK} {p q : Addr} {xs : List V} (h1 : H p = some (.lst xs)) (h2 : H q = some (.lst [])) (h : Q (.bl xs.isEmpty) H) : rEqE K (.ref p) (.ref q) H Q := ⟨p, q, xs, rfl, rfl, lst_of h1, lst_of h2, h⟩
/-- classes whose defs of one name differ are not one class -/
theorem dm_ne {K : PySem.W.Frag} {c c' m q q' : Str} {st st' : Stmt} {ps ps' : List Str} {f f' : Addr} {fd fd' : FuncData} (h : Dm K c m q st ps f fd) (h' : Dm K c' m q' st' ps' f' fd') (hq : q ≠ q') : clsA K c ≠ clsA K c' := fun e => by
  have a := h.g.at_
  rw [e, h'.g.at_] at a
  have ef : f' = f := by simpa using a
  subst ef
  obtain ⟨oc, od, kV, doc, pm, an, cdv, ct, osl, e1, lk, _⟩ := h.F.ex
  obtain ⟨oc', od', kV', doc', pm', an', cdv', ct', osl', e1', lk', _⟩ := h'.F.ex
  rw [lk] at lk'
  have e2 : fd = fd' := by
    injection lk' with e
    injection e with _ _ e _
    injection e
  rw [e1, e1'] at e2
  exact hq (congrArg FuncData.qualname e2)
end Zb

/-! dicts that the top has written, from texts to numbers or texts; upper -/
namespace Zb
open PySem PySem.Spec PyProof.Rows L2
def gvEq : V → Value → Bool
  | .int i, .int j _ => i == j
  | .str x, .str y _ => x == y
  | _, _ => false
theorem gvEq_rel {v : V} {u : Value} (h : gvEq v u = true) : RelV v u := by
  cases v <;> cases u <;> simp only [gvEq, Bool.false_eq_true, beq_iff_eq] at h
  · subst h; exact ⟨_, rfl⟩
  · subst h; exact ⟨_, rfl⟩
def gdAll : List DictEntry → List (Str × V) → Bool
  | [], [] => true
  | e :: es, p :: ps => (match e.key with | .str x _ => x == p.1 | _ => false) && (gvEq p.2 e.val && gdAll es ps)
  | _, _ => false
def valS (kvs : List (Str × V)) (x : Str) : Option V := (kvs.find? fun p => p.1 == x).map (·.2)
theorem gd_find {x : Str} : ∀ {es : List DictEntry} {kvs : List (Str × V)}, gdAll es kvs = true → RelO (valS kvs x) ((es.find? fun e => Value.isStrOf x e.key).map (·.val))
  | [], [], _ => trivial
  | [], _ :: _, h => by cases h
  | _ :: _, [], h => by cases h
  | e :: es, p :: ps, h => by
    unfold gdAll at h
    rw [Bool.and_eq_true, Bool.and_eq_true] at h
    obtain ⟨h1, h2, h3⟩ := h
    obtain ⟨k, t, hk⟩ : ∃ k t, e.key = .str k t := by
      cases q : e.key <;> rw [q] at h1 <;> first | exact ⟨_, _, rfl⟩ | cases h1
    rw [hk] at h1
    have h1 : (k == p.1) = true := h1
    unfold valS
    rw [List.find?_cons, List.find?_cons, hk]
    have e1 : Value.isStrOf x (.str k t) = (p.1 == x) := by
      rw [beq_iff_eq.mp h1]
      unfold Value.isStrOf
      by_cases c : p.1 = x
      · simp [c]
      · have c' : x ≠ p.1 := fun z => c z.symm
        simp [c, c']
    rw [e1]
    cases (p.1 == x) with
    | true => exact gvEq_rel h2
    | false => exact gd_find h3
/-- the dict at a, as the top has written it -/
structure GDat (w : World) (K : PySem.W.Frag) (a : Addr) (kvs : List (Str × V)) : Prop where
  lo : (a == sysModules) = false
  ex : ∃ es n, K.lookup a = some ⟨.type "dict", none, .dict es n, #[]⟩ ∧ PySem.W.KeysLit w.params es.toList ∧ gdAll es.toList kvs = true
section
variable {X : Cx} {pins : List (Addr × Obj)} {σ : L2.St} {H : Hp} {s : Shared} {a : Addr} {kvs : List (Str × V)}
theorem GDat.map (g : GDat X.w X.K a kvs) (I : Inv X pins σ H s) : ∃ f, s.heap.MapOf (PySem.strKind X.prog X.w) a f ∧ ∀ x, RelO (valS kvs x) (f x) := by
  obtain ⟨es, n, h1, h2, h3⟩ := g.ex
  refine ⟨_, PySem.W.mapOf_K I.kIn h1 h2, fun x => ?_⟩
  obtain ⟨l⟩ := es
  have := gd_find (x := x) h3
  unfold PySem.findBy
  rw [List.find?_toArray]
  exact this
end
def tGGet1 (w : World) (K : PySem.W.Frag) (td ty : TE) : TE := fun σ H Q => td σ H fun x H1 => ∃ a kvs, x = .ref a ∧ GDat w K a kvs ∧ ty σ H1 fun y H2 => ∃ k, y = .str k ∧ Q ((valS kvs k).getD .non) H2
def tGGet2 (w : World) (K : PySem.W.Frag) (td ty tx : TE) : TE := fun σ H Q => td σ H fun x H1 => ∃ a kvs, x = .ref a ∧ GDat w K a kvs ∧ ty σ H1 fun y H2 => tx σ H2 fun z H3 => ∃ k, y = .str k ∧ Q ((valS kvs k).getD z) H3
def tGItem (w : World) (K : PySem.W.Frag) (td ty : TE) : TE := fun σ H Q => td σ H fun x H1 => ∃ a kvs, x = .ref a ∧ GDat w K a kvs ∧ ty σ H1 fun y H2 => ∃ k v, y = .str k ∧ valS kvs k = some v ∧ Q v H2
section
variable {X : Cx} {o i e f : Expr} {apos cpos pos : Pos} {td ty tx : TE}
theorem pe_gget1 (ho : PE X o td) (he : PE X e ty) (m : M1 X o "get" apos e cpos) : PE X (.Call (.Attribute o "get" apos) [e] [] cpos) (tGGet1 X.w X.K td ty) := by
  refine ⟨fun pins s σ H Q I h => ?_⟩
  refine wpAny_Call_method m.base m.few m.line PySem.F.plainAttrs_dict PySem.F.slot_dict_get PySem.F.type_dict_get (thn (ho.run pins s σ H _ I h) fun u s1 ⟨x, H1, I1, rx, a, kvs, ex, g, q1⟩ => ?_)
  subst ex
  obtain rfl : u = Value.ref a := rx
  obtain ⟨fm, hm, hr⟩ := g.map I1
  refine ⟨hm.typeIs, fun b q => ?_, ?_⟩
  · cases q
    obtain ⟨es, n, h1, h2, h3⟩ := g.ex
    exact ⟨_, I1.kIn _ _ h1, rfl⟩
  rw [m.trees]
  refine Calls.callWith_builtin rfl (Calls.evalArgs_plain (Calls.spliced_cons (thn (he.run pins s1 σ H1 _ I1 q1) fun iv s2 ⟨y, H2, I2, ry, k, ey, q2⟩ => Calls.spliced_nil ?_)))
  subst ey
  obtain ⟨t, rfl⟩ := ry
  obtain ⟨fm, hm, hr⟩ := g.map I2
  refine call_meetsIn PySem.F.slot_dict_get hm.typeIs PySem.F.entry_dict_get (PySem.F.args_dict_get_2 _ _) (meets_dict_get (PySem.strKind X.prog X.w) a (PySem.strKind_is _ _ k t) g.lo) ⟨_, hm, ⟨_, H2, I2.tok _, RelO.getD (d := V.non) (d' := Value.none) (hr k) rfl, q2⟩⟩
theorem pe_gget2 (ho : PE X o td) (he : PE X e ty) (hf : PE X f tx) (m : M2 X o "get" apos e f cpos) : PE X (.Call (.Attribute o "get" apos) [e, f] [] cpos) (tGGet2 X.w X.K td ty tx) := by
  refine ⟨fun pins s σ H Q I h => ?_⟩
  refine wpAny_Call_method m.base m.few m.line PySem.F.plainAttrs_dict PySem.F.slot_dict_get PySem.F.type_dict_get (thn (ho.run pins s σ H _ I h) fun u s1 ⟨x, H1, I1, rx, a, kvs, ex, g, q1⟩ => ?_)
  subst ex
  obtain rfl : u = Value.ref a := rx
  obtain ⟨fm, hm, hr⟩ := g.map I1
  refine ⟨hm.typeIs, fun b q => ?_, ?_⟩
  · cases q
    obtain ⟨es, n, h1, h2, h3⟩ := g.ex
    exact ⟨_, I1.kIn _ _ h1, rfl⟩
  rw [m.trees]
  refine Calls.callWith_builtin rfl (Calls.evalArgs_plain (Calls.spliced_cons (thn (he.run pins s1 σ H1 _ I1 q1) fun iv s2 ⟨y, H2, I2, ry, q2⟩ =>
    Calls.spliced_cons (thn (hf.run pins s2 σ H2 _ I2 q2) fun fv s3 ⟨z, H3, I3, rz, k, ey, q3⟩ => Calls.spliced_nil ?_))))
  subst ey
  obtain ⟨t, rfl⟩ := ry
  obtain ⟨fm, hm, hr⟩ := g.map I3
  refine call_meetsIn PySem.F.slot_dict_get hm.typeIs PySem.F.entry_dict_get (PySem.F.args_dict_get_3 _ _ _) (meets_dict_get_default (PySem.strKind X.prog X.w) a (PySem.strKind_is _ _ k t) g.lo fv) ⟨_, hm, ⟨_, H3, I3.tok _, (hr k).getD rz, q3⟩⟩
theorem pe_gitem (ho : PE X o td) (hi : PE X i ty) (hs : NoSl i) : PE X (.Subscript o i pos) (tGItem X.w X.K td ty) := by
  refine ⟨fun pins s σ H Q I h => ?_⟩
  refine subD_of PySem.F.slot_dict_getitem.lookup hs (thn (ho.run pins s σ H _ I h) fun u s1 ⟨x, H1, I1, rx, a, kvs, ex, g, q1⟩ => thn (hi.run pins s1 σ H1 _ I1 q1) fun iv s2 ⟨y, H2, I2, ry, k, v, ey, hv, q2⟩ => ?_)
  subst ex ey
  obtain rfl : u = Value.ref a := rx
  obtain ⟨t, rfl⟩ := ry
  obtain ⟨fm, hm, hr⟩ := g.map I2
  obtain ⟨w', hw, rw'⟩ := RelO.some_of (v := v) (o := fm k) (by rw [← hv]; exact hr k)
  exact ⟨hm.typeIs, wpAny_getItem_of (PySem.strKind_is _ _ k t) hm hw ⟨v, H2, I2.tok _, rw', q2⟩⟩
end
section
variable {w : World} {K : PySem.W.Frag} {σ : L2.St} {H : Hp} {Q : VK} {td ty tx : TE}
theorem st_gget1 (h : td σ H fun x H1 => ∃ a kvs, x = .ref a ∧ GDat w K a kvs ∧ ty σ H1 fun y H2 => ∃ k, y = .str k ∧ Q ((valS kvs k).getD .non) H2) : tGGet1 w K td ty σ H Q := h
theorem st_gget2 (h : td σ H fun x H1 => ∃ a kvs, x = .ref a ∧ GDat w K a kvs ∧ ty σ H1 fun y H2 => tx σ H2 fun z H3 => ∃ k, y = .str k ∧ Q ((valS kvs k).getD z) H3) : tGGet2 w K td ty tx σ H Q := h
theorem st_gitem (h : td σ H fun x H1 => ∃ a kvs, x = .ref a ∧ GDat w K a kvs ∧ ty σ H1 fun y H2 => ∃ k v, y = .str k ∧ valS kvs k = some v ∧ Q v H2) : tGItem w K td ty σ H Q := h
theorem st_gdat {a : Addr} {kvs : List (Str × V)} {P : List (Str × V) → Prop} (g : GDat w K a kvs) (h : P kvs) : ∃ a' kvs', V.ref a = .ref a' ∧ GDat w K a' kvs' ∧ P kvs' := ⟨a, kvs, rfl, g, h⟩
theorem st_gkey {k : Str} {P : Str → Prop} (h : P k) : ∃ k', V.str k = .str k' ∧ P k' := ⟨k, rfl, h⟩
theorem st_gkeyv {k : Str} {v : V} {kvs : List (Str × V)} (hv : valS kvs k = some v) (h : Q v H) : ∃ k' v', V.str k = .str k' ∧ valS kvs k' = some v' ∧ Q v' H := ⟨k, v, rfl, hv, h⟩
end
theorem kit_own {K : PySem.W.Frag} {D C : Addr} {b : Bool} (hd : PySem.W.hasDictIn K C = true) (ty : PySem.W.typeIn K (.ref C) = some (.type "type")) (h : PySem.W.subIn K (.ref D) (.ref C) = some b) (hs : PySem.W.subIn K (.ref C) (.ref C) = some true) : PySem.W.kitOne K (.ref D) (.ref C) = some b := by
  unfold PySem.W.kitOne
  by_cases q : D = C
  · subst q
    rw [hs] at h
    cases h
    rw [if_pos (beq_self_eq_true _)]
  · have hq : ((Value.ref D) == (Value.ref C)) = false := beq_eq_false_iff_ne.mpr fun z => q (Value.ref.inj z)
    rw [hq, if_neg Bool.false_ne_true]
    show (if ((PySem.W.clsIn K C).isSome && PySem.W.typeIn K (.ref C) == some (.type "type")) = true then PySem.W.subIn K (.ref D) (.ref C) else none) = some b
    obtain ⟨cd, hc, _⟩ := PySem.W.any_some hd
    rw [hc, ty]
    exact h
theorem st_isXsN {K : PySem.W.Frag} {H : Hp} {Q : VK} {a C dd tp : Addr} {cs : List V} {fs : List (Str × V)} (T : XI K C) (h1 : H dd = some (.xd fs)) (ht : H tp = some (.tup cs)) (k : KitN K C cs) (h : Q (.bl false) H) : rIsXs K a (.ref C) (some dd) [.ref a, .ref tp] H Q := by
  obtain ⟨cvs, k1, k2⟩ := k.any
  exact ⟨tp, cs, cvs, false, C, dd, fs, rfl, ht, k1, rfl, T, rfl, h1, k2, h⟩
theorem mr_append {X : Cx} : MtR X "list.append" rAppend := mt_append
theorem mr_extend {X : Cx} : MtR X "list.extend" rExtend := mt_extend
theorem mr_clear {X : Cx} : MtR X "list.clear" rClear := mt_clear
/-! upper -/
def rUpper : V → List V → Hp → VK → Prop := fun x xs H Q => ∃ z, x = .str z ∧ xs = [] ∧ z.length ≤ 5592405 ∧ Q (.str (Txt.upper z)) H
theorem m_upper {X : Cx} : MtR X "str.upper" rUpper := by
  intro pins s σ H x xs v us Q I rx rs h
  obtain ⟨z, rfl, rfl, hz, q⟩ := h
  obtain ⟨t, rfl⟩ := rx
  cases rs
  exact PySem.SC.upper (PyProof.Rows.short24 (by have := PyProof.Rows.len_upper z; omega)) ⟨.str (Txt.upper z), H, I.tok _, ⟨_, rfl⟩, q⟩
theorem st_upper {z : Str} {H : Hp} {Q : VK} (hz : z.length ≤ 5592405) (h : Q (.str (Txt.upper z)) H) : rUpper (.str z) [] H Q := ⟨z, rfl, rfl, hz, h⟩
end Zb

/-! cuts of texts, slices with a step, odds and ends -/
namespace Zb
open PySem PySem.Spec PyProof.Rows L2
theorem sIx_some (n : Nat) (b : Nat) : HT.sIx n 0 (some (b : Int)) = min b n := by
  show (if (b : Int) < 0 then ((b : Int) + (n : Int)).toNat else min (b : Int).toNat n) = min b n
  rw [if_neg (by omega), Int.toNat_natCast]
theorem cutS_list (z : Str) (lo hi : Option Int) : (cutS z lo hi).cps.toList = (z.cps.toList.drop (HT.sIx z.length 0 lo)).take (HT.sIx z.length z.length hi - HT.sIx z.length 0 lo) := by simp [cutS]
theorem lenStr (z : Str) : z.cps.toList.length = z.length := Array.length_toList
theorem cutS_from (z : Str) (b : Nat) (h : b ≤ z.length) : (cutS z (some (b : Int)) none).cps.toList = z.cps.toList.drop b := by
  rw [cutS_list, sIx_some, show HT.sIx z.length z.length none = z.length from rfl, Nat.min_eq_left h, List.take_of_length_le]
  rw [List.length_drop, lenStr]
  exact Nat.le_refl _
theorem take_minL {α : Type} (l : List α) (b : Nat) : l.take (min b l.length) = l.take b := by
  by_cases h : b ≤ l.length
  · rw [Nat.min_eq_left h]
  · rw [Nat.min_eq_right (by omega), List.take_of_length_le (Nat.le_refl _), List.take_of_length_le (by omega)]
theorem cutS_toN (z : Str) (b : Nat) : (cutS z none (some (b : Int))).cps.toList = z.cps.toList.take b := by
  rw [cutS_list, show HT.sIx z.length z.length (some (b : Int)) = min b z.length from HT.sIx_nat _ _ b, show HT.sIx z.length 0 none = 0 from rfl, List.drop_zero, Nat.sub_zero, ← lenStr, take_minL]
theorem cutS_to (z : Str) (b : Nat) (h : b ≤ z.length) : (cutS z none (some (b : Int))).cps.toList = z.cps.toList.take b := cutS_toN z b
theorem cutS_toN_len (z : Str) (b : Nat) : (cutS z none (some (b : Int))).length = min b z.length := by
  rw [← lenStr, cutS_toN, List.length_take, lenStr]
theorem cutS_from_len (z : Str) (b : Nat) (h : b ≤ z.length) : (cutS z (some (b : Int)) none).length = z.length - b := by
  rw [← lenStr, cutS_from z b h, List.length_drop, lenStr]
theorem cutS_ft (z : Str) (a b : Nat) (h : a ≤ b) : (cutS z (some (a : Int)) (some (b : Int))).cps.toList = (z.cps.toList.take b).drop a := by
  rw [cutS_list, sIx_some, show HT.sIx z.length z.length (some (b : Int)) = min b z.length from HT.sIx_nat _ _ b]
  rw [List.drop_take, ← lenStr]
  generalize z.cps.toList = l
  by_cases ha : a ≤ l.length
  · rw [Nat.min_eq_left ha]
    by_cases hb : b ≤ l.length
    · rw [Nat.min_eq_left hb]
    · rw [Nat.min_eq_right (by omega), List.take_of_length_le (by rw [List.length_drop]; exact Nat.le_refl _), List.take_of_length_le (by rw [List.length_drop]; omega)]
  · rw [List.drop_of_length_le (i := min a l.length) (by omega), List.drop_of_length_le (i := a) (by omega), List.take_nil, List.take_nil]
theorem tx_of {z : Str} {l : List Nat} (h : z.cps.toList = l) : z = tx l := by rw [← h, tx_eta]
theorem pick_map {α β : Type} {f : α → β} (is : List Nat) (xs : List α) : pick is (xs.map f) = (pick is xs).map f := by
  unfold pick
  induction is with
  | nil => rfl
  | cons i is ih =>
    rw [List.filterMap_cons, List.filterMap_cons, List.getElem?_map, ih]
    cases xs[i]? <;> rfl
theorem st_stL {K : PySem.W.Frag} {H : Hp} {Q : VK} {p : Addr} {ns : List Int} {lo hi : Option Int} {k : Int} (hx : SqL K H p (ns.map V.int)) (hk : k ≠ 0) (hl : ns.length ≤ 1000) (h : ∀ q (cs : List Int) H', H q = none → Ex H H' → H' q = some (.lst (cs.map V.int)) → cs.length ≤ 1000 → Q (.ref q) H') : rSt K (.ref p) lo hi k H Q :=
  ⟨_, hx, hk, fun q hq => by
    rw [pick_map]
    refine h q _ _ hq (Fr.new hq) upd_same (Nat.le_trans (pick_len _ _) (Nat.le_trans (ixSt_len _ _ _ _) ?_))
    rw [List.length_map]
    exact hl⟩
theorem sqL_exV {K : PySem.W.Frag} {H H' : Hp} {a : Addr} {xs : List V} (h : SqL K H a xs) (e : Ex H H') : SqL K H' a xs := by
  rcases h with (h | ⟨v, h⟩) | h
  · exact .inl (.inl (e.get h))
  · exact .inl (.inr ⟨v, e.get h⟩)
  · exact .inr h
theorem cutL_to {α : Type} (l : List α) (b : Nat) : cutL l none (some (b : Int)) = l.take b := by
  unfold cutL
  rw [show HT.sIx l.length l.length (some (b : Int)) = min b l.length from HT.sIx_nat _ _ b, show HT.sIx l.length 0 none = 0 from rfl, List.drop_zero, Nat.sub_zero, take_minL]
theorem cutL_from {α : Type} (l : List α) (b : Nat) : cutL l (some (b : Int)) none = l.drop b := by
  unfold cutL
  rw [sIx_some, show HT.sIx l.length l.length none = l.length from rfl]
  by_cases h : b ≤ l.length
  · rw [Nat.min_eq_left h, List.take_of_length_le (by rw [List.length_drop]; exact Nat.le_refl _)]
  · rw [List.drop_of_length_le (i := min b l.length) (by omega), List.drop_of_length_le (i := b) (by omega), List.take_nil]
theorem cutL_ft {α : Type} (l : List α) (a b : Nat) (h : a ≤ b) : cutL l (some (a : Int)) (some (b : Int)) = (l.take b).drop a := by
  unfold cutL
  rw [sIx_some, show HT.sIx l.length l.length (some (b : Int)) = min b l.length from HT.sIx_nat _ _ b]
  rw [List.drop_take]
  by_cases ha : a ≤ l.length
  · rw [Nat.min_eq_left ha]
    by_cases hb : b ≤ l.length
    · rw [Nat.min_eq_left hb]
    · rw [Nat.min_eq_right (by omega), List.take_of_length_le (by rw [List.length_drop]; exact Nat.le_refl _), List.take_of_length_le (by rw [List.length_drop]; omega)]
  · rw [List.drop_of_length_le (i := min a l.length) (by omega), List.drop_of_length_le (i := a) (by omega), List.take_nil, List.take_nil]
end Zb

/-! min of data; chains of comparisons; calls of a name that holds a def -/
namespace Zb
open PySem PySem.Spec PyProof.Rows L2 PySem.W
/-! ### min of one list of data -/
theorem vals_back : ∀ {xs : List V} {us : List Value} {i : Nat} {u : Value}, Vals xs us → us[i]? = some u → ∃ x, xs[i]? = some x ∧ RelV x u
  | _, _, _, _, .nil, e => by simp at e
  | _, _, 0, _, .cons r _, e => by simp at e; subst e; exact ⟨_, rfl, r⟩
  | _, _, i + 1, u, .cons _ t, e => by
    obtain ⟨x, h1, h2⟩ := vals_back (i := i) (u := u) t (by simpa using e)
    exact ⟨x, by simpa using h1, h2⟩
def rMinD (K : PySem.W.Frag) : List V → Hp → VK → Prop := fun vs H Q => ∃ (p : Addr) (xs : List V) (d : PyData) (ds : List PyData), vs = [.ref p] ∧ SqL K H p xs ∧ RpA H xs (d :: ds) ∧ PySem.W.AlikeAll (d :: ds) ∧ PyData.depthAll (d :: ds) ≤ 60 ∧ ∀ (i : Nat) (v : V), xs[i]? = some v → (d :: ds)[i]? = some (PySem.W.minD d ds) → Q v H
theorem c_minD {X : Cx} (hc : X.calm = true) (hu : X.A.units + 64 < cLine) {K : PySem.W.Frag} (hK : X.K = K := by rfl) : CallR X (.builtin "min") (rMinD K) := by
  subst hK
  intro pins s σ H vs us Q I r h
  obtain ⟨a, xs, d, ds, rfl, hs, hd, hal, hdep, q⟩ := h
  obtain ⟨its, rv, hl, _⟩ := I.list hs
  rw [Vals.ref1 r]
  obtain ⟨as, hr⟩ := Dp.readsAll I (d :: ds) xs its hd.dp rv
  have hl := hl.isList
  have hr : ReadsAll s.heap its.toArray.toList (d :: ds) as := hr
  have hn : its.toArray.size = ds.length + 1 := PySem.W.readsAll_len hr
  refine PySem.call_min_walkH (iter_listW (A := X.A.in1) (I.ok.hd hc) hl fun s₂ e W st hfp hw hk => ?_)
  refine ⟨_, _, _, _, _, _, _, s.heap, _, rfl, W, st, hfp, by omega, hw, hk, PySem.W.cmpIn_lt (A := X.A.in1) hr hal (by show X.A.units + 1 + _ < _; omega), fun v s' hP m => ?_⟩
  obtain ⟨h', tk, rfl, hk'⟩ := moved_old e rfl m
  have e1 : its.toArray.size - 1 = ds.length := by omega
  have e2 := argBest_fold dataLt PyData.none d ds ds.length (Nat.le_refl _)
  rw [List.take_length] at e2
  rw [e1] at hP
  rw [List.getElem?_toArray] at hP
  obtain ⟨x, hx, rx⟩ := vals_back rv hP
  refine ⟨x, H, I.kept hk', rx, q _ x hx ?_⟩
  have e3 : (d :: ds).getD _ PyData.none = PySem.W.minD d ds := e2.2
  rw [← e3, List.getD_eq_getElem?_getD]
  have : _ < (d :: ds).length := Nat.lt_succ_of_le e2.1
  rw [List.getElem?_eq_getElem this]
  rfl
/-! ### chains of comparisons -/
inductive PCh (X : Cx) : List CmpOp → List Expr → List (R2 × TE) → Prop
  | one {op : CmpOp} {b : Expr} {r : R2} {tb : TE} : OpR X (compareOp op) r → PE X b tb → PCh X [op] [b] [(r, tb)]
  | cons {op op' : CmpOp} {ops : List CmpOp} {b b' : Expr} {bs : List Expr} {r : R2} {tb : TE} {l : List (R2 × TE)} : OpR X (compareOp op) r → PE X b tb → PCh X (op' :: ops) (b' :: bs) l → PCh X (op :: op' :: ops) (b :: b' :: bs) ((r, tb) :: l)
def tLk : List (R2 × TE) → V → L2.St → Hp → VK → Prop
  | [], _, _, _, _ => False
  | [(r, tb)], x, σ, H, Q => tb σ H fun y H1 => r x y H1 Q
  | (r, tb) :: p :: rest, x, σ, H, Q => tb σ H fun y H1 => r x y H1 fun z H2 => ∃ k, z = .bl k ∧ if k = true then tLk (p :: rest) y σ H2 Q else Q (.bl false) H2
theorem pch_run {X : Cx} {pos : Pos} : ∀ {ops : List CmpOp} {bs : List Expr} {l : List (R2 × TE)}, PCh X ops bs l → ∀ (pins : List (Addr × Obj)) (s : Shared) (σ : L2.St) (H : Hp) (x : V) (v : Value) (Q : VK), Inv X pins σ H s → RelV x v → tLk l x σ H Q →
    wpAny (model X.prog X.w) X.A (compareChain pos v ops (evalEach bs X.env)) (EP X pins σ Q) X.xe s := by
  intro ops bs l h
  induction h with
  | one ho hb =>
    intro pins s σ H x v Q I rx q
    exact chain_last (thn (hb.run pins s σ H _ I q) fun w' s4 ⟨z', H4, I4, r4, q4⟩ => ho pins s4 σ H4 x z' v w' Q I4 rx r4 q4)
  | @cons op op' ops b b' bs r tb l ho hb hl ih =>
    intro pins s σ H x v Q I rx q
    obtain ⟨p, rest, rfl⟩ : ∃ p rest, l = p :: rest := by cases hl <;> exact ⟨_, _, rfl⟩
    refine chain_link (thn (hb.run pins s σ H _ I q) fun u s2 ⟨y, H2, I2, r2, q2⟩ => thn (ho pins s2 σ H2 x y v u _ I2 rx r2 q2) fun d s3 ⟨z, H3, I3, r3, k, e, q3⟩ => ?_)
    subst e
    cases r3
    refine wpAny_truthy_bool ?_
    cases k with
    | false => exact ite_ff ⟨.bl false, H3, I3, rfl, q3⟩
    | true => exact ite_tt (ih pins s3 σ H3 y u Q I3 r2 q3)
def tChN (ta : TE) (l : List (R2 × TE)) : TE := fun σ H Q => ta σ H fun x H1 => tLk l x σ H1 Q
theorem pe_chainN {X : Cx} {pos : Pos} {a b b' : Expr} {bs : List Expr} {op op' : CmpOp} {ops : List CmpOp} {ta : TE} {l : List (R2 × TE)} (ha : PE X a ta) (hl : PCh X (op :: op' :: ops) (b :: b' :: bs) l) (hm : lastMarks (op :: op' :: ops) (b :: b' :: bs) = false := by with_unfolding_all rfl) :
    PE X (.Compare a (op :: op' :: ops) (b :: b' :: bs) pos) (tChN ta l) :=
  ⟨fun pins s σ H Q I h => Compare_chain (thn (ha.run pins s σ H _ I h) fun v s1 ⟨x, H1, I1, r1, q1⟩ => pch_run hl pins s1 σ H1 x v Q I1 r1 q1) hm⟩
section
variable {σ : L2.St} {H : Hp} {Q : VK} {x : V} {r : R2} {tb ta : TE} {p : R2 × TE} {l : List (R2 × TE)}
theorem st_chN (h : ta σ H fun x H1 => tLk l x σ H1 Q) : tChN ta l σ H Q := h
theorem st_lk (h : tb σ H fun y H1 => r x y H1 fun z H2 => ∃ k, z = .bl k ∧ if k = true then tLk (p :: l) y σ H2 Q else Q (.bl false) H2) : tLk ((r, tb) :: p :: l) x σ H Q := h
theorem st_lk1 (h : tb σ H fun y H1 => r x y H1 Q) : tLk [(r, tb)] x σ H Q := h
end
/-! ### a name that holds one of some defs -/
def DynF (P : Program) (w : World) (K : PySem.W.Frag) (mg : Str → Option Value) (base : Heap) (CX : CXT) (k : Nat) (FS : Addr → Prop) (sp : Addr → Sp) : Prop := ∀ f, FS f → ∃ fd ps, FnOk P w K mg base CX k f fd ps (sp f) ∧ Binds K fd ps [] ∧ PySem.W.keepIn K (.ref f) = true
def tCallV (i : Nat) (FS : Addr → Prop) (sp : Addr → Sp) (E : L2.St → XK) (t : TA) : TE := fun σ H Q => ∃ f, σ[i]? = some (some (.ref f)) ∧ FS f ∧ t σ H fun vs H1 => sp f vs H1 Q (E σ)
theorem pe_callV {X : Cx} {CX : CXT} {k i : Nat} {FS : Addr → Prop} {sp : Addr → Sp} {E : L2.St → XK} {x : Str} {e : Expr} {es : List Expr} {t : TA} {p pos : Pos} (hN : X.N[i]? = some x) (hv : Vis X.env.scope x) (D : DynF X.prog X.w X.K X.mg X.base CX k FS sp) (hr : Room k X.A) (hx : ∀ σ, PassesAt CX X σ (E σ)) (ha : PA X (e :: es) t)
    (hd : (x == ("__debug__" : Str)) = false := by decide) (hcd : (x == ("__classdict__" : Str)) = false := by decide) (he : starEach (e :: es) X.env = (false, eval e X.env) :: starEach es X.env := by rfl) (hpl : (backTo pos (starEach es X.env)).any (·.1) = false := by rfl) :
    PE X (.Call (.Name x p) (e :: es) [] pos) (tCallV i FS sp E t) := by
  refine ⟨fun pins s σ H Q I h => ?_⟩
  obtain ⟨f, hs, hf, ht⟩ := h
  obtain ⟨fd, ps, F, hb, kp⟩ := D f hf
  refine wpAny_Call_Name_kw (thn ((pe_var (pos := p) hN hv hd hcd).run pins s σ H (fun v H1 => v = .ref f ∧ H1 = H) I ⟨.ref f, hs, rfl, rfl⟩) fun u s1 ⟨v, H1, I1, r1, ev, eH⟩ => ?_)
  subst ev
  subst eH
  obtain rfl : u = Value.ref f := r1
  refine PySem.W.callWith_K (h₀ := X.base) I.ok.mod.kin kp (thn (ha.run pos pins s1 σ _ _ I1 ht) fun us s2 ⟨vs, H2, I2, r, q⟩ => ⟨I2.kIn, ?_⟩) he hpl
  exact run_fnS F hr hb (hx σ) I2 r q
theorem st_callV {σ : L2.St} {H : Hp} {Q : VK} {i : Nat} {FS : Addr → Prop} {sp : Addr → Sp} {E : L2.St → XK} {t : TA} {f : Addr} (h1 : σ[i]? = some (some (.ref f))) (h2 : FS f) (h : t σ H fun vs H1 => sp f vs H1 Q (E σ)) : tCallV i FS sp E t σ H Q := ⟨f, h1, h2, h⟩
/-! ### a def under another name -/
structure DfA (K : PySem.W.Frag) (mg : Str → Option Value) (g x : Str) (st : Stmt) (ps : List Str) (f : Addr) (fd : FuncData) : Prop where
  g : mg g = some (.ref f)
  F : Fun K x x st f fd
  b : Binds K fd ps []
theorem dfa_mk {K : PySem.W.Frag} {h : Heap} {mg : Str → Option Value} {g x : Str} {st : Stmt} {ps : List Str} {f : Addr} {oc : Value} {od an : Option Addr} {osl : Array (Option Value)} {kV dc pm cd ct : Value} (X : K.In h) (G : h.Ns mainGlobals mg)
    (a : PySem.W.nsIn K mainGlobals g = some (some (.ref f))) (l : K.lookup f = some ⟨oc, od, .func (PySem.W.fnOf x x (defArgs st) (defBody st) (defScope st) .none kV dc pm an cd ct), osl⟩) (c : PySem.W.codeIn K cd x = true) (k : PySem.W.keepIn K (.ref f) = true)
    (hb : ∀ (kV doc pm : Value) (an : Option Addr) (cdv ct : Value) (us : List Value), us.length = ps.length → bindArgs (PySem.W.fnOf x x (defArgs st) (defBody st) (defScope st) .none kV doc pm an cdv ct) ⟨us, []⟩ = pure (ps.zip us)) :
    DfA K mg g x st ps f (PySem.W.fnOf x x (defArgs st) (defBody st) (defScope st) .none kV dc pm an cd ct) :=
  have F := fun_mk (st := st) l c k
  ⟨PySem.W.mg_of X G a, F, F.binds hb⟩
/-! ### o.f += e -/
theorem ps_fldaugK {X : Cx} {K : PySem.W.Frag} {o value : Expr} {f : Str} {pos tpos : Pos} {ta tv : TE} {op : Operator} {rd : V → V → Hp → VK → Prop} (ha : PE X o ta) (hv : PE X value tv) (hop : InOp X op rd) (hK : X.K = K := by rfl) : PS X (.AugAssign (.Attribute o f tpos) op value pos) (sFldAug K ta tv rd f) := by
  subst hK
  exact ps_fldaug ha hv hop
section
variable {K : PySem.W.Frag} {σ : L2.St} {H : Hp} {D : Ends} {ta tv : TE} {rd : V → V → Hp → VK → Prop} {f : Str}
def AugP (K : PySem.W.Frag) (tv : TE) (rd : V → V → Hp → VK → Prop) (f : Str) (D : Ends) (σ : L2.St) (x : V) (H1 : Hp) : Prop := ∃ a C dx fs v, x = .ref a ∧ H1 a = some (.ins C dx fs) ∧ Cls K C ∧ NoAttr K C f ∧ fs.lookup f = some v ∧ tv σ H1 fun y H2 => rd v y H2 fun z H3 => ∃ dx' fs', H3 a = some (.ins C dx' fs') ∧ fs'.length < 1000 ∧ D.nx σ (upd H3 a (.ins C dx' (putF f z fs')))
theorem st_aug (h : ta σ H (AugP K tv rd f D σ)) : sFldAug K ta tv rd f D σ H := h
theorem st_augP {a C dx : Addr} {fs : List (Str × V)} {v : V} (h1 : H a = some (.ins C dx fs)) (c : Cls K C) (n : NoAttr K C f) (l : fs.lookup f = some v) (h : tv σ H fun y H2 => rd v y H2 fun z H3 => ∃ dx' fs', H3 a = some (.ins C dx' fs') ∧ fs'.length < 1000 ∧ D.nx σ (upd H3 a (.ins C dx' (putF f z fs')))) : AugP K tv rd f D σ (.ref a) H := ⟨a, C, dx, fs, v, rfl, h1, c, n, l, h⟩
theorem st_inAdd {i j : Int} {Q : VK} (h : Q (.int (i + j)) H) : L2.rAdd (.int i) (.int j) H Q := ⟨i, j, rfl, rfl, h⟩
theorem st_augE {a C dx : Addr} {fs : List (Str × V)} {g : List (Str × V) → List (Str × V)} {P : Hp → Prop} (h1 : H a = some (.ins C dx fs)) (hl : fs.length < 1000) (h : P (upd H a (.ins C dx (g fs)))) : ∃ dx' fs', H a = some (.ins C dx' fs') ∧ fs'.length < 1000 ∧ P (upd H a (.ins C dx' (g fs'))) := ⟨dx, fs, h1, hl, h⟩
end
end Zb

/-! dicts whose keys are tuples: setdefault, get, list(d) -/
namespace Zb
open PySem PySem.Spec PyProof.Rows L2 PySem.W
def DSetT (a : Addr) (y z : V) (Q : VK) (H : Hp) : Prop := ∃ (kvs : List (List Key × V)) (k : List Key) (b : Addr), H a = some (.dT kvs) ∧ y = .ref b ∧ H b = some (.tup (k.map kV)) ∧ kvs.length < sizeLine ∧ (∀ v, valV kvs k = some v → Q v H) ∧ (valV kvs k = none → Q z (upd H a (.dT (putK kvs k z))))
def tDSetT (td ty tx : TE) : TE := fun σ H Q => td σ H fun x H1 => ∃ a, x = .ref a ∧ IsD H1 a ∧ ty σ H1 fun y H2 => tx σ H2 fun z H3 => DSetT a y z Q H3
section
variable {X : Cx} {pins : List (Addr × Obj)} {σ : L2.St} {H : Hp} {s : Shared} {a b : Addr} {r : Value} {d : V} {k : List Key} {A : Around} {E : Value → Shared → Prop}
theorem d_setT {kvs : List (List Key × V)} {Q : Value → Shared → Prop} (hu : A.units + 1 < cLine) (I : Inv X pins σ H s) (e : H a = some (.dT kvs)) (eb : H b = some (.tup (k.map kV))) (rd : RelV d r) (hl : kvs.length < sizeLine)
    (g1 : ∀ v, valV kvs k = some v → ∀ (u : Value) (t : Shared), Inv X pins σ H t → RelV v u → Q u t) (g2 : valV kvs k = none → ∀ (u : Value) (t : Shared), Inv X pins σ (upd H a (.dT (putK kvs k d))) t → RelV d u → Q u t) :
    wpAny (model X.prog X.w) A (call (.builtin "dict.setdefault") [.ref a, .ref b, r]) Q E s := by
  obtain ⟨z, hd, xs, rel, dd⟩ := dt_of I.hok e
  have len : xs.length ≤ sizeLine := by rw [← Paired.length rel]; exact z
  refine call_setdefault_heap (hsz := len) (tupleKind_room_in1 hu) (key_of I.hok eb) hd dd (fun p hp => ?_) fun hn h' dd' hs => ?_
  · have q := rel.val k
    rw [hp] at q
    cases q0 : valV kvs k with
    | none => rw [q0] at q; exact (show False from q).elim
    | some v => rw [q0] at q; exact g1 v q0 _ _ (I.tok _) q
  · have q := rel.val k
    rw [hn] at q
    cases q0 : valV kvs k with
    | some v => rw [q0] at q; exact (show False from q).elim
    | none =>
      have l2 : (putK kvs k d).length ≤ sizeLine := by have := length_putK kvs k d; omega
      obtain ⟨ob, es, ep, c1, c2, c3, c4, _, c5⟩ := dd'
      refine g2 q0 _ _ (d_write I (by rw [e]; exact True.intro) hs ⟨ob, c1⟩ ⟨l2, hd, _, (rel.put k eb rd).keeps fun c ys ec => ?_, ob, es, ep, c1, c2, c3, c4, c5⟩) rd
      refine (upd_ne fun zz => ?_).trans ec
      rw [zz, e] at ec
      cases ec
end
section
variable {X : Cx} {o e f : Expr} {td ty tx : TE} {apos cpos : Pos}
theorem pe_dsetT (hu : X.A.units + 1 < cLine) (ho : PE X o td) (he : PE X e ty) (hf : PE X f tx) (m : M2 X o "setdefault" apos e f cpos) : PE X (.Call (.Attribute o "setdefault" apos) [e, f] [] cpos) (tDSetT td ty tx) := by
  constructor
  intro pins s σ H Q I h
  refine wpAny_Call_method m.base m.few m.line PySem.F.plainAttrs_dict PySem.F.slot_dict_setdefault PySem.F.type_dict_setdefault (thn (ho.run pins s σ H _ I h) ?_)
  rintro u s1 ⟨x, H1, I1, rx, a, rfl, d, q1⟩
  obtain rfl : u = Value.ref a := rx
  obtain ⟨t1, t2, _⟩ := isD_at I1 d
  refine ⟨t1, t2, ?_⟩
  rw [m.trees]
  refine Calls.callWith_builtin rfl (Calls.evalArgs_plain (Calls.spliced_cons (thn (he.run pins s1 σ H1 _ I1 q1) ?_)))
  rintro iv s2 ⟨y, H2, I2, ry, q2⟩
  refine Calls.spliced_cons (thn (hf.run pins s2 σ H2 _ I2 q2) ?_)
  rintro fv s3 ⟨z, H3, I3, rz, kvs, k, b, ea, rfl, eb, hl, q3, q4⟩
  obtain rfl : iv = Value.ref b := ry
  exact Calls.spliced_nil (d_setT hu I3 ea eb rz hl (fun v hv w4 s4 I4 rw4 => ⟨v, _, I4, rw4, q3 v hv⟩) fun hn w4 s4 I4 rw4 => ⟨z, _, I4, rw4, q4 hn⟩)
end
def rListT : List V → Hp → VK → Prop := fun xs H Q => ∃ d kvs, xs = [V.ref d] ∧ Rd H d (.dT kvs) ∧ ∀ p bs, H p = none → IsKeys H kvs bs → Q (.ref p) (upd H p (.lst (bs.map V.ref)))
theorem c_listT {X : Cx} (hc : X.calm = true) : CallR X (.type "list") rListT := call_list_dT hc
section
variable {K : PySem.W.Frag} {H : Hp} {Q : VK} {σ : L2.St}
theorem st_dsetTU {td ty tx : TE} (h : td σ H fun x H1 => ∃ a, x = .ref a ∧ IsD H1 a ∧ ty σ H1 fun y H2 => tx σ H2 fun z H3 => DSetT a y z Q H3) : tDSetT td ty tx σ H Q := h
theorem st_isDT {a : Addr} {kvs : List (List Key × V)} {P : Addr → Prop} (h1 : H a = some (.dT kvs)) (h : P a) : ∃ b, V.ref a = .ref b ∧ IsD H b ∧ P b := ⟨a, rfl, .inr ⟨kvs, .inl h1⟩, h⟩
theorem st_dsetT {a b : Addr} {z : V} {kvs : List (List Key × V)} (k : List Key) (h1 : H a = some (.dT kvs)) (hb : H b = some (.tup (k.map kV))) (hl : kvs.length < 16777216) (h2 : ∀ v, valV kvs k = some v → Q v H) (h3 : valV kvs k = none → Q z (upd H a (.dT (putK kvs k z)))) : DSetT a (.ref b) z Q H := ⟨kvs, k, b, h1, rfl, hb, by rw [sl16]; exact hl, h2, h3⟩
theorem st_dget2T {a b : Addr} {k : List Key} {z : V} {kvs : List (List Key × V)} (h1 : H a = some (.dT kvs)) (hb : H b = some (.tup (k.map kV))) (h : Q ((valV kvs k).getD z) H) : DGet2P a (.ref b) z Q H := ⟨_, DGet.t h1 hb, h⟩
theorem st_listT {d : Addr} {kvs : List (List Key × V)} (h1 : H d = some (.dT kvs)) (h : ∀ p bs H', H p = none → IsKeys H kvs bs → Ex H H' → H' p = some (.lst (bs.map V.ref)) → Q (.ref p) H') : rListT [.ref d] H Q :=
  ⟨d, kvs, rfl, .inl h1, fun p bs hp hk => h p bs _ hp hk (Fr.new hp) upd_same⟩
end
/-! a comprehension whose items are new things or old ones -/
theorem Ex.hidN {H H' : Hp} {D : Addr} (e : Ex H H') (n : H D = none) : Ex H (hid D H') := fun b o _ h => hid_get (e.get h) fun z => by
  rw [z, n] at h
  cases h
section
variable {J : It} {S : Hp → Prop} {g : TG} {σ : L2.St} {H1 : Hp}
theorem lc_madeV {α : Type} {ys : List α} {val : α → V} {te : TE} {vs : List Nat} {Q : VK} (hR : RunsV J ys val S) (hS : ∀ H', Ex H1 H' → S H') (hz : ys.length < 1000000) (P : α → V → Hp → Prop) (hP : ∀ y a H H', P y a H → Ex H H' → P y a H')
    (hs : ∀ y H', y ∈ ys → Ex H1 H' → ∀ (B : V → Hp → Prop), (∀ a H'', Ex H' H'' → (∀ G : Hp, Ex H1 G → (∀ b o, H' b = none → H'' b = some o → G b = some o) → P y a G) → B a H'') → g (val y) (wipe σ vs) H' fun σ2 H2 => wipe σ2 vs = wipe σ vs ∧ te σ2 H2 B)
    (hd : ∀ D H' (ts : List V), H1 D = none → Ex H1 H' → H' D = some (.lst ts) → ts.length = ys.length → (∀ (k : Nat) (a : V) (y : α), ts[k]? = some a → ys[k]? = some y → P y a H') → Q (.ref D) H')
    (hg : ∀ v σ H (P P' : L2.St → Hp → Prop), (∀ σ H, P σ H → P' σ H) → g v σ H P → g v σ H P' := by intro _ _ _ _ _ k h; exact k _ _ h) : LcGoal J g tYes te vs σ Q H1 := by
  intro D hD
  obtain ⟨W, hW⟩ : ∃ W : Nat → Hp → Prop, W = fun i H => ∃ ts : List V, H D = some (.lst ts) ∧ Ex H1 H ∧ ts.length = i ∧ ∀ (k : Nat) (a : V) (y : α), ts[k]? = some a → ys[k]? = some y → P y a (hid D H) := ⟨_, rfl⟩
  have hWi : ∀ i H, W i H ↔ ∃ ts : List V, H D = some (.lst ts) ∧ Ex H1 H ∧ ts.length = i ∧ ∀ (k : Nat) (a : V) (y : α), ts[k]? = some a → ys[k]? = some y → P y a (hid D H) := fun i H => by rw [hW]
  refine ⟨fun i m H => m = ys.length - i ∧ i ≤ ys.length ∧ W i H, ⟨ys.length, by simp, Nat.zero_le _, (hWi _ _).mpr ⟨[], upd_same, Fr.new hD, rfl, fun k a y h _ => by simp at h⟩⟩, ?_⟩
  rintro i m H ⟨rfl, hi, hw⟩
  obtain ⟨ts, h1, h2, h3, h4⟩ := (hWi _ _).mp hw
  by_cases hlt : i < ys.length
  · refine .inr ⟨hR.go i H hlt (hS H h2), W (i + 1), fun H' p' => ⟨ys.length - (i + 1), by omega, rfl, hlt, p'⟩, fun x H' y => ?_⟩
    obtain ⟨rfl, y0, hy, rfl⟩ := hR.yld i H x H' hlt (hS H h2) y
    refine hg _ _ _ _ _ (fun σ2 H2 h => ⟨h.1, h.2⟩) (hs y0 H' (List.mem_of_getElem? hy) h2 (fun v H4 => ∃ acc, H4 D = some (.lst acc) ∧ acc.length < sizeLine ∧ W (i + 1) (upd H4 D (.lst (acc ++ [v])))) ?_)
    intro a H4 e hn
    have hup : ∀ o, hid D (upd H4 D o) = hid D H4 := fun o => by
      funext b
      unfold hid
      by_cases n : b = D
      · rw [if_pos n, if_pos n]
      · rw [if_neg n, if_neg n, upd_ne n]
    have hst : Ex (hid D H') (hid D H4) := fun b o _ q => by
      unfold hid at q ⊢
      by_cases n : b = D
      · rw [if_pos n] at q; cases q
      · rw [if_neg n] at q ⊢
        exact e.get q
    refine ⟨ts, e.get h1, by rw [sl16]; omega, (hWi _ _).mpr ⟨ts ++ [a], upd_same, (h2.trans e).mut hD, by rw [List.length_append, h3]; rfl, fun k b y hk hky => ?_⟩⟩
    rw [hup]
    by_cases hkl : k < ts.length
    · rw [List.getElem?_append_left hkl] at hk
      exact hP y b _ _ (h4 k b y hk hky) hst
    · rw [List.getElem?_append_right (by omega)] at hk
      have hk0 : k = ts.length := by
        have := (List.getElem?_eq_some_iff.mp hk).1
        rw [List.length_singleton] at this
        omega
      subst hk0
      rw [Nat.sub_self] at hk
      cases hk
      rw [h3, hy] at hky
      cases hky
      exact hn _ (((h2.trans e).hidN hD)) fun b o hb ho => hid_get ho fun z => by rw [z, h1] at hb; cases hb
  · have e : i = ys.length := by omega
    subst e
    exact .inl ⟨hR.stop H (hS H h2), hd D H ts hD h2 h1 h3 fun k a y hk hky => hP y a _ _ (h4 k a y hk hky) (hid_ex D H)⟩
end
end Zb

/-! dicts whose keys are tuples: for k in d, for (k, v) in d.items() -/
namespace Zb
open PySem PySem.Spec PyProof.Rows L2 PySem.W
/-- the pairs of the locked dict at d: the key's own tuple and the value, in a new tuple -/
def Itit (d : Addr) (o : Obj) (kvs : List (List Key × V)) : It :=
  ⟨fun i H => H d = some (.frz o (.dT kvs)) ∧ i < kvs.length, fun i H x H' => ∃ T k v q, kvs[i]? = some (k, v) ∧ x = .ref T ∧ H T = none ∧ H q = some (.tup (k.map kV)) ∧ H' = upd H T (.tup [.ref q, v]), fun i H => H d = some (.frz o (.dT kvs)) ∧ kvs.length ≤ i⟩
section
variable {X : Cx} {pins : List (Addr × Obj)} {σ : L2.St} {H : Hp} {s : Shared} {d : Addr} {o : Obj}
theorem frzTV {kvs : List (List Key × V)} (I : Inv X pins σ H s) (h : H d = some (.frz o (.dT kvs))) :
    (d == sysModules) = false ∧ s.heap.get? d = some o ∧ o.ExactDict ∧ ∃ (es : Array DictEntry) (ep : Nat), o.data = .dict es ep ∧ es.size = kvs.length ∧
      ∀ (i : Nat) (k : List Key) (v : V), kvs[i]? = some (k, v) → ∃ (en : DictEntry) (q : Addr), es[i]? = some en ∧ en.key = .ref q ∧ H q = some (.tup (k.map kV)) ∧ RelV v en.val := by
  obtain ⟨hd, z, hs, xs, pr, o', es, ep, ho, hx, hdt, he, _⟩ := I.hok d _ h
  rw [hd] at ho
  cases ho
  refine ⟨hs, hd, hx, es, ep, hdt, ?_, fun i k v e => ?_⟩
  · have l1 : es.size = xs.length := size_of_entries he
    have l2 : kvs.length = xs.length := Paired.length pr
    omega
  · obtain ⟨b, hb, e1, e2, e3⟩ := paired_get pr e
    have q := entry_at he i
    rw [hb] at q
    exact ⟨_, b.2.1, q, rfl, e2, e3⟩
end
section
variable {P : Program} {w : World} {K : PySem.W.Frag} {d : Addr} {o : Obj} {es : Array DictEntry} {ep : Nat}
theorem turn_itemsT {kvs : List (List Key × V)} {elts : List Expr} {kk : Nat} {tpos : Pos} (it : Addr) (hod : o.data = .dict es ep) :
    Turn P w K (.Tuple elts kk tpos) (Itit d o kvs) [it] it (fun i h => ∃ ok ov, IsItemIter h it d i kvs.length ep ok ov) where
  mem := by simp
  obj := fun i h st b hb => by
    have e : b = it := by simpa using hb
    subst e
    obtain ⟨ok, ov, e⟩ := st
    exact ⟨_, e, fun v z => nomatch z⟩
  keep := fun i h h' st k => let ⟨ok, ov, e⟩ := st; ⟨ok, ov, k it (by simp) _ e⟩
  item := by
    intro X hP hw hK hc i pins s σ H E I hf st hg
    subst hP hw hK
    obtain ⟨hd, hi⟩ := hg
    obtain ⟨hs, hgd, hx, es', ep', hdt, hsz, ent⟩ := frzTV I hd
    obtain ⟨rfl, rfl⟩ := dict_ep hod hdt
    obtain ⟨⟨k, v⟩, hkv⟩ : ∃ p, kvs[i]? = some p := ⟨kvs[i], List.getElem?_eq_getElem hi⟩
    obtain ⟨en, q, hen, hkey, hq, hval⟩ := ent i k v hkv
    obtain ⟨ok, ov, he⟩ := st
    rw [← hsz] at he
    have hie : i < es'.size := by omega
    have hen2 : es'[i] = en := by
      rw [Array.getElem?_eq_getElem hie] at hen
      exact Option.some.inj hen
    have hlt : it < s.heap.objs.size := Heap.lt_size he
    refine DT.nextI he ⟨o, hgd, hx, hdt⟩ hie fun h' ho hT hz hk => ?_
    rw [hen2] at ho hT
    refine ⟨_, rfl, wpAny_letOwnedTupleGo_items (s := { s with heap := h' }) ho fun h'' he' sb => ?_⟩
    have hT2 : h''.get? s.heap.objs.size = some { cls := .type "tuple", data := .seq #[en.key, en.val] } := (sb.2 _ (Nat.ne_of_gt hlt)).trans hT
    have new : ObjOk X.prog X.w (upd H s.heap.objs.size (.tup [.ref q, v])) h'' s.heap.objs.size (.tup [.ref q, v]) :=
      ⟨by show 2 ≤ sizeLine; decide, [en.key, en.val], .cons hkey (.cons hval .nil), ⟨_, hT2, rfl, _, rfl⟩⟩
    have I1 : Inv X pins σ (upd H s.heap.objs.size (.tup [.ref q, v])) { s with heap := h'' } :=
      I.turnedNew (t' := s.toks) (ch := [it]) (fun b ob hb e => (sb.2 b (by simpa using hb)).trans (hk b ob (by simpa using hb) e)) hf (Nat.le_refl _) new
    refine ⟨.ref s.heap.objs.size, _, I1, rfl, ⟨_, k, v, q, hkv, rfl, I.hok.fresh (Nat.le_refl _), hq, rfl⟩, ⟨en.key, en.val, ?_⟩, fun b hb => ?_⟩
    · rw [← hsz]; exact he'
    · have e : b = it := by simpa using hb
      rw [e, upd_ne (Nat.ne_of_lt hlt)]
      exact (hf it (by simp)).1
  done := by
    intro X hP hw hK hc i pins s σ H E I hf st hg
    subst hP hw hK
    obtain ⟨hd, hi⟩ := hg
    obtain ⟨f0, f1, f2, f3, f4, f5⟩ := hf it (by simp)
    obtain ⟨hs, hgd, hx, es', ep', hdt, hsz, ent⟩ := frzTV I hd
    obtain ⟨rfl, rfl⟩ := dict_ep hod hdt
    obtain ⟨ok, ov, he⟩ := st
    rw [← hsz] at he
    exact DT.endI (I.ok.hd hc) he ⟨o, hgd, hx, hdt⟩ (by omega) fun h' eb => ⟨rfl, I.turned (t' := s.toks) (fun b ob hb e => eb b ob hb e) f0 f1 f3 f4 f5⟩
  self := fun A i s Q E st h => let ⟨_, _, e⟩ := st; PySem.W.kcp_self e h
end
def iItemsT (td : TE) : TI := fun σ H R => td σ H fun x H1 => ∃ d o kvs, x = .ref d ∧ H1 d = some (.frz o (.dT kvs)) ∧ R (Itit d o kvs) H1
section
variable {X : Cx} {tg e : Expr} {td : TE} {apos cpos : Pos}
theorem pi_itemsT {elts : List Expr} {kk : Nat} {tpos : Pos} (he : PE X e td) (hbase : attributeBase e "items" X.env (eval e X.env) = eval e X.env := by rfl) (hline : (apos.endLine == cpos.line) = true := by rfl) :
    PI X (.Tuple elts kk tpos) (.Call (.Attribute e "items" apos) [] [] cpos) (iItemsT td) := by
  refine ⟨fun pins s σ H R I h => ?_⟩
  refine wpAny_Call_method (T := "dict") (id := "dict.items") hbase rfl hline F.plainAttrs_dict F.slot_dict_items F.type_dict_items (thn (he.run pins s σ H _ I h) fun u s1 ⟨x, H1, I1, rx, d, o, kvs, ex, hd, q⟩ => ?_)
  subst ex
  obtain rfl : u = Value.ref d := rx
  obtain ⟨hs, hgd, hx, es, ep, hdt, hsz, ent⟩ := frzTV I1 hd
  have raw : DT.Raw s1.heap d es ep := ⟨o, hgd, hx, hdt⟩
  refine ⟨raw.typeIs, fun b q => by cases q; exact ⟨o, hgd, hx.2.1⟩, ?_⟩
  have I2 : Inv X pins σ H1 { s1 with heap := s1.heap.push { cls := .type "dict_items", data := .fields #[.ref d] } } := I1.kept (t' := s1.toks) fun b ob q => Heap.get?_push_of_some _ q
  have fin : wpAny (model X.prog X.w) X.A (pyIter (.ref s1.heap.objs.size)) (PIE X pins σ (.Tuple elts kk tpos) R) X.xe { s1 with heap := s1.heap.push { cls := .type "dict_items", data := .fields #[.ref d] } } := by
    refine DT.iterI (d := d) (es := es) (ep := ep) ⟨_, Heap.get?_push_size _ rfl, rfl, rfl⟩ (raw.push _) (pi_one (tk := s1.toks) I2 _ (turn_itemsT _ hdt) ⟨.none, .none, ?_⟩ q)
    rw [← hsz]
    exact Heap.get?_push_size _ rfl
  show wpAny _ _ (callWith cpos (.builtin "dict.items") [.ref d] [] []) _ X.xe s1
  exact method_meetsIn F.slot_dict_items F.entry_dict_items rfl (PySem.evalArgs_none ⟨rfl, raw.typeIs, F.args_dict_items_1 _, _, DT.meetsItems hs, ⟨raw, fin⟩⟩)
end
/-- <= of tuples of numbers (and of other data that are alike) -/
def rLeD : R2 := fun x y H Q => ∃ d e, Rp H x d ∧ Rp H y e ∧ PySem.W.alike d e = true ∧ d ≠ .none ∧ min d.depth e.depth ≤ 60 ∧ Q (.bl (!PySem.W.dataLt e d)) H
theorem o_leD {X : Cx} (hu : X.A.units + 64 < cLine) : OpR X (compareOp .LtE) rLeD := by
  intro pins s σ H x y v u Q I rx ry h
  obtain ⟨d, e, h1, h2, h3, h4, h5, q⟩ := h
  obtain ⟨as, r1⟩ := Dp.reads I d x v h1.dp rx
  obtain ⟨bs, r2⟩ := Dp.reads I e y u h2.dp ry
  exact PySem.W.le_data r1 r2 h3 h4 (by omega) ⟨.bl _, H, I, rfl, q⟩
def lt3 (a b c a' b' c' : Int) : Bool := if a = a' then (if b = b' then decide (c < c') else decide (b < b')) else decide (a < a')
theorem dataLt3 (a b c a' b' c' : Int) : PySem.W.dataLt (.tuple [.int a, .int b, .int c]) (.tuple [.int a', .int b', .int c']) = lt3 a b c a' b' c' := by
  show PyProof.Rows.lexLt PyProof.Rows.itemOrd [.inl 1, .inl a, .inl 1, .inl b, .inl 1, .inl c, .inl 0] [.inl 1, .inl a', .inl 1, .inl b', .inl 1, .inl c', .inl 0] = _
  have t : ∀ (x y : Int) (l m : List (Int ⊕ List Nat)), PyProof.Rows.lexLt PyProof.Rows.itemOrd (.inl x :: l) (.inl y :: m) = (decide (x < y) || (!decide (y < x) && PyProof.Rows.lexLt PyProof.Rows.itemOrd l m)) := fun x y l m => PyProof.Rows.lex_cons (O := PyProof.Rows.itemOrd) (.inl x) (.inl y) l m
  have t0 : PyProof.Rows.lexLt PyProof.Rows.itemOrd [] [] = false := by unfold PyProof.Rows.lexLt; rfl
  rw [t, t, t, t, t, t, t, t0]
  unfold lt3
  simp only [Int.lt_irrefl, decide_false, Bool.not_false, Bool.true_and, Bool.false_or, Bool.and_false, Bool.or_false]
  by_cases e1 : a = a'
  · subst e1
    by_cases e2 : b = b'
    · subst e2
      simp [Int.lt_irrefl]
    · rw [if_pos rfl, if_neg e2]
      by_cases l : b < b'
      · simp [Int.lt_irrefl, l]
      · have l2 : b' < b := by omega
        simp [Int.lt_irrefl, l, l2]
  · rw [if_neg e1]
    by_cases l : a < a'
    · simp [l]
    · have l2 : a' < a := by omega
      simp [l, l2]
theorem st_leT {H : Hp} {Q : VK} {p q : Addr} {a b c a' b' c' : Int} (h1 : H p = some (.tup [.int a, .int b, .int c])) (h2 : H q = some (.tup [.int a', .int b', .int c'])) (h : Q (.bl (!lt3 a' b' c' a b c)) H) : rLeD (.ref p) (.ref q) H Q := by
  refine ⟨.tuple [.int a, .int b, .int c], .tuple [.int a', .int b', .int c'], .tup (tup_of h1) (.cons (.int _) (.cons (.int _) (.cons (.int _) .nil))), .tup (tup_of h2) (.cons (.int _) (.cons (.int _) (.cons (.int _) .nil))), rfl, (fun z => nomatch z), by simp [PyData.depth, PyData.depthAll], ?_⟩
  rw [dataLt3]
  exact h
theorem runs_zipT (K : PySem.W.Frag) (a b : Addr) (xs ys : List V) : Runs (RZ.ItzT K a b) (min xs.length ys.length) (fun H => tupAt H a = some xs ∧ tupAt H b = some ys) (fun i x H H' => ∃ T v u, x = .ref T ∧ H T = none ∧ Ex H H' ∧ H' T = some (.tup [v, u]) ∧ xs[i]? = some v ∧ ys[i]? = some u) :=
  ⟨fun i H h s => ⟨xs, ys, xs[i]'(by omega), ys[i]'(by omega), tupAt_sq s.1, tupAt_sq s.2, by rw [List.getElem?_eq_getElem], by rw [List.getElem?_eq_getElem]⟩, fun _ s => ⟨xs, ys, tupAt_sq s.1, tupAt_sq s.2, by omega⟩, fun i H x H' _ s y => by
    obtain ⟨T, v, u, e1, e2, e3, e4, e5⟩ := y
    subst e3
    exact ⟨T, v, u, e1, e2, Fr.new e2, upd_same, e4 xs (tupAt_sq s.1), e5 ys (tupAt_sq s.2)⟩⟩
theorem runs_keysT (d : Addr) (o : Obj) (kvs : List (List Key × V)) : Runs (Itkt d o kvs) kvs.length (fun H => H d = some (.frz o (.dT kvs))) (fun i x H H' => H' = H ∧ ∃ k v q, kvs[i]? = some (k, v) ∧ x = .ref q ∧ H q = some (.tup (k.map kV))) :=
  ⟨fun i H h s => ⟨s, h⟩, fun _ s => ⟨s, Nat.le_refl _⟩, fun _ _ _ _ _ s y => y⟩
theorem runs_itemsT (d : Addr) (o : Obj) (kvs : List (List Key × V)) : Runs (Itit d o kvs) kvs.length (fun H => H d = some (.frz o (.dT kvs))) (fun i x H H' => ∃ T k v q, kvs[i]? = some (k, v) ∧ x = .ref T ∧ H T = none ∧ Ex H H' ∧ H' T = some (.tup [.ref q, v]) ∧ H q = some (.tup (k.map kV))) :=
  ⟨fun i H h s => ⟨s, h⟩, fun _ s => ⟨s, Nat.le_refl _⟩, fun i H x H' _ s y => by
    obtain ⟨T, k, v, q, e1, e2, e3, e4, e5⟩ := y
    subst e5
    exact ⟨T, k, v, q, e1, e2, e3, Fr.new e3, upd_same, e4⟩⟩
end Zb

/-! exceptions made as values -/
namespace Zb
open PySem PySem.Spec PyProof.Rows L2
open Evl (tCut pss_cut)
/-- C(e, ..), an exception's class with an own __init__, as a value -/
def tExcV (C : Addr) (sp : Sp) (dvs : List V) (ta : TA) : TE := fun σ H Q => ta σ H fun vs H1 => vs.length ≤ 1000 ∧ ∀ a, H1 a = none → sp (.ref a :: (vs ++ dvs)) (upd H1 a (exo a C none))
  (fun v H2 => v = .non ∧ ∃ (d : Addr) (fs : List (Str × V)), H2 a = some (exo a C (some d)) ∧ H2 d = some (exd d fs) ∧ Q (.ref a) (upd (upd H2 a (XkO a (.ref C) (some d))) d (.xd fs))) (fun _ _ _ => False)
section
variable {X : Cx} {e : Expr} {es : List Expr} {ta : TA} {p pos : Pos} {nm : Str} {ps : List Str} {sp : Sp}
theorem excV_end {pins : List (Addr × Obj)} {σ : L2.St} {H2 : Hp} {s : Shared} {a C d : Addr} {fs : List (Str × V)} {Q : VK} (I : Inv X pins σ H2 s) (ea : H2 a = some (exo a C (some d))) (ed : H2 d = some (exd d fs)) (q : Q (.ref a) (upd (upd H2 a (XkO a (.ref C) (some d))) d (.xd fs))) : EP X pins σ Q (.ref a) s := by
  obtain ⟨t0, hoe⟩ := exo_at I.hok ea
  obtain ⟨mA, hns, rel⟩ := exd_at I.hok ed
  have hda : d ≠ a := fun z => by
    obtain ⟨o, es, ep, e1, e2, _⟩ := hns
    rw [z, hoe] at e1
    have z2 := Option.some.inj e1
    subst z2
    cases e2
  obtain ⟨hp, g, dr, t, os⟩ := s
  have J1 : Inv X pins σ (upd H2 a (XkO a (.ref C) (some d))) ⟨hp, g, dr, t, os⟩ := I.write (t' := t) (x := a) (e := a) (o := XkO a (.ref C) (some d)) (by rw [ea]; exact True.intro) (.inl rfl) (fun b u _ z => z) ⟨_, hoe⟩ (xkO_ok hoe ⟨rfl, rfl⟩ rfl)
  have hd : ∃ o, hp.get? d = some o := by
    obtain ⟨o, _, _, e', _⟩ := hns
    exact ⟨o, e'⟩
  have J2 : Inv X pins σ (upd (upd H2 a (XkO a (.ref C) (some d))) d (.xd fs)) ⟨hp, g, dr, t, os⟩ := J1.write (t' := t) (x := d) (e := d) (o := .xd fs) (by rw [upd_ne hda, ed]; exact True.intro) (.inl rfl) (fun b u _ z => z) hd ⟨mA, hns, rel⟩
  exact ⟨.ref a, _, J2, rfl, q⟩
theorem pe_excV0 {CX : CXT} {x : Str} {C fI : Addr} {k : Nat} {fd : FuncData} {ds : List Value} {dvs : List V} (T : OexC X.K C) (iC : PySem.W.findIn X.K (.ref C) "__init__" = some (some (.ref fI))) (tI : PySem.W.typeIn X.K (.ref fI) = some (.type "function"))
    (F1 : FnOk X.prog X.w X.K X.mg X.base CX k fI fd ps sp) (hr : Room (k + 1) X.A) (hb : Binds X.K fd ps ds) (hd : Vals dvs ds) (hx : Passes CX X (fun _ _ _ => False)) (hg : Gl X x) (hm : X.mg x = some (.ref C)) (ha : PA X (e :: es) ta)
    (hdb : (x == ("__debug__" : Str)) = false := by decide) (he : starEach (e :: es) X.env = (false, eval e X.env) :: starEach es X.env := by rfl) (hpl : (backTo pos (starEach es X.env)).any (·.1) = false := by rfl) :
    PE X (.Call (.Name x p) (e :: es) [] pos) (tExcV C sp dvs ta) := by
  refine ⟨fun pins s σ H Q I h => ?_⟩
  obtain ⟨nm', q, N, bs, bm, sn, sub, ab, col, dd, k0, k1, k2, k3, k5, hC, hbm⟩ := T.cls
  refine wpAny_Call_Name_kw (ld_glob I hg hm ?_ hdb)
  refine PySem.W.callWith_K (h₀ := X.base) I.ok.mod.kin T.kC (thn (ha.run pos pins s σ H _ I h) fun us s1 ⟨vs, H1, I1, r1, hz, q1⟩ => ⟨I1.kIn, ?_⟩) he hpl
  show wpAny _ _ (call (.ref C) us) _ _ _
  obtain ⟨hp, g, dr, tk, os⟩ := s1
  have hsz : hp.objs.size ≤ hp.objs.size + 1 := Nat.le_succ _
  have hn : H1 (hp.objs.size + 1) = none := I1.hok.fresh hsz
  have hq := q1 (hp.objs.size + 1) hn
  have kk : ∀ b o, hp.get? b = some o → ((hp.push (PySem.W.kdv_tup us)).push (PySem.HandSPX.excO C hp.objs.size)).get? b = some o := fun b o e => Heap.get?_push_of_some _ (Heap.get?_push_of_some _ e)
  have hget : ((hp.push (PySem.W.kdv_tup us)).push (PySem.HandSPX.excO C hp.objs.size)).get? (hp.objs.size + 1) = some (PySem.HandSPX.excO C hp.objs.size) := by heap_get
  have I2 : Inv X pins σ (upd H1 (hp.objs.size + 1) (exo (hp.objs.size + 1) C none)) ⟨(hp.push (PySem.W.kdv_tup us)).push (PySem.HandSPX.excO C hp.objs.size), g, dr, tk, os⟩ :=
    I1.laid (t' := tk) (a := hp.objs.size + 1) (o := exo (hp.objs.size + 1) C none) (h' := (hp.push (PySem.W.kdv_tup us)).push (PySem.HandSPX.excO C hp.objs.size)) kk hsz (exo_ok hget)
  have r2 : Vals (V.ref (hp.objs.size + 1) :: (vs ++ dvs)) (Value.ref (hp.objs.size + 1) :: (us ++ ds)) := .cons rfl (r1.append hd)
  have hl : (Value.ref (hp.objs.size + 1) :: us ++ ds).length = ps.length := by
    have e := r2.length
    rw [F1.len _ _ _ _ hq] at e
    exact e.symm
  have hus : us.length ≤ sizeLine := by
    rw [← Paired.length r1, sizeLine_eq]
    omega
  refine wpAny_call (PySem.HandSPX.call_own F.excBase_ValueError (fun Y => PySem.HandSPX.refsVE_contains Y bm hbm) (I1.kIn _ _ hC) (PySem.W.looks_findIn I1.kIn iC) (fun self => PySem.W.bind_fn I1.kIn self tI) hus
    (codeAny_mono (F1.run _ X.stack _ _ ⟨Value.ref (hp.objs.size + 1) :: us, []⟩ (Value.ref (hp.objs.size + 1) :: (us ++ ds)) _ _ (fun _ _ _ => False) (hr.make C us []) (I2.env0.make C us []) (hb _ (Value.ref (hp.objs.size + 1) :: us) I2.kIn hl) r2 hq) fun r s' hq' => ?_))
  cases r with
  | error er => exact hx pins σ _ _ er s' I2 hq'
  | ok fl =>
    cases fl with
    | ret u =>
      obtain ⟨v, H2, os2, bare2, un2, hok2, rv, ev, d, fs, ea, ed, q2⟩ := hq'
      subst ev
      obtain ⟨h2, g2, d2, t2, os'⟩ := s'
      exact ⟨rv, excV_end (I2.call' (ch := []) os2 un2 hok2 bare2 (fun b z => absurd z (by simp))) ea ed q2⟩
    | next => exact False.elim hq'
    | brk => exact False.elim hq'
    | cont => exact False.elim hq'
theorem pe_excV (T : EX X.prog X.w X.K X.mg X.base nm ps sp) (hr : Room 2 X.A) (hg : Gl X nm) (ha : PA X (e :: es) ta)
    (hdb : (nm == ("__debug__" : Str)) = false := by decide) (he : starEach (e :: es) X.env = (false, eval e X.env) :: starEach es X.env := by rfl) (hpl : (backTo pos (starEach es X.env)).any (·.1) = false := by rfl) :
    PE X (.Call (.Name nm p) (e :: es) [] pos) (tExcV (clsA X.K nm) sp [] ta) := by
  obtain ⟨fI, fd, iC, tI, F1, hb⟩ := T.i
  exact pe_excV0 T.o iC tI F1 hr hb .nil pass0 hg T.g ha hdb he hpl
end
section
variable {K : PySem.W.Frag} {C : Addr} {Q : VK} {H : Hp} {f g : Str} {σ : L2.St}
def ExcVP (C : Addr) (sp : Sp) (vs : List V) (Q : VK) (H1 : Hp) : Prop := vs.length ≤ 1000 ∧ ∀ a, H1 a = none → sp (.ref a :: (vs ++ [])) (upd H1 a (exo a C none))
  (fun v H2 => v = .non ∧ ∃ (d : Addr) (fs : List (Str × V)), H2 a = some (exo a C (some d)) ∧ H2 d = some (exd d fs) ∧ Q (.ref a) (upd (upd H2 a (XkO a (.ref C) (some d))) d (.xd fs))) (fun _ _ _ => False)
theorem st_excV {sp : Sp} {ta : TA} (h : ta σ H (ExcVP C sp · Q ·)) : tExcV C sp [] ta σ H Q := h
/-- a made exception at a: of the class, with these fields -/
structure XcV (H : Hp) (a C d : Addr) (fs : List (Str × V)) : Prop where
  at_ : H a = some (XkO a (.ref C) (some d))
  fd : H d = some (.xd fs)
theorem XcV.ex {H H' : Hp} {a C d : Addr} {fs : List (Str × V)} (h : XcV H a C d fs) (e : Ex H H') : XcV H' a C d fs := ⟨e.get h.at_, e.get h.fd⟩
theorem st_exv1 {v : V} (T : OexC K C) (hf : PySem.W.findIn K (.ref C) f = some none) (h : ∀ a d H', H a = none → H d = none → Ex H H' → XcV H' a C d [(f, v)] → Q (.ref a) H') : ExcVP C (spI1 K f) [v] Q H := by
  refine ⟨(by decide : 1 ≤ 1000), fun a ha => ⟨a, C, v, rfl, T, hf, upd_same, fun dx hdx ne => ⟨rfl, dx, [(f, v)], upd_same, ?_, ?_⟩⟩⟩
  · rw [upd_ne ne]; exact upd_same
  · rw [upd_ne ne] at hdx
    refine h a dx _ ha hdx (fun b o _ hb => ?_) ⟨?_, upd_same⟩
    · have n1 : b ≠ a := fun z => by rw [z, ha] at hb; cases hb
      have n2 : b ≠ dx := fun z => by rw [z, hdx] at hb; cases hb
      rw [upd_ne n2, upd_ne n1, upd_ne n1, upd_ne n2, upd_ne n1]
      exact hb
    · rw [upd_ne (Ne.symm ne)]
      exact upd_same
theorem st_exv2 {v z : V} (T : OexC K C) (hf : PySem.W.findIn K (.ref C) f = some none) (hg : PySem.W.findIn K (.ref C) g = some none) (h : ∀ a d H', H a = none → H d = none → Ex H H' → XcV H' a C d [(g, z), (f, v)] → Q (.ref a) H') : ExcVP C (spI2 K f g) [v, z] Q H := by
  refine ⟨(by decide : 2 ≤ 1000), fun a ha => ⟨a, C, v, z, rfl, T, hf, hg, upd_same, fun dx hdx ne => ⟨rfl, dx, [(g, z), (f, v)], ?_, upd_same, ?_⟩⟩⟩
  · rw [upd_ne (Ne.symm ne)]; exact upd_same
  · rw [upd_ne ne] at hdx
    refine h a dx _ ha hdx (fun b o _ hb => ?_) ⟨?_, upd_same⟩
    · have n1 : b ≠ a := fun z => by rw [z, ha] at hb; cases hb
      have n2 : b ≠ dx := fun z => by rw [z, hdx] at hb; cases hb
      rw [upd_ne n2, upd_ne n1, upd_ne n2, upd_ne n1, upd_ne n2, upd_ne n1]
      exact hb
    · rw [upd_ne (Ne.symm ne)]
      exact upd_same
end
/-! an exception's class without an own __init__, as a value -/
structure ExB (K : PySem.W.Frag) (mg : Str → Option Value) (nm : Str) : Prop where
  g : mg nm = some (.ref (clsA K nm))
  k : PySem.W.keepIn K (.ref (clsA K nm)) = true
  q : PySem.W.excIn K (clsA K nm) [.type "ValueError", .type "Exception", .type "BaseException", .type "object"] "ValueError.__new__" = true
theorem pe_excB {X : Cx} {e : Expr} {ta : TE} {p pos : Pos} {nm : Str} (T : ExB X.K X.mg nm) (hg : Gl X nm) (he : PE X e ta) (hs : starEach [e] X.env = (false, eval e X.env) :: starEach [] X.env := by rfl) (hdb : (nm == ("__debug__" : Str)) = false := by decide) :
    PE X (.Call (.Name nm p) [e] [] pos) (fun σ H Q => ta σ H fun _ H1 => ∀ a, H1 a = none → Q (.ref a) (upd H1 a (ExO (.ref (clsA X.K nm)) a))) :=
  pe_exc1 F.excBase_ValueError T.q T.g T.k hg he hs hdb
/-! isinstance of an exception that is held -/
/-- at a: an exception of that class, made here or kept behind its clause -/
def HasX (H : Hp) (a C : Addr) : Prop := (∃ (d : Addr) (fs : List (Str × V)), H a = some (XkO a (.ref C) (some d)) ∧ H d = some (.xd fs)) ∨ H a = some (ExO (.ref C) a)
theorem XcV.has {H : Hp} {a C d : Addr} {fs : List (Str × V)} (h : XcV H a C d fs) : HasX H a C := .inl ⟨d, fs, h.at_, h.fd⟩
theorem HasX.ex {H H' : Hp} {a C : Addr} (h : HasX H a C) (e : Ex H H') : HasX H' a C := by
  rcases h with ⟨d, fs, h1, h2⟩ | h
  · exact .inl ⟨d, fs, e.get h1, e.get h2⟩
  · exact .inr (e.get h)
theorem HasX.inst {X : Cx} {pins : List (Addr × Obj)} {σ : L2.St} {H : Hp} {s : Shared} {a C : Addr} (I : Inv X pins σ H s) (h : HasX H a C) : ∃ oe od, PySem.W.InstAt s.heap a oe C od := by
  rcases h with ⟨d, fs, h1, h2⟩ | h
  · obtain ⟨⟨oe, vs, hget, hz, hv⟩, _, _⟩ := I.hok a _ h1
    have hx : ObjOk X.prog X.w H s.heap d (.xd fs) := I.hok d _ h2
    obtain ⟨mA, hns, hr⟩ := hx
    obtain ⟨od, ho, hl⟩ := lookIn_ns hns
    exact ⟨oe, some od, hget, hz.1, by unfold PySem.W.notCls; rw [hv] <;> rfl, by rw [hz.2]; exact ho⟩
  · obtain ⟨⟨oe, vs, hget, hz, hv, _, _, _⟩, _, _⟩ := I.hok a _ h
    exact ⟨oe, none, hget, hz.1, by unfold PySem.W.notCls; rw [hv] <;> rfl, by rw [hz.2]; trivial⟩
def rIsV (K : PySem.W.Frag) : List V → Hp → VK → Prop := fun xs H Q => ∃ (a : Addr) (c : V) (cv : Value) (b : Bool) (C : Addr), xs = [.ref a, c] ∧ HasX H a C ∧ (∀ u, RelV c u → u = cv) ∧ XI K C ∧ PySem.W.kitOne K (.ref C) cv = some b ∧ Q (.bl b) H
theorem call_isV {X : Cx} {K : PySem.W.Frag} (hK : X.K = K := by rfl) : CallR X (.builtin "isinstance") (rIsV K) := by
  subst hK
  intro pins s σ H xs us Q I r h
  obtain ⟨a, c, cv, b, C, rfl, ha0, hcv, T, e, q⟩ := h
  cases r with
  | cons rx rr =>
    cases rr with
    | cons rt rr =>
      cases rr
      cases rx
      have ecv := hcv _ rt
      subst ecv
      obtain ⟨oe, od, J⟩ := ha0.inst I
      exact PySem.W.kia_one (PySem.W.kitx_exc T.hc T.ga T.gg T.sb T.ca T.cn T.ct T.cm) I.kIn J e (fun z => nomatch z) fun tk => ⟨.bl b, H, I.kept (t' := tk) fun _ _ z => z, rfl, q⟩
section
variable {K : PySem.W.Frag} {H : Hp} {Q : VK}
theorem st_isV {a C D : Addr} {b : Bool} (h0 : HasX H a C) (T : XI K C) (e : PySem.W.kitOne K (.ref C) (.ref D) = some b) (h : Q (.bl b) H) : rIsV K [.ref a, .ref D] H Q :=
  ⟨a, .ref D, .ref D, b, C, rfl, h0, fun u r => by cases r; rfl, T, e, h⟩
theorem st_isVT {a C : Addr} {n : String} {b : Bool} (h0 : HasX H a C) (T : XI K C) (e : PySem.W.kitOne K (.ref C) (.type n) = some b) (h : Q (.bl b) H) : rIsV K [.ref a, .ty n] H Q :=
  ⟨a, .ty n, .type n, b, C, rfl, h0, fun u r => by cases r; rfl, T, e, h⟩
end
/-! // by a very great number -/
def rDivX : R2 := fun x y H Q => match x, y with
  | .int i, .int j => 0 < j ∧ j < 1606938044258990275541962092341162602522202993782792835301376 ∧ Q (.int (i / j)) H
  | _, _ => False
theorem o_divX {X : Cx} : OpR X (binaryOp .FloorDiv) rDivX := by
  intro pins s σ H x y v u Q I rx ry h
  unfold rDivX at h
  split at h
  · obtain ⟨h1, h2, q⟩ := h
    exact op_fdivW pins s σ H _ _ v u Q I rx ry ⟨_, _, rfl, rfl, wide_div (b := 200) h1 (by omega) (by decide) (by decide), q⟩
  · exact h.elim
theorem st_divX {H : Hp} {Q : VK} {i j : Int} (hc : 0 < j ∧ j < 1606938044258990275541962092341162602522202993782792835301376) (h : Q (.int (i / j)) H) : rDivX (.int i) (.int j) H Q := ⟨hc.1, hc.2, h⟩
/-! many classes: none is under another -/
def subTab (K : PySem.W.Frag) (l : List Addr) : Bool := l.zipIdx.all fun x => l.zipIdx.all fun y => decide (PySem.W.subIn K (.ref x.1) (.ref y.1) = some (decide (x.2 = y.2)))
def subTabB (K : PySem.W.Frag) (p : Addr) (l : List Addr) : Bool := l.all fun y => decide (PySem.W.subIn K (.ref p) (.ref y) = some false)
theorem subTab_at {K : PySem.W.Frag} {l : List Addr} (h : subTab K l = true) {i j : Nat} {p q : Addr} (hi : l[i]? = some p) (hj : l[j]? = some q) : PySem.W.subIn K (.ref p) (.ref q) = some (decide (i = j)) := by
  unfold subTab at h
  rw [List.all_eq_true] at h
  have h1 := h (p, i) (List.mem_iff_getElem?.mpr ⟨i, by rw [List.getElem?_zipIdx, hi]; simp⟩)
  rw [List.all_eq_true] at h1
  exact of_decide_eq_true (h1 (q, j) (List.mem_iff_getElem?.mpr ⟨j, by rw [List.getElem?_zipIdx, hj]; simp⟩))
theorem subTabB_at {K : PySem.W.Frag} {l : List Addr} {p : Addr} (h : subTabB K p l = true) {j : Nat} {q : Addr} (hj : l[j]? = some q) : PySem.W.subIn K (.ref p) (.ref q) = some false := by
  unfold subTabB at h
  rw [List.all_eq_true] at h
  exact of_decide_eq_true (h q (List.mem_of_getElem? hj))
/-! a chain of three and more comparisons as a test -/
theorem pch_test {X : Cx} {pos : Pos} : ∀ {ops : List CmpOp} {bs : List Expr} {l : List (R2 × TE)}, PCh X ops bs l → ∀ (pins : List (Addr × Obj)) (s : Shared) (σ : L2.St) (H : Hp) (x : V) (v : Value) (Q : Bool → Hp → Prop), Inv X pins σ H s → RelV x v → tLk l x σ H (fun z H' => ∃ k, z = .bl k ∧ Q k H') →
    wpAny (model X.prog X.w) X.A (testChain pos v ops (evalEach bs X.env)) (fun k s' => ∃ H', Inv X pins σ H' s' ∧ Q k H') X.xe s := by
  intro ops bs l h
  induction h with
  | one ho hb =>
    intro pins s σ H x v Q I rx q
    refine test_last (thn (hb.run pins s σ H _ I q) fun w' s4 ⟨z', H4, I4, r4, q4⟩ => thn (ho pins s4 σ H4 x z' v w' _ I4 rx r4 q4) fun d' s5 ⟨z2, H5, I5, r5, k2, e2, q5⟩ => ?_)
    subst e2
    cases r5
    exact wpAny_truthy_bool ⟨H5, I5, q5⟩
  | @cons op op' ops b b' bs r tb l ho hb hl ih =>
    intro pins s σ H x v Q I rx q
    obtain ⟨p, rest, rfl⟩ : ∃ p rest, l = p :: rest := by cases hl <;> exact ⟨_, _, rfl⟩
    refine test_link (thn (hb.run pins s σ H _ I q) fun u s2 ⟨y, H2, I2, r2, q2⟩ => thn (ho pins s2 σ H2 x y v u _ I2 rx r2 q2) fun d s3 ⟨z, H3, I3, r3, k, e, q3⟩ => ?_)
    subst e
    cases r3
    refine wpAny_truthy_bool ?_
    cases k with
    | false =>
      obtain ⟨k', e', q'⟩ := q3
      cases e'
      exact ite_ff ⟨H3, I3, q'⟩
    | true => exact ite_tt (ih pins s3 σ H3 y u Q I3 r2 q3)
theorem pt_chainN {X : Cx} {pos : Pos} {a b b' : Expr} {bs : List Expr} {op op' : CmpOp} {ops : List CmpOp} {ta : TE} {l : List (R2 × TE)} (ha : PE X a ta) (hl : PCh X (op :: op' :: ops) (b :: b' :: bs) l) (hm : lastMarks (op :: op' :: ops) (b :: b' :: bs) = false := by with_unfolding_all rfl) :
    PT X (.Compare a (op :: op' :: ops) (b :: b' :: bs) pos) (tTest (tChN ta l)) :=
  ⟨fun pins s σ H Q I h => isTrue_chain (thn (ha.run pins s σ H _ I h) fun v s1 ⟨x, H1, I1, r1, q1⟩ => pch_test hl pins s1 σ H1 x v Q I1 r1 q1) hm⟩
/-! + and slices of any tuples -/
theorem o_addA {X : Cx} {K : PySem.W.Frag} (hK : X.K = K := by rfl) : OpR X (binaryOp .Add) (L2.rCatA K) := by subst hK; exact op_catA
theorem st_addA {K : PySem.W.Frag} {H : Hp} {Q : VK} {p q : Addr} {xs ys : List V} (h1 : H p = some (.tup xs)) (h2 : H q = some (.tup ys)) (hz : xs.length + ys.length ≤ 1000000) (h : ∀ r H', Ex H H' → H' r = some (.tup (xs ++ ys)) → Q (.ref r) H') : L2.rCatA K (.ref p) (.ref q) H Q :=
  ⟨p, q, xs, ys, rfl, rfl, tupAt_sq (tup_of h1), tupAt_sq (tup_of h2), by rw [sl16]; omega, fun e => h q H (Fr.refl _) (by rw [h2, e]; rfl), fun _ e => h p H (Fr.refl _) (by rw [h1, e, List.append_nil]), fun _ _ r hr => h r _ (Fr.new hr) upd_same⟩
theorem cutV_whole {xs : List V} {lo hi : Option Int} (h : HT.sIx xs.length 0 lo = 0 ∧ HT.sIx xs.length xs.length hi = xs.length) : cutV xs lo hi = xs := by
  unfold cutV
  rw [h.1, h.2, List.drop_zero, Nat.sub_zero, List.take_length]
theorem st_slE {K : PySem.W.Frag} {H : Hp} {Q : VK} {a : Addr} {xs : List V} {lo hi : Option Int} (h1 : H a = some (.tup xs)) (h : ∀ q H', Ex H H' → H' q = some (.tup (cutV xs lo hi)) → Q (.ref q) H') : rSlA K (.ref a) lo hi H Q :=
  ⟨a, xs, rfl, tupAt_sq (tup_of h1), fun z => h a H (Fr.refl _) (by rw [h1, cutV_whole z]), fun _ q hq => h q _ (Fr.new hq) upd_same⟩
/-! sorted of rows of whole numbers, all as long: fewer than 64 of them -/
def rSortX (K : PySem.W.Frag) : List V → Hp → VK → Prop := fun vs H Q => ∃ (d : Nat) (B : Int), 1 ≤ d ∧ L2.rSortU K d B vs H Q
theorem c_sortX {X : Cx} {K : PySem.W.Frag} (hK : X.K = K := by rfl) : CallR X (.builtin "sorted") (rSortX K) := by
  subst hK
  intro pins s σ H xs us Q I r h
  obtain ⟨d, B, hd, h⟩ := h
  exact cr_sortT hd pins s σ H xs us Q I r h
end Zb
set_option Elab.async false
set_option linter.all false
set_option maxRecDepth 100000
set_option maxHeartbeats 4000000

namespace My
open PySem PySem.Spec PyProof.Rows L2 Zb
open Evl (tCut pss_cut)

def top (i : Nat) : Stmt := PySem.Challenge.pw_panethread_k69_forged_lists_and_news.main.body.getD i (.Pass ⟨0, 0, 0, 0⟩)
abbrev s_is_whole : Stmt := top 6
abbrev N_is_whole : List Str := ["thing"]
theorem sc_is_whole : FnScope N_is_whole ["thing"] (defScope s_is_whole) := ⟨rfl, rfl, rfl, by decide +kernel, rfl, by decide +kernel, by decide +kernel⟩
abbrev s_are_wholes : Stmt := top 9
abbrev N_are_wholes : List Str := ["thing", "many", "part"]
theorem sc_are_wholes : FnScope N_are_wholes ["thing", "many"] (defScope s_are_wholes) := ⟨rfl, rfl, rfl, by decide +kernel, rfl, by decide +kernel, by decide +kernel⟩
abbrev s_is_told : Stmt := top 10
abbrev N_is_told : List Str := ["thing", "cost", "begin", "end"]
theorem sc_is_told : FnScope N_is_told ["thing"] (defScope s_is_told) := ⟨rfl, rfl, rfl, by decide +kernel, rfl, by decide +kernel, by decide +kernel⟩
abbrev s_is_ranked : Stmt := top 11
abbrev N_is_ranked : List Str := ["thing", "known", "before", "row"]
theorem sc_is_ranked : FnScope N_is_ranked ["thing"] (defScope s_is_ranked) := ⟨rfl, rfl, rfl, by decide +kernel, rfl, by decide +kernel, by decide +kernel⟩
abbrev s_need_ranked : Stmt := top 12
abbrev N_need_ranked : List Str := ["thing"]
theorem sc_need_ranked : FnScope N_need_ranked ["thing"] (defScope s_need_ranked) := ⟨rfl, rfl, rfl, by decide +kernel, rfl, by decide +kernel, by decide +kernel⟩
abbrev s_ranks_of : Stmt := top 13
abbrev N_ranks_of : List Str := ["rows", "found", "rank", "cost", "begin", "end"]
theorem sc_ranks_of : FnScope N_ranks_of ["rows"] (defScope s_ranks_of) := ⟨rfl, rfl, rfl, by decide +kernel, rfl, by decide +kernel, by decide +kernel⟩
abbrev s_difference : Stmt := top 14
abbrev N_difference : List Str := ["ahead", "behind", "elder", "newer", "came", "went", "moved", "span", "cost", "rank", "row"]
theorem sc_difference : FnScope N_difference ["ahead", "behind"] (defScope s_difference) := ⟨rfl, rfl, rfl, by decide +kernel, rfl, by decide +kernel, by decide +kernel⟩
abbrev s_news_of : Stmt := top 15
abbrev N_news_of : List Str := ["ahead", "behind"]
theorem sc_news_of : FnScope N_news_of ["ahead", "behind"] (defScope s_news_of) := ⟨rfl, rfl, rfl, by decide +kernel, rfl, by decide +kernel, by decide +kernel⟩
abbrev s_are_news : Stmt := top 16
abbrev N_are_news : List Str := ["thing", "rows", "many", "row"]
theorem sc_are_news : FnScope N_are_news ["thing"] (defScope s_are_news) := ⟨rfl, rfl, rfl, by decide +kernel, rfl, by decide +kernel, by decide +kernel⟩
abbrev s_led : Stmt := top 17
abbrev N_led : List Str := ["ahead", "news", "came", "went", "moved", "costs", "cost", "begin", "end", "row", "span"]
theorem sc_led : FnScope N_led ["ahead", "news"] (defScope s_led) := ⟨rfl, rfl, rfl, by decide +kernel, rfl, by decide +kernel, by decide +kernel⟩
abbrev s_followed : Stmt := top 18
abbrev N_followed : List Str := ["ahead", "news", "behind"]
theorem sc_followed : FnScope N_followed ["ahead", "news"] (defScope s_followed) := ⟨rfl, rfl, rfl, by decide +kernel, rfl, by decide +kernel, by decide +kernel⟩
abbrev s__law_cell : Stmt := top 20
abbrev N__law_cell : List Str := ["_law_script", "_law_k"]
theorem sc__law_cell : FnScope N__law_cell ["_law_script", "_law_k"] (defScope s__law_cell) := ⟨rfl, rfl, rfl, by decide +kernel, rfl, by decide +kernel, by decide +kernel⟩
abbrev s__law_drawn : Stmt := top 21
abbrev N__law_drawn : List Str := ["_law_cell_here", "_law_menus", "_law_found", "_law_left", "_law_number", "_law_k"]
theorem sc__law_drawn : FnScope N__law_drawn ["_law_cell_here", "_law_menus"] (defScope s__law_drawn) := ⟨rfl, rfl, rfl, by decide +kernel, rfl, by decide +kernel, by decide +kernel⟩
abbrev s__law_tuples : Stmt := top 22
abbrev N__law_tuples : List Str := ["_law_found", "_law_size", "_law_row", "_law_one"]
theorem sc__law_tuples : FnScope N__law_tuples ["_law_found", "_law_size"] (defScope s__law_tuples) := ⟨rfl, rfl, rfl, by decide +kernel, rfl, by decide +kernel, by decide +kernel⟩
abbrev s__law_news_kind : Stmt := top 23
abbrev N__law_news_kind : List Str := ["_law_found"]
theorem sc__law_news_kind : FnScope N__law_news_kind ["_law_found"] (defScope s__law_news_kind) := ⟨rfl, rfl, rfl, by decide +kernel, rfl, by decide +kernel, by decide +kernel⟩
abbrev s__law_ranks : Stmt := top 24
abbrev N__law_ranks : List Str := ["_law_rows", "_law_found", "_law_k"]
theorem sc__law_ranks : FnScope N__law_ranks ["_law_rows"] (defScope s__law_ranks) := ⟨rfl, rfl, rfl, by decide +kernel, rfl, by decide +kernel, by decide +kernel⟩
abbrev s__law_news : Stmt := top 25
abbrev N__law_news : List Str := ["_law_ahead", "_law_behind", "_law_elder", "_law_newer", "_law_came", "_law_lost", "_law_shifted", "_law_row", "_law_price", "_law_rank"]
theorem sc__law_news : FnScope N__law_news ["_law_ahead", "_law_behind"] (defScope s__law_news) := ⟨rfl, rfl, rfl, by decide +kernel, rfl, by decide +kernel, by decide +kernel⟩
abbrev s__law_list : Stmt := top 26
abbrev N__law_list : List Str := ["_law_cell_here", "_law_heads", "_law_size", "_law_draws", "_law_costs", "_law_k", "_law_kind", "_law_price", "_law_small", "_law_begin", "_law_far", "_law_span"]
theorem sc__law_list : FnScope N__law_list ["_law_cell_here"] (defScope s__law_list) := ⟨rfl, rfl, rfl, by decide +kernel, rfl, by decide +kernel, by decide +kernel⟩
abbrev s__law_next : Stmt := top 27
abbrev N__law_next : List Str := ["_law_cell_here", "_law_ahead", "_law_size", "_law_draws", "_law_rest", "_law_costs", "_law_k", "_law_word", "_law_price", "_law_begin", "_law_far", "_law_span"]
theorem sc__law_next : FnScope N__law_next ["_law_cell_here", "_law_ahead"] (defScope s__law_next) := ⟨rfl, rfl, rfl, by decide +kernel, rfl, by decide +kernel, by decide +kernel⟩
abbrev s__law_good : Stmt := top 28
abbrev N__law_good : List Str := ["_law_rows", "_law_spans", "_law_k", "_law_price", "_law_begin", "_law_end"]
theorem sc__law_good : FnScope N__law_good ["_law_rows"] (defScope s__law_good) := ⟨rfl, rfl, rfl, by decide +kernel, rfl, by decide +kernel, by decide +kernel⟩
abbrev s__law_following : Stmt := top 29
abbrev N__law_following : List Str := ["_law_ahead", "_law_news_here", "_law_costs", "_law_row", "_law_found", "_law_span"]
theorem sc__law_following : FnScope N__law_following ["_law_ahead", "_law_news_here"] (defScope s__law_following) := ⟨rfl, rfl, rfl, by decide +kernel, rfl, by decide +kernel, by decide +kernel⟩
abbrev s__law_one_spoilt : Stmt := top 30
abbrev N__law_one_spoilt : List Str := ["_law_row", "_law_word", "_law_price", "_law_begin", "_law_end"]
theorem sc__law_one_spoilt : FnScope N__law_one_spoilt ["_law_row", "_law_word"] (defScope s__law_one_spoilt) := ⟨rfl, rfl, rfl, by decide +kernel, rfl, by decide +kernel, by decide +kernel⟩
abbrev s__law_list_spoilt : Stmt := top 31
abbrev N__law_list_spoilt : List Str := ["_law_rows", "_law_word", "_law_at", "_law_found", "_law_price", "_law_begin", "_law_end", "_law_other"]
theorem sc__law_list_spoilt : FnScope N__law_list_spoilt ["_law_rows", "_law_word", "_law_at"] (defScope s__law_list_spoilt) := ⟨rfl, rfl, rfl, by decide +kernel, rfl, by decide +kernel, by decide +kernel⟩
abbrev s__law_row_spoilt : Stmt := top 32
abbrev N__law_row_spoilt : List Str := ["_law_row", "_law_word", "_law_draw", "_law_at"]
theorem sc__law_row_spoilt : FnScope N__law_row_spoilt ["_law_row", "_law_word", "_law_draw"] (defScope s__law_row_spoilt) := ⟨rfl, rfl, rfl, by decide +kernel, rfl, by decide +kernel, by decide +kernel⟩
abbrev s__law_news_spoilt : Stmt := top 33
abbrev N__law_news_spoilt : List Str := ["_law_lists", "_law_news_here", "_law_part", "_law_word", "_law_at", "_law_draw", "_law_found", "_law_rows", "_law_some", "_law_row"]
theorem sc__law_news_spoilt : FnScope N__law_news_spoilt ["_law_lists", "_law_news_here", "_law_part", "_law_word", "_law_at", "_law_draw"] (defScope s__law_news_spoilt) := ⟨rfl, rfl, rfl, by decide +kernel, rfl, by decide +kernel, by decide +kernel⟩
abbrev s__law_refused : Stmt := top 34
abbrev N__law_refused : List Str := ["_law_word", "_law_one", "_law_other", "e"]
theorem sc__law_refused : FnScope N__law_refused ["_law_word", "_law_one", "_law_other"] (defScope s__law_refused) := ⟨rfl, rfl, rfl, by decide +kernel, rfl, by decide +kernel, by decide +kernel⟩
abbrev s__law_no_list : Stmt := top 35
abbrev N__law_no_list : List Str := ["_law_thing", "_law_good_here", "_law_news_here", "_law_due"]
theorem sc__law_no_list : FnScope N__law_no_list ["_law_thing", "_law_good_here", "_law_news_here"] (defScope s__law_no_list) := ⟨rfl, rfl, rfl, by decide +kernel, rfl, by decide +kernel, by decide +kernel⟩
abbrev s__law_judged : Stmt := top 36
abbrev N__law_judged : List Str := ["_law_thing", "_law_good_here", "_law_news_here", "_law_due", "_law_told"]
theorem sc__law_judged : FnScope N__law_judged ["_law_thing", "_law_good_here", "_law_news_here"] (defScope s__law_judged) := ⟨rfl, rfl, rfl, by decide +kernel, rfl, by decide +kernel, by decide +kernel⟩
abbrev s__law_tried : Stmt := top 37
abbrev N__law_tried : List Str := ["_law_ahead", "_law_thing", "_law_due", "_law_found"]
theorem sc__law_tried : FnScope N__law_tried ["_law_ahead", "_law_thing"] (defScope s__law_tried) := ⟨rfl, rfl, rfl, by decide +kernel, rfl, by decide +kernel, by decide +kernel⟩
abbrev s_law : Stmt := top 38
abbrev N_law : List Str := ["_law_script", "_law_ahead", "_law_behind", "_law_news_here", "_law_cell_here", "_law_side", "_law_word", "_law_at", "_law_other", "_law_part", "_law_draw", "_law_lists"]
theorem sc_law : FnScope N_law ["_law_script"] (defScope s_law) := ⟨rfl, rfl, rfl, by decide +kernel, rfl, by decide +kernel, by decide +kernel⟩
local macro_rules | `(tactic| walk_at "hp") => `(tactic| first
  | assumption
  | exact upd_same
  | (refine upd_old (by assumption) ?_; walk_at "hp")
  | (refine Ex.get (by assumption) ?_; walk_at "hp")
  | (refine Fr.get (by assumption) (by assumption) ?_; walk_at "hp"))
local macro_rules | `(tactic| walk_at "kn") => `(tactic| first
  | exact KitN.nil
  | (refine KitN.cons ?_ ?_; (walk_at "ki"); (walk_at "kn")))
local macro_rules | `(tactic| walk_at "pu") => `(tactic| first
  | assumption
  | (refine Purse.ex ?_ (by assumption); walk_at "pu"))
local macro_rules | `(tactic| walk_at "fr") => `(tactic| first
  | exact Fr.refl _
  | assumption
  | exact Fr.ex (by assumption)
  | (refine Fr.trans ?_ (by assumption); walk_at "fr")
  | (refine Fr.trans ?_ (Fr.ex (by assumption)); walk_at "fr"))
local macro_rules | `(tactic| walk_at "sd") => `(tactic| first
  | omega
  | (simp only [tx_length, List.length_append, List.length_cons, List.length_nil, List.length_map, List.length_take, List.length_drop]; omega)
  | assumption
  | exact rfl
  | decide)
local macro_rules | `(tactic| walk_at "nw") => `(tactic| (intro q H' hq he hv; (try (have hne := Purse.ne (by assumption) hq; have hpu := Purse.ex (by assumption) he))))
local macro_rules | `(tactic| walk_at "nx") => `(tactic| (intro a d H' ha hd he hv; (try (have hpu := Purse.ex (by assumption) he))))
local macro_rules | `(tactic| walk_at "hx") => `(tactic| first
  | assumption
  | exact XcV.has (by assumption)
  | (refine' HasX.ex ?a7 (by assumption); (case a7 => walk_at "hx")))
local macro_rules | `(tactic| walk_at "sm") => `(tactic| first
  | exact Sm.nil
  | assumption
  | (refine Sm.app ?_ ?_ <;> walk_at "sm")
  | (refine Sm.cons ?_ ?_ <;> walk_at "sm")
  | exact Sm.up Sm.non (Nat.le_of_ble_eq_true rfl) (Nat.le_of_ble_eq_true rfl)
  | exact Sm.up (Sm.bl _) (Nat.le_of_ble_eq_true rfl) (Nat.le_of_ble_eq_true rfl)
  | exact Sm.up (Sm.int (by omega)) (Nat.le_of_ble_eq_true rfl) (Nat.le_of_ble_eq_true rfl)
  | exact Sm.up (Sm.str (by decide +kernel)) (Nat.le_of_ble_eq_true rfl) (Nat.le_of_ble_eq_true rfl)
  | (refine Sm.up (Sm.tup (n := 1) (k := 1) (by walk_at "hp") ?_ (Nat.le_refl _)) (Nat.le_of_ble_eq_true rfl) (Nat.le_of_ble_eq_true rfl); walk_at "sm")
  | (refine Sm.up (Sm.lst (n := 1) (k := 1) (by walk_at "hp") ?_ (Nat.le_refl _)) (Nat.le_of_ble_eq_true rfl) (Nat.le_of_ble_eq_true rfl); walk_at "sm"))
local macro_rules | `(tactic| walk_at "ln") => `(tactic| first | omega | (simp only [List.length_append, List.length_cons, List.length_nil, List.length_map, List.length_singleton]; omega))
local macro_rules | `(tactic| walk_at "sn") => `(tactic| first
  | exact Sm.nil
  | assumption
  | exact Sm.upA (by assumption) (Nat.le_of_ble_eq_true rfl) (Nat.le_of_ble_eq_true rfl)
  | exact Sm.up (by assumption) (Nat.le_of_ble_eq_true rfl) (Nat.le_of_ble_eq_true rfl)
  | (refine Sm.app ?_ ?_ <;> walk_at "sn")
  | (refine Sm.cons ?_ ?_ <;> walk_at "sn")
  | (refine Sm.cut ?_ ; walk_at "sn")
  | walk_at "sm"
  | (refine Sm.up (Sm.lst (n := 100) (k := 3) (by walk_at "hp") ?_ (Nat.le_refl _)) (Nat.le_of_ble_eq_true rfl) (Nat.le_of_ble_eq_true rfl); walk_at "sn")
  | (refine Sm.up (Sm.lst (n := 4) (k := 2) (m := 4612) (by walk_at "hp") ?_ (by walk_at "ln")) (Nat.le_of_ble_eq_true rfl) (Nat.le_of_ble_eq_true rfl); walk_at "sn")
  | (refine Sm.up (Sm.tup (n := 4) (k := 2) (m := 4612) (by walk_at "hp") ?_ (by walk_at "ln")) (Nat.le_of_ble_eq_true rfl) (Nat.le_of_ble_eq_true rfl); walk_at "sn"))
local macro_rules | `(tactic| walk_at "sg") => `(tactic| first
  | exact allE_nil
  | (refine allE_cons ?_ ?_ <;> walk_at "sg")
  | exact ⟨_, Sd.dk (by walk_at "hp")⟩
  | (refine SdE.of (n := 1) (k := 1) ?_ (by decide) (by decide); walk_at "sm")
  | (refine SdE.of (Sm.lst (n := 18500) (k := 5) (m := 50) (by walk_at "hp") ?_ (by walk_at "ln")) (by decide) (by decide); walk_at "sn")
  | (refine SdE.of (Sm.tup (n := 18500) (k := 5) (m := 50) (by walk_at "hp") ?_ (by walk_at "ln")) (by decide) (by decide); walk_at "sn"))
local macro_rules | `(tactic| walk_at "s") => `(tactic| first
  | ((with_reducible refine' st_var ?a0 ?_); (case a0 => exact rfl))
  | ((with_reducible refine' st_isR1 ?a0 ?_); (case a0 => constructor <;> walk_at "sd"))
  | ((with_reducible refine' st_isR2 ?a0 ?_); (case a0 => refine ⟨?_, ?_, ?_, ?_⟩ <;> walk_at "sd"))
  | ((with_reducible refine' st_c ?_))
  | ((with_reducible refine' st_op ?_))
  | ((with_reducible refine' st_seq ?_))
  | ((with_reducible refine' st_asg ?_))
  | ((with_reducible refine' st_name ?_))
  | ((with_reducible refine' st_cons ?_))
  | ((with_reducible refine' st_nil ?_))
  | ((with_reducible refine' st_call ?_))
  | ((with_reducible refine' st_cb ?_))
  | ((with_reducible refine' st_ret ?_))
  | ((with_reducible refine' st_drop ?_))
  | ((with_reducible refine' st_ifS ?_))
  | ((with_reducible refine' st_test ?_))
  | ((with_reducible refine' st_B ?_))
  | ((with_reducible refine' st_isb ?_))
  | ((with_reducible refine' st_and ?_))
  | ((with_reducible refine' st_or ?_))
  | ((with_reducible refine' st_not ?_))
  | ((with_reducible refine' st_andV ?_))
  | ((with_reducible refine' st_orV ?_))
  | ((with_reducible refine' st_notV ?_))
  | ((with_reducible refine' st_if ?_))
  | ((with_reducible refine' st_lst ?_))
  | ((with_reducible refine' st_tup ?_))
  | ((with_reducible refine' st_sl ?_))
  | ((with_reducible refine' st_part ?_))
  | ((with_reducible refine' st_nopart ?_))
  | ((with_reducible refine' st_isi ?_))
  | ((with_reducible refine' st_sub ?_))
  | ((with_reducible refine' st_next ?_))
  | ((with_reducible refine' st_un ?_))
  | ((with_reducible refine' st_rU ?_))
  | ((with_reducible refine' st_augI ?a0 ?_); (case a0 => exact rfl))
  | ((with_reducible refine' st_ipI ?_))
  | ((with_reducible refine' st_par ?_))
  | ((with_reducible refine' st_par2 ?_))
  | ((with_reducible refine' st_addI ?_))
  | ((with_reducible refine' st_subI ?_))
  | ((with_reducible refine' st_cmpI ?_))
  | ((with_reducible refine' st_eqI ?_))
  | ((with_reducible refine' st_neI ?_))
  | ((with_reducible refine' st_eqS ?_))
  | ((with_reducible refine' st_neS ?_))
  | ((with_reducible refine' st_eqB ?_))
  | ((with_reducible refine' st_neB ?_))
  | ((with_reducible refine' st_max2 ?_))
  | ((with_reducible refine' st_min2 ?_))
  | ((with_reducible refine' st_min3 ?_))
  | ((with_reducible refine' st_brk ?_))
  | ((with_reducible refine' st_cont ?_))
  | ((with_reducible refine' st_retN ?_))
  | ((with_reducible refine' st_new ?a0 ?_); (case a0 => exact Nat.le_of_ble_eq_true rfl); walk_at "nw")
  | ((with_reducible refine' st_modI ?a0 ?_); (case a0 => walk_at "sd"))
  | ((with_reducible refine' st_divI ?a0 ?_); (case a0 => constructor <;> walk_at "sd"))
  | ((with_reducible refine' st_mulI ?a0 ?_); (case a0 => walk_at "sd"))
  | ((with_reducible refine' st_powI ?a0 ?_); (case a0 => refine ⟨?_, ?_, ?_⟩ <;> decide))
  | ((with_reducible refine' st_addS ?a0 ?_); (case a0 => walk_at "sd"))
  | ((with_reducible refine' st_ixL ?a0 ?a1 ?_); (case a0 => walk_at "hp"); (case a1 => exact rfl))
  | ((with_reducible refine' st_ixT ?a0 ?a1 ?_); (case a0 => walk_at "hp"); (case a1 => exact rfl))
  | ((with_reducible refine' st_lenL ?a0 ?_); (case a0 => walk_at "hp"))
  | ((with_reducible refine' st_lenT ?a0 ?_); (case a0 => walk_at "hp"))
  | ((with_reducible refine' st_lenS ?a0 ?_); (case a0 => walk_at "sd"))
  | ((with_reducible refine' st_slS ?a0 ?_); (case a0 => walk_at "sd"))
  | ((with_reducible refine' st_slL (lst_of ?a0) ?_); (case a0 => walk_at "hp"); walk_at "nw")
  | ((with_reducible refine' st_addL ?a0 ?a1 ?a2 ?_); (case a0 => walk_at "hp"); (case a1 => walk_at "hp"); (case a2 => walk_at "sd"); walk_at "nw")
  | ((with_reducible refine' st_setL ?a0 ?a1 ?_); (case a0 => walk_at "hp"); (case a1 => exact rfl))
  | ((with_reducible refine' st_yes ?_))
  | ((with_reducible refine' st_isI ?a0 ?_); (case a0 => first | exact kit_ii | exact kit_ib | exact kit_il | exact kit_is | exact kit_it | decide +kernel))
  | ((with_reducible refine' st_isL ?a0 ?a1 ?_); (case a0 => walk_at "hp"); (case a1 => first | exact kit_ll | exact kit_lt | decide +kernel))
  | ((with_reducible refine' st_isT ?a0 ?a1 ?_); (case a0 => walk_at "hp"); (case a1 => first | exact kit_tt | exact kit_tl | decide +kernel))
  | ((with_reducible refine' st_isS' ?a0 ?_); (case a0 => first | exact kit_ss | decide +kernel))
  | ((with_reducible refine' st_isB ?a0 ?_); (case a0 => first | exact kit_bb | exact kit_bi | decide +kernel))
  | ((with_reducible refine' st_clear ?a0 ?_); (case a0 => walk_at "hp"))
  | ((with_reducible refine' st_gtup ?a0 ?a1 ?_); (case a0 => walk_at "hp"); (case a1 => exact rfl))
  | ((with_reducible refine' st_glst ?a0 ?a1 ?_); (case a0 => walk_at "hp"); (case a1 => exact rfl))
  | ((with_reducible refine' st_gcons ?_))
  | ((with_reducible refine' st_gnil ?_))
  | ((with_reducible refine' st_iEnS ?_))
  | ((with_reducible refine' st_isEnS ?_))
  | ((with_reducible refine' st_mulL ?a0 ?a1 ?a2 ?a3 ?_); (case a0 => walk_at "hp"); (case a1 => walk_at "sd"); (case a2 => walk_at "sd"); (case a3 => walk_at "sd"); walk_at "nw")
  | ((with_reducible refine' st_isBool ?_))
  | ((with_reducible refine' st_pair ?_))
  | ((with_reducible refine' st_pairs0 ?_))
  | ((with_reducible refine' st_disp ?_); walk_at "nw")
  | ((with_reducible refine' st_listS ?a0 ?_); (case a0 => walk_at "sd"); walk_at "nw")
  | ((with_reducible refine' st_tupS ?a0 ?_); (case a0 => walk_at "sd"); walk_at "nw")
  | ((with_reducible refine' st_listQ (seq_l ?a0) ?_); (case a0 => walk_at "hp"); walk_at "nw")
  | ((with_reducible refine' st_tupL (lst_of ?a0) ?_); (case a0 => walk_at "hp"); walk_at "nw")
  | ((with_reducible refine' st_for ?_))
  | ((with_reducible refine' st_lc ?_))
  | ((with_reducible refine' st_iStr ?_))
  | ((with_reducible refine' st_isStr ?_))
  | ((with_reducible refine' st_iList ?_))
  | ((with_reducible refine' st_isList (lst_of ?a0) ?_); (case a0 => walk_at "hp"))
  | ((with_reducible refine' st_iTup ?_))
  | ((with_reducible refine' st_isTup (tup_of ?a0) ?_); (case a0 => walk_at "hp"))
  | ((with_reducible refine' st_iR1 ?_))
  | ((with_reducible refine' st_iR2 ?_))
  | ((with_reducible refine' st_iEn ?_))
  | ((with_reducible refine' st_isEn (lst_of ?a0) ?_); (case a0 => walk_at "hp"))
  | ((with_reducible refine' st_iZp ?_))
  | ((with_reducible refine' st_isZp (lst_of ?a0) (lst_of ?a1) ?_); (case a0 => walk_at "hp"); (case a1 => walk_at "hp"))
  | ((with_reducible refine' st_inC ?_))
  | ((with_reducible refine' st_ninC ?_))
  | ((with_reducible refine' st_m1 ?_))
  | ((with_reducible refine' st_isS ?_))
  | ((with_reducible refine' st_bm ?_))
  | ((with_reducible refine' st_bm0 ?_))
  | ((with_reducible refine' st_tyL ?a0 ?_); (case a0 => walk_at "hp"))
  | ((with_reducible refine' st_isN ?_))
  | ((with_reducible refine' st_notN ?_))
  | ((with_reducible refine' st_intB ?_))
  | ((with_reducible refine' st_intI ?_))
  | ((with_reducible refine' st_iR3 ?_))
  | ((with_reducible refine' st_dget2 ?_))
  | ((with_reducible refine' st_dsetTU ?_))
  | ((with_reducible refine' st_isDT ?a0 ?_); (case a0 => walk_at "hp"))
  | ((with_reducible refine' st_dsetd ?_))
  | ((with_reducible refine' st_dnew ?_))
  | ((with_reducible refine' st_dnewP ?_); walk_at "nw")
  | ((with_reducible refine' st_isD ?a0 ?_); (case a0 => walk_at "hp"))
  | ((with_reducible refine' st_isB2 ?_))
  | ((with_reducible refine' st_notB2 ?_))
  | ((with_reducible refine' st_chain ?_))
  | ((with_reducible refine' st_tru ?_))
  | ((with_reducible refine' st_chN ?_))
  | ((with_reducible refine' st_aug ?_))
  | ((with_reducible refine' st_augP ?a0 ?a1 ?a2 ?a3 ?_); (case a0 => walk_at "hp"); (case a1 => walk_at "cl"); (case a2 => walk_at "na"); (case a3 => exact rfl))
  | ((with_reducible refine' st_inAdd ?_))
  | ((with_reducible refine' st_augE ?a0 ?a1 ?_); (case a0 => walk_at "hp"); (case a1 => exact Nat.le_of_ble_eq_true rfl))
  | ((with_reducible refine' st_lk ?_))
  | ((with_reducible refine' st_lk1 ?_))
  | ((with_reducible refine' st_truB ?_))
  | ((with_reducible refine' st_truI ?_))
  | ((with_reducible refine' st_while ?_))
  | ((with_reducible refine' st_st3 ?_))
  | ((with_reducible refine' st_revS ?a0 ?_); (case a0 => walk_at "sd"))
  | ((with_reducible refine' st_evS ?a0 ?_); (case a0 => walk_at "sd"))
  | ((with_reducible refine' st_odS ?a0 ?_); (case a0 => walk_at "sd"))
  | ((with_reducible refine' st_raise ?_))
  | ((with_reducible refine' st_mk1 ?a0 ?a1 ?_); (case a0 => walk_at "xo"); (case a1 => walk_at "nf"); walk_at "nw")
  | ((with_reducible refine' st_mk2 ?a0 ?a1 ?a2 ?_); (case a0 => walk_at "xo"); (case a1 => walk_at "nf"); (case a2 => walk_at "nf"); walk_at "nw")
  | ((with_reducible refine' st_try ?_))
  | ((with_reducible refine' st_callS ?_))
  | ((with_reducible refine' st_hYn ?a0 ?_); (case a0 => walk_at "ex"); intro ax hax)
  | ((with_reducible refine' st_hY0 ?a0 ?_); (case a0 => walk_at "ex"); intro ax hax)
  | ((with_reducible refine' st_hN ?a0 ?_); (case a0 => walk_at "ex"))
  | ((with_reducible refine' st_xe ?_))
  | ((with_reducible refine' st_xeP ?a0 ?a1 ?a2 ?a3 ?_); (case a0 => walk_at "xi"); (case a1 => walk_at "nf"); (case a2 => walk_at "hp"); (case a3 => exact rfl))
  | ((with_reducible refine' st_isX ?a0 ?a1 ?a2 ?_); (case a0 => walk_at "xi"); (case a1 => walk_at "hp"); (case a2 => walk_at "ki"))
  | ((with_reducible refine' st_isXT ?a0 ?a1 ?a2 ?_); (case a0 => walk_at "xi"); (case a1 => walk_at "hp"); (case a2 => walk_at "ki"))
  | ((with_reducible refine' st_isXs2 ?a0 ?a1 ?a2 ?a3 ?a4 ?_); (case a0 => walk_at "xi"); (case a1 => walk_at "hp"); (case a2 => walk_at "hp"); (case a3 => walk_at "ki"); (case a4 => walk_at "ki"))
  | ((with_reducible refine' st_isXsN ?a0 ?a1 ?a2 ?a3 ?_); (case a0 => walk_at "xi"); (case a1 => walk_at "hp"); (case a2 => walk_at "hp"); (case a3 => walk_at "kn"))
  | ((with_reducible refine' st_listRg ?_))
  | ((with_reducible refine' st_rgC ?_))
  | ((with_reducible refine' st_rg1 ?_))
  | ((with_reducible refine' st_rg2 ?_))
  | ((with_reducible refine' st_rg3 ?_))
  | ((with_reducible refine' st_rgUp ?a0 ?_); (case a0 => refine ⟨?_, ?_, ?_, ?_⟩ <;> walk_at "sd"); walk_at "nw")
  | ((with_reducible refine' st_rgDown ?a0 ?_); (case a0 => refine ⟨?_, ?_, ?_, ?_⟩ <;> walk_at "sd"); walk_at "nw")
  | ((with_reducible refine' st_divW ?a0 ?_); (case a0 => constructor <;> walk_at "sd"))
  | ((with_reducible refine' st_iSeq ?_))
  | ((with_reducible refine' st_iEnQ ?_))
  | ((with_reducible refine' st_gsl ?_))
  | ((with_reducible refine' st_augS ?a0 ?_); (case a0 => exact rfl))
  | ((with_reducible refine' st_ipS ?a0 ?_); (case a0 => walk_at "sd"))
  | ((with_reducible refine' st_rv ?_))
  | ((with_reducible refine' st_rvQ ?a0 ?_); (case a0 => first | walk_at "hp" | exact seq_l (by walk_at "hp") | exact seq_t (by walk_at "hp")); walk_at "nw")
  | ((with_reducible refine' st_xk ?_))
  | ((with_reducible refine' st_xkP ?a0 ?a1 ?a2 ?a3 ?a4 ?_); (case a0 => walk_at "hp"); (case a1 => walk_at "xi"); (case a2 => walk_at "nf"); (case a3 => walk_at "hp"); (case a4 => exact rfl))
  | ((with_reducible refine' st_isV ?a0 ?a1 ?a2 ?_); (case a0 => first | assumption | walk_at "hx"); (case a1 => first | assumption | walk_at "xi"); (case a2 => first | assumption | walk_at "ki"))
  | ((with_reducible refine' st_isVT ?a0 ?a1 ?a2 ?_); (case a0 => first | assumption | walk_at "hx"); (case a1 => first | assumption | walk_at "xi"); (case a2 => first | assumption | walk_at "ki"))
  | ((with_reducible refine' st_excV ?_))
  | ((with_reducible refine' st_exv1 ?a0 ?a1 ?_); (case a0 => walk_at "xo"); (case a1 => walk_at "nf"); walk_at "nx")
  | ((with_reducible refine' st_exv2 ?a0 ?a1 ?a2 ?_); (case a0 => walk_at "xo"); (case a1 => walk_at "nf"); (case a2 => walk_at "nf"); walk_at "nx")
  | ((with_reducible refine' st_divX ?a0 ?_); (case a0 => constructor <;> walk_at "sd"))
  | ((with_reducible refine' st_isK ?a0 ?a1 ?a2 ?a3 ?_); (case a0 => walk_at "hp"); (case a1 => walk_at "xi"); (case a2 => walk_at "hp"); (case a3 => walk_at "ki"))
  | ((with_reducible refine' st_isKT ?a0 ?a1 ?a2 ?a3 ?_); (case a0 => walk_at "hp"); (case a1 => walk_at "xi"); (case a2 => walk_at "hp"); (case a3 => walk_at "ki"))
  | ((with_reducible refine' st_isKs ?a0 ?a1 ?a2 ?a3 ?a4 ?_); (case a0 => walk_at "hp"); (case a1 => walk_at "xi"); (case a2 => walk_at "hp"); (case a3 => walk_at "hp"); (case a4 => walk_at "kn"))
  | ((with_reducible refine' st_fld ?_))
  | ((with_reducible refine' st_fldP ?a0 ?a1 ?a2 ?a3 ?_); (case a0 => walk_at "hp"); (case a1 => walk_at "cl"); (case a2 => walk_at "na"); (case a3 => exact rfl))
  | ((with_reducible refine' st_fldS ?_))
  | ((with_reducible refine' st_fldSP ?a0 ?a1 ?a2 ?a3 ?_); (case a0 => walk_at "hp"); (case a1 => walk_at "cl"); (case a2 => walk_at "na"); (case a3 => exact Nat.le_of_ble_eq_true rfl))
  | ((with_reducible refine' st_meth ?_))
  | ((with_reducible refine' st_methP ?a0 ?a1 ?_); (case a0 => walk_at "hp"); (case a1 => exact rfl))
  | ((with_reducible refine' st_make ?_))
  | ((with_reducible refine' st_methS ?_))
  | ((with_reducible refine' st_methD ?_))
  | ((with_reducible refine' st_makeS ?_))
  | ((with_reducible refine' st_dnewT ?_); walk_at "nw")
  | ((with_reducible refine' st_dputU ?_))
  | ((with_reducible refine' st_dget ?_))
  | ((with_reducible refine' st_gget1 ?_))
  | ((with_reducible refine' st_gget2 ?_))
  | ((with_reducible refine' st_gitem ?_))
  | ((with_reducible refine' st_gdat ?a0 ?_); (case a0 => walk_at "gd"))
  | ((with_reducible refine' st_gkey ?_))
  | ((with_reducible refine' st_upper ?a0 ?_); (case a0 => walk_at "sd"))
  | ((with_reducible refine' st_dinU ?_))
  | ((with_reducible refine' st_dninU ?_))
  | ((with_reducible refine' st_T ?a0 ?_); (case a0 => exact rfl))
  | ((with_reducible refine' st_F ?a0 ?_); (case a0 => exact rfl)))
local macro_rules | `(tactic| walk_at "go") => `(tactic| repeat walk_at "s")

abbrev si_NoTold : Stmt := inClass (top 3) 0
theorem sci_NoTold : FnScope ["self", "found"] ["self", "found"] (defScope si_NoTold) := ⟨rfl, rfl, rfl, by decide +kernel, rfl, by decide +kernel, by decide +kernel⟩
abbrev si_NoNear : Stmt := inClass (top 2) 0
theorem sci_NoNear : FnScope ["self", "found"] ["self", "found"] (defScope si_NoNear) := ⟨rfl, rfl, rfl, by decide +kernel, rfl, by decide +kernel, by decide +kernel⟩
/-- what the top has written -/
structure Tx (K : PySem.W.Frag) (mg : Str → Option Value) (ad : Nat → Addr) (fd : Nat → FuncData) (tk : Nat → Tok) : Prop where
  d_is_whole : Df K mg "is_whole" s_is_whole ["thing"] (ad 0) (fd 0)
  d_are_wholes : Df K mg "are_wholes" s_are_wholes ["thing", "many"] (ad 1) (fd 1)
  d_is_told : Df K mg "is_told" s_is_told ["thing"] (ad 2) (fd 2)
  d_is_ranked : Df K mg "is_ranked" s_is_ranked ["thing"] (ad 3) (fd 3)
  d_need_ranked : Df K mg "need_ranked" s_need_ranked ["thing"] (ad 4) (fd 4)
  d_ranks_of : Df K mg "ranks_of" s_ranks_of ["rows"] (ad 5) (fd 5)
  d_difference : Df K mg "difference" s_difference ["ahead", "behind"] (ad 6) (fd 6)
  d_news_of : Df K mg "news_of" s_news_of ["ahead", "behind"] (ad 7) (fd 7)
  d_are_news : Df K mg "are_news" s_are_news ["thing"] (ad 8) (fd 8)
  d_led : Df K mg "led" s_led ["ahead", "news"] (ad 9) (fd 9)
  d_followed : Df K mg "followed" s_followed ["ahead", "news"] (ad 10) (fd 10)
  d__law_cell : Df K mg "_law_cell" s__law_cell ["_law_script", "_law_k"] (ad 11) (fd 11)
  d__law_drawn : Df K mg "_law_drawn" s__law_drawn ["_law_cell_here", "_law_menus"] (ad 12) (fd 12)
  d__law_tuples : Df K mg "_law_tuples" s__law_tuples ["_law_found", "_law_size"] (ad 13) (fd 13)
  d__law_news_kind : Df K mg "_law_news_kind" s__law_news_kind ["_law_found"] (ad 14) (fd 14)
  d__law_ranks : Df K mg "_law_ranks" s__law_ranks ["_law_rows"] (ad 15) (fd 15)
  d__law_news : Df K mg "_law_news" s__law_news ["_law_ahead", "_law_behind"] (ad 16) (fd 16)
  d__law_list : Df K mg "_law_list" s__law_list ["_law_cell_here"] (ad 17) (fd 17)
  d__law_next : Df K mg "_law_next" s__law_next ["_law_cell_here", "_law_ahead"] (ad 18) (fd 18)
  d__law_good : Df K mg "_law_good" s__law_good ["_law_rows"] (ad 19) (fd 19)
  d__law_following : Df K mg "_law_following" s__law_following ["_law_ahead", "_law_news_here"] (ad 20) (fd 20)
  d__law_one_spoilt : Df K mg "_law_one_spoilt" s__law_one_spoilt ["_law_row", "_law_word"] (ad 21) (fd 21)
  d__law_list_spoilt : Df K mg "_law_list_spoilt" s__law_list_spoilt ["_law_rows", "_law_word", "_law_at"] (ad 22) (fd 22)
  d__law_row_spoilt : Df K mg "_law_row_spoilt" s__law_row_spoilt ["_law_row", "_law_word", "_law_draw"] (ad 23) (fd 23)
  d__law_news_spoilt : Df K mg "_law_news_spoilt" s__law_news_spoilt ["_law_lists", "_law_news_here", "_law_part", "_law_word", "_law_at", "_law_draw"] (ad 24) (fd 24)
  d__law_refused : Df K mg "_law_refused" s__law_refused ["_law_word", "_law_one", "_law_other"] (ad 25) (fd 25)
  d__law_no_list : Df K mg "_law_no_list" s__law_no_list ["_law_thing", "_law_good_here", "_law_news_here"] (ad 26) (fd 26)
  d__law_judged : Df K mg "_law_judged" s__law_judged ["_law_thing", "_law_good_here", "_law_news_here"] (ad 27) (fd 27)
  d__law_tried : Df K mg "_law_tried" s__law_tried ["_law_ahead", "_law_thing"] (ad 28) (fd 28)
  d_law : Df K mg "law" s_law ["_law_script"] (ad 29) (fd 29)
  c_MOST_COST : mg "MOST_COST" = some (.int 48 (tk 0))
  c_MOST_LETTERS : mg "MOST_LETTERS" = some (.int 24 (tk 1))
  b_isinstance : mg "isinstance" = none
  b_int : mg "int" = none
  b_bool : mg "bool" = none
  b_tuple : mg "tuple" = none
  b_all : mg "all" = none
  b_len : mg "len" = none
  b_list : mg "list" = none
  b_enumerate : mg "enumerate" = none
  b_zip : mg "zip" = none
  b_sorted : mg "sorted" = none
  b_range : mg "range" = none
  b_max : mg "max" = none
  b_ValueError : mg "ValueError" = none
  e_NoNear : EC K mg "NoNear"
  e_NoTold : EC K mg "NoTold"
  e_PaneError : EC K mg "PaneError"
  g_NoNear : mg "NoNear" = some (.ref (clsA K "NoNear"))
  o_NoNear : OexC K (clsA K "NoNear")
  n_NoNear_found : PySem.W.findIn K (.ref (clsA K "NoNear")) "found" = some none
  i_NoNear : IniF K "NoNear" "NoNear.__init__" si_NoNear ["self", "found"]
  x_NoNear : XI K (clsA K "NoNear")
  s_NoNear_NoNear : PySem.W.subIn K (.ref (clsA K "NoNear")) (.ref (clsA K "NoNear")) = some true
  s_NoNear_NoTold : PySem.W.subIn K (.ref (clsA K "NoNear")) (.ref (clsA K "NoTold")) = some false
  s_NoNear_PaneError : PySem.W.subIn K (.ref (clsA K "NoNear")) (.ref (clsA K "PaneError")) = some true
  v_NoNear : PySem.W.subIn K (.ref (clsA K "NoNear")) (.type "ValueError") = some true
  g_NoTold : mg "NoTold" = some (.ref (clsA K "NoTold"))
  o_NoTold : OexC K (clsA K "NoTold")
  n_NoTold_found : PySem.W.findIn K (.ref (clsA K "NoTold")) "found" = some none
  i_NoTold : IniF K "NoTold" "NoTold.__init__" si_NoTold ["self", "found"]
  x_NoTold : XI K (clsA K "NoTold")
  s_NoTold_NoNear : PySem.W.subIn K (.ref (clsA K "NoTold")) (.ref (clsA K "NoNear")) = some false
  s_NoTold_NoTold : PySem.W.subIn K (.ref (clsA K "NoTold")) (.ref (clsA K "NoTold")) = some true
  s_NoTold_PaneError : PySem.W.subIn K (.ref (clsA K "NoTold")) (.ref (clsA K "PaneError")) = some true
  v_NoTold : PySem.W.subIn K (.ref (clsA K "NoTold")) (.type "ValueError") = some true
  s_PaneError_PaneError : PySem.W.subIn K (.ref (clsA K "PaneError")) (.ref (clsA K "PaneError")) = some true
  bi_PaneError : BI K mg "PaneError"
local macro_rules | `(tactic| walk_at "ex") => `(tactic| first
  | exact EC.xm (Tx.e_NoNear (by assumption)) (Tx.s_NoNear_NoNear (by assumption))
  | exact EC.xm (Tx.e_NoTold (by assumption)) (Tx.s_NoNear_NoTold (by assumption))
  | exact EC.xm (Tx.e_NoNear (by assumption)) (Tx.s_NoTold_NoNear (by assumption))
  | exact EC.xm (Tx.e_NoTold (by assumption)) (Tx.s_NoTold_NoTold (by assumption)))
local macro_rules | `(tactic| walk_at "ki") => `(tactic| first
  | exact EC.kit (Tx.e_PaneError (by assumption)) (Tx.s_NoNear_PaneError (by assumption)) (Tx.s_PaneError_PaneError (by assumption))
  | exact EC.kit (Tx.e_NoTold (by assumption)) (Tx.s_NoNear_NoTold (by assumption)) (Tx.s_NoTold_NoTold (by assumption))
  | exact EC.kit (Tx.e_PaneError (by assumption)) (Tx.s_NoTold_PaneError (by assumption)) (Tx.s_PaneError_PaneError (by assumption))
  | exact EC.kit (Tx.e_NoTold (by assumption)) (Tx.s_NoTold_NoTold (by assumption)) (Tx.s_NoTold_NoTold (by assumption))
  | exact kit_ve (Tx.v_NoNear (by assumption))
  | exact kit_ve (Tx.v_NoTold (by assumption)))
local macro_rules | `(tactic| walk_at "xi") => `(tactic| first
  | exact Tx.x_NoNear (by assumption)
  | exact Tx.x_NoTold (by assumption))
local macro_rules | `(tactic| walk_at "xo") => `(tactic| first
  | exact Tx.o_NoNear (by assumption)
  | exact Tx.o_NoTold (by assumption))
local macro_rules | `(tactic| walk_at "nf") => `(tactic| first
  | exact Tx.n_NoNear_found (by assumption)
  | exact Tx.n_NoTold_found (by assumption))
local macro_rules | `(tactic| walk_at "cl") => `(tactic| first
  | assumption)
local macro_rules | `(tactic| walk_at "na") => `(tactic| first
  | assumption)
section
variable {P : Program} {w : World} {K : PySem.W.Frag} {mg : Str → Option Value} {base : Heap} {ad : Nat → Addr} {fd : Nat → FuncData} {tk : Nat → Tok}
theorem ex_NoNear (T : Tx K mg ad fd tk) : EX P w K mg base "NoNear" ["self", "found"] (spI1 K "found") := by
  obtain ⟨f, fd, i1, i2, F, b⟩ := T.i_NoNear.ex
  refine ⟨T.g_NoNear, T.o_NoNear, f, fd, i1, i2, F.ok sci_NoNear (fun vs H Q E h => ?_) (fun cdv A outer s H vs Q E hr h => ?_), b⟩
  · obtain ⟨a, C, y0, rfl, _⟩ := h
    rfl
  · obtain ⟨a, C, y0, rfl, hO, hn0, ha, k⟩ := h
    refine ⟨_, (pss_cons (ps_expr (pe_oinit T.bi_PaneError rfl (pa_cons (pv 0) (pa_cons pe_str pa_nil))))
      (pss_one (ps_ost (pv 0) (pv 1)))), ?_⟩
    exact ini1_go hO hn0 ha k
theorem ex_NoTold (T : Tx K mg ad fd tk) : EX P w K mg base "NoTold" ["self", "found"] (spI1 K "found") := by
  obtain ⟨f, fd, i1, i2, F, b⟩ := T.i_NoTold.ex
  refine ⟨T.g_NoTold, T.o_NoTold, f, fd, i1, i2, F.ok sci_NoTold (fun vs H Q E h => ?_) (fun cdv A outer s H vs Q E hr h => ?_), b⟩
  · obtain ⟨a, C, y0, rfl, _⟩ := h
    rfl
  · obtain ⟨a, C, y0, rfl, hO, hn0, ha, k⟩ := h
    refine ⟨_, (pss_cons (ps_expr (pe_oinit T.bi_PaneError rfl (pa_cons (pv 0) (pa_cons pe_str pa_nil))))
      (pss_one (ps_ost (pv 0) (pv 1)))), ?_⟩
    exact ini1_go hO hn0 ha k
def isWholeV : V → Bool
  | .int _ => true
  | _ => false
def sp_is_whole : Sp := fun vs H Q _ => ∃ x, vs = [x] ∧ Ty H x ∧ Q (.bl (isWholeV x)) H
theorem ok_is_whole (T : Tx K mg ad fd tk) : FnOk P w K mg base CX0 1 (ad 0) (fd 0) ["thing"] sp_is_whole := by
  refine T.d_is_whole.F.ok sc_is_whole (fun vs H Q E h => ?_) (fun cdv A outer s H vs Q E hr h => ?_)
  · obtain ⟨x, rfl, _⟩ := h
    rfl
  · obtain ⟨x, rfl, ht, k⟩ := h
    refine ⟨_, (pss_one (ps_ret (pe_and (pe_callB c_is (by rfl) T.b_isinstance (by decide +kernel) (pa_cons (pv 0) (pa_cons (pe_bltn (v := .ty "int") rfl T.b_int (by decide +kernel) rfl) pa_nil))) (pe_one (pe_not (pe_callB c_is (by rfl) T.b_isinstance (by decide +kernel) (pa_cons (pv 0) (pa_cons (pe_bltn (v := .ty "bool") rfl T.b_bool (by decide +kernel) rfl) pa_nil)))))))), ?_⟩
    walk_at "go"
    refine st_isIntT ht ?_
    walk_at "go"
    cases x with
    | int i =>
      refine st_T rfl ?_
      walk_at "go"
      exact k
    | bl b =>
      refine st_T rfl ?_
      walk_at "go"
      exact k
    | _ =>
      refine st_F rfl ?_
      walk_at "go"
      exact k
/-! ranked lists of stretches, what is new of two of them -/
abbrev Q3 := Int × Int × Int
def enc3 (q : Q3) : PyData := .tuple [.int q.1, .int q.2.1, .int q.2.2]
def wholeD : PyData → Bool
  | .int _ => true
  | _ => false
def wholesD (d : PyData) (m : Nat) : Bool := match d with
  | .tuple ds => decide (ds.length = m) && ds.all wholeD
  | _ => false
def ToldQ (q : Q3) : Prop := 0 ≤ q.1 ∧ q.1 ≤ 48 ∧ 0 ≤ q.2.1 ∧ q.2.1 < q.2.2 ∧ q.2.2 ≤ 24
def ToldD (d : PyData) : Prop := ∃ q, d = enc3 q ∧ ToldQ q
def RankL (l : List Q3) : Prop := l.Pairwise lexI3 ∧ (l.map (·.2)).Nodup ∧ ∀ q ∈ l, ToldQ q
def RankD (d : PyData) : Prop := ∃ l : List Q3, d = .list (l.map enc3) ∧ RankL l
theorem whole_rn {H : Hp} {x : V} {d : PyData} (h : Rn H x d) : isWholeV x = wholeD d := by cases h <;> rfl
theorem wholes_rnA {H : Hp} : ∀ {xs : List V} {ds : List PyData}, RnA H xs ds → xs.all isWholeV = ds.all wholeD
  | _, _, .nil => rfl
  | _, _, .cons h r => by rw [List.all_cons, List.all_cons, whole_rn h, wholes_rnA r]
theorem wholes_3 {d : PyData} (h : wholesD d 3 = true) : ∃ q : Q3, d = enc3 q := by
  unfold wholesD at h
  split at h
  · rename_i ds
    rw [Bool.and_eq_true] at h
    obtain ⟨h1, h2⟩ := h
    have h1 := of_decide_eq_true h1
    match ds, h1 with
    | [a, b, c], hlen =>
      simp only [List.all_cons, List.all_nil, Bool.and_true, Bool.and_eq_true] at h2
      obtain ⟨ha, hb, hc⟩ := h2
      cases a <;> first | (cases ha; done) | skip
      cases b <;> first | (cases hb; done) | skip
      cases c <;> first | (cases hc; done) | skip
      rename_i i j k
      exact ⟨(i, j, k), rfl⟩
  · cases h
theorem told_wholes {q : Q3} : wholesD (enc3 q) 3 = true := rfl
theorem enc3_inj {p q : Q3} (h : enc3 p = enc3 q) : p = q := by
  obtain ⟨a, b, c⟩ := p
  obtain ⟨x, y, z⟩ := q
  injection h with h
  injection h with h1 h
  injection h with h2 h
  injection h with h3 h
  injection h1 with h1
  injection h2 with h2
  injection h3 with h3
  simp only at h1 h2 h3
  subst h1 h2 h3
  rfl
theorem rn_enc3 {H : Hp} {x : V} {q : Q3} (h : Rn H x (enc3 q)) : ∃ a, x = .ref a ∧ H a = some (tri3 q) := by
  obtain ⟨a, xs, rfl, h1, h2⟩ := h.tupAt
  refine ⟨a, rfl, ?_⟩
  cases h2 with
  | cons r0 r =>
    cases r with
    | cons r1 r2 =>
      cases r2 with
      | cons r2 r3 =>
        cases r3
        cases r0
        cases r1
        cases r2
        exact h1
theorem rnA_mem {H : Hp} : ∀ {xs : List V} {ds : List PyData}, RnA H xs ds → ∀ {x : V}, x ∈ xs → ∃ d, Rn H x d
  | _, _, .nil, _, h => by cases h
  | _, _, .cons h r, x, hx => by
    rcases List.mem_cons.mp hx with rfl | hx
    · exact ⟨_, h⟩
    · exact rnA_mem r hx
/-- a stretch as a dict's key -/
def kS (p : Int × Int) : List Key := [.inl p.1, .inl p.2]
theorem kS_inj {p q : Int × Int} (h : kS p = kS q) : p = q := by
  obtain ⟨a, b⟩ := p
  obtain ⟨x, y⟩ := q
  unfold kS at h
  injection h with h1 h
  injection h with h2 h
  injection h1 with h1
  injection h2 with h2
  simp only at h1 h2
  subst h1 h2
  rfl
theorem kS_kV (p : Int × Int) : (kS p).map kV = [V.int p.1, V.int p.2] := rfl
def lastQ (l : List Q3) : Q3 := l.getLastD (-1, 0, 0)
theorem lt3_of {p q : Q3} (h : lexI3 p q) (n : p.2 ≠ q.2) : lt3 p.1 p.2.1 p.2.2 q.1 q.2.1 q.2.2 = true := by
  unfold lt3
  by_cases e1 : p.1 = q.1
  · rw [if_pos e1]
    rcases h with h | ⟨_, h⟩
    · omega
    · rcases h with h | ⟨h1, h2⟩
      · rw [if_neg (by omega)]
        exact decide_eq_true h
      · rw [if_pos h1]
        refine decide_eq_true ?_
        have : p.2.2 ≠ q.2.2 := fun z => n (Prod.ext h1 z)
        omega
  · rw [if_neg e1]
    rcases h with h | ⟨h, _⟩
    · exact decide_eq_true h
    · exact absurd h e1
theorem lt3_lex {p q : Q3} (h : lt3 p.1 p.2.1 p.2.2 q.1 q.2.1 q.2.2 = true) : lexI3 p q := by
  unfold lt3 at h
  unfold lexI3
  split at h
  · split at h
    · have := of_decide_eq_true h; omega
    · have := of_decide_eq_true h; omega
  · have := of_decide_eq_true h; omega
theorem lexI3_trans {a b c : Q3} (h : lexI3 a b) (k : lexI3 b c) : lexI3 a c := by
  unfold lexI3 at *
  omega
theorem rank_snoc {l : List Q3} {q : Q3} : RankL (l ++ [q]) ↔ RankL l ∧ ToldQ q ∧ q.2 ∉ l.map (·.2) ∧ lt3 (lastQ l).1 (lastQ l).2.1 (lastQ l).2.2 q.1 q.2.1 q.2.2 = true := by
  constructor
  · rintro ⟨h1, h2, h3⟩
    rw [List.pairwise_append] at h1
    rw [List.map_append, List.nodup_append] at h2
    have hq := h3 q (List.mem_append_right _ (List.mem_singleton.mpr rfl))
    have hn : q.2 ∉ l.map (·.2) := fun hm => h2.2.2 _ hm _ (List.mem_singleton.mpr rfl) rfl
    refine ⟨⟨h1.1, h2.1, fun p hp => h3 p (List.mem_append_left _ hp)⟩, hq, hn, ?_⟩
    rcases List.eq_nil_or_concat l with e | ⟨l', p, e⟩
    · subst e
      have e2 : lastQ [] = (-1, 0, 0) := rfl
      rw [e2]
      unfold lt3
      have := hq.1
      rw [if_neg (by simp only; omega)]
      exact decide_eq_true (by simp only; omega)
    · have e2 : lastQ l = p := by rw [e]; simp [lastQ]
      have hp : p ∈ l := by rw [e]; simp
      rw [e2]
      exact lt3_of (h1.2.2 p hp q (List.mem_singleton.mpr rfl)) fun z => hn (by rw [← z]; exact List.mem_map.mpr ⟨p, hp, rfl⟩)
  · rintro ⟨⟨h1, h2, h3⟩, hq, hn, hlt⟩
    refine ⟨?_, ?_, ?_⟩
    · rw [List.pairwise_append]
      refine ⟨h1, by simp, fun p hp r hr => ?_⟩
      rw [List.mem_singleton.mp hr]
      have := lt3_lex hlt
      rcases List.eq_nil_or_concat l with e | ⟨l', x, e⟩
      · rw [e] at hp; cases hp
      · have e2 : lastQ l = x := by rw [e]; simp [lastQ]
        rw [e2] at this
        rw [List.concat_eq_append] at e
        rw [e] at hp h1
        rcases List.mem_append.mp hp with z | z
        · rw [List.pairwise_append] at h1
          exact lexI3_trans (h1.2.2 p z x (List.mem_singleton.mpr rfl)) this
        · rw [List.mem_singleton.mp z]
          exact this
    · rw [List.map_append, List.nodup_append]
      refine ⟨h2, by simp, fun a ha b hb e => ?_⟩
      rw [List.map_cons, List.map_nil, List.mem_singleton] at hb
      exact hn (by rw [← hb, ← e]; exact ha)
    · intro p hp
      rcases List.mem_append.mp hp with z | z
      · exact h3 p z
      · rw [List.mem_singleton.mp z]; exact hq
theorem rank_take {l : List Q3} (h : RankL l) (i : Nat) : RankL (l.take i) := ⟨h.1.sublist (List.take_sublist _ _), (h.2.1).sublist ((List.take_sublist _ _).map _), fun q hq => h.2.2 q (List.mem_of_mem_take hq)⟩
/-- all stretches that may be told -/
def allS : List (Int × Int) := (List.range 25).flatMap fun b : Nat => (List.range 25).map fun e : Nat => ((b : Int), (e : Int))
theorem told_allS {q : Q3} (h : ToldQ q) : q.2 ∈ allS := by
  obtain ⟨c, b, e⟩ := q
  obtain ⟨_, _, h3, h4, h5⟩ := h
  simp only at h3 h4 h5
  unfold allS
  rw [List.mem_flatMap]
  refine ⟨b.toNat, List.mem_range.mpr (by omega), List.mem_map.mpr ⟨e.toNat, List.mem_range.mpr (by omega), ?_⟩⟩
  show (((b.toNat : Nat) : Int), ((e.toNat : Nat) : Int)) = (b, e)
  rw [Int.toNat_of_nonneg h3, Int.toNat_of_nonneg (by omega)]
theorem nd_few {α : Type} [DecidableEq α] : ∀ {l m : List α}, l.Nodup → (∀ a ∈ l, a ∈ m) → l.length ≤ m.length
  | [], _, _, _ => Nat.zero_le _
  | a :: l, m, h, k => by
    obtain ⟨h1, h2⟩ := List.nodup_cons.mp h
    have ha := k a List.mem_cons_self
    have := nd_few (l := l) (m := m.erase a) h2 fun b hb => (List.mem_erase_of_ne (fun z : b = a => h1 (by rw [← z]; exact hb))).mpr (k b (List.mem_cons_of_mem _ hb))
    rw [List.length_erase_of_mem ha] at this
    have := List.length_pos_of_mem ha
    rw [List.length_cons]
    omega
theorem rank_len {l : List Q3} (h : RankL l) : l.length ≤ 625 := by
  have := nd_few (l := l.map (·.2)) (m := allS) h.2.1 fun p hp => by
    obtain ⟨q, hq, rfl⟩ := List.mem_map.mp hp
    exact told_allS (h.2.2 q hq)
  rw [List.length_map] at this
  exact Nat.le_trans this (by decide +kernel)
theorem rnA_get {H : Hp} : ∀ {xs : List V} {ds : List PyData}, RnA H xs ds → ∀ {i : Nat} {x : V}, xs[i]? = some x → ∃ d, ds[i]? = some d ∧ Rn H x d
  | _, _, .nil, _, _, h => by cases h
  | _, _, .cons h r, 0, x, hx => by
    cases hx
    exact ⟨_, rfl, h⟩
  | _, _, .cons h r, i + 1, x, hx => rnA_get r (by simpa using hx)
theorem enc3_map {l m : List Q3} (h : l.map enc3 = m.map enc3) : l = m := (List.map_inj_right (fun a b h => enc3_inj h)).mp h
theorem rank_key {ds : List PyData} {l : List Q3} {q : Q3} {i : Nat} (hl : l.length = i) (ht : ds.take i = l.map enc3) (hd : ds[i]? = some (enc3 q)) (h : RankD (.list ds)) : RankL (l ++ [q]) := by
  obtain ⟨l', e, hr⟩ := h
  injection e with e
  have h1 : ds.take (i + 1) = (l ++ [q]).map enc3 := by
    rw [List.take_add_one, hd, ht, List.map_append]
    rfl
  rw [e, ← List.map_take] at h1
  rw [← enc3_map h1]
  exact rank_take hr _
theorem rank_at {ds : List PyData} {d : PyData} {i : Nat} (hd : ds[i]? = some d) (h : RankD (.list ds)) : ToldD d := by
  obtain ⟨l', e, hr⟩ := h
  injection e with e
  rw [e, List.getElem?_map] at hd
  obtain ⟨q, hq, rfl⟩ := Option.map_eq_some_iff.mp hd
  exact ⟨q, rfl, hr.2.2 q (List.mem_of_getElem? hq)⟩
theorem lastQ_snoc (l : List Q3) (q : Q3) : lastQ (l ++ [q]) = q := by simp [lastQ]
def sp_are_wholes : Sp := fun vs H Q _ => ∃ (x : V) (m : Nat) (d : PyData), vs = [x, .int (m : Nat)] ∧ Rn H x d ∧ m ≤ 100 ∧ ∀ H', Ex H H' → Q (.bl (wholesD d m)) H'
theorem ok_are_wholes (T : Tx K mg ad fd tk) : FnOk P w K mg base CX0 2 (ad 1) (fd 1) ["thing", "many"] sp_are_wholes := by
  refine T.d_are_wholes.F.ok sc_are_wholes (fun vs H Q E h => ?_) (fun cdv A outer s H vs Q E hr h => ?_)
  · obtain ⟨x, m, d, rfl, _⟩ := h
    rfl
  · obtain ⟨x, m, d, rfl, hx, hz, k⟩ := h
    refine ⟨_, (pss_one (ps_ret (pe_and (pe_callB c_is (by rfl) T.b_isinstance (by decide +kernel) (pa_cons (pv 0) (pa_cons (pe_bltn (v := .ty "tuple") rfl T.b_tuple (by decide +kernel) rfl) pa_nil))) (pe_and (pe_cmpR (o_eq hr.units) (pe_callB (c_len (K := K)) (by rfl) T.b_len (by decide +kernel) (pa_cons (pv 0) pa_nil)) (pv 1) (nomark _)) (pe_one (pe_callB (c_all rfl) (by rfl) T.b_all (by decide +kernel) (pa_cons (pe_lc (own := [("part", 2)]) (g := gName 2) rfl sc_are_wholes.nd (pi_tup (pv 0)) (blkOk_by (own := [("part", 2)]) (N := N_are_wholes) (sc := defScope s_are_wholes) (by decide +kernel)) (fun _ _ _ _ _ => pg_name (i := 2) sc_are_wholes.nd rfl (Or.inl rfl)) (fun _ _ _ _ _ => pts_nil) (fun _ _ _ _ _ => (pe_call (ok_is_whole T) (hr.mono (by decide)) rfl T.d_is_whole.g T.d_is_whole.F.kp T.d_is_whole.b .nil pass0 (pa_cons (pv 2) pa_nil)))) pa_nil))))))), ?_⟩
    walk_at "go"
    refine st_isTupD hx.rq ?_
    walk_at "go"
    cases d with
    | tuple ds =>
      obtain ⟨a, xs, rfl, h1, h2⟩ := hx.tupAt
      have hl := h2.len
      rw [show isTupD (.tuple ds) = true from rfl, if_pos rfl]
      walk_at "go"
      refine st_br2 (fun c => ?_) (fun c => ?_)
      · walk_at "go"
        refine lc_map (val := fun x : V => x) (ys := xs) (by
          have h := rv_tup (cxOf CX0 P w K mg base N_are_wholes (Str.ofString "are_wholes") (defScope s_are_wholes) (ad 1) cdv A outer s H E).nox.K a xs (fun x : V => x)
          rw [List.map_id'] at h
          exact h) (fun H' e => tup_of (e.get h1)) (by omega) (fun x => V.bl (isWholeV x)) ?_ ?_
        · intro y H' hy e B h
          refine ⟨rfl, ?_⟩
          have h' := h _ (Fr.refl _)
          obtain ⟨d2, hd2⟩ := rnA_mem h2 hy
          walk_at "go"
          refine ⟨y, rfl, (hd2.ex e).rq.ty, ?_⟩
          exact h'
        · intro D H1 nD e1 vD
          walk_at "go"
          refine st_all vD (bs := xs.map isWholeV) (by rw [List.map_map]; rfl) ?_
          have h := k H1 e1
          unfold wholesD at h
          simp only at h
          rw [decide_eq_true (by omega), Bool.true_and, ← wholes_rnA h2] at h
          rw [List.all_map]
          exact h
      · have h := k H (Fr.refl _)
        unfold wholesD at h
        simp only at h
        rw [decide_eq_false (by omega), Bool.false_and] at h
        exact h
    | _ =>
      rw [show isTupD _ = false from rfl, if_neg (by decide)]
      exact k H (Fr.refl _)
def sp_is_told : Sp := fun vs H Q _ => ∃ (x : V) (d : PyData), vs = [x] ∧ Rn H x d ∧ ∀ b H', Ex H H' → (b = true ↔ ToldD d) → Q (.bl b) H'
theorem ok_is_told (T : Tx K mg ad fd tk) : FnOk P w K mg base CX0 3 (ad 2) (fd 2) ["thing"] sp_is_told := by
  refine T.d_is_told.F.ok sc_is_told (fun vs H Q E h => ?_) (fun cdv A outer s H vs Q E hr h => ?_)
  · obtain ⟨x, d, rfl, _⟩ := h
    rfl
  · obtain ⟨x, d, rfl, hx, k⟩ := h
    refine ⟨_, (pss_cons (ps_if (pt_not (pt_val (pe_call (ok_are_wholes T) (hr.mono (by decide)) rfl T.d_are_wholes.g T.d_are_wholes.F.kp T.d_are_wholes.b .nil pass0 (pa_cons (pv 0) (pa_cons pe_int pa_nil))))) (pss_one (ps_ret pe_bl)) pss_nil)
      (pss_cons (ps_asg (pv 0) (pg_tup rfl (pgs_cons (pg_name (i := 1) sc_is_told.nd rfl (Or.inl rfl)) (pgs_cons (pg_name (i := 2) sc_is_told.nd rfl (Or.inl rfl)) (pgs_cons (pg_name (i := 3) sc_is_told.nd rfl (Or.inl rfl)) pgs_nil)))))
      (pss_one (ps_ret (pe_and (pe_chain o_le o_le pe_int (pv 1) (pe_glob (v := .int 48) rfl T.c_MOST_COST ⟨_, rfl⟩)) (pe_one (pe_chainN pe_int (PCh.cons o_le (pv 2) (PCh.cons o_lt (pv 3) (PCh.one o_le (pe_glob (v := .int 24) rfl T.c_MOST_LETTERS ⟨_, rfl⟩))))))))))), ?_⟩
    walk_at "go"
    refine ⟨x, 3, d, rfl, hx, by omega, fun H1 e1 => ?_⟩
    walk_at "go"
    cases hw : wholesD d 3 with
    | false =>
      refine st_T rfl ?_
      walk_at "go"
      refine k false H1 e1 ⟨(fun z => nomatch z), ?_⟩
      rintro ⟨q, rfl, _⟩
      rw [told_wholes] at hw
      cases hw
    | true =>
      obtain ⟨⟨i, j, l⟩, rfl⟩ := wholes_3 hw
      obtain ⟨a, rfl, ha⟩ := rn_enc3 hx
      refine st_F rfl ?_
      have ha1 : H1 a = some (.tup [.int i, .int j, .int l]) := e1.get ha
      walk_at "go"
      have no : ¬ ToldQ (i, j, l) → Q (.bl false) H1 := fun n => k false H1 e1 ⟨(fun z => nomatch z), fun ⟨q, e, t⟩ => by
        rw [← enc3_inj e] at t
        exact (n t).elim⟩
      refine st_br2 (fun c1 => ?_) (fun c1 => ?_)
      rotate_left
      · walk_at "go"
        exact no fun t => c1 t.1
      walk_at "go"
      refine st_br2 (fun c2 => ?_) (fun c2 => ?_)
      rotate_left
      · walk_at "go"
        exact no fun t => c2 t.2.1
      walk_at "go"
      refine st_br2 (fun c3 => ?_) (fun c3 => ?_)
      rotate_left
      · walk_at "go"
        exact no fun t => c3 t.2.2.1
      walk_at "go"
      refine st_br2 (fun c4 => ?_) (fun c4 => ?_)
      rotate_left
      · walk_at "go"
        exact no fun t => c4 t.2.2.2.1
      walk_at "go"
      by_cases c5 : l ≤ 24
      · rw [decide_eq_true c5]
        exact k true H1 e1 ⟨fun _ => ⟨_, rfl, c1, c2, c3, c4, c5⟩, fun _ => rfl⟩
      · rw [decide_eq_false c5]
        exact no fun t => c5 t.2.2.2.2
def sp_is_ranked : Sp := fun vs H Q _ => ∃ (x : V) (d : PyData), vs = [x] ∧ Rn H x d ∧ ∀ b H', Ex H H' → (b = true ↔ RankD d) → Q (.bl b) H'
theorem ok_is_ranked (T : Tx K mg ad fd tk) : FnOk P w K mg base CX0 4 (ad 3) (fd 3) ["thing"] sp_is_ranked := by
  refine T.d_is_ranked.F.ok sc_is_ranked (fun vs H Q E h => ?_) (fun cdv A outer s H vs Q E hr h => ?_)
  · obtain ⟨x, d, rfl, _⟩ := h
    rfl
  · obtain ⟨x, d, rfl, hx, k⟩ := h
    refine ⟨_, (pss_cons (ps_if (pt_not (pt_val (pe_callB c_is (by rfl) T.b_isinstance (by decide +kernel) (pa_cons (pv 0) (pa_cons (pe_bltn (v := .ty "list") rfl T.b_list (by decide +kernel) rfl) pa_nil))))) (pss_one (ps_ret pe_bl)) pss_nil)
      (pss_cons (ps_set (i := 1) sc_is_ranked.nd rfl (Or.inl rfl) pe_dnewT)
      (pss_cons (ps_set (i := 2) sc_is_ranked.nd rfl (Or.inl rfl) (pe_tup (pa_cons (pe_un un_neg pe_int) (pa_cons pe_int (pa_cons pe_int pa_nil)))))
      (pss_cons (ps_for PassesOwn.never rfl (pi_list (pv 0)) (pg_name (i := 3) sc_is_ranked.nd rfl (Or.inl rfl)) (pss_cons (ps_if (PW.pt (pw_or (pt_not (pt_val (pe_call (ok_is_told T) (hr.mono (by decide)) rfl T.d_is_told.g T.d_is_told.F.kp T.d_is_told.b .nil pass0 (pa_cons (pv 3) pa_nil)))) (pw_or (pt_cmpR (o_leD hr.units) (pv 3) (pv 2) (nomark _)) (pw_or1 (pt_cmp (pc_din (hu_of hr) (pe_slice (s_slA (K := K)) (pv 3) (po_some pe_int) po_none) (pv 1))))))) (pss_one (ps_ret pe_bl)) pss_nil)
      (pss_cons (ps_dput (hu_of hr) (pv 1) (pe_slice (s_slA (K := K)) (pv 3) (po_some pe_int) po_none) pe_bl rfl)
      (pss_one (ps_set (i := 2) sc_is_ranked.nd rfl (Or.inl rfl) (pv 3))))))
      (pss_one (ps_ret pe_bl)))))), ?_⟩
    have no : ∀ H', Ex H H' → (¬ RankD d) → Q (.bl false) H' := fun H' e n => k false H' e ⟨(fun z => nomatch z), (fun z => (n z).elim)⟩
    walk_at "go"
    refine st_isListD hx.rq ?_
    refine ⟨_, rfl, ?_⟩
    by_cases hd : ∃ ds, d = .list ds
    rotate_left
    · refine st_T ?_ ?_
      · cases d <;> first | rfl | exact absurd ⟨_, rfl⟩ hd
      walk_at "go"
      refine no H (Fr.refl _) (fun h => ?_)
      obtain ⟨l, e, _⟩ := h
      exact hd ⟨_, e⟩
    obtain ⟨ds, rfl⟩ := hd
    obtain ⟨a, xs, rfl, h1, h2⟩ := hx.listAt
    refine st_F rfl ?_
    walk_at "go"
    rename_i K1 H1 n1 e1 v1 B0 H2 n2 e2 v2
    have e02 := e1.trans e2
    have vK := e2.get v1
    have rk0 : RankL [] := ⟨.nil, List.nodup_nil, fun _ h => by cases h⟩
    clear e1 e2 v1
    refine for_runs (runs_list K a xs) (fun i σ H' => Ex H H' ∧ ∃ (l : List Q3) (kvs : List (List L2.Key × V)) (B : Addr) (a3 : Option V), l.length = i ∧ ds.take i = l.map enc3 ∧ RankL l ∧ H' K1 = some (.dT kvs) ∧ kvs.length = i ∧ (∀ p, (valV kvs (kS p)).isSome = true ↔ p ∈ l.map (·.2)) ∧ H' B = some (tri3 (lastQ l)) ∧ σ = [some (.ref a), some (.ref K1), some (.ref B), a3]) ⟨e02, [], [], B0, _, rfl, rfl, rk0, vK, rfl, fun p => by simp [valV], v2, rfl⟩ (fun i σ H' _ h => lst_of (h.1.get h1)) ?_ ?_
    · rintro i x σ H3 H4 hi ⟨e3, l, kvs, B, a3, hl, ht, hr, vk, hkl, hkv, vB, rfl⟩ ⟨rfl, hx⟩
      obtain ⟨d, hd, hxd⟩ := rnA_get h2 hx
      have hl625 := rank_len hr
      walk_at "go"
      refine ⟨x, d, rfl, hxd.ex e3, fun b H5 e5 hb => ?_⟩
      cases b with
      | false =>
        walk_at "go"
        exact no H5 (e3.trans e5) fun h => Bool.false_ne_true (hb.mpr (rank_at hd h))
      | true =>
        obtain ⟨q, rfl, hq⟩ := hb.mp rfl
        obtain ⟨t, rfl, htq⟩ := rn_enc3 hxd
        have e05 := e3.trans e5
        have t5 : H5 t = some (.tup [.int q.1, .int q.2.1, .int q.2.2]) := e05.get htq
        have vB5 : H5 B = some (.tup [.int (lastQ l).1, .int (lastQ l).2.1, .int (lastQ l).2.2]) := e5.get vB
        have vk5 := e5.get vk
        have key := rank_key hl ht hd
        walk_at "go"
        refine st_leT t5 vB5 ?_
        cases hlt : lt3 (lastQ l).1 (lastQ l).2.1 (lastQ l).2.2 q.1 q.2.1 q.2.2 with
        | false =>
          walk_at "go"
          refine no H5 e05 fun h => ?_
          have := (rank_snoc.mp (key h)).2.2.2
          rw [hlt] at this
          cases this
        | true =>
          walk_at "go"
          have cut3 : ∀ (S : Addr) (H' : Hp), H' S = some (.tup (cutV [V.int q.1, V.int q.2.1, V.int q.2.2] (some 1) none)) → H' S = some (.tup ((kS q.2).map kV)) := fun S H' h => by
            rw [h, kS_kV]
            exact congrArg (fun z => some (HO.tup z)) (cutV_from [V.int q.1, V.int q.2.1, V.int q.2.2] 1)
          have nw : ¬ (HT.sIx [V.int q.1, V.int q.2.1, V.int q.2.2].length 0 (some 1) = 0 ∧ HT.sIx [V.int q.1, V.int q.2.1, V.int q.2.2].length [V.int q.1, V.int q.2.1, V.int q.2.2].length none = [V.int q.1, V.int q.2.1, V.int q.2.2].length) := fun z => absurd z.1 (show ¬ (HT.sIx 3 0 (some 1) = 0) by decide)
          refine st_slA (tup_of t5) nw fun S H6 nS e6 vS => ?_
          have vS := cut3 S H6 vS
          walk_at "go"
          refine st_dinB (e6.get vk5) vS ?_
          cases hin : (valV kvs (kS q.2)).isSome with
          | true =>
            walk_at "go"
            refine no H6 (e05.trans e6) fun h => ?_
            exact (rank_snoc.mp (key h)).2.2.1 ((hkv q.2).mp hin)
          | false =>
            walk_at "go"
            refine st_slA (tup_of (e6.get t5)) nw fun S2 H7 nS2 e7 vS2 => ?_
            have vS2 := cut3 S2 H7 vS2
            have e07 := (e05.trans e6).trans e7
            have nv : valV kvs (kS q.2) = none := Option.not_isSome_iff_eq_none.mp (by rw [hin]; decide)
            have hnm : q.2 ∉ l.map (·.2) := fun hm => by
              have := (hkv q.2).mpr hm
              rw [hin] at this
              cases this
            have hr2 : RankL (l ++ [q]) := rank_snoc.mpr ⟨hr, hq, hnm, hlt⟩
            walk_at "go"
            refine st_dputT ((e6.trans e7).get vk5) vS2 (by omega) ?_
            walk_at "go"
            refine ⟨e07.mut n1, l ++ [q], putK kvs (kS q.2) (.bl true), t, _, by rw [List.length_append, hl]; rfl, ?_, hr2, upd_same, ?_, fun p => ?_, ?_, rfl⟩
            · rw [List.take_add_one, hd, ht, List.map_append]
              rfl
            · rw [putK_newT nv, List.length_append, hkl]
              rfl
            · rw [valV_put, List.map_append, List.mem_append]
              by_cases e : kS p = kS q.2
              · rw [if_pos e, kS_inj e]
                simp
              · rw [if_neg e]
                rw [hkv p]
                constructor
                · exact .inl
                · rintro (h | h)
                  · exact h
                  · rw [List.map_cons, List.map_nil, List.mem_singleton] at h
                    exact absurd (by rw [h]) e
            · rw [lastQ_snoc, upd_ne (fun z => by
                have := (e6.trans e7).get t5
                rw [z, (e6.trans e7).get vk5] at this
                cases this)]
              exact (e6.trans e7).get t5
    · rintro σ H3 ⟨e3, l, kvs, B, a3, hl, ht, hr, vk, hkl, hkv, vB, rfl⟩
      walk_at "go"
      refine k true H3 e3 ⟨fun _ => ⟨l, ?_, hr⟩, fun _ => rfl⟩
      rw [← ht, List.take_of_length_le (by rw [h2.len]; exact Nat.le_refl _)]
def sp_need_ranked (K : PySem.W.Frag) : Sp := fun vs H Q E => ∃ (x : V) (d : PyData), vs = [x] ∧ Rn H x d ∧ (¬ RankD d → RaF K E H "NoNear" [("found", x)]) ∧ (RankD d → ∀ H', Ex H H' → Q .non H')
theorem ok_need_ranked (T : Tx K mg ad fd tk) : FnOk P w K mg base (L2.CX P w) 5 (ad 4) (fd 4) ["thing"] (sp_need_ranked K) := by
  refine T.d_need_ranked.F.okX sc_need_ranked (fun vs H Q E h => ?_) (fun cdv A outer s H vs Q E hr h => ?_)
  · obtain ⟨x, d, rfl, _⟩ := h
    rfl
  · obtain ⟨x, d, rfl, hx, kr, kn⟩ := h
    refine ⟨_, (pss_one (ps_if (pt_not (pt_val (pe_call (ok_is_ranked T) (hr.mono (by decide)) rfl T.d_is_ranked.g T.d_is_ranked.F.kp T.d_is_ranked.b .nil pass0 (pa_cons (pv 0) pa_nil)))) (pss_one (ps_raiseG rfl (ex_NoNear T) (hr.mono (by decide)) (takes_of rfl rfl rfl rfl) rfl (pa_cons (pv 0) pa_nil))) pss_nil)), ?_⟩
    walk_at "go"
    refine ⟨x, d, rfl, hx, fun b H1 e1 hb => ?_⟩
    cases b with
    | false =>
      have k5 := kr fun h => Bool.false_ne_true (hb.mpr h)
      walk_at "go"
      rename_i d2 H2 hd2 e2 hv2
      exact k5 d2 H2 (Ex.free e1 hd2) (e1.trans e2) hv2
    | true =>
      walk_at "go"
      exact kn (hb.mp rfl) H1 e1
/-- the ranks of a list: of each stretch its cost and its place -/
structure RkAt (H : Hp) (D : Addr) (kvs : List (List L2.Key × V)) (l : List Q3) : Prop where
  at_ : H D = some (.dT kvs)
  len : kvs.length = l.length
  row : ∀ i q, l[i]? = some q → ∃ t, kvs[i]? = some (kS q.2, .ref t) ∧ H t = some (.tup [.int q.1, .int (i : Nat)])
theorem RkAt.ex {H H' : Hp} {D : Addr} {kvs : List (List L2.Key × V)} {l : List Q3} (h : RkAt H D kvs l) (e : Ex H H') : RkAt H' D kvs l := ⟨e.get h.at_, h.len, fun i q hi => by
  obtain ⟨t, a, b⟩ := h.row i q hi
  exact ⟨t, a, e.get b⟩⟩
theorem valV_at : ∀ {kvs : List (List L2.Key × V)} {k : List L2.Key} {v : V} {i : Nat}, kvs[i]? = some (k, v) → (∀ j w, j < i → kvs[j]? = some w → w.1 ≠ k) → valV kvs k = some v
  | [], _, _, _, h, _ => by cases h
  | p :: r, k, v, 0, h, _ => by
    cases h
    exact valV_pos rfl
  | p :: r, k, v, i + 1, h, n => by
    rw [valV_neg (n 0 p (by omega) rfl)]
    exact valV_at (i := i) (by simpa using h) fun j w hj hw => n (j + 1) w (by omega) (by simpa using hw)
theorem valV_no : ∀ {kvs : List (List L2.Key × V)} {k : List L2.Key}, (∀ w ∈ kvs, w.1 ≠ k) → valV kvs k = none
  | [], _, _ => rfl
  | p :: r, k, n => by
    rw [valV_neg (n p List.mem_cons_self)]
    exact valV_no fun w hw => n w (List.mem_cons_of_mem _ hw)
theorem RkAt.keys {H : Hp} {D : Addr} {kvs : List (List L2.Key × V)} {l : List Q3} (h : RkAt H D kvs l) {j : Nat} {w : List L2.Key × V} (hw : kvs[j]? = some w) : ∃ q, l[j]? = some q ∧ w.1 = kS q.2 := by
  have hj : j < l.length := by rw [← h.len]; exact (List.getElem?_eq_some_iff.mp hw).1
  obtain ⟨t, a, _⟩ := h.row j _ (List.getElem?_eq_getElem hj)
  rw [hw] at a
  cases a
  exact ⟨_, List.getElem?_eq_getElem hj, rfl⟩
theorem RkAt.hit {H : Hp} {D : Addr} {kvs : List (List L2.Key × V)} {l : List Q3} (h : RkAt H D kvs l) (nd : (l.map (·.2)).Nodup) {i : Nat} {q : Q3} (hi : l[i]? = some q) : ∃ t, valV kvs (kS q.2) = some (.ref t) ∧ H t = some (.tup [.int q.1, .int (i : Nat)]) := by
  obtain ⟨t, a, b⟩ := h.row i q hi
  refine ⟨t, valV_at a fun j w hj hw e => ?_, b⟩
  obtain ⟨q', h1, h2⟩ := h.keys hw
  have h3 : q'.2 = q.2 := kS_inj (h2.symm.trans e)
  have := (List.getElem?_eq_some_iff.mp hi).1
  have e1 : (l.map (·.2))[j]? = some q.2 := by rw [List.getElem?_map, h1]; exact congrArg some h3
  have e2 : (l.map (·.2))[i]? = some q.2 := by rw [List.getElem?_map, hi]; rfl
  rw [← e2] at e1
  have := (List.getElem?_inj (by rw [List.length_map]; omega) nd).mp e1
  omega
theorem RkAt.miss {H : Hp} {D : Addr} {kvs : List (List L2.Key × V)} {l : List Q3} (h : RkAt H D kvs l) {p : Int × Int} (n : p ∉ l.map (·.2)) : valV kvs (kS p) = none := valV_no fun w hw e => by
  obtain ⟨j, hj⟩ := List.getElem?_of_mem hw
  obtain ⟨q, h1, h2⟩ := h.keys hj
  exact n (List.mem_map.mpr ⟨q, List.mem_of_getElem? h1, kS_inj (h2.symm.trans e)⟩)
theorem RkAt.isSome {H : Hp} {D : Addr} {kvs : List (List L2.Key × V)} {l : List Q3} (h : RkAt H D kvs l) (nd : (l.map (·.2)).Nodup) (p : Int × Int) : (valV kvs (kS p)).isSome = decide (p ∈ l.map (·.2)) := by
  by_cases hm : p ∈ l.map (·.2)
  · rw [decide_eq_true hm]
    obtain ⟨q, hq, rfl⟩ := List.mem_map.mp hm
    obtain ⟨i, hi⟩ := List.getElem?_of_mem hq
    obtain ⟨t, a, _⟩ := h.hit nd hi
    rw [a]; rfl
  · rw [decide_eq_false hm, h.miss hm]; rfl
/-- a ranked list in the heap -/
structure RkL (H : Hp) (A : Addr) (zs : List ZT) (l : List Q3) : Prop where
  at_ : H A = some (.lst (zs.map z3V))
  t3 : T3 H zs
  eq : zs.map (·.2) = l
theorem RkL.ex {H H' : Hp} {A : Addr} {zs : List ZT} {l : List Q3} (h : RkL H A zs l) (e : Ex H H') : RkL H' A zs l := ⟨e.get h.at_, h.t3.ex e, h.eq⟩
theorem rn_tri {H : Hp} {t : Addr} {q : Q3} (h : H t = some (tri3 q)) : Rn H (.ref t) (enc3 q) := .tup h (.cons (.int _) (.cons (.int _) (.cons (.int _) .nil)))
theorem rnA_tri {H : Hp} : ∀ {zs : List ZT}, T3 H zs → RnA H (zs.map z3V) ((zs.map (·.2)).map enc3)
  | [], _ => .nil
  | z :: zs, h => .cons (rn_tri (h z List.mem_cons_self)) (rnA_tri fun y hy => h y (List.mem_cons_of_mem _ hy))
theorem RkL.rn {H : Hp} {A : Addr} {zs : List ZT} {l : List Q3} (h : RkL H A zs l) : Rn H (.ref A) (.list (l.map enc3)) := .lst h.at_ (by rw [← h.eq]; exact rnA_tri h.t3)
theorem tri_rnA {H : Hp} : ∀ {xs : List V} {l : List Q3}, RnA H xs (l.map enc3) → ∃ zs : List ZT, xs = zs.map z3V ∧ T3 H zs ∧ zs.map (·.2) = l
  | xs, [], h => by
    cases h
    exact ⟨[], rfl, (fun _ h => by cases h), rfl⟩
  | xs, q :: l, h => by
    cases h with
    | cons h r =>
      obtain ⟨zs, rfl, h2, h3⟩ := tri_rnA r
      obtain ⟨a, rfl, ha⟩ := rn_enc3 h
      exact ⟨(a, q) :: zs, rfl, T3.cons ha h2, by rw [List.map_cons, h3]⟩
theorem rkl_rn {H : Hp} {x : V} {l : List Q3} (h : Rn H x (.list (l.map enc3))) : ∃ A zs, x = .ref A ∧ RkL H A zs l := by
  obtain ⟨a, xs, rfl, h1, h2⟩ := h.listAt
  obtain ⟨zs, rfl, h3, h4⟩ := tri_rnA h2
  exact ⟨a, zs, rfl, h1, h3, h4⟩
def sp_ranks_of : Sp := fun vs H Q _ => ∃ (A : Addr) (zs : List ZT) (l : List Q3), vs = [.ref A] ∧ RkL H A zs l ∧ l.length ≤ 625 ∧ (l.map (·.2)).Nodup ∧ ∀ D kvs H', Ex H H' → H D = none → RkAt H' D kvs l → Q (.ref D) H'
theorem ok_ranks_of (T : Tx K mg ad fd tk) : FnOk P w K mg base CX0 1 (ad 5) (fd 5) ["rows"] sp_ranks_of := by
  refine T.d_ranks_of.F.ok sc_ranks_of (fun vs H Q E h => ?_) (fun cdv A outer s H vs Q E hr h => ?_)
  · obtain ⟨A, zs, l, rfl, _⟩ := h
    rfl
  · obtain ⟨A, zs, l, rfl, hA, hl, hnd, k⟩ := h
    refine ⟨_, (pss_cons (ps_set (i := 1) sc_ranks_of.nd rfl (Or.inl rfl) pe_dnewT)
      (pss_cons (ps_for PassesOwn.never rfl (pi_enum rfl T.b_enumerate (pa_cons (pv 0) pa_nil)) (pg_tup rfl (pgs_cons (pg_name (i := 2) sc_ranks_of.nd rfl (Or.inl rfl)) (pgs_cons (pg_tup rfl (pgs_cons (pg_name (i := 3) sc_ranks_of.nd rfl (Or.inl rfl)) (pgs_cons (pg_name (i := 4) sc_ranks_of.nd rfl (Or.inl rfl)) (pgs_cons (pg_name (i := 5) sc_ranks_of.nd rfl (Or.inl rfl)) pgs_nil)))) pgs_nil))) (pss_one (ps_dput (hu_of hr) (pv 1) (pe_tup (pa_cons (pv 4) (pa_cons (pv 5) pa_nil))) (pe_tup (pa_cons (pv 3) (pa_cons (pv 2) pa_nil))) rfl)))
      (pss_one (ps_ret (pv 1))))), ?_⟩
    walk_at "go"
    rename_i D H1 n1 e1 v1
    have hA1 := hA.ex e1
    have hA1a := hA1.at_
    walk_at "go"
    have hzl : zs.length = l.length := by rw [← hA.eq, List.length_map]
    refine for_runs (runs_enum _ A (zs.map z3V)) (fun i σ H' => Ex H H' ∧ (∃ kvs, RkAt H' D kvs (l.take i)) ∧ ∃ a2 a3 a4 a5, σ = [some (.ref A), some (.ref D), a2, a3, a4, a5]) ⟨e1, ⟨[], v1, rfl, fun i q h => by simp at h⟩, _, _, _, _, rfl⟩ (fun i σ H' _ h => lst_of ((hA.ex h.1).at_)) ?_ ?_
    · rintro i x σ H2 H3 hi ⟨e2, ⟨kvs, hk⟩, a2, a3, a4, a5, rfl⟩ ⟨T0, v, rfl, nT, eT, vT, hv⟩
      obtain ⟨z, hz, rfl⟩ : ∃ z, zs[i]? = some z ∧ z3V z = v := by
        rw [List.getElem?_map] at hv
        exact Option.map_eq_some_iff.mp hv
      have hz3 : H3 z.1 = some (.tup [.int z.2.1, .int z.2.2.1, .int z.2.2.2]) := eT.get ((hA.t3.ex e2) z (List.mem_of_getElem? hz))
      have hli : l[i]? = some z.2 := by rw [← hA.eq, List.getElem?_map, hz]; rfl
      have hi2 : i < l.length := by rw [List.length_map] at hi; omega
      walk_at "go"
      rename_i t H4 n4 e4 v4 u H5 n5 e5 v5
      have e25 := (eT.trans e4).trans e5
      have hk5 := hk.ex e25
      have v45 := e5.get v4
      have hti : (l.take i).length = i := by rw [List.length_take]; omega
      have hnm : z.2.2 ∉ (l.take i).map (·.2) := fun hm => by
        obtain ⟨q, hq, e⟩ := List.mem_map.mp hm
        obtain ⟨j, hj⟩ := List.getElem?_of_mem hq
        have hji : j < i := by
          have := (List.getElem?_eq_some_iff.mp hj).1
          omega
        rw [List.getElem?_take_of_lt hji] at hj
        have e1 : (l.map (·.2))[j]? = (l.map (·.2))[i]? := by
          rw [List.getElem?_map, List.getElem?_map, hj, hli]
          exact congrArg some e
        have := (List.getElem?_inj (by rw [List.length_map]; omega) hnd).mp e1
        omega
      have nv := hk5.miss hnm
      have kl := hk5.len
      refine st_dputT (k := kS z.2.2) hk5.at_ v5 (by omega) ?_
      refine ⟨(e2.trans e25).mut n1, ⟨putK kvs (kS z.2.2) (.ref t), upd_same, ?_, fun j q hj => ?_⟩, _, _, _, _, rfl⟩
      · rw [putK_newT nv, List.length_append, kl, List.length_take, List.length_take]
        show min i l.length + 1 = min (i + 1) l.length
        omega
      · rw [putK_newT nv]
        have tD : ∀ {a : Addr} {ys : List V}, H5 a = some (.tup ys) → upd H5 D (.dT (kvs ++ [(kS z.2.2, .ref t)])) a = some (.tup ys) := fun {a ys} h => by
          rw [upd_ne (fun z => by rw [z, hk5.at_] at h; cases h)]
          exact h
        by_cases hji : j < i
        · rw [List.getElem?_take_of_lt (by omega)] at hj
          obtain ⟨t', a, b⟩ := hk5.row j q (by rw [List.getElem?_take_of_lt hji]; exact hj)
          refine ⟨t', ?_, tD b⟩
          rw [List.getElem?_append_left (by omega)]
          exact a
        · have hj2 : j = i := by
            have := (List.getElem?_eq_some_iff.mp hj).1
            rw [List.length_take] at this
            omega
          subst hj2
          rw [List.getElem?_take_of_lt (by omega), hli] at hj
          cases hj
          refine ⟨t, ?_, tD v45⟩
          rw [List.getElem?_append_right (by omega), kl, hti, Nat.sub_self]
          rfl
    · rintro σ H2 ⟨e2, ⟨kvs, hk⟩, a2, a3, a4, a5, rfl⟩
      walk_at "go"
      rw [List.length_map, hzl, List.take_length] at hk
      exact k D kvs H2 e2 n1 hk
def inS (l : List Q3) (p : Int × Int) : Bool := decide (p ∈ l.map (·.2))
/-- the rows of the second that the first hasn't -/
def notIn (l m : List Q3) : List Q3 := m.filter fun q => !inS l q.2
/-- how a stretch has moved -/
def movE (l : List Q3) (j : Nat) (q : Q3) : Option (List Int) := (l.findIdx? fun r => decide (r.2 = q.2)).bind fun i => (l[i]?).bind fun r => if r.1 = q.1 ∧ i = j then none else some [q.2.1, q.2.2, r.1, q.1, (i : Int), (j : Int)]
def movS (l m : List Q3) (n : Nat) : List (List Int) := (List.range n).filterMap fun j => (m[j]?).bind fun q => movE l j q
def movL (l m : List Q3) : List (List Int) := movS l m m.length
theorem movS_succ (l m : List Q3) (n : Nat) : movS l m (n + 1) = movS l m n ++ ((m[n]?).bind fun q => movE l n q).toList := by
  unfold movS
  rw [List.range_succ, List.filterMap_append]
  congr 1
theorem movE_no {l : List Q3} {q : Q3} {j : Nat} (h : q.2 ∉ l.map (·.2)) : movE l j q = none := by
  unfold movE
  rw [List.findIdx?_eq_none_iff.mpr fun r hr => decide_eq_false fun e => h (List.mem_map.mpr ⟨r, hr, e⟩), Option.bind_none]
theorem movE_at {l : List Q3} {q r : Q3} {i j : Nat} (nd : (l.map (·.2)).Nodup) (hi : l[i]? = some r) (e : r.2 = q.2) : movE l j q = if r.1 = q.1 ∧ i = j then none else some [q.2.1, q.2.2, r.1, q.1, (i : Int), (j : Int)] := by
  have hl := (List.getElem?_eq_some_iff.mp hi).1
  have hf : l.findIdx? (fun r => decide (r.2 = q.2)) = some i := by
    rw [List.findIdx?_eq_some_iff_getElem]
    refine ⟨hl, ?_, fun k hk => ?_⟩
    · rw [List.getElem?_eq_getElem hl] at hi
      cases hi
      exact decide_eq_true e
    · intro z
      have z := of_decide_eq_true z
      have e1 : (l.map (·.2))[k]? = (l.map (·.2))[i]? := by
        rw [List.getElem?_map, List.getElem?_map, hi, List.getElem?_eq_getElem (by omega)]
        exact congrArg some (z.trans e.symm)
      have := (List.getElem?_inj (by rw [List.length_map]; omega) nd).mp e1
      omega
  unfold movE
  rw [hf, Option.bind_some, hi, Option.bind_some]
/-- rows of whole numbers, each a tuple -/
def RwI (H : Hp) (M : Addr) (l : List (List Int)) : Prop := ∃ ts : List Addr, H M = some (.lst (ts.map V.ref)) ∧ ts.length = l.length ∧ ∀ (i : Nat) (t : Addr) (r : List Int), ts[i]? = some t → l[i]? = some r → H t = some (.tup (r.map V.int))
theorem RwI.ex {H H' : Hp} {M : Addr} {l : List (List Int)} (h : RwI H M l) (e : Ex H H') : RwI H' M l := by
  obtain ⟨ts, a, b, c⟩ := h
  exact ⟨ts, e.get a, b, fun i t r h1 h2 => e.get (c i t r h1 h2)⟩
theorem RwI.snoc {H : Hp} {M t : Addr} {l : List (List Int)} {r : List Int} {ts : List Addr} (hb : ts.length = l.length) (hc : ∀ (i : Nat) (t : Addr) (r : List Int), ts[i]? = some t → l[i]? = some r → H t = some (.tup (r.map V.int))) (hM : H M = some (.lst (ts.map V.ref))) (ht : H t = some (.tup (r.map V.int))) : RwI (upd H M (.lst (ts.map V.ref ++ [V.ref t]))) M (l ++ [r]) := by
  have up : ∀ {a : Addr} {ys : List V}, H a = some (.tup ys) → upd H M (.lst (ts.map V.ref ++ [V.ref t])) a = some (.tup ys) := fun {a ys} h => by
    rw [upd_ne (fun z => by rw [z, hM] at h; cases h)]
    exact h
  refine ⟨ts ++ [t], by rw [upd_same, List.map_append]; rfl, by rw [List.length_append, List.length_append, hb]; rfl, fun i t' r' h1 h2 => up ?_⟩
  by_cases hi : i < ts.length
  · rw [List.getElem?_append_left hi] at h1
    rw [List.getElem?_append_left (by omega)] at h2
    exact hc i t' r' h1 h2
  · rw [List.getElem?_append_right (by omega)] at h1
    rw [List.getElem?_append_right (by omega)] at h2
    have e : i - ts.length = 0 := by
      have := (List.getElem?_eq_some_iff.mp h1).1
      rw [List.length_singleton] at this
      omega
    rw [← hb, e] at h2
    rw [e] at h1
    cases h1
    cases h2
    exact ht
/-- news in the heap -/
structure NwAt (H : Hp) (t C W M : Addr) (zc zw : List ZT) (c w : List Q3) (m : List (List Int)) : Prop where
  at_ : H t = some (.tup [.ref C, .ref W, .ref M])
  came : RkL H C zc c
  went : RkL H W zw w
  moved : RwI H M m
theorem RkL.filt {H : Hp} {C : Addr} {zs : List ZT} {l m : List Q3} (ht : T3 H zs) (hm : zs.map (·.2) = m) (hC : H C = some (.lst ((zs.filter fun z => !inS l z.2.2).map z3V))) : RkL H C (zs.filter fun z => !inS l z.2.2) (notIn l m) := ⟨hC, fun z hz => ht z (List.mem_filter.mp hz).1, by
  unfold notIn
  rw [← hm, List.filter_map]
  rfl⟩
theorem cut3 {H : Hp} {S : Addr} {q : Q3} (h : H S = some (.tup (cutV [V.int q.1, V.int q.2.1, V.int q.2.2] (some 1) none))) : H S = some (.tup ((kS q.2).map kV)) := by
  rw [h, kS_kV]
  exact congrArg (fun z => some (HO.tup z)) (cutV_from [V.int q.1, V.int q.2.1, V.int q.2.2] 1)
theorem nw3 (a b c : V) : ¬ (HT.sIx [a, b, c].length 0 (some 1) = 0 ∧ HT.sIx [a, b, c].length [a, b, c].length none = [a, b, c].length) := fun z => absurd z.1 (show ¬ (HT.sIx 3 0 (some 1) = 0) by decide)
def encI (r : List Int) : PyData := .tuple (r.map PyData.int)
theorem rnA_ints {H : Hp} : ∀ r : List Int, RnA H (r.map V.int) (r.map PyData.int)
  | [] => .nil
  | _ :: r => .cons (.int _) (rnA_ints r)
theorem RwI.rn {H : Hp} {M : Addr} {l : List (List Int)} (h : RwI H M l) : Rn H (.ref M) (.list (l.map encI)) := by
  obtain ⟨ts, a, b, c⟩ := h
  refine .lst a ?_
  clear a
  induction ts generalizing l with
  | nil =>
    cases l with
    | nil => exact .nil
    | cons r l => cases b
  | cons t ts ih =>
    cases l with
    | nil => cases b
    | cons r l =>
      refine .cons (.tup (c 0 t r rfl rfl) (rnA_ints r)) (ih (l := l) (by simpa using b) fun i t' r' h1 h2 => c (i + 1) t' r' (by simpa using h1) (by simpa using h2))
theorem NwAt.ex {H H' : Hp} {t C W M : Addr} {zc zw : List ZT} {c w : List Q3} {m : List (List Int)} (h : NwAt H t C W M zc zw c w m) (e : Ex H H') : NwAt H' t C W M zc zw c w m := ⟨e.get h.at_, h.came.ex e, h.went.ex e, h.moved.ex e⟩
def sp_difference : Sp := fun vs H Q _ => ∃ (A1 A2 : Addr) (z1 z2 : List ZT) (l1 l2 : List Q3), vs = [.ref A1, .ref A2] ∧ RkL H A1 z1 l1 ∧ RkL H A2 z2 l2 ∧ l1.length ≤ 625 ∧ l2.length ≤ 625 ∧ (l1.map (·.2)).Nodup ∧ (l2.map (·.2)).Nodup ∧
  ∀ t C W M zc zw H', Ex H H' → H t = none → H C = none → H W = none → H M = none → NwAt H' t C W M zc zw (notIn l1 l2) (notIn l2 l1) (movL l1 l2) → Q (.ref t) H'
theorem ok_difference (T : Tx K mg ad fd tk) : FnOk P w K mg base CX0 2 (ad 6) (fd 6) ["ahead", "behind"] sp_difference := by
  refine T.d_difference.F.ok sc_difference (fun vs H Q E h => ?_) (fun cdv A outer s H vs Q E hr h => ?_)
  · obtain ⟨A1, A2, z1, z2, l1, l2, rfl, _⟩ := h
    rfl
  · obtain ⟨A1, A2, z1, z2, l1, l2, rfl, h1, h2, s1, s2, d1, d2, k⟩ := h
    refine ⟨_, (pss_cons (ps_set (i := 2) sc_difference.nd rfl (Or.inr rfl) (pe_call (ok_ranks_of T) (hr.mono (by decide)) rfl T.d_ranks_of.g T.d_ranks_of.F.kp T.d_ranks_of.b .nil pass0 (pa_cons (pv 0) pa_nil)))
      (pss_cons (ps_set (i := 3) sc_difference.nd rfl (Or.inr rfl) (pe_call (ok_ranks_of T) (hr.mono (by decide)) rfl T.d_ranks_of.g T.d_ranks_of.F.kp T.d_ranks_of.b .nil pass0 (pa_cons (pv 1) pa_nil)))
      (pss_cons (ps_setLc (i := 4) (own := [("row", 10)]) (g := gName 10) rfl sc_difference.nd rfl rfl (sw_true rfl rfl rfl (by decide +kernel)) (pi_list (pv 1)) (blkOk_by (own := [("row", 10)]) (N := N_difference) (sc := defScope s_difference) (by decide +kernel)) (fun _ _ _ _ _ => pg_name (i := 10) sc_difference.nd rfl (Or.inl rfl)) (fun _ _ _ _ _ => pts_one (pt_cmp (pc_dnotin (hu_of hr) (pe_slice (s_slA (K := K)) (pv 10) (po_some pe_int) po_none) (pv 2)))) (fun _ _ _ _ _ => (pv 10)))
      (pss_cons (ps_setLc (i := 5) (own := [("row", 10)]) (g := gName 10) rfl sc_difference.nd rfl rfl (sw_true rfl rfl rfl (by decide +kernel)) (pi_list (pv 0)) (blkOk_by (own := [("row", 10)]) (N := N_difference) (sc := defScope s_difference) (by decide +kernel)) (fun _ _ _ _ _ => pg_name (i := 10) sc_difference.nd rfl (Or.inl rfl)) (fun _ _ _ _ _ => pts_one (pt_cmp (pc_dnotin (hu_of hr) (pe_slice (s_slA (K := K)) (pv 10) (po_some pe_int) po_none) (pv 3)))) (fun _ _ _ _ _ => (pv 10)))
      (pss_cons (ps_set (i := 6) sc_difference.nd rfl (Or.inl rfl) (pe_lst pa_nil))
      (pss_cons (ps_lock (ps_for PassesOwn.never rfl (pi_itemsT (pv 3)) (pg_tup rfl (pgs_cons (pg_name (i := 7) sc_difference.nd rfl (Or.inl rfl)) (pgs_cons (pg_tup rfl (pgs_cons (pg_name (i := 8) sc_difference.nd rfl (Or.inl rfl)) (pgs_cons (pg_name (i := 9) sc_difference.nd rfl (Or.inl rfl)) pgs_nil))) pgs_nil))) (pss_one (ps_if (PW.pt (pw_and (pt_cmp (pc_din (hu_of hr) (pv 7) (pv 2))) (pw_and1 (pt_cmpR (o_ne hr.units) (pe_dget (hu_of hr) (pv 2) (pv 7) (fun _ _ => rfl)) (pe_tup (pa_cons (pv 8) (pa_cons (pv 9) pa_nil))) (nomark _))))) (pss_one (ps_expr (pe_bm PySem.F.plainAttrs_list PySem.F.slot_list_append PySem.F.type_list_append mt_append (pv 6) (pa_cons (pe_tup (pa_cons (pe_ix (i_ix (K := K)) (pv 7) pe_int (fun _ _ => rfl)) (pa_cons (pe_ix (i_ix (K := K)) (pv 7) pe_int (fun _ _ => rfl)) (pa_cons (pe_ix (i_ix (K := K)) (pe_dget (hu_of hr) (pv 2) (pv 7) (fun _ _ => rfl)) pe_int (fun _ _ => rfl)) (pa_cons (pv 8) (pa_cons (pe_ix (i_ix (K := K)) (pe_dget (hu_of hr) (pv 2) (pv 7) (fun _ _ => rfl)) pe_int (fun _ _ => rfl)) (pa_cons (pv 9) pa_nil))))))) pa_nil)))) pss_nil))))
      (pss_one (ps_ret (pe_tup (pa_cons (pv 4) (pa_cons (pv 5) (pa_cons (pv 6) pa_nil)))))))))))), ?_⟩
    walk_at "go"
    refine ⟨A1, z1, l1, rfl, h1, s1, d1, fun D1 kv1 H1 e1 n1 k1 => ?_⟩
    walk_at "go"
    refine ⟨A2, z2, l2, rfl, h2.ex e1, s2, d2, fun D2 kv2 H2 e2 n2 k2 => ?_⟩
    have e02 := e1.trans e2
    have a1 := (h1.ex e02).at_
    have a2 := (h2.ex e02).at_
    walk_at "go"
    have zl1 : z1.length = l1.length := by rw [← h1.eq, List.length_map]
    have zl2 : z2.length = l2.length := by rw [← h2.eq, List.length_map]
    have k12 := k1.ex e2
    have t1 := (h1.ex e02).t3
    have t2 := (h2.ex e02).t3
    refine lc_pure (rv_list _ A2 z2 z3V) (fun H' e => lst_of (e.get a2)) (by rw [zl2]; omega) (fun z => !inS l1 z.2.2) z3V ?_ ?_
    · intro z H' hz e B A' kB kA
      have t : H' z.1 = some (.tup [.int z.2.1, .int z.2.2.1, .int z.2.2.2]) := e.get (t2 z hz)
      refine ⟨rfl, ?_⟩
      walk_at "go"
      refine st_slA (tup_of t) (nw3 _ _ _) fun S H3 nS e3 vS => ?_
      walk_at "go"
      refine st_dninB ((k12.ex (e.trans e3)).at_) (cut3 (q := z.2) vS) ?_
      rw [k12.isSome d1]
      cases hin : inS l1 z.2.2 with
      | true =>
        have hin' := hin
        unfold inS at hin
        rw [hin]
        have hA := kA (by rw [hin']; rfl) H3 e3
        walk_at "go"
        exact hA
      | false =>
        have hin' := hin
        unfold inS at hin
        rw [hin]
        have hB := kB (by rw [hin']; rfl) H3 e3
        walk_at "go"
        exact hB
    intro C G1 nC f1 vC
    have hC := RkL.filt (l := l1) (t2.ex f1) h2.eq vC
    have a1' := f1.get a1
    have t1' := t1.ex f1
    have k2' := k2.ex f1
    walk_at "go"
    refine lc_pure (rv_list _ A1 z1 z3V) (fun H' e => lst_of (e.get a1')) (by rw [zl1]; omega) (fun z => !inS l2 z.2.2) z3V ?_ ?_
    · intro z H' hz e B A' kB kA
      have t : H' z.1 = some (.tup [.int z.2.1, .int z.2.2.1, .int z.2.2.2]) := e.get (t1' z hz)
      refine ⟨rfl, ?_⟩
      walk_at "go"
      refine st_slA (tup_of t) (nw3 _ _ _) fun S H3 nS e3 vS => ?_
      walk_at "go"
      refine st_dninB ((k2'.ex (e.trans e3)).at_) (cut3 (q := z.2) vS) ?_
      rw [k2'.isSome d2]
      cases hin : inS l2 z.2.2 with
      | true =>
        have hin' := hin
        unfold inS at hin
        rw [hin]
        have hA := kA (by rw [hin']; rfl) H3 e3
        walk_at "go"
        exact hA
      | false =>
        have hin' := hin
        unfold inS at hin
        rw [hin]
        have hB := kB (by rw [hin']; rfl) H3 e3
        walk_at "go"
        exact hB
    intro W G2 nW f2 vW
    have hW := RkL.filt (l := l2) (t1'.ex f2) h1.eq vW
    walk_at "go"
    rename_i M G3 nM f3 vM
    have e23 := (f1.trans f2).trans f3
    have k13 := k12.ex e23
    have k23 := k2.ex e23
    have hC3 := hC.ex (f2.trans f3)
    have hW3 := hW.ex f3
    have e03 := e02.trans e23
    have nM0 := Ex.free (e02.trans (f1.trans f2)) nM
    have nC0 := Ex.free e02 nC
    have nW0 := Ex.free (e02.trans f1) nW
    have qM2 : M ≠ D2 := (ne_of_none ((k2.ex (f1.trans f2)).at_) nM).symm
    have q12 : D1 ≠ D2 := ne_of_none k1.at_ n2
    have q1M : D1 ≠ M := ne_of_none ((k12.ex (f1.trans f2)).at_) nM
    have qCM : C ≠ M := ne_of_none (f2.get hC.at_) nM
    have qWM : W ≠ M := ne_of_none hW.at_ nM
    have qC2 : C ≠ D2 := fun z => by
      have h := hC.at_
      rw [z, (k2.ex f1).at_] at h
      cases h
    have qW2 : W ≠ D2 := fun z => by
      have h := hW.at_
      rw [z, (k2.ex (f1.trans f2)).at_] at h
      cases h
    clear hC hW k1 k12 k2' a1 a2 a1' t1 t2 t1' vC vW nC nW
    refine ⟨D2, .dT kv2, k23.at_, trivial, fun od => ?_⟩
    obtain ⟨G0, hG0⟩ : ∃ G, G = upd G3 D2 (.frz od (.dT kv2)) := ⟨_, rfl⟩
    rw [← hG0]
    have z0 : G0 D2 = some (.frz od (.dT kv2)) := by rw [hG0, upd_same]
    have tp : ∀ {b : Addr} {ys : List V}, G3 b = some (.tup ys) → G0 b = some (.tup ys) := fun {b ys} h => by
      rw [hG0, upd_ne (fun z => by rw [z, k23.at_] at h; cases h)]
      exact h
    have g1 : G0 D1 = some (.dT kv1) := by
      rw [hG0, upd_ne q12]
      exact k13.at_
    have gM : G0 M = some (.lst []) := by
      rw [hG0, upd_ne qM2]
      exact vM
    have tM : ∀ {b : Addr} {ys : List V}, G0 b = some (.tup ys) → ¬ b = M := fun {b ys} h z => by
      rw [z, gM] at h
      cases h
    walk_at "go"
    unfold iItemsT
    walk_at "go"
    refine ⟨D2, od, kv2, rfl, z0, ?_⟩
    refine for_runs (runs_itemsT D2 od kv2) (fun i σ H' => FrP M G0 H' ∧ RwI H' M (movS l1 l2 i) ∧ ∃ a7 a8 a9 a10, σ = [some (.ref A1), some (.ref A2), some (.ref D1), some (.ref D2), some (.ref C), some (.ref W), some (.ref M), a7, a8, a9, a10]) ⟨Fr.refl _, ⟨[], gM, rfl, fun i t r h => by simp at h⟩, _, _, _, _, rfl⟩ (fun i σ H' _ h => h.1.get (fun z => qM2 z.symm) z0) ?_ ?_
    · rintro i x σ H5 H6 hi ⟨e5, ⟨ts, m1, m2, m3⟩, a7, a8, a9, a10, rfl⟩ ⟨T0, ky, v, u, hkv, rfl, nT, eT, vT, vu⟩
      have hil : i < l2.length := by rw [← k23.len]; exact hi
      obtain ⟨q, hq⟩ : ∃ q, l2[i]? = some q := ⟨_, List.getElem?_eq_getElem hil⟩
      obtain ⟨t, hkv2, ht3⟩ := k23.row i q hq
      rw [hkv] at hkv2
      cases hkv2
      have vt := eT.get (e5.get (tM (tp ht3)) (tp ht3))
      have vu6 := eT.get vu
      have g16 := eT.get (e5.get q1M g1)
      have m16 := eT.get m1
      walk_at "go"
      refine st_dinB g16 vu6 ?_
      rw [k13.isSome d1]
      have mS := movS_succ l1 l2 i
      rw [hq, Option.bind_some] at mS
      have e56 : FrP M G0 H6 := e5.trans (Fr.ex eT)
      by_cases hin : q.2 ∈ l1.map (·.2)
      rotate_left
      · rw [decide_eq_false hin]
        rw [movE_no hin] at mS
        walk_at "go"
        refine ⟨e56, ?_, _, _, _, _, rfl⟩
        rw [mS, show (none : Option (List Int)).toList = [] from rfl, List.append_nil]
        exact ⟨ts, m16, m2, fun j t r h1 h2 => eT.get (m3 j t r h1 h2)⟩
      · rw [decide_eq_true hin]
        obtain ⟨r, hr, er⟩ := List.mem_map.mp hin
        obtain ⟨i1, hi1⟩ := List.getElem?_of_mem hr
        obtain ⟨t1, hv1, ht1⟩ := k13.hit d1 hi1
        rw [er] at hv1
        have vt1 := eT.get (e5.get (tM (tp ht1)) (tp ht1))
        have mA := movE_at (j := i) d1 hi1 er
        rw [mA] at mS
        walk_at "go"
        have dg : ∀ H', Ex H6 H' → DGet H' D1 (.ref u) (some (.ref t1)) := fun H' e => by
          rw [← hv1]
          exact DGet.t (e.get g16) (e.get vu6)
        refine ⟨D1, .ref t1, rfl, dg _ (Fr.refl _), ?_⟩
        walk_at "go"
        rename_i p H7 np e7 vp
        have r1 : Rp H7 (.ref t1) (.tuple [.int r.1, .int (i1 : Nat)]) := .tup (tup_of (e7.get vt1)) (.cons (.int _) (.cons (.int _) .nil))
        have r2 : Rp H7 (.ref p) (.tuple [.int q.1, .int (i : Nat)]) := .tup (tup_of vp) (.cons (.int _) (.cons (.int _) .nil))
        refine st_neD r1 r2 (by simp [PyData.depth, PyData.depthAll]) ?_
        have ev : PyData.eqv (.tuple [.int r.1, .int (i1 : Nat)]) (.tuple [.int q.1, .int (i : Nat)]) = decide (r.1 = q.1 ∧ i1 = i) := by
          simp only [PyData.eqv, PyData.eqvAll, Bool.and_true]
          by_cases h1 : r.1 = q.1
          · by_cases h2 : i1 = i
            · subst h2
              rw [h1]
              simp
            · have : ((i1 : Nat) : Int) ≠ (i : Nat) := by omega
              simp [h2, this]
          · simp [h1]
        rw [ev]
        by_cases hs : r.1 = q.1 ∧ i1 = i
        · rw [decide_eq_true hs]
          rw [if_pos hs] at mS
          walk_at "go"
          refine ⟨e56.trans (Fr.ex e7), ?_, _, _, _, _, rfl⟩
          rw [mS, show (none : Option (List Int)).toList = [] from rfl, List.append_nil]
          exact ⟨ts, e7.get m16, m2, fun j t r h1 h2 => e7.get (eT.get (m3 j t r h1 h2))⟩
        · rw [decide_eq_false hs]
          rw [if_neg hs] at mS
          walk_at "go"
          have vt17 := e7.get vt1
          have ml : (movS l1 l2 i).length ≤ i := by
            have h := List.length_filterMap_le (fun j => (l2[j]?).bind fun q => movE l1 j q) (List.range i)
            rw [List.length_range] at h
            exact h
          refine ⟨D1, .ref t1, rfl, dg _ e7, ?_⟩
          walk_at "go"
          refine ⟨D1, .ref t1, rfl, dg _ e7, ?_⟩
          walk_at "go"
          rename_i S H8 nS e8 vS
          have e68 := e7.trans e8
          refine st_app (e68.get m16) (by rw [List.length_map]; omega) ?_
          refine ⟨(e56.trans (Fr.ex e68)).trans FrP.at, ?_, _, _, _, _, rfl⟩
          rw [mS]
          exact RwI.snoc (r := [q.2.1, q.2.2, r.1, q.1, (i1 : Int), (i : Int)]) m2 (fun j t r h1 h2 => e68.get (eT.get (m3 j t r h1 h2))) (e68.get m16) vS
    · rintro σ H5 ⟨e5, hm, a7, a8, a9, a10, rfl⟩
      rw [k23.len] at hm
      have fz := e5.get (fun z => qM2 z.symm) z0
      refine ⟨fz, ?_⟩
      have eF : FrP M G3 (upd H5 D2 (.dT kv2)) := by
        intro b o hb h
        by_cases z : b = D2
        · rw [z, upd_same]
          rw [z, k23.at_] at h
          exact h
        · rw [upd_ne z]
          refine e5 b o hb ?_
          rw [hG0, upd_ne z]
          exact h
      have hm2 : RwI (upd H5 D2 (.dT kv2)) M (movL l1 l2) := by
        obtain ⟨ts, m1, m2, m3⟩ := hm
        refine ⟨ts, (upd_ne qM2).trans m1, m2, fun i t r h1 h2 => ?_⟩
        have h := m3 i t r h1 h2
        rw [upd_ne (fun z => by rw [z, fz] at h; cases h)]
        exact h
      have eX : Ex H (upd H5 D2 (.dT kv2)) := Ex.comp (M := fun b => b = M) e03 eF fun b hb => by rw [hb]; exact nM0
      have rC : RkL (upd H5 D2 (.dT kv2)) C (z2.filter fun z => !inS l1 z.2.2) (notIn l1 l2) := ⟨eF.get qCM hC3.at_, fun z hz => eF.get (fun e => by
        have h := hC3.t3 z hz
        rw [e, vM] at h
        cases h) (hC3.t3 z hz), hC3.eq⟩
      have rW : RkL (upd H5 D2 (.dT kv2)) W (z1.filter fun z => !inS l2 z.2.2) (notIn l2 l1) := ⟨eF.get qWM hW3.at_, fun z hz => eF.get (fun e => by
        have h := hW3.t3 z hz
        rw [e, vM] at h
        cases h) (hW3.t3 z hz), hW3.eq⟩
      walk_at "go"
      rename_i t G6 nt f6 vt
      exact k t C W M _ _ G6 (eX.trans f6) (Ex.free eX nt) nC0 nW0 nM0 ⟨vt, rC.ex f6, rW.ex f6, hm2.ex f6⟩
def sp_news_of (K : PySem.W.Frag) : Sp := fun vs H Q E => ∃ (x y : V) (dx dy : PyData), vs = [x, y] ∧ Rn H x dx ∧ Rn H y dy ∧ (¬ RankD dx → RaF K E H "NoNear" [("found", x)]) ∧ (RankD dx → ¬ RankD dy → RaF K E H "NoNear" [("found", y)]) ∧
  ∀ l1 l2, dx = .list (l1.map enc3) → dy = .list (l2.map enc3) → RankL l1 → RankL l2 → ∀ t C W M zc zw H', Ex H H' → H t = none → H C = none → H W = none → H M = none → NwAt H' t C W M zc zw (notIn l1 l2) (notIn l2 l1) (movL l1 l2) → Q (.ref t) H'
theorem ok_news_of (T : Tx K mg ad fd tk) : FnOk P w K mg base (L2.CX P w) 6 (ad 7) (fd 7) ["ahead", "behind"] (sp_news_of K) := by
  refine T.d_news_of.F.okX sc_news_of (fun vs H Q E h => ?_) (fun cdv A outer s H vs Q E hr h => ?_)
  · obtain ⟨x, y, dx, dy, rfl, _⟩ := h
    rfl
  · obtain ⟨x, y, dx, dy, rfl, hx, hy, k0, k1, k⟩ := h
    refine ⟨_, (pss_cons (ps_expr (pe_call (ok_need_ranked T) (hr.mono (by decide)) rfl T.d_need_ranked.g T.d_need_ranked.F.kp T.d_need_ranked.b .nil (passes_call (takes_of rfl rfl rfl rfl) (fun _ _ _ _ h => h)) (pa_cons (pv 0) pa_nil)))
      (pss_cons (ps_expr (pe_call (ok_need_ranked T) (hr.mono (by decide)) rfl T.d_need_ranked.g T.d_need_ranked.F.kp T.d_need_ranked.b .nil (passes_call (takes_of rfl rfl rfl rfl) (fun _ _ _ _ h => h)) (pa_cons (pv 1) pa_nil)))
      (pss_one (ps_ret (pe_call (ok_difference T) (hr.mono (by decide)) rfl T.d_difference.g T.d_difference.F.kp T.d_difference.b .nil pass0 (pa_cons (pv 0) (pa_cons (pv 1) pa_nil))))))), ?_⟩
    walk_at "go"
    refine ⟨x, dx, rfl, hx, fun h => k0 h, fun hr1 H1 e1 => ?_⟩
    walk_at "go"
    refine ⟨y, dy, rfl, hy.ex e1, fun h => ?_, fun hr2 H2 e2 => ?_⟩
    · have k2 := k1 hr1 h
      intro d2 H2 hd2 e2 hv2
      exact k2 d2 H2 (Ex.free e1 hd2) (e1.trans e2) hv2
    · obtain ⟨l1, rfl, r1⟩ := hr1
      obtain ⟨l2, rfl, r2⟩ := hr2
      have e02 := e1.trans e2
      obtain ⟨A1, z1, rfl, h1⟩ := rkl_rn (hx.ex e02)
      obtain ⟨A2, z2, rfl, h2⟩ := rkl_rn (hy.ex e02)
      walk_at "go"
      refine ⟨A1, A2, z1, z2, l1, l2, rfl, h1, h2, rank_len r1, rank_len r2, r1.2.1, r2.2.1, fun t C W M zc zw H3 e3 n1 n2 n3 n4 hn => ?_⟩
      exact k l1 l2 rfl rfl r1 r2 t C W M zc zw H3 (e02.trans e3) (Ex.free e02 n1) (Ex.free e02 n2) (Ex.free e02 n3) (Ex.free e02 n4) hn
def rowsD (d : PyData) (m : Nat) : Bool := match d with
  | .list ds => ds.all fun e => wholesD e m
  | _ => false
def newsD (d : PyData) : Bool := match d with
  | .tuple [a, b, c] => rowsD a 3 && rowsD b 3 && rowsD c 6
  | _ => false
/-- no list within is too long -/
def lenOk : PyData → Prop
  | .tuple ds => ∀ e ∈ ds, ∀ es, e = .list es → es.length < 1000000
  | _ => True
def sp_are_news : Sp := fun vs H Q _ => ∃ (x : V) (d : PyData), vs = [x] ∧ Rn H x d ∧ lenOk d ∧ ∀ H', Ex H H' → Q (.bl (newsD d)) H'
theorem news_at {ds : List PyData} {i m : Nat} {d : PyData} (hl : ds.length = 3) (hd : ds[i]? = some d) (hm : [3, 3, 6][i]? = some m) (h : rowsD d m = false) : newsD (.tuple ds) = false := by
  match ds, hl with
  | [d0, d1, d2], _ =>
    unfold newsD
    simp only
    match i, hd, hm with
    | 0, hd, hm => cases hd; cases hm; rw [h]; simp
    | 1, hd, hm => cases hd; cases hm; rw [h]; simp
    | 2, hd, hm => cases hd; cases hm; rw [h]; simp
    | i + 3, hd, hm => simp at hd
theorem ok_are_news (T : Tx K mg ad fd tk) : FnOk P w K mg base CX0 3 (ad 8) (fd 8) ["thing"] sp_are_news := by
  refine T.d_are_news.F.ok sc_are_news (fun vs H Q E h => ?_) (fun cdv A outer s H vs Q E hr h => ?_)
  · obtain ⟨x, d, rfl, _⟩ := h
    rfl
  · obtain ⟨x, d, rfl, hx, hz, k⟩ := h
    refine ⟨_, (pss_cons (ps_if (PW.pt (pw_or (pt_not (pt_val (pe_callB c_is (by rfl) T.b_isinstance (by decide +kernel) (pa_cons (pv 0) (pa_cons (pe_bltn (v := .ty "tuple") rfl T.b_tuple (by decide +kernel) rfl) pa_nil))))) (pw_or1 (pt_cmpR (o_ne hr.units) (pe_callB (c_len (K := K)) (by rfl) T.b_len (by decide +kernel) (pa_cons (pv 0) pa_nil)) pe_int (nomark _))))) (pss_one (ps_ret pe_bl)) pss_nil)
      (pss_cons (ps_for PassesOwn.never rfl (RZ.pi_zipA rfl T.b_zip (pa_cons (pv 0) (pa_cons (pe_tup (pa_cons pe_int (pa_cons pe_int (pa_cons pe_int pa_nil)))) pa_nil))) (pg_tup rfl (pgs_cons (pg_name (i := 1) sc_are_news.nd rfl (Or.inl rfl)) (pgs_cons (pg_name (i := 2) sc_are_news.nd rfl (Or.inr rfl)) pgs_nil))) (pss_one (ps_if (PW.pt (pw_or (pt_not (pt_val (pe_callB c_is (by rfl) T.b_isinstance (by decide +kernel) (pa_cons (pv 1) (pa_cons (pe_bltn (v := .ty "list") rfl T.b_list (by decide +kernel) rfl) pa_nil))))) (pw_or1 (pt_not (pt_val (pe_callB (c_all rfl) (by rfl) T.b_all (by decide +kernel) (pa_cons (pe_lc (own := [("row", 3)]) (g := gName 3) rfl sc_are_news.nd (pi_list (pv 1)) (blkOk_by (own := [("row", 3)]) (N := N_are_news) (sc := defScope s_are_news) (by decide +kernel)) (fun _ _ _ _ _ => pg_name (i := 3) sc_are_news.nd rfl (Or.inl rfl)) (fun _ _ _ _ _ => pts_nil) (fun _ _ _ _ _ => (pe_call (ok_are_wholes T) (hr.mono (by decide)) rfl T.d_are_wholes.g T.d_are_wholes.F.kp T.d_are_wholes.b .nil pass0 (pa_cons (pv 3) (pa_cons (pv 2) pa_nil))))) pa_nil))))))) (pss_one (ps_ret pe_bl)) pss_nil)))
      (pss_one (ps_ret pe_bl)))), ?_⟩
    walk_at "go"
    refine st_isTupD hx.rq ?_
    refine ⟨_, rfl, ?_⟩
    by_cases hd : ∃ ds, d = .tuple ds
    rotate_left
    · refine st_T ?_ ?_
      · cases d <;> first | rfl | exact absurd ⟨_, rfl⟩ hd
      walk_at "go"
      have h := k H (Fr.refl _)
      unfold newsD at h
      cases d <;> first | exact h | exact absurd ⟨_, rfl⟩ hd
    obtain ⟨ds, rfl⟩ := hd
    obtain ⟨a, xs, rfl, h1, h2⟩ := hx.tupAt
    have hl := h2.len
    refine st_F rfl ?_
    walk_at "go"
    refine st_brn (fun c => ?_) (fun c => ?_)
    · walk_at "go"
      have h := k H (Fr.refl _)
      unfold newsD at h
      match ds, hl with
      | [a, b, c'], hl => exact absurd hl (by simp; omega)
      | [], _ => exact h
      | [_], _ => exact h
      | [_, _], _ => exact h
      | _ :: _ :: _ :: _ :: _, _ => exact h
    have hx3 : xs.length = 3 := by omega
    walk_at "go"
    unfold RZ.iZipA
    walk_at "go"
    rename_i b H1 n1 e1 v1
    refine ⟨a, b, xs, _, rfl, .inr ⟨tupAt_sq (tup_of (e1.get h1)), tupAt_sq (tup_of v1), ?_⟩⟩
    refine for_runs (runs_zipT _ a b xs _) (fun i σ H' => Ex H H' ∧ H' a = some (.tup xs) ∧ H' b = some (.tup [.int (3 : Nat), .int (3 : Nat), .int (6 : Nat)]) ∧ (∀ j d m, j < i → ds[j]? = some d → [3, 3, 6][j]? = some m → rowsD d m = true) ∧ ∃ a1 a2 a3, σ = [some (.ref a), a1, a2, a3]) ⟨e1, e1.get h1, v1, fun j d m h => absurd h (Nat.not_lt_zero _), _, _, _, rfl⟩ (fun i σ H' _ h => ⟨tup_of h.2.1, tup_of h.2.2.1⟩) ?_ ?_
    · rintro i x σ H2 H3 hi ⟨e2, p1, p2, hj, a1, a2, a3, rfl⟩ ⟨T0, v, u, rfl, nT, eT, vT, hv, hu⟩
      have hd3 : ds.length = 3 := by omega
      obtain ⟨d, hd, hvd⟩ := rnA_get h2 hv
      obtain ⟨m, hm, rfl, hm6⟩ : ∃ m : Nat, [3, 3, 6][i]? = some m ∧ u = .int (m : Nat) ∧ m ≤ 100 := by
        match i, hu with
        | 0, hu => cases hu; exact ⟨3, rfl, rfl, by omega⟩
        | 1, hu => cases hu; exact ⟨3, rfl, rfl, by omega⟩
        | 2, hu => cases hu; exact ⟨6, rfl, rfl, by omega⟩
        | i + 3, hu => simp at hu
      have e3 := e2.trans eT
      have hv3 := hvd.ex e3
      have p13 := eT.get p1
      have p23 := eT.get p2
      walk_at "go"
      refine st_isListD hv3.rq ?_
      refine ⟨_, rfl, ?_⟩
      by_cases hld : ∃ es, d = .list es
      rotate_left
      · refine st_T ?_ ?_
        · cases d <;> first | rfl | exact absurd ⟨_, rfl⟩ hld
        walk_at "go"
        have h := k H3 e3
        rw [news_at hd3 hd hm (by cases d <;> first | rfl | exact absurd ⟨_, rfl⟩ hld)] at h
        exact h
      obtain ⟨es, rfl⟩ := hld
      obtain ⟨L, ys, rfl, y1, y2⟩ := hvd.listAt
      have yl := y2.len
      have hes := hz _ (List.mem_of_getElem? hd) es rfl
      refine st_F rfl ?_
      walk_at "go"
      have y13 := e3.get y1
      refine lc_rel (runs_list _ L ys) (fun i x H H' h => by rw [h.1]; exact Fr.refl _) (fun H' e => lst_of (e.get y13)) (by omega) (fun j v => ∃ e, es[j]? = some e ∧ v = .bl (wholesD e m)) ?_ ?_
      · rintro j x H4 H5 hj4 e4 ⟨rfl, hx4⟩ B hB
        obtain ⟨e, he, hxe⟩ := rnA_get y2 hx4
        refine ⟨rfl, ?_⟩
        walk_at "go"
        refine ⟨x, m, e, rfl, hxe.ex (e3.trans e4), hm6, fun H6 e6 => ?_⟩
        exact hB _ _ ⟨e, he, rfl⟩ e6
      intro C H4 acc nC e4 vC hlen hacc
      have ea : acc = (es.map fun e => wholesD e m).map V.bl := by
        refine List.ext_getElem? fun j => ?_
        rw [List.getElem?_map, List.getElem?_map]
        by_cases hj5 : j < es.length
        · have h1 := List.getElem?_eq_getElem (l := acc) (i := j) (by omega)
          obtain ⟨e, q1, q2⟩ := hacc j _ h1
          rw [h1, q1, q2]
          rfl
        · rw [List.getElem?_eq_none (by omega), List.getElem?_eq_none (l := es) (by omega)]
          rfl
      walk_at "go"
      refine st_all vC ea ?_
      have er : ((es.map fun e => wholesD e m).all id) = rowsD (.list es) m := by
        rw [List.all_map]
        rfl
      rw [er]
      cases hrw : rowsD (.list es) m with
      | false =>
        walk_at "go"
        have h := k H4 (e3.trans e4)
        rw [news_at hd3 hd hm hrw] at h
        exact h
      | true =>
        walk_at "go"
        refine ⟨e3.trans e4, e4.get p13, e4.get p23, fun j d' m' hj6 h1' h2' => ?_, _, _, _, rfl⟩
        by_cases hji : j < i
        · exact hj j d' m' hji h1' h2'
        · have : j = i := by omega
          subst this
          rw [hd] at h1'
          rw [hm] at h2'
          cases h1'
          cases h2'
          exact hrw
    · rintro σ H2 ⟨e2, p1, p2, hj, a1, a2, a3, rfl⟩
      walk_at "go"
      have h := k H2 e2
      have hd3 : ds.length = 3 := by omega
      match ds, hd3 with
      | [d0, d1, d2], _ =>
        have q0 := hj 0 d0 3 (by simp [hx3]) rfl rfl
        have q1 := hj 1 d1 3 (by simp [hx3]) rfl rfl
        have q2 := hj 2 d2 6 (by simp [hx3]) rfl rfl
        unfold newsD at h
        simp only [q0, q1, q2, Bool.and_true] at h
        exact h
/-- a dict of costs by stretches, in the order in which they came -/
def enC (e : Q3) : List L2.Key × V := (kS e.2, .int e.1)
def putQ (es : List Q3) (q : Q3) : List Q3 := if q.2 ∈ es.map (·.2) then es.map (fun e => if e.2 = q.2 then q else e) else es ++ [q]
theorem putK_enC (es : List Q3) (q : Q3) : putK (es.map enC) (kS q.2) (.int q.1) = (putQ es q).map enC := by
  have ha : ((es.map enC).any fun kv => decide (kv.1 = kS q.2)) = decide (q.2 ∈ es.map (·.2)) := by
    rw [List.any_map]
    by_cases h : q.2 ∈ es.map (·.2)
    · rw [decide_eq_true h, List.any_eq_true]
      obtain ⟨e, he, h2⟩ := List.mem_map.mp h
      exact ⟨e, he, decide_eq_true (congrArg kS h2)⟩
    · rw [decide_eq_false h, List.any_eq_false]
      intro e he h2
      exact h (List.mem_map.mpr ⟨e, he, kS_inj (of_decide_eq_true h2)⟩)
  unfold putK putQ
  rw [ha]
  by_cases h : q.2 ∈ es.map (·.2)
  · rw [decide_eq_true h, if_pos rfl, if_pos h, List.map_map, List.map_map]
    refine List.map_congr_left fun e _ => ?_
    show (if kS e.2 = kS q.2 then (kS e.2, V.int q.1) else (kS e.2, V.int e.1)) = enC (if e.2 = q.2 then q else e)
    by_cases e2 : e.2 = q.2
    · rw [if_pos (congrArg kS e2), if_pos e2, e2]
      rfl
    · rw [if_neg (fun z => e2 (kS_inj z)), if_neg e2]
      rfl
  · rw [decide_eq_false h, if_neg (by decide), if_neg h, List.map_append]
    rfl
theorem putQ_spans (es : List Q3) (q : Q3) : (putQ es q).map (·.2) = if q.2 ∈ es.map (·.2) then es.map (·.2) else es.map (·.2) ++ [q.2] := by
  unfold putQ
  by_cases h : q.2 ∈ es.map (·.2)
  · rw [if_pos h, if_pos h, List.map_map]
    refine List.map_congr_left fun e _ => ?_
    show (if e.2 = q.2 then q else e).2 = e.2
    by_cases e2 : e.2 = q.2
    · rw [if_pos e2, e2]
    · rw [if_neg e2]
  · rw [if_neg h, if_neg h, List.map_append]
    rfl
theorem putQ_nd {es : List Q3} {q : Q3} (h : (es.map (·.2)).Nodup) : ((putQ es q).map (·.2)).Nodup := by
  rw [putQ_spans]
  by_cases hm : q.2 ∈ es.map (·.2)
  · rw [if_pos hm]; exact h
  · rw [if_neg hm, List.nodup_append]
    refine ⟨h, by simp, fun a ha b hb e => ?_⟩
    rw [List.mem_singleton] at hb
    exact hm (by rw [← hb, ← e]; exact ha)
theorem putQ_mem {es : List Q3} {q e : Q3} (h : e ∈ putQ es q) : e = q ∨ e ∈ es := by
  unfold putQ at h
  split at h
  · obtain ⟨x, hx, rfl⟩ := List.mem_map.mp h
    split
    · exact .inl rfl
    · exact .inr hx
  · rcases List.mem_append.mp h with h | h
    · exact .inr h
    · exact .inl (List.mem_singleton.mp h)
theorem putQ_len (es : List Q3) (q : Q3) : (putQ es q).length ≤ es.length + 1 := by
  unfold putQ
  split
  · rw [List.length_map]; omega
  · rw [List.length_append]; exact Nat.le_refl _
theorem valV_enC {es : List Q3} {i : Nat} {e : Q3} (nd : (es.map (·.2)).Nodup) (hi : es[i]? = some e) : valV (es.map enC) (kS e.2) = some (.int e.1) := by
  refine valV_at (i := i) (by rw [List.getElem?_map, hi]; rfl) fun j w hj hw ew => ?_
  rw [List.getElem?_map] at hw
  obtain ⟨x, hx, rfl⟩ := Option.map_eq_some_iff.mp hw
  have h3 : x.2 = e.2 := kS_inj ew
  have := (List.getElem?_eq_some_iff.mp hi).1
  have e1 : (es.map (·.2))[j]? = (es.map (·.2))[i]? := by
    rw [List.getElem?_map, List.getElem?_map, hx, hi]
    exact congrArg some h3
  have := (List.getElem?_inj (by rw [List.length_map]; omega) nd).mp e1
  omega
theorem rank_sorted {es l : List Q3} (hp : l.Perm es) (hs : l.Pairwise lexI3) (nd : (es.map (·.2)).Nodup) (ht : ∀ e ∈ es, ToldQ e) : RankL l := ⟨hs, (hp.map (·.2)).symm.nodup nd, fun q hq => ht q (hp.mem_iff.mp hq)⟩
/-! the list that comes of a list by news -/
def dropQ (es : List Q3) (p : Int × Int) : List Q3 := es.filter fun e => !decide (e.2 = p)
theorem putQ_iff {es : List Q3} {q e : Q3} : e ∈ putQ es q ↔ e = q ∨ (e ∈ es ∧ e.2 ≠ q.2) := by
  unfold putQ
  by_cases h : q.2 ∈ es.map (·.2)
  · rw [if_pos h]
    obtain ⟨x, hx, ex⟩ := List.mem_map.mp h
    constructor
    · intro he
      obtain ⟨y, hy, rfl⟩ := List.mem_map.mp he
      by_cases c : y.2 = q.2
      · rw [if_pos c]; exact .inl rfl
      · rw [if_neg c]; exact .inr ⟨hy, c⟩
    · rintro (rfl | ⟨he, c⟩)
      · exact List.mem_map.mpr ⟨x, hx, by rw [if_pos ex]⟩
      · exact List.mem_map.mpr ⟨e, he, by rw [if_neg c]⟩
  · rw [if_neg h]
    constructor
    · intro he
      rcases List.mem_append.mp he with he | he
      · exact .inr ⟨he, fun z => h (List.mem_map.mpr ⟨e, he, z⟩)⟩
      · exact .inl (List.mem_singleton.mp he)
    · rintro (rfl | ⟨he, c⟩)
      · exact List.mem_append_right _ (List.mem_singleton.mpr rfl)
      · exact List.mem_append_left _ he
theorem dropQ_iff {es : List Q3} {p : Int × Int} {e : Q3} : e ∈ dropQ es p ↔ e ∈ es ∧ e.2 ≠ p := by
  unfold dropQ
  rw [List.mem_filter]
  by_cases h : e.2 = p
  · simp [h]
  · simp [h]
theorem dropQ_nd {es : List Q3} {p : Int × Int} (h : (es.map (·.2)).Nodup) : ((dropQ es p).map (·.2)).Nodup := h.sublist (List.filter_sublist.map _)
theorem dropQ_len (es : List Q3) (p : Int × Int) : (dropQ es p).length ≤ es.length := List.length_filter_le _ _
theorem puts_iff {e : Q3} : ∀ {c es : List Q3}, (c.map (·.2)).Nodup → (e ∈ c.foldl putQ es ↔ e ∈ c ∨ (e ∈ es ∧ e.2 ∉ c.map (·.2)))
  | [], es, _ => by simp
  | q :: c, es, h => by
    rw [List.map_cons, List.nodup_cons] at h
    rw [List.foldl_cons, puts_iff h.2, putQ_iff, List.map_cons, List.mem_cons, List.mem_cons]
    constructor
    · rintro (h1 | ⟨rfl | ⟨h1, h2⟩, h3⟩)
      · exact .inl (.inr h1)
      · exact .inl (.inl rfl)
      · exact .inr ⟨h1, fun z => z.elim h2 h3⟩
    · rintro ((rfl | h1) | ⟨h1, h2⟩)
      · exact .inr ⟨.inl rfl, h.1⟩
      · exact .inl h1
      · exact .inr ⟨.inr ⟨h1, fun z => h2 (.inl z)⟩, fun z => h2 (.inr z)⟩
theorem drops_iff {e : Q3} : ∀ {w es : List Q3}, (e ∈ w.foldl (fun es q => dropQ es q.2) es ↔ e ∈ es ∧ e.2 ∉ w.map (·.2))
  | [], es => by simp
  | q :: w, es => by
    rw [List.foldl_cons, drops_iff, dropQ_iff, List.map_cons, List.mem_cons]
    constructor
    · rintro ⟨⟨h1, h2⟩, h3⟩
      exact ⟨h1, fun z => z.elim h2 h3⟩
    · rintro ⟨h1, h2⟩
      exact ⟨⟨h1, fun z => h2 (.inl z)⟩, fun z => h2 (.inr z)⟩
theorem puts_nd : ∀ {c es : List Q3}, (es.map (·.2)).Nodup → ((c.foldl putQ es).map (·.2)).Nodup
  | [], _, h => h
  | _ :: c, _, h => puts_nd (c := c) (putQ_nd h)
theorem drops_nd : ∀ {w es : List Q3}, (es.map (·.2)).Nodup → ((w.foldl (fun es q => dropQ es q.2) es).map (·.2)).Nodup
  | [], _, h => h
  | _ :: w, _, h => drops_nd (w := w) (dropQ_nd h)
theorem puts_len : ∀ (c es : List Q3), (c.foldl putQ es).length ≤ es.length + c.length
  | [], _ => Nat.le_refl _
  | q :: c, es => by
    rw [List.foldl_cons, List.length_cons]
    have := puts_len c (putQ es q)
    have := putQ_len es q
    omega
theorem drops_len : ∀ (w es : List Q3), (w.foldl (fun es q => dropQ es q.2) es).length ≤ es.length
  | [], _ => Nat.le_refl _
  | q :: w, es => by
    rw [List.foldl_cons]
    have := drops_len w (dropQ es q.2)
    have := dropQ_len es q.2
    omega
/-- a moved row as a row with its new cost -/
def mv3 (r : List Int) : Q3 := ((r[3]?).getD 0, (r[0]?).getD 0, (r[1]?).getD 0)
def ledQ (l c w : List Q3) (m : List (List Int)) : List Q3 := c.foldl putQ ((m.map mv3).foldl putQ (w.foldl (fun es q => dropQ es q.2) (l.foldl putQ [])))
theorem ledQ_nd (l c w : List Q3) (m : List (List Int)) : ((ledQ l c w m).map (·.2)).Nodup := puts_nd (puts_nd (drops_nd (puts_nd List.nodup_nil)))
theorem ledQ_len (l c w : List Q3) (m : List (List Int)) : (ledQ l c w m).length ≤ l.length + m.length + c.length := by
  unfold ledQ
  have h1 := puts_len c ((m.map mv3).foldl putQ (w.foldl (fun es q => dropQ es q.2) (l.foldl putQ [])))
  have h2 := puts_len (m.map mv3) (w.foldl (fun es q => dropQ es q.2) (l.foldl putQ []))
  have h3 := drops_len w (l.foldl putQ [])
  have h4 := puts_len l []
  rw [List.length_map] at h2
  rw [List.length_nil] at h4
  omega
theorem span_eq {l : List Q3} (nd : (l.map (·.2)).Nodup) {a b : Q3} (ha : a ∈ l) (hb : b ∈ l) (e : a.2 = b.2) : a = b := by
  obtain ⟨i, hi⟩ := List.getElem?_of_mem ha
  obtain ⟨j, hj⟩ := List.getElem?_of_mem hb
  have hl := (List.getElem?_eq_some_iff.mp hi).1
  have e1 : (l.map (·.2))[i]? = (l.map (·.2))[j]? := by
    rw [List.getElem?_map, List.getElem?_map, hi, hj]
    exact congrArg some e
  have := (List.getElem?_inj (by rw [List.length_map]; omega) nd).mp e1
  rw [this, hj] at hi
  exact (Option.some.inj hi).symm
/-- what of the second has moved -/
def movQ (l m : List Q3) : List Q3 := (List.range m.length).filterMap fun j => (m[j]?).bind fun q => (movE l j q).map fun _ => q
theorem movE_mv {l : List Q3} {q : Q3} {j : Nat} {r : List Int} (h : movE l j q = some r) : mv3 r = q := by
  unfold movE at h
  cases hf : l.findIdx? (fun r => decide (r.2 = q.2)) with
  | none => rw [hf] at h; cases h
  | some i =>
    rw [hf, Option.bind_some] at h
    cases hl : l[i]? with
    | none => rw [hl] at h; cases h
    | some x =>
      rw [hl, Option.bind_some] at h
      split at h
      · cases h
      · cases h
        rfl
theorem mov_map (l m : List Q3) : (movL l m).map mv3 = movQ l m := by
  unfold movL movS movQ
  rw [List.map_filterMap]
  congr 1
  funext j
  cases hj : m[j]? with
  | none => rfl
  | some q =>
    simp only [Option.bind_some]
    cases he : movE l j q with
    | none => rfl
    | some r => exact congrArg some (movE_mv he)
theorem movQ_mem {l m : List Q3} {q : Q3} : q ∈ movQ l m ↔ ∃ j r, m[j]? = some q ∧ movE l j q = some r := by
  unfold movQ
  rw [List.mem_filterMap]
  constructor
  · rintro ⟨j, hj, h⟩
    cases hm : m[j]? with
    | none => rw [hm] at h; cases h
    | some x =>
      rw [hm, Option.bind_some] at h
      cases he : movE l j x with
      | none => rw [he] at h; cases h
      | some r =>
        rw [he] at h
        cases h
        exact ⟨j, r, hm, he⟩
  · rintro ⟨j, r, hj, h⟩
    refine ⟨j, List.mem_range.mpr (List.getElem?_eq_some_iff.mp hj).1, ?_⟩
    rw [hj, Option.bind_some, h]
    rfl
theorem movQ_sub (l : List Q3) : ∀ (m : List Q3) (n : Nat), n ≤ m.length → ((List.range n).filterMap fun j => (m[j]?).bind fun q => (movE l j q).map fun _ => q).Sublist (m.take n)
  | m, 0, _ => by simp
  | m, n + 1, h => by
    rw [List.range_succ, List.filterMap_append, List.take_add_one]
    refine (movQ_sub l m n (by omega)).append ?_
    rw [List.getElem?_eq_getElem (by omega)]
    simp only [List.filterMap_cons, List.filterMap_nil, List.getElem?_eq_getElem (show n < m.length by omega), Option.bind_some]
    cases he : movE l n m[n] with
    | none => simp
    | some r => simp
theorem movQ_nd {l m : List Q3} (h : (m.map (·.2)).Nodup) : ((movQ l m).map (·.2)).Nodup := by
  have := movQ_sub l m m.length (Nat.le_refl _)
  rw [List.take_length] at this
  exact h.sublist (this.map _)
theorem notIn_mem {l m : List Q3} {q : Q3} : q ∈ notIn l m ↔ q ∈ m ∧ q.2 ∉ l.map (·.2) := by
  unfold notIn inS
  rw [List.mem_filter]
  by_cases h : q.2 ∈ l.map (·.2) <;> simp only [h, decide_true, decide_false] <;> simp
theorem notIn_nd {l m : List Q3} (h : (m.map (·.2)).Nodup) : ((notIn l m).map (·.2)).Nodup := h.sublist (List.filter_sublist.map _)
theorem ledQ_mem {l m : List Q3} (hl : (l.map (·.2)).Nodup) (hm : (m.map (·.2)).Nodup) (e : Q3) : e ∈ ledQ l (notIn l m) (notIn m l) (movL l m) ↔ e ∈ m := by
  unfold ledQ
  rw [puts_iff (notIn_nd hm), mov_map, puts_iff (movQ_nd hm), drops_iff, puts_iff hl, notIn_mem]
  have sp : ∀ {p : Int × Int} {k : List Q3}, p ∈ k.map (·.2) ↔ ∃ x ∈ k, x.2 = p := fun {p k} => List.mem_map
  -- a row of both that has not moved
  have stay : ∀ {a b : Q3} {j : Nat}, a ∈ l → m[j]? = some b → a.2 = b.2 → movE l j b = none → a = b := fun {a b j} ha hb e h => by
    obtain ⟨i, hi⟩ := List.getElem?_of_mem ha
    rw [movE_at hl hi e] at h
    split at h
    · rename_i c; exact Prod.ext c.1 e
    · cases h
  constructor
  · rintro (⟨h, _⟩ | ⟨h | ⟨⟨h1 | h1, h2⟩, h3⟩, h4⟩)
    · exact h
    · obtain ⟨j, r, hj, _⟩ := movQ_mem.mp h
      exact List.mem_of_getElem? hj
    · by_cases c : e.2 ∈ m.map (·.2)
      · obtain ⟨q, hq, eq⟩ := sp.mp c
        obtain ⟨j, hj⟩ := List.getElem?_of_mem hq
        cases he : movE l j q with
        | none => rw [stay h1 hj eq.symm he]; exact hq
        | some r => exact absurd (sp.mpr ⟨q, movQ_mem.mpr ⟨j, r, hj, he⟩, eq⟩) h3
      · exact absurd (sp.mpr ⟨e, notIn_mem.mpr ⟨h1, c⟩, rfl⟩) h2
    · exact absurd h1.1 (by simp)
  · intro h
    by_cases c : e.2 ∈ l.map (·.2)
    · refine .inr ⟨?_, fun z => ?_⟩
      · obtain ⟨j, hj⟩ := List.getElem?_of_mem h
        cases he : movE l j e with
        | some r => exact .inl (movQ_mem.mpr ⟨j, r, hj, he⟩)
        | none =>
          obtain ⟨a, ha, ea⟩ := sp.mp c
          refine .inr ⟨⟨.inl (by rw [← stay ha hj ea he]; exact ha), fun z => ?_⟩, fun z => ?_⟩
          · obtain ⟨q, hq, eq⟩ := sp.mp z
            exact (notIn_mem.mp hq).2 (sp.mpr ⟨e, h, eq.symm⟩)
          · obtain ⟨q, hq, eq⟩ := sp.mp z
            obtain ⟨j', r, hj', hr⟩ := movQ_mem.mp hq
            have e1 := span_eq hm (List.mem_of_getElem? hj') h eq
            subst e1
            have e2 : (m.map (·.2))[j]? = (m.map (·.2))[j']? := by
              rw [List.getElem?_map, List.getElem?_map, hj, hj']
            have := (List.getElem?_inj (by rw [List.length_map]; exact (List.getElem?_eq_some_iff.mp hj).1) hm).mp e2
            subst this
            rw [he] at hr
            cases hr
      · obtain ⟨q, hq, eq⟩ := sp.mp z
        exact (notIn_mem.mp hq).2 (by rw [eq]; exact c)
    · exact .inl ⟨h, c⟩
theorem nd_of {l : List Q3} (h : (l.map (·.2)).Nodup) : l.Nodup := by
  have := List.pairwise_map.mp h
  exact this.imp fun {a b} n e => n (by rw [e])
theorem ledQ_perm {l m : List Q3} (hl : (l.map (·.2)).Nodup) (hm : (m.map (·.2)).Nodup) : (ledQ l (notIn l m) (notIn m l) (movL l m)).Perm m :=
  (List.perm_ext_iff_of_nodup (nd_of (ledQ_nd _ _ _ _)) (nd_of hm)).mpr fun e => ledQ_mem hl hm e
theorem led_uniq {l m ys : List Q3} (hl : RankL l) (hm : RankL m) (hp : ys.Perm (ledQ l (notIn l m) (notIn m l) (movL l m))) (hs : ys.Pairwise lexI3) : ys = m :=
  sorted3_uniq hs hm.1 (hp.trans (ledQ_perm hl.2.1 hm.2.1))
theorem movL_six {l m : List Q3} : ∀ r ∈ movL l m, r.length = 6 := fun r hr => by
  unfold movL movS at hr
  obtain ⟨j, _, h⟩ := List.mem_filterMap.mp hr
  cases hj : m[j]? with
  | none => rw [hj] at h; cases h
  | some q =>
    rw [hj, Option.bind_some] at h
    unfold movE at h
    cases hf : l.findIdx? (fun r => decide (r.2 = q.2)) with
    | none => rw [hf] at h; cases h
    | some i =>
      rw [hf, Option.bind_some] at h
      cases hl : l[i]? with
      | none => rw [hl] at h; cases h
      | some x =>
        rw [hl, Option.bind_some] at h
        split at h
        · cases h
        · cases h
          rfl
theorem movL_len (l m : List Q3) : (movL l m).length ≤ m.length := by
  have h := List.length_filterMap_le (fun j => (m[j]?).bind fun q => movE l j q) (List.range m.length)
  rw [List.length_range] at h
  exact h
theorem notIn_len (l m : List Q3) : (notIn l m).length ≤ m.length := List.length_filter_le _ _
def sp_led : Sp := fun vs H Q _ => ∃ (A t C W M : Addr) (za zc zw : List ZT) (l c w : List Q3) (m : List (List Int)), vs = [.ref A, .ref t] ∧ RkL H A za l ∧ NwAt H t C W M zc zw c w m ∧ (∀ r ∈ m, r.length = 6) ∧ (l.length ≤ 10000 ∧ c.length ≤ 10000 ∧ w.length ≤ 10000 ∧ m.length ≤ 10000) ∧
  ∀ D zs ys H', Ex H H' → H D = none → RkL H' D zs ys → ys.Perm (ledQ l c w m) → ys.Pairwise lexI3 → Q (.ref D) H'
theorem dropK_enC (es : List Q3) (p : Int × Int) : dropK (es.map enC) (kS p) = (dropQ es p).map enC := by
  unfold dropK dropQ
  rw [List.filter_map]
  congr 1
  refine List.filter_congr fun e _ => ?_
  show decide (kS e.2 ≠ kS p) = !decide (e.2 = p)
  by_cases h : e.2 = p
  · rw [decide_eq_true h]
    exact decide_eq_false fun z => z (congrArg kS h)
  · rw [decide_eq_false h]
    exact decide_eq_true fun z => h (kS_inj z)
theorem valV_noC {es : List Q3} {p : Int × Int} (h : valV (es.map enC) (kS p) = none) : dropQ es p = es := by
  unfold dropQ
  rw [List.filter_eq_self]
  intro e he
  by_cases c : e.2 = p
  · exfalso
    unfold valV at h
    rw [Option.map_eq_none_iff, List.find?_eq_none] at h
    exact h (enC e) (List.mem_map.mpr ⟨e, he, rfl⟩) (decide_eq_true (congrArg kS c))
  · rw [decide_eq_false c]; rfl
theorem fold_snoc {α β : Type} (f : β → α → β) (z : β) {l : List α} {i : Nat} {x : α} (h : l[i]? = some x) : (l.take (i + 1)).foldl f z = f ((l.take i).foldl f z) x := by
  rw [List.take_add_one, h, List.foldl_append]
  rfl
theorem six_of {r : List Int} (h : r.length = 6) : ∃ a b c d e f : Int, r = [a, b, c, d, e, f] := by
  match r, h with
  | [a, b, c, d, e, f], _ => exact ⟨a, b, c, d, e, f, rfl⟩
theorem cut6 {H : Hp} {S : Addr} {a b c d e f : Int} (h : H S = some (.tup (cutV [V.int a, V.int b, V.int c, V.int d, V.int e, V.int f] none (some 2)))) : H S = some (.tup ((kS (a, b)).map kV)) := by
  rw [h, kS_kV]
  exact congrArg (fun z => some (HO.tup z)) (cutV_to [V.int a, V.int b, V.int c, V.int d, V.int e, V.int f] 2)
theorem ok_led (T : Tx K mg ad fd tk) : FnOk P w K mg base CX0 1 (ad 9) (fd 9) ["ahead", "news"] sp_led := by
  refine T.d_led.F.ok sc_led (fun vs H Q E h => ?_) (fun cdv A outer s H vs Q E hr h => ?_)
  · obtain ⟨A, t, C, W, M, za, zc, zw, l, c, w, m, rfl, _⟩ := h
    rfl
  · obtain ⟨A, t, C, W, M, za, zc, zw, l, c, w, m, rfl, hA, hn, h6, hlen, k⟩ := h
    refine ⟨_, (pss_cons (ps_asg (pv 1) (pg_tup rfl (pgs_cons (pg_name (i := 2) sc_led.nd rfl (Or.inl rfl)) (pgs_cons (pg_name (i := 3) sc_led.nd rfl (Or.inl rfl)) (pgs_cons (pg_name (i := 4) sc_led.nd rfl (Or.inl rfl)) pgs_nil)))))
      (pss_cons (ps_set (i := 5) sc_led.nd rfl (Or.inl rfl) pe_dnewT)
      (pss_cons (ps_for PassesOwn.never rfl (pi_list (pv 0)) (pg_tup rfl (pgs_cons (pg_name (i := 6) sc_led.nd rfl (Or.inl rfl)) (pgs_cons (pg_name (i := 7) sc_led.nd rfl (Or.inl rfl)) (pgs_cons (pg_name (i := 8) sc_led.nd rfl (Or.inl rfl)) pgs_nil)))) (pss_one (ps_dput (hu_of hr) (pv 5) (pe_tup (pa_cons (pv 7) (pa_cons (pv 8) pa_nil))) (pv 6) rfl)))
      (pss_cons (ps_for PassesOwn.never rfl (pi_list (pv 3)) (pg_name (i := 9) sc_led.nd rfl (Or.inl rfl)) (pss_one (ps_expr (pe_bm PySem.F.plainAttrs_dict PySem.F.slot_dict_pop PySem.F.type_dict_pop (L2.DX.mt_popT (hu_of hr)) (pv 5) (pa_cons (pe_slice (s_slA (K := K)) (pv 9) (po_some pe_int) po_none) (pa_cons pe_non pa_nil))))))
      (pss_cons (ps_for PassesOwn.never rfl (pi_list (pv 4)) (pg_name (i := 9) sc_led.nd rfl (Or.inl rfl)) (pss_one (ps_dput (hu_of hr) (pv 5) (pe_slice (s_slA (K := K)) (pv 9) po_none (po_some pe_int)) (pe_ix (i_ix (K := K)) (pv 9) pe_int (fun _ _ => rfl)) rfl)))
      (pss_cons (ps_for PassesOwn.never rfl (pi_list (pv 2)) (pg_name (i := 9) sc_led.nd rfl (Or.inl rfl)) (pss_one (ps_dput (hu_of hr) (pv 5) (pe_slice (s_slA (K := K)) (pv 9) (po_some pe_int) po_none) (pe_ix (i_ix (K := K)) (pv 9) pe_int (fun _ _ => rfl)) rfl)))
      (pss_one (ps_ret (pe_callB (c_sort3 (K := K)) (by rfl) T.b_sorted (by decide +kernel) (pa_cons (pe_lock (pe_lc (own := [("span", 10), ("cost", 6)]) (g := gTup K 2 (gCons (gName 10) (gCons (gName 6) gNil))) rfl sc_led.nd (pi_itemsT (pv 5)) (blkOk_by (own := [("span", 10), ("cost", 6)]) (N := N_led) (sc := defScope s_led) (by decide +kernel)) (fun _ _ _ _ _ => (pg_tup rfl (pgs_cons (pg_name (i := 10) sc_led.nd rfl (Or.inl rfl)) (pgs_cons (pg_name (i := 6) sc_led.nd rfl (Or.inl rfl)) pgs_nil)))) (fun _ _ _ _ _ => pts_nil) (fun _ _ _ _ _ => (pe_tup (pa_cons (pv 6) (pa_cons (pe_ix (i_ix (K := K)) (pv 10) pe_int (fun _ _ => rfl)) (pa_cons (pe_ix (i_ix (K := K)) (pv 10) pe_int (fun _ _ => rfl)) pa_nil))))))) pa_nil)))))))))), ?_⟩
    obtain ⟨hl1, hl2, hl3, hl4⟩ := hlen
    have ht := hn.at_
    walk_at "go"
    rename_i D H1 nD e1 vD
    have hA1 := (hA.ex e1).at_
    have zl : za.length = l.length := by rw [← hA.eq, List.length_map]
    walk_at "go"
    have no0 : ∀ {H' : Hp} {b : Addr} {u : HO}, Ex H H' → H b = some u → ¬ b = D := fun {H' b u} _ h z => by
      rw [z, nD] at h
      cases h
    refine for_runs (rv_list _ A za z3V) (fun i σ H' => Ex H H' ∧ H' D = some (.dT (((l.take i).foldl putQ []).map enC)) ∧ ∃ a6 a7 a8 a9 a10, σ = [some (.ref A), some (.ref t), some (.ref C), some (.ref W), some (.ref M), some (.ref D), a6, a7, a8, a9, a10]) ⟨e1, vD, _, _, _, _, _, rfl⟩ (fun i σ H' _ h => lst_of ((hA.ex h.1).at_)) ?_ ?_
    · rintro i x σ H2 H3 hi ⟨e2, vD2, a6, a7, a8, a9, a10, rfl⟩ ⟨rfl, z, hz, rfl⟩
      have hq : l[i]? = some z.2 := by rw [← hA.eq, List.getElem?_map, hz]; rfl
      have z3 : H3 z.1 = some (.tup [.int z.2.1, .int z.2.2.1, .int z.2.2.2]) := e2.get (hA.t3 z (List.mem_of_getElem? hz))
      have hb := puts_len (l.take i) []
      rw [List.length_take, List.length_nil] at hb
      walk_at "go"
      rename_i K1 H4 nK e4 vK
      refine st_dputT (k := kS z.2.2) (e4.get vD2) vK (by rw [List.length_map]; omega) ?_
      refine ⟨(e2.trans e4).mut nD, ?_, _, _, _, _, _, rfl⟩
      rw [upd_same, fold_snoc putQ [] hq]
      exact congrArg (fun z => some (HO.dT z)) (putK_enC _ z.2)
    rintro σ H2 ⟨e2, vD2, a6, a7, a8, a9, a10, rfl⟩
    rw [zl, List.take_length] at vD2
    obtain ⟨E1, hE1⟩ : ∃ E, E = l.foldl putQ [] := ⟨_, rfl⟩
    rw [← hE1] at vD2
    have hb1 : E1.length ≤ 10000 := by
      have hb := puts_len l []
      rw [← hE1, List.length_nil] at hb
      omega
    have nd1 : (E1.map (·.2)).Nodup := by rw [hE1]; exact puts_nd List.nodup_nil
    have hW := (hn.ex e2).went.at_
    have zw1 : zw.length = w.length := by rw [← hn.went.eq, List.length_map]
    clear e1 vD hA1
    walk_at "go"
    refine for_runs (rv_list _ W zw z3V) (fun i σ H' => Ex H H' ∧ H' D = some (.dT (((w.take i).foldl (fun es q => dropQ es q.2) E1).map enC)) ∧ ∃ a6 a7 a8 a9 a10, σ = [some (.ref A), some (.ref t), some (.ref C), some (.ref W), some (.ref M), some (.ref D), a6, a7, a8, a9, a10]) ⟨e2, vD2, _, _, _, _, _, rfl⟩ (fun i σ H' _ h => lst_of ((hn.ex h.1).went.at_)) ?_ ?_
    · clear e2 vD2 hW
      rintro i x σ H2 H3 hi ⟨e2, vD2, a6, a7, a8, a9, a10, rfl⟩ ⟨rfl, z, hz, rfl⟩
      have hq : w[i]? = some z.2 := by rw [← hn.went.eq, List.getElem?_map, hz]; rfl
      have z3 : H3 z.1 = some (.tup [.int z.2.1, .int z.2.2.1, .int z.2.2.2]) := e2.get (hn.went.t3 z (List.mem_of_getElem? hz))
      have hb := drops_len (w.take i) E1
      walk_at "go"
      refine ⟨.inr (.inr (.inl ⟨rfl, .inr ⟨_, vD2⟩⟩)), ?_⟩
      walk_at "go"
      unfold z3V
      refine st_slA (tup_of z3) (nw3 _ _ _) fun S H4 nS e4 vS => ?_
      have vS := cut3 (q := z.2) vS
      have vD4 := e4.get vD2
      walk_at "go"
      refine ⟨D, _, kS z.2.2, S, .non, rfl, rfl, vD4, vS, fun v hv => ?_, fun hv => ?_⟩
      · walk_at "go"
        refine ⟨(e2.trans e4).mut nD, ?_, _, _, _, _, _, rfl⟩
        rw [upd_same, fold_snoc _ _ hq]
        exact congrArg (fun z => some (HO.dT z)) (dropK_enC _ z.2.2)
      · walk_at "go"
        refine ⟨e2.trans e4, ?_, _, _, _, _, _, rfl⟩
        rw [vD4, fold_snoc _ _ hq]
        exact congrArg (fun z => some (HO.dT (z.map enC))) (valV_noC hv).symm
    clear e2 vD2 hW
    rintro σ H2 ⟨e2, vD2, a6, a7, a8, a9, a10, rfl⟩
    rw [zw1, List.take_length] at vD2
    obtain ⟨E2, hE2⟩ : ∃ E, E = w.foldl (fun es q => dropQ es q.2) E1 := ⟨_, rfl⟩
    rw [← hE2] at vD2
    have hb2 : E2.length ≤ 10000 := by
      have hb := drops_len w E1
      rw [← hE2] at hb
      omega
    have nd2 : (E2.map (·.2)).Nodup := by rw [hE2]; exact drops_nd nd1
    obtain ⟨ts, m1, m2, m3⟩ := hn.moved
    have hM := e2.get m1
    walk_at "go"
    refine for_runs (runs_list _ M (ts.map V.ref)) (fun i σ H' => Ex H H' ∧ H' D = some (.dT ((((m.take i).map mv3).foldl putQ E2).map enC)) ∧ ∃ a6 a7 a8 a9 a10, σ = [some (.ref A), some (.ref t), some (.ref C), some (.ref W), some (.ref M), some (.ref D), a6, a7, a8, a9, a10]) ⟨e2, vD2, _, _, _, _, _, rfl⟩ (fun i σ H' _ h => lst_of (h.1.get m1)) ?_ ?_
    · clear e2 vD2 hM
      rintro i x σ H2 H3 hi ⟨e2, vD2, a6, a7, a8, a9, a10, rfl⟩ ⟨rfl, hx⟩
      rw [List.getElem?_map] at hx
      obtain ⟨tr, htr, rfl⟩ := Option.map_eq_some_iff.mp hx
      rw [List.length_map] at hi
      have hr := List.getElem?_eq_getElem (l := m) (i := i) (by omega)
      obtain ⟨r0, r1, r2, r3, r4, r5, er⟩ := six_of (h6 _ (List.mem_of_getElem? hr))
      rw [er] at hr
      have v3 : H3 tr = some (.tup [.int r0, .int r1, .int r2, .int r3, .int r4, .int r5]) := e2.get (m3 i tr _ htr hr)
      have hb := puts_len ((m.take i).map mv3) E2
      rw [List.length_map, List.length_take] at hb
      walk_at "go"
      refine st_slA (tup_of v3) (fun z => absurd z.2 (show ¬ (HT.sIx 6 6 (some 2) = 6) by decide)) fun S H4 nS e4 vS => ?_
      have vS := cut6 vS
      walk_at "go"
      refine st_dputT (k := kS (r0, r1)) (e4.get vD2) vS (by rw [List.length_map]; omega) ?_
      refine ⟨(e2.trans e4).mut nD, ?_, _, _, _, _, _, rfl⟩
      have hr3 : (m.map mv3)[i]? = some (r3, r0, r1) := by rw [List.getElem?_map, hr]; rfl
      rw [upd_same, List.map_take, List.map_take, fold_snoc putQ E2 hr3]
      exact congrArg (fun z => some (HO.dT z)) (putK_enC _ (r3, r0, r1))
    clear e2 vD2 hM
    rintro σ H2 ⟨e2, vD2, a6, a7, a8, a9, a10, rfl⟩
    rw [List.length_map, m2, List.take_length] at vD2
    obtain ⟨E3, hE3⟩ : ∃ E, E = (m.map mv3).foldl putQ E2 := ⟨_, rfl⟩
    rw [← hE3] at vD2
    have hb3 : E3.length ≤ 20000 := by
      have hb := puts_len (m.map mv3) E2
      rw [← hE3, List.length_map] at hb
      omega
    have nd3 : (E3.map (·.2)).Nodup := by rw [hE3]; exact puts_nd nd2
    have hC := (hn.ex e2).came.at_
    have zc1 : zc.length = c.length := by rw [← hn.came.eq, List.length_map]
    walk_at "go"
    refine for_runs (rv_list _ C zc z3V) (fun i σ H' => Ex H H' ∧ H' D = some (.dT (((c.take i).foldl putQ E3).map enC)) ∧ ∃ a6 a7 a8 a9 a10, σ = [some (.ref A), some (.ref t), some (.ref C), some (.ref W), some (.ref M), some (.ref D), a6, a7, a8, a9, a10]) ⟨e2, vD2, _, _, _, _, _, rfl⟩ (fun i σ H' _ h => lst_of ((hn.ex h.1).came.at_)) ?_ ?_
    · clear e2 vD2 hC
      rintro i x σ H2 H3 hi ⟨e2, vD2, a6, a7, a8, a9, a10, rfl⟩ ⟨rfl, z, hz, rfl⟩
      have hq : c[i]? = some z.2 := by rw [← hn.came.eq, List.getElem?_map, hz]; rfl
      have z3 : H3 z.1 = some (.tup [.int z.2.1, .int z.2.2.1, .int z.2.2.2]) := e2.get (hn.came.t3 z (List.mem_of_getElem? hz))
      have hb := puts_len (c.take i) E3
      rw [List.length_take] at hb
      walk_at "go"
      unfold z3V
      refine st_slA (tup_of z3) (nw3 _ _ _) fun S H4 nS e4 vS => ?_
      have vS := cut3 (q := z.2) vS
      walk_at "go"
      refine st_dputT (k := kS z.2.2) (e4.get vD2) vS (by rw [List.length_map]; omega) ?_
      refine ⟨(e2.trans e4).mut nD, ?_, _, _, _, _, _, rfl⟩
      rw [upd_same, fold_snoc putQ E3 hq]
      exact congrArg (fun z => some (HO.dT z)) (putK_enC _ z.2)
    clear e2 vD2 hC
    rintro σ H6 ⟨e6, pD, a6, a7, a8, a9, a10, rfl⟩
    rw [zc1, List.take_length] at pD
    obtain ⟨es, hes⟩ : ∃ E, E = c.foldl putQ E3 := ⟨_, rfl⟩
    rw [← hes] at pD
    have hel : es.length ≤ 30000 := by
      have hb := puts_len c E3
      rw [← hes] at hb
      omega
    have nd : (es.map (·.2)).Nodup := by rw [hes]; exact puts_nd nd3
    have hled : es = ledQ l c w m := by rw [hes, hE3, hE2, hE1]; rfl
    walk_at "go"
    refine ⟨D, .dT (es.map enC), pD, trivial, fun od => ?_⟩
    obtain ⟨G0, hG0⟩ : ∃ G, G = upd H6 D (.frz od (.dT (es.map enC))) := ⟨_, rfl⟩
    rw [← hG0]
    have z0 : G0 D = some (.frz od (.dT (es.map enC))) := by rw [hG0, upd_same]
    walk_at "go"
    unfold iItemsT
    walk_at "go"
    refine ⟨D, od, es.map enC, rfl, z0, ?_⟩
    refine lc_mk (runs_itemsT D od (es.map enC)) (fun i x H H' h => by obtain ⟨_, _, _, _, _, _, _, e, _⟩ := h; exact e) (fun H' e => e.get z0) (by rw [List.length_map]; omega) (fun i o => ∃ e, es[i]? = some e ∧ o = tri3 e) ?_ ?_ gTup_mono
    · rintro i x H7 H8 hi e7 ⟨T0, ky, v, u, hkv, rfl, nT, eT, vT, hu⟩ B hB
      rw [List.getElem?_map] at hkv
      obtain ⟨e, he, hen⟩ := Option.map_eq_some_iff.mp hkv
      cases hen
      have hu8 : H8 u = some (.tup [.int e.2.1, .int e.2.2]) := eT.get hu
      walk_at "go"
      refine ⟨rfl, ?_⟩
      walk_at "go"
      rename_i S9 H9 n9 e9 v9
      exact hB S9 H9 _ n9 e9 v9 ⟨e, he, rfl⟩
    intro D2 H7 ts os nD2 e7 vD2 hos hol hR nts hnew
    rw [List.length_map] at hol
    have hz0 := e7.get z0
    refine ⟨hz0, ?_⟩
    have qDD : D2 ≠ D := (ne_of_none z0 nD2).symm
    have htl : ts.length = es.length := by rw [hos.len, hol]
    obtain ⟨zs, hzs⟩ : ∃ zs : List ZT, zs = ts.zip es := ⟨_, rfl⟩
    have hz1 : zs.map z3V = ts.map V.ref := by
      rw [hzs, show (z3V : ZT → V) = V.ref ∘ Prod.fst from rfl, ← List.map_map, List.map_fst_zip (by omega)]
    have hz2 : zs.map (·.2) = es := by rw [hzs]; exact List.map_snd_zip (by omega)
    have eX : Ex H (upd H7 D (.dT (es.map enC))) := by
      intro b o hb h
      by_cases z : b = D
      · rw [z, nD] at h
        cases h
      · rw [upd_ne z]
        refine e7 b o hb ?_
        rw [hG0, upd_ne z]
        exact e6 b o hb h
    have ht3 : T3 (upd H7 D (.dT (es.map enC))) zs := fun z hz => by
      obtain ⟨i, hi⟩ := List.getElem?_of_mem hz
      rw [hzs] at hi
      obtain ⟨i1, i2⟩ := List.getElem?_zip_eq_some.mp hi
      have h1 := List.getElem?_eq_getElem (l := os) (i := i) (by
        have := (List.getElem?_eq_some_iff.mp i2).1
        omega)
      obtain ⟨e, he, ho⟩ := hR i _ h1
      have h2 := hos.at i z.1 _ i1 h1
      rw [i2] at he
      cases he
      rw [ho] at h2
      rw [upd_ne (fun e => by rw [e, hz0] at h2; cases h2)]
      exact h2
    have v8 : (upd H7 D (.dT (es.map enC))) D2 = some (.lst (zs.map z3V)) := by rw [upd_ne qDD, vD2, hz1]
    walk_at "go"
    refine st_sort3 (lstAt_sq (lst_of v8)) ht3 fun ys q H8 hp hs nq e8 v9 => ?_
    exact k q ys _ H8 (eX.trans e8) (Ex.free eX nq) ⟨v9, (ht3.perm hp).ex e8, rfl⟩ (by rw [← hled, ← hz2]; exact hp.map _) hs
/-! news as data -/
def newsE (c w : List Q3) (m : List (List Int)) : PyData := .tuple [.list (c.map enc3), .list (w.map enc3), .list (m.map encI)]
theorem eqv_enc3 (a b : Q3) : PyData.eqv (enc3 a) (enc3 b) = decide (a = b) := by
  obtain ⟨a1, a2, a3⟩ := a
  obtain ⟨b1, b2, b3⟩ := b
  simp only [enc3, PyData.eqv, PyData.eqvAll, Bool.and_true]
  by_cases h1 : a1 = b1 <;> by_cases h2 : a2 = b2 <;> by_cases h3 : a3 = b3 <;> simp [h1, h2, h3]
theorem eqv_encI (a b : List Int) : PyData.eqv (encI a) (encI b) = decide (a = b) := by
  have h := eqv_list (enc := PyData.int) eqv_int a b
  simp only [PyData.eqv] at h
  simp only [encI, PyData.eqv]
  exact h
theorem eqv_l3 (a b : List Q3) : PyData.eqv (.list (a.map enc3)) (.list (b.map enc3)) = decide (a = b) := eqv_list eqv_enc3 a b
theorem eqv_news (c w c' w' : List Q3) (m m' : List (List Int)) : PyData.eqv (newsE c w m) (newsE c' w' m') = decide (c = c' ∧ w = w' ∧ m = m') := by
  have h1 := eqv_list eqv_enc3 c c'
  have h2 := eqv_list eqv_enc3 w w'
  have h3 := eqv_list eqv_encI m m'
  show PyData.eqvAll [.list (c.map enc3), .list (w.map enc3), .list (m.map encI)] [.list (c'.map enc3), .list (w'.map enc3), .list (m'.map encI)] = _
  simp only [PyData.eqvAll, h1, h2, h3, Bool.and_true]
  by_cases c1 : c = c' <;> by_cases c2 : w = w' <;> by_cases c3 : m = m' <;> simp [c1, c2, c3]
theorem enc3_depth (q : Q3) : (enc3 q).depth ≤ 3 := by simp [enc3, PyData.depth, PyData.depthAll]
theorem encI_depth (r : List Int) : (encI r).depth ≤ 3 := by
  have : PyData.depthAll (r.map PyData.int) ≤ 2 := depth_map fun x _ => by simp [PyData.depth]
  unfold encI
  simp only [PyData.depth]
  omega
theorem l3_depth (l : List Q3) : (PyData.list (l.map enc3)).depth ≤ 4 := by
  have : PyData.depthAll (l.map enc3) ≤ 3 := depth_map fun x _ => enc3_depth x
  simp only [PyData.depth]
  omega
theorem lI_depth (l : List (List Int)) : (PyData.list (l.map encI)).depth ≤ 4 := by
  have : PyData.depthAll (l.map encI) ≤ 3 := depth_map fun x _ => encI_depth x
  simp only [PyData.depth]
  omega
theorem news_depth (c w : List Q3) (m : List (List Int)) : (newsE c w m).depth ≤ 5 := by
  have h1 := l3_depth c
  have h2 := l3_depth w
  have h3 := lI_depth m
  have h : PyData.depthAll [.list (c.map enc3), .list (w.map enc3), .list (m.map encI)] ≤ 4 := by
    simp only [PyData.depthAll]
    omega
  unfold newsE
  rw [PyData.depth]
  omega
theorem NwAt.rn {H : Hp} {t C W M : Addr} {zc zw : List ZT} {c w : List Q3} {m : List (List Int)} (h : NwAt H t C W M zc zw c w m) : Rn H (.ref t) (newsE c w m) :=
  .tup h.at_ (.cons h.came.rn (.cons h.went.rn (.cons h.moved.rn .nil)))
theorem rn_encI {H : Hp} {x : V} {r : List Int} (h : Rn H x (encI r)) : ∃ a, x = .ref a ∧ H a = some (.tup (r.map V.int)) := by
  obtain ⟨a, xs, rfl, h1, h2⟩ := h.tupAt
  refine ⟨a, rfl, ?_⟩
  rw [h1]
  clear h1 h
  congr 2
  induction r generalizing xs with
  | nil => cases h2; rfl
  | cons i r ih =>
    cases h2 with
    | cons h k =>
      cases h
      rw [ih _ k]
      rfl
theorem rwi_rn {H : Hp} {x : V} {m : List (List Int)} (h : Rn H x (.list (m.map encI))) : ∃ M, x = .ref M ∧ RwI H M m := by
  obtain ⟨a, xs, rfl, h1, h2⟩ := h.listAt
  have : ∃ ts : List Addr, xs = ts.map V.ref ∧ ts.length = m.length ∧ ∀ (i : Nat) (t : Addr) (r : List Int), ts[i]? = some t → m[i]? = some r → H t = some (.tup (r.map V.int)) := by
    clear h h1
    induction m generalizing xs with
    | nil => cases h2; exact ⟨[], rfl, rfl, fun i t r h => by simp at h⟩
    | cons r m ih =>
      cases h2 with
      | cons h k =>
        obtain ⟨ts, rfl, hl, hk⟩ := ih _ k
        obtain ⟨b, rfl, hb⟩ := rn_encI h
        refine ⟨b :: ts, rfl, by rw [List.length_cons, List.length_cons, hl], fun i t r' ht hr => ?_⟩
        match i, ht, hr with
        | 0, ht, hr => cases ht; cases hr; exact hb
        | i + 1, ht, hr => exact hk i t r' (by simpa using ht) (by simpa using hr)
  obtain ⟨ts, rfl, hl, hk⟩ := this
  exact ⟨a, rfl, ts, h1, hl, hk⟩
theorem nw_rn {H : Hp} {x : V} {c w : List Q3} {m : List (List Int)} (h : Rn H x (newsE c w m)) : ∃ t C W M zc zw, x = .ref t ∧ NwAt H t C W M zc zw c w m := by
  obtain ⟨t, xs, rfl, h1, h2⟩ := h.tupAt
  cases h2 with
  | cons r0 r =>
    cases r with
    | cons r1 r =>
      cases r with
      | cons r2 r =>
        cases r
        obtain ⟨C, zc, rfl, hC⟩ := rkl_rn r0
        obtain ⟨W, zw, rfl, hW⟩ := rkl_rn r1
        obtain ⟨M, rfl, hM⟩ := rwi_rn r2
        exact ⟨t, C, W, M, zc, zw, rfl, h1, hC, hW, hM⟩
theorem whole_ints : ∀ {ds : List PyData}, ds.all wholeD = true → ∃ r : List Int, ds = r.map PyData.int
  | [], _ => ⟨[], rfl⟩
  | d :: ds, h => by
    rw [List.all_cons, Bool.and_eq_true] at h
    obtain ⟨r, rfl⟩ := whole_ints h.2
    cases d with
    | int i => exact ⟨i :: r, rfl⟩
    | _ => cases h.1
theorem wholes_n {d : PyData} {n : Nat} (h : wholesD d n = true) : ∃ r : List Int, d = encI r ∧ r.length = n := by
  unfold wholesD at h
  split at h
  · rename_i ds
    rw [Bool.and_eq_true] at h
    obtain ⟨r, rfl⟩ := whole_ints h.2
    exact ⟨r, rfl, by have := of_decide_eq_true h.1; rwa [List.length_map] at this⟩
  · cases h
theorem rows_3 : ∀ {ds : List PyData}, (ds.all fun e => wholesD e 3) = true → ∃ c : List Q3, ds = c.map enc3
  | [], _ => ⟨[], rfl⟩
  | d :: ds, h => by
    rw [List.all_cons, Bool.and_eq_true] at h
    obtain ⟨c, rfl⟩ := rows_3 h.2
    obtain ⟨q, rfl⟩ := wholes_3 h.1
    exact ⟨q :: c, rfl⟩
theorem rows_n {n : Nat} : ∀ {ds : List PyData}, (ds.all fun e => wholesD e n) = true → ∃ m : List (List Int), ds = m.map encI ∧ ∀ r ∈ m, r.length = n
  | [], _ => ⟨[], rfl, fun _ h => by cases h⟩
  | d :: ds, h => by
    rw [List.all_cons, Bool.and_eq_true] at h
    obtain ⟨m, rfl, hm⟩ := rows_n h.2
    obtain ⟨r, rfl, hr⟩ := wholes_n h.1
    refine ⟨r :: m, rfl, fun x hx => ?_⟩
    rcases List.mem_cons.mp hx with rfl | hx
    · exact hr
    · exact hm x hx
theorem news_shape {d : PyData} (h : newsD d = true) : ∃ c w m, d = newsE c w m ∧ ∀ r ∈ m, r.length = 6 := by
  unfold newsD at h
  split at h
  · rename_i a b c
    rw [Bool.and_eq_true, Bool.and_eq_true] at h
    obtain ⟨⟨h1, h2⟩, h3⟩ := h
    unfold rowsD at h1 h2 h3
    split at h1
    · split at h2
      · split at h3
        · obtain ⟨c, rfl⟩ := rows_3 h1
          obtain ⟨w, rfl⟩ := rows_3 h2
          obtain ⟨m, rfl, hm⟩ := rows_n h3
          exact ⟨c, w, m, rfl, hm⟩
        · cases h3
      · cases h2
    · cases h1
  · cases h
theorem news_made {c w : List Q3} {m : List (List Int)} (h : ∀ r ∈ m, r.length = 6) : newsD (newsE c w m) = true := by
  have r3 : ∀ c : List Q3, rowsD (.list (c.map enc3)) 3 = true := fun c => by
    show (c.map enc3).all (fun e => wholesD e 3) = true
    rw [List.all_map, List.all_eq_true]
    intro q _
    rfl
  have r6 : rowsD (.list (m.map encI)) 6 = true := by
    show (m.map encI).all (fun e => wholesD e 6) = true
    rw [List.all_map, List.all_eq_true]
    intro r hr
    show (decide ((r.map PyData.int).length = 6) && (r.map PyData.int).all wholeD) = true
    rw [List.length_map, h r hr, List.all_map]
    simp only [decide_true, Bool.true_and]
    rw [List.all_eq_true]
    intro i _
    rfl
  show (rowsD (.list (c.map enc3)) 3 && rowsD (.list (w.map enc3)) 3 && rowsD (.list (m.map encI)) 6) = true
  rw [r3, r3, r6]
  rfl
theorem hasD_map {α : Type} {enc : α → PyData} (h : ∀ a, (enc a).hasDict = false) : ∀ l : List α, PyData.hasDictAll (l.map enc) = false
  | [] => by simp [PyData.hasDictAll]
  | a :: l => by rw [List.map_cons, PyData.hasDictAll, h a, hasD_map h l]; rfl
theorem nd_enc3 (q : Q3) : (enc3 q).hasDict = false := by simp [enc3, PyData.hasDict, PyData.hasDictAll]
theorem nd_encI (r : List Int) : (encI r).hasDict = false := by
  unfold encI
  rw [PyData.hasDict]
  exact hasD_map (fun i => by simp [PyData.hasDict]) r
def encL (l : List Q3) : PyData := .list (l.map enc3)
theorem nd_l3 (l : List Q3) : (encL l).hasDict = false := by
  unfold encL
  rw [PyData.hasDict]
  exact hasD_map nd_enc3 l
theorem nd_ll (l : List (List Q3)) : (PyData.list (l.map encL)).hasDict = false := by
  rw [PyData.hasDict]
  exact hasD_map nd_l3 l
theorem nd_news (c w : List Q3) (m : List (List Int)) : (newsE c w m).hasDict = false := by
  have h1 := nd_l3 c
  have h2 := nd_l3 w
  have h3 : (PyData.list (m.map encI)).hasDict = false := by rw [PyData.hasDict]; exact hasD_map nd_encI m
  unfold newsE
  rw [PyData.hasDict, PyData.hasDictAll, PyData.hasDictAll, PyData.hasDictAll, PyData.hasDictAll, h3]
  unfold encL at h1 h2
  rw [h1, h2]
  rfl
theorem eqv_ll (a b : List (List Q3)) : PyData.eqv (.list (a.map encL)) (.list (b.map encL)) = decide (a = b) := eqv_list eqv_l3 a b
theorem ll_depth (l : List (List Q3)) : (PyData.list (l.map encL)).depth ≤ 5 := by
  have : PyData.depthAll (l.map encL) ≤ 4 := depth_map fun x _ => l3_depth x
  simp only [PyData.depth]
  omega
/-- == of two lists, of two news, of two lists of lists -/
theorem st_ne3 {H : Hp} {Q : VK} {A B : Addr} {z1 z2 : List ZT} {a b : List Q3} (h1 : RkL H A z1 a) (h2 : RkL H B z2 b) (h : Q (.bl (!decide (a = b))) H) : rNeU (.ref A) (.ref B) H Q :=
  st_neD (h1.rn.rp (nd_l3 a)) (h2.rn.rp (nd_l3 b)) (Nat.le_trans (Nat.min_le_left _ _) (Nat.le_trans (l3_depth _) (by omega))) (by rw [eqv_l3]; exact h)
theorem st_eq3 {H : Hp} {Q : VK} {A B : Addr} {z1 z2 : List ZT} {a b : List Q3} (h1 : RkL H A z1 a) (h2 : RkL H B z2 b) (h : Q (.bl (decide (a = b))) H) : rEqU (.ref A) (.ref B) H Q :=
  st_eqD (h1.rn.rp (nd_l3 a)) (h2.rn.rp (nd_l3 b)) (Nat.le_trans (Nat.min_le_left _ _) (Nat.le_trans (l3_depth _) (by omega))) (by rw [eqv_l3]; exact h)
theorem st_neN {H : Hp} {Q : VK} {x y : V} {c w c' w' : List Q3} {m m' : List (List Int)} (h1 : Rn H x (newsE c w m)) (h2 : Rn H y (newsE c' w' m')) (h : Q (.bl (!decide (c = c' ∧ w = w' ∧ m = m'))) H) : rNeU x y H Q :=
  st_neD (h1.rp (nd_news _ _ _)) (h2.rp (nd_news _ _ _)) (Nat.le_trans (Nat.min_le_left _ _) (Nat.le_trans (news_depth _ _ _) (by omega))) (by rw [eqv_news]; exact h)
theorem st_eqN {H : Hp} {Q : VK} {x y : V} {c w c' w' : List Q3} {m m' : List (List Int)} (h1 : Rn H x (newsE c w m)) (h2 : Rn H y (newsE c' w' m')) (h : Q (.bl (decide (c = c' ∧ w = w' ∧ m = m'))) H) : rEqU x y H Q :=
  st_eqD (h1.rp (nd_news _ _ _)) (h2.rp (nd_news _ _ _)) (Nat.le_trans (Nat.min_le_left _ _) (Nat.le_trans (news_depth _ _ _) (by omega))) (by rw [eqv_news]; exact h)
theorem rn_ll {H : Hp} {G A B : Addr} {z1 z2 : List ZT} {a b : List Q3} (hG : H G = some (.lst [.ref A, .ref B])) (h1 : RkL H A z1 a) (h2 : RkL H B z2 b) : Rn H (.ref G) (.list ([a, b].map encL)) :=
  .lst hG (.cons h1.rn (.cons h2.rn .nil))
theorem st_neLL {H : Hp} {Q : VK} {x y : V} {a b : List (List Q3)} (h1 : Rn H x (.list (a.map encL))) (h2 : Rn H y (.list (b.map encL))) (h : Q (.bl (!decide (a = b))) H) : rNeU x y H Q :=
  st_neD (h1.rp (nd_ll _)) (h2.rp (nd_ll _)) (Nat.le_trans (Nat.min_le_left _ _) (Nat.le_trans (ll_depth _) (by omega))) (by rw [eqv_ll]; exact h)
theorem RkL.upd {H : Hp} {A D : Addr} {zs : List ZT} {l : List Q3} {ys : List V} {u : HO} (h : RkL H A zs l) (hD : H D = some (.lst ys)) (n : A ≠ D) : RkL (upd H D u) A zs l := ⟨(upd_ne n).trans h.at_, h.t3.up hD, h.eq⟩
theorem RwI.upd {H : Hp} {M D : Addr} {l : List (List Int)} {ys : List V} {u : HO} (h : RwI H M l) (hD : H D = some (.lst ys)) (n : M ≠ D) : RwI (upd H D u) M l := by
  obtain ⟨ts, a, b, c⟩ := h
  refine ⟨ts, (upd_ne n).trans a, b, fun i t r h1 h2 => ?_⟩
  have h := c i t r h1 h2
  rw [upd_ne fun e => by rw [e, hD] at h; cases h]
  exact h
theorem NwAt.upd {H : Hp} {t C W M D : Addr} {zc zw : List ZT} {c w : List Q3} {m : List (List Int)} {ys : List V} {u : HO} (h : NwAt H t C W M zc zw c w m) (hD : H D = some (.lst ys)) (n1 : C ≠ D) (n2 : W ≠ D) (n3 : M ≠ D) : NwAt (upd H D u) t C W M zc zw c w m :=
  ⟨by
    have h := h.at_
    rw [upd_ne fun e => by rw [e, hD] at h; cases h]
    exact h, h.came.upd hD n1, h.went.upd hD n2, h.moved.upd hD n3⟩
/-- no list within is too long to be led by -/
def lenF : PyData → Prop
  | .tuple ds => ∀ e ∈ ds, ∀ es, e = .list es → es.length ≤ 10000
  | _ => True
def Fits (l c w : List Q3) (m : List (List Int)) (ys : List Q3) : Prop := RankL ys ∧ notIn l ys = c ∧ notIn ys l = w ∧ movL l ys = m
def sp_followed (K : PySem.W.Frag) : Sp := fun vs H Q E => ∃ (x y : V) (dx dy : PyData), vs = [x, y] ∧ Rn H x dx ∧ Rn H y dy ∧ lenF dy ∧ (¬ RankD dx → RaF K E H "NoNear" [("found", x)]) ∧ (RankD dx → newsD dy = false → RaF K E H "NoTold" [("found", y)]) ∧
  ∀ l c w m, dx = .list (l.map enc3) → RankL l → dy = newsE c w m → (∀ r ∈ m, r.length = 6) → ∀ ys, ys.Perm (ledQ l c w m) → ys.Pairwise lexI3 →
    (¬ Fits l c w m ys → RaF K E H "NoTold" [("found", y)]) ∧ (Fits l c w m ys → ∀ D zs H', Ex H H' → H D = none → RkL H' D zs ys → Q (.ref D) H')
theorem ok_followed (T : Tx K mg ad fd tk) : FnOk P w K mg base (L2.CX P w) 6 (ad 10) (fd 10) ["ahead", "news"] (sp_followed K) := by
  refine T.d_followed.F.okX sc_followed (fun vs H Q E h => ?_) (fun cdv A outer s H vs Q E hr h => ?_)
  · obtain ⟨x, y, dx, dy, rfl, _⟩ := h
    rfl
  · obtain ⟨x, y, dx, dy, rfl, hx, hy, hz, k0, k1, k⟩ := h
    refine ⟨_, (pss_cons (ps_expr (pe_call (ok_need_ranked T) (hr.mono (by decide)) rfl T.d_need_ranked.g T.d_need_ranked.F.kp T.d_need_ranked.b .nil (passes_call (takes_of rfl rfl rfl rfl) (fun _ _ _ _ h => h)) (pa_cons (pv 0) pa_nil)))
      (pss_cons (ps_if (pt_not (pt_val (pe_call (ok_are_news T) (hr.mono (by decide)) rfl T.d_are_news.g T.d_are_news.F.kp T.d_are_news.b .nil pass0 (pa_cons (pv 1) pa_nil)))) (pss_one (ps_raiseG rfl (ex_NoTold T) (hr.mono (by decide)) (takes_of rfl rfl rfl rfl) rfl (pa_cons (pv 1) pa_nil))) pss_nil)
      (pss_cons (ps_set (i := 2) sc_followed.nd rfl (Or.inl rfl) (pe_call (ok_led T) (hr.mono (by decide)) rfl T.d_led.g T.d_led.F.kp T.d_led.b .nil pass0 (pa_cons (pv 0) (pa_cons (pv 1) pa_nil))))
      (pss_cons (ps_if (PW.pt (pw_or (pt_not (pt_val (pe_call (ok_is_ranked T) (hr.mono (by decide)) rfl T.d_is_ranked.g T.d_is_ranked.F.kp T.d_is_ranked.b .nil pass0 (pa_cons (pv 2) pa_nil)))) (pw_or1 (pt_cmpR (o_ne hr.units) (pe_call (ok_difference T) (hr.mono (by decide)) rfl T.d_difference.g T.d_difference.F.kp T.d_difference.b .nil pass0 (pa_cons (pv 0) (pa_cons (pv 2) pa_nil))) (pv 1) (nomark _))))) (pss_one (ps_raiseG rfl (ex_NoTold T) (hr.mono (by decide)) (takes_of rfl rfl rfl rfl) rfl (pa_cons (pv 1) pa_nil))) pss_nil)
      (pss_one (ps_ret (pv 2))))))), ?_⟩
    walk_at "go"
    refine ⟨x, dx, rfl, hx, fun h => k0 h, fun hr1 H1 e1 => ?_⟩
    walk_at "go"
    refine ⟨y, dy, rfl, hy.ex e1, ?_, fun H2 e2 => ?_⟩
    · cases dy with
      | tuple ds => exact fun e he es ee => by have := hz e he es ee; omega
      | _ => trivial
    cases hnw : newsD dy with
    | false =>
      have k2 := (k1 hr1 hnw).ex (e1.trans e2)
      walk_at "go"
      rename_i d3 H3 hd3 e3 hv3
      exact k2 d3 H3 hd3 e3 hv3
    | true =>
      obtain ⟨l, rfl, hl⟩ := hr1
      obtain ⟨c, w, m, rfl, h6⟩ := news_shape hnw
      have e02 := e1.trans e2
      obtain ⟨A, za, rfl, hA⟩ := rkl_rn hx
      obtain ⟨t, C, W, M, zc, zw, rfl, hn⟩ := nw_rn hy
      have kk := k l c w m rfl hl rfl h6
      have lc : c.length ≤ 10000 := by have := hz _ (List.mem_cons_self) _ rfl; rwa [List.length_map] at this
      have lw : w.length ≤ 10000 := by have := hz _ (List.mem_cons_of_mem _ List.mem_cons_self) _ rfl; rwa [List.length_map] at this
      have lm : m.length ≤ 10000 := by have := hz _ (List.mem_cons_of_mem _ (List.mem_cons_of_mem _ List.mem_cons_self)) _ rfl; rwa [List.length_map] at this
      have ll := rank_len hl
      walk_at "go"
      refine ⟨A, t, C, W, M, za, zc, zw, l, c, w, m, rfl, hA.ex e02, hn.ex e02, h6, ⟨by omega, lc, lw, lm⟩, fun D zs ys H3 e3 nD hD hp hs => ?_⟩
      obtain ⟨kb, kg⟩ := kk ys hp hs
      clear kk k k0 k1
      walk_at "go"
      refine ⟨.ref D, _, rfl, hD.rn, fun b H4 e4 hb => ?_⟩
      have e04 := (e02.trans e3).trans e4
      have hrk : b = true ↔ RankL ys := hb.trans ⟨fun ⟨l', e, h⟩ => by
        injection e with e
        rw [enc3_map e]
        exact h, fun h => ⟨ys, rfl, h⟩⟩
      cases b with
      | false =>
        have k2 := (kb fun h => Bool.false_ne_true (hrk.mpr h.1)).ex e04
        walk_at "go"
        rename_i d3 H5 hd3 e5 hv3
        exact k2 d3 H5 hd3 e5 hv3
      | true =>
        have hr := hrk.mp rfl
        walk_at "go"
        refine ⟨A, D, za, zs, l, ys, rfl, hA.ex e04, hD.ex e4, ll, rank_len hr, hl.2.1, hr.2.1, fun t2 C2 W2 M2 zc2 zw2 H5 e5 _ _ _ _ hn2 => ?_⟩
        have e05 := e04.trans e5
        walk_at "go"
        refine st_neN hn2.rn (hn.ex e05).rn ?_
        by_cases hf : notIn l ys = c ∧ notIn ys l = w ∧ movL l ys = m
        · rw [decide_eq_true hf]
          walk_at "go"
          exact kg ⟨hr, hf⟩ D zs H5 e05 (Ex.free e02 nD) (hD.ex (e4.trans e5))
        · rw [decide_eq_false hf]
          have k2 := (kb fun h => hf h.2).ex e05
          walk_at "go"
          rename_i d3 H6 hd3 e6 hv3
          exact k2 d3 H6 hd3 e6 hv3
def sp__law_cell (K : PySem.W.Frag) : Sp := fun vs H Q _ => ∃ (a : Addr) (ns : List Int) (j : Int), vs = [.ref a, .int j] ∧ SqL K H a (ns.map V.int) ∧ (0 ≤ j ∧ j < 1000000) ∧ ns.length ≤ 63 ∧ ∀ z : Int, Q (.int z) H
theorem ok__law_cell (T : Tx K mg ad fd tk) : FnOk P w K mg base CX0 1 (ad 11) (fd 11) ["_law_script", "_law_k"] (sp__law_cell K) := by
  refine T.d__law_cell.F.ok sc__law_cell (fun vs H Q E h => ?_) (fun cdv A outer s H vs Q E hr h => ?_)
  · obtain ⟨a, ns, j, rfl, _⟩ := h
    rfl
  · obtain ⟨a, ns, j, rfl, hs, hj, hl, k⟩ := h
    refine ⟨_, (pss_cons (ps_if (pt_cmpR o_lt (pv 1) (pe_callB (c_len (K := K)) (by rfl) T.b_len (by decide +kernel) (pa_cons (pv 0) pa_nil)) (nomark _)) (pss_one (ps_ret (pe_ix (i_ix (K := K)) (pv 0) (pv 1) (fun _ _ => rfl)))) pss_nil)
      (pss_one (ps_ret pe_int))), ?_⟩
    walk_at "go"
    refine st_lenK hs ?_
    walk_at "go"
    refine st_br2 (fun c => ?_) (fun c => ?_)
    · walk_at "go"
      rw [List.length_map] at c
      obtain ⟨v, h2, h3⟩ := at_in (xs := ns.map V.int) hj.1 (by rw [List.length_map]; exact c)
      rw [List.getElem?_map] at h3
      cases q : ns[j.toNat]? with
      | none => rw [q] at h3; cases h3
      | some z =>
        rw [q] at h3
        cases h3
        exact st_ixK hs h2 (k z)
    · walk_at "go"
      exact k _
def sp__law_drawn : Sp := fun vs H Q _ => ∃ (c : Int) (M : Addr) (ms : List Int), vs = [.int c, .ref M] ∧ H M = some (.lst (ms.map V.int)) ∧ ms.length ≤ 2000 ∧ (∀ m ∈ ms, 0 < m ∧ m ≤ 1000000) ∧ ∀ q H' (ns : List Int), Ex H H' → H q = none → H' q = some (.lst (ns.map V.int)) → ns.length = ms.length → (∀ (j : Nat) (n m : Int), ns[j]? = some n → ms[j]? = some m → 0 ≤ n ∧ n < m) → Q (.ref q) H'
theorem ok__law_drawn (T : Tx K mg ad fd tk) : FnOk P w K mg base CX0 1 (ad 12) (fd 12) ["_law_cell_here", "_law_menus"] sp__law_drawn := by
  refine T.d__law_drawn.F.ok sc__law_drawn (fun vs H Q E h => ?_) (fun cdv A outer s H vs Q E hr h => ?_)
  · obtain ⟨c, M, ms, rfl, _⟩ := h
    rfl
  · obtain ⟨c, M, ms, rfl, hM, hl, hm, k⟩ := h
    refine ⟨_, (pss_cons (ps_set (i := 2) sc__law_drawn.nd rfl (Or.inl rfl) (pe_lst pa_nil))
      (pss_cons (ps_set (i := 3) sc__law_drawn.nd rfl (Or.inl rfl) (pv 0))
      (pss_cons (ps_set (i := 4) sc__law_drawn.nd rfl (Or.inl rfl) (pe_op o_add (pe_op o_mod (pv 0) pe_int) pe_int))
      (pss_cons (ps_for PassesOwn.never rfl (pi_range1 rfl T.b_range (pa_cons (pe_callB (c_len (K := K)) (by rfl) T.b_len (by decide +kernel) (pa_cons (pv 1) pa_nil)) pa_nil)) (pg_name (i := 5) sc__law_drawn.nd rfl (Or.inl rfl)) (pss_cons (ps_set (i := 4) sc__law_drawn.nd rfl (Or.inl rfl) (pe_op o_mod (pe_op o_add (pe_op o_add (pe_op o_mul (pv 4) (pv 4)) (pe_op o_mul pe_int (pv 4))) (pv 5)) pe_int))
      (pss_cons (ps_set (i := 4) sc__law_drawn.nd rfl (Or.inl rfl) (pe_op o_mod (pe_op o_add (pe_op o_add (pe_op o_mul (pv 4) pe_int) (pe_op o_mul pe_int (pv 5))) pe_int) pe_int))
      (pss_one (ps_if (PW.pt (pw_and (pt_cmpR o_ge (pv 0) (pe_op o_pow pe_int pe_int) (nomark _)) (pw_and1 (pt_cmpR o_gt (pv 3) pe_int (nomark _))))) (pss_cons (ps_expr (pe_bm PySem.F.plainAttrs_list PySem.F.slot_list_append PySem.F.type_list_append mt_append (pv 2) (pa_cons (pe_op o_mod (pv 3) (pe_ix (i_ix (K := K)) (pv 1) (pv 5) (fun _ _ => rfl))) pa_nil)))
      (pss_one (ps_set (i := 3) sc__law_drawn.nd rfl (Or.inl rfl) (pe_op o_div (pv 3) (pe_ix (i_ix (K := K)) (pv 1) (pv 5) (fun _ _ => rfl)))))) (pss_one (ps_expr (pe_bm PySem.F.plainAttrs_list PySem.F.slot_list_append PySem.F.type_list_append mt_append (pv 2) (pa_cons (pe_op o_mod (pe_op o_div (pv 4) pe_int) (pe_ix (i_ix (K := K)) (pv 1) (pv 5) (fun _ _ => rfl))) pa_nil)))))))))
      (pss_one (ps_ret (pv 2))))))), ?_⟩
    walk_at "go"
    rename_i F H1 n1 e1 v1
    have hM1 := e1.get hM
    have qF : M ≠ F := ne_of_none hM n1
    walk_at "go"
    rw [List.length_map, Int.toNat_natCast]
    have b0 := Int.emod_nonneg c (b := 2147483629) (by decide)
    have b1 := Int.emod_lt_of_pos c (b := 2147483629) (by decide)
    refine for_runs (runs_range 0 _) (fun i σ H' => FrP F H1 H' ∧ (∃ ns : List Int, ns.length = i ∧ H' F = some (.lst (ns.map V.int)) ∧ ∀ (j : Nat) (n m : Int), ns[j]? = some n → ms[j]? = some m → 0 ≤ n ∧ n < m) ∧ ∃ (left num : Int) (a5 : Option V), (0 ≤ num ∧ num < 4294967296) ∧ σ = [some (.int c), some (.ref M), some (.ref F), some (.int left), some (.int num), a5]) ⟨Fr.refl _, ⟨[], rfl, v1, fun j n m h => by simp at h⟩, _, _, _, ⟨by omega, by omega⟩, rfl⟩ (fun _ _ _ _ _ => trivial) ?_ ?_
    · rintro i x σ H2 H3 hi ⟨e2, ⟨ns, k1, k2, k3⟩, left, num, a5, ⟨q0, q1⟩, rfl⟩ ⟨rfl, rfl⟩
      have hM2 := e2.get qF hM1
      obtain ⟨m, hmi⟩ : ∃ m, ms[i]? = some m := ⟨_, List.getElem?_eq_getElem hi⟩
      have hmm := hm m (List.mem_of_getElem? hmi)
      rw [Int.zero_add]
      walk_at "go"
      have snoc : ∀ n, 0 ≤ n → n < m → ∀ (j : Nat) (n' m' : Int), (ns ++ [n])[j]? = some n' → ms[j]? = some m' → 0 ≤ n' ∧ n' < m' := fun n h0 h1 j n' m' hj hm' => by
        by_cases hji : j < ns.length
        · rw [List.getElem?_append_left hji] at hj
          exact k3 j n' m' hj hm'
        · rw [List.getElem?_append_right (by omega)] at hj
          have ej : j - ns.length = 0 := by
            have := (List.getElem?_eq_some_iff.mp hj).1
            rw [List.length_singleton] at this
            omega
          rw [ej] at hj
          cases hj
          rw [show j = i by omega, hmi] at hm'
          cases hm'
          exact ⟨h0, h1⟩
      have b2 := Int.emod_nonneg ((num * num + 48271 * num + (i : Int)) % 2147483647 * 69621 + 11 * (i : Int) + 5) (b := 2147483629) (by decide)
      have b3 := Int.emod_lt_of_pos ((num * num + 48271 * num + (i : Int)) % 2147483647 * 69621 + 11 * (i : Int) + 5) (b := 2147483629) (by decide)
      generalize ((num * num + 48271 * num + (i : Int)) % 2147483647 * 69621 + 11 * (i : Int) + 5) % 2147483629 = num2 at b2 b3 ⊢
      refine st_br2 (fun c1 => ?_) (fun c1 => ?_)
      · walk_at "go"
        refine st_br2 (fun c2 => ?_) (fun c2 => ?_)
        · walk_at "go"
          refine st_ixL hM2 (at_mapN hmi) ?_
          walk_at "go"
          refine st_app k2 (by rw [List.length_map]; omega) ?_
          walk_at "go"
          refine st_ixL ((upd_ne qF).trans hM2) (at_mapN hmi) ?_
          walk_at "go"
          exact ⟨e2.trans FrP.at, ⟨ns ++ [left % m], by rw [List.length_append, k1]; rfl, by rw [upd_same, List.map_append]; rfl, snoc _ (Int.emod_nonneg _ (by omega)) (Int.emod_lt_of_pos _ hmm.1)⟩, _, _, _, ⟨by omega, by omega⟩, rfl⟩
        · walk_at "go"
          refine st_ixL hM2 (at_mapN hmi) ?_
          walk_at "go"
          refine st_app k2 (by rw [List.length_map]; omega) ?_
          exact ⟨e2.trans FrP.at, ⟨ns ++ [num2 / 7 % m], by rw [List.length_append, k1]; rfl, by rw [upd_same, List.map_append]; rfl, snoc _ (Int.emod_nonneg _ (by omega)) (Int.emod_lt_of_pos _ hmm.1)⟩, _, _, _, ⟨by omega, by omega⟩, rfl⟩
      · walk_at "go"
        refine st_ixL hM2 (at_mapN hmi) ?_
        walk_at "go"
        refine st_app k2 (by rw [List.length_map]; omega) ?_
        exact ⟨e2.trans FrP.at, ⟨ns ++ [num2 / 7 % m], by rw [List.length_append, k1]; rfl, by rw [upd_same, List.map_append]; rfl, snoc _ (Int.emod_nonneg _ (by omega)) (Int.emod_lt_of_pos _ hmm.1)⟩, _, _, _, ⟨by omega, by omega⟩, rfl⟩
    · rintro σ H2 ⟨e2, ⟨ns, k1, k2, k3⟩, left, num, a5, _, rfl⟩
      walk_at "go"
      exact k F H2 ns (Ex.comp (M := fun b => b = F) e1 e2 fun b hb => by rw [hb]; exact n1) n1 k2 k1 k3
def lenT : PyData → Prop
  | .list es => es.length < 1000000 ∧ ∀ e ∈ es, ∀ ds, e = .tuple ds → ds.length < 1000000
  | _ => True
def sp__law_tuples : Sp := fun vs H Q _ => ∃ (x : V) (m : Nat) (d : PyData), vs = [x, .int (m : Nat)] ∧ Rn H x d ∧ m ≤ 100 ∧ lenT d ∧ ∀ H', Ex H H' → Q (.bl (rowsD d m)) H'
theorem ok__law_tuples (T : Tx K mg ad fd tk) : FnOk P w K mg base CX0 1 (ad 13) (fd 13) ["_law_found", "_law_size"] sp__law_tuples := by
  refine T.d__law_tuples.F.ok sc__law_tuples (fun vs H Q E h => ?_) (fun cdv A outer s H vs Q E hr h => ?_)
  · obtain ⟨x, m, d, rfl, _⟩ := h
    rfl
  · obtain ⟨x, m, d, rfl, hx, hm, hz, k⟩ := h
    refine ⟨_, (pss_cons (ps_if (pt_not (pt_val (pe_callB c_is (by rfl) T.b_isinstance (by decide +kernel) (pa_cons (pv 0) (pa_cons (pe_bltn (v := .ty "list") rfl T.b_list (by decide +kernel) rfl) pa_nil))))) (pss_one (ps_ret pe_bl)) pss_nil)
      (pss_cons (ps_for PassesOwn.never rfl (pi_list (pv 0)) (pg_name (i := 2) sc__law_tuples.nd rfl (Or.inl rfl)) (pss_cons (ps_if (PW.pt (pw_or (pt_not (pt_val (pe_callB c_is (by rfl) T.b_isinstance (by decide +kernel) (pa_cons (pv 2) (pa_cons (pe_bltn (v := .ty "tuple") rfl T.b_tuple (by decide +kernel) rfl) pa_nil))))) (pw_or1 (pt_cmpR (o_ne hr.units) (pe_callB (c_len (K := K)) (by rfl) T.b_len (by decide +kernel) (pa_cons (pv 2) pa_nil)) (pv 1) (nomark _))))) (pss_one (ps_ret pe_bl)) pss_nil)
      (pss_one (ps_if (pt_not (pt_val (pe_callB (c_all rfl) (by rfl) T.b_all (by decide +kernel) (pa_cons (pe_lc (own := [("_law_one", 3)]) (g := gName 3) rfl sc__law_tuples.nd (pi_tup (pv 2)) (blkOk_by (own := [("_law_one", 3)]) (N := N__law_tuples) (sc := defScope s__law_tuples) (by decide +kernel)) (fun _ _ _ _ _ => pg_name (i := 3) sc__law_tuples.nd rfl (Or.inl rfl)) (fun _ _ _ _ _ => pts_nil) (fun _ _ _ _ _ => (pe_and (pe_callB c_is (by rfl) T.b_isinstance (by decide +kernel) (pa_cons (pv 3) (pa_cons (pe_bltn (v := .ty "int") rfl T.b_int (by decide +kernel) rfl) pa_nil))) (pe_one (pe_not (pe_callB c_is (by rfl) T.b_isinstance (by decide +kernel) (pa_cons (pv 3) (pa_cons (pe_bltn (v := .ty "bool") rfl T.b_bool (by decide +kernel) rfl) pa_nil)))))))) pa_nil)))) (pss_one (ps_ret pe_bl)) pss_nil))))
      (pss_one (ps_ret pe_bl)))), ?_⟩
    walk_at "go"
    refine st_isListD hx.rq ?_
    refine ⟨_, rfl, ?_⟩
    by_cases hd : ∃ ds, d = .list ds
    rotate_left
    · refine st_T ?_ ?_
      · cases d <;> first | rfl | exact absurd ⟨_, rfl⟩ hd
      walk_at "go"
      have h := k H (Fr.refl _)
      unfold rowsD at h
      cases d <;> first | exact h | exact absurd ⟨_, rfl⟩ hd
    obtain ⟨es, rfl⟩ := hd
    obtain ⟨a, xs, rfl, h1, h2⟩ := hx.listAt
    have hl := h2.len
    refine st_F rfl ?_
    walk_at "go"
    have no : ∀ H' e, Ex H H' → e ∈ es → wholesD e m = false → Q (.bl false) H' := fun H' e ex he hw => by
      have h := k H' ex
      rw [show rowsD (.list es) m = false from by
        show es.all (fun e => wholesD e m) = false
        rw [List.all_eq_false]
        exact ⟨e, he, by rw [hw]; decide⟩] at h
      exact h
    refine for_runs (runs_list _ a xs) (fun i σ H' => Ex H H' ∧ (∀ j e, j < i → es[j]? = some e → wholesD e m = true) ∧ ∃ a2 a3, σ = [some (.ref a), some (.int (m : Nat)), a2, a3]) ⟨Fr.refl _, fun j e h => absurd h (Nat.not_lt_zero _), _, _, rfl⟩ (fun i σ H' _ h => lst_of (h.1.get h1)) ?_ ?_
    · rintro i x σ H2 H3 hi ⟨e2, hj, a2, a3, rfl⟩ ⟨rfl, hxi⟩
      obtain ⟨e, he, hxe⟩ := rnA_get h2 hxi
      have hem := List.mem_of_getElem? he
      have hx3 := hxe.ex e2
      walk_at "go"
      refine st_isTupD hx3.rq ?_
      refine ⟨_, rfl, ?_⟩
      by_cases hld : ∃ ts, e = .tuple ts
      rotate_left
      · refine st_T ?_ ?_
        · cases e <;> first | rfl | exact absurd ⟨_, rfl⟩ hld
        walk_at "go"
        exact no _ e e2 hem (by cases e <;> first | rfl | exact absurd ⟨_, rfl⟩ hld)
      obtain ⟨ts, rfl⟩ := hld
      obtain ⟨L, ys, rfl, y1, y2⟩ := hx3.tupAt
      have yl := y2.len
      have hts := hz.2 _ hem ts rfl
      refine st_F rfl ?_
      walk_at "go"
      refine st_brn (fun c => ?_) (fun c => ?_)
      · walk_at "go"
        refine no _ _ e2 hem ?_
        show (decide (ts.length = m) && ts.all wholeD) = false
        rw [decide_eq_false (by omega), Bool.false_and]
      walk_at "go"
      refine lc_map (val := fun x : V => x) (ys := ys) (by
        have h := rv_tup (cxOf CX0 P w K mg base N__law_tuples (Str.ofString "_law_tuples") (defScope s__law_tuples) (ad 12) cdv A outer s H E).nox.K L ys (fun x : V => x)
        rw [List.map_id'] at h
        exact h) (fun H' e => tup_of (e.get y1)) (by omega) (fun x => V.bl (isWholeV x)) ?_ ?_
      · intro y H' hy e4 B h
        refine ⟨rfl, ?_⟩
        have h' := h _ (Fr.refl _)
        obtain ⟨d2, hd2⟩ := rnA_mem y2 hy
        have hty := (hd2.ex e4).rq.ty
        walk_at "go"
        refine st_isIntT hty ?_
        walk_at "go"
        cases y with
        | int j =>
          refine st_T rfl ?_
          walk_at "go"
          exact h'
        | bl b =>
          refine st_T rfl ?_
          walk_at "go"
          exact h'
        | _ =>
          refine st_F rfl ?_
          walk_at "go"
          exact h'
      · intro D H4 nD e4 vD
        walk_at "go"
        refine st_all vD (bs := ys.map isWholeV) (by rw [List.map_map]; rfl) ?_
        have ea : ((ys.map isWholeV).all id) = ts.all wholeD := by
          rw [List.all_map, ← wholes_rnA y2]
          rfl
        rw [ea]
        cases hw : ts.all wholeD with
        | false =>
          walk_at "go"
          refine no _ _ (e2.trans e4) hem ?_
          show (decide (ts.length = m) && ts.all wholeD) = false
          rw [hw, Bool.and_false]
        | true =>
          walk_at "go"
          refine ⟨e2.trans e4, fun j e' hj6 h1' => ?_, _, _, rfl⟩
          by_cases hji : j < i
          · exact hj j e' hji h1'
          · have : j = i := by omega
            subst this
            rw [he] at h1'
            cases h1'
            show (decide (ts.length = m) && ts.all wholeD) = true
            rw [hw, decide_eq_true (by omega)]
            rfl
    · rintro σ H2 ⟨e2, hj, a2, a3, rfl⟩
      walk_at "go"
      have h := k H2 e2
      rw [show rowsD (.list es) m = true from by
        show es.all (fun e => wholesD e m) = true
        rw [List.all_eq_true]
        intro e he
        obtain ⟨j, hj'⟩ := List.getElem?_of_mem he
        have := (List.getElem?_eq_some_iff.mp hj').1
        exact hj j e (by omega) hj'] at h
      exact h
/-- no list within is long -/
def okL : PyData → Prop
  | .list es => es.length ≤ 1000 ∧ ∀ e ∈ es, ∀ ds, e = .tuple ds → ds.length ≤ 1000
  | _ => True
def okN : PyData → Prop
  | .tuple ds => ∀ e ∈ ds, okL e
  | _ => True
theorem okL.t {d : PyData} (h : okL d) : lenT d := by
  cases d with
  | list es => exact ⟨by have := h.1; omega, fun e he ds ed => by have := h.2 e he ds ed; omega⟩
  | _ => trivial
theorem okN.f {d : PyData} (h : okN d) : lenF d := by
  cases d with
  | tuple ds => exact fun e he es ee => by subst ee; have := (h _ he).1; omega
  | _ => trivial
def sp__law_news_kind : Sp := fun vs H Q _ => ∃ (x : V) (d : PyData), vs = [x] ∧ Rn H x d ∧ okN d ∧ ∀ H', Ex H H' → Q (.bl (newsD d)) H'
theorem ok__law_news_kind (T : Tx K mg ad fd tk) : FnOk P w K mg base CX0 2 (ad 14) (fd 14) ["_law_found"] sp__law_news_kind := by
  refine T.d__law_news_kind.F.ok sc__law_news_kind (fun vs H Q E h => ?_) (fun cdv A outer s H vs Q E hr h => ?_)
  · obtain ⟨x, d, rfl, _⟩ := h
    rfl
  · obtain ⟨x, d, rfl, hx, hz, k⟩ := h
    refine ⟨_, (pss_cons (ps_if (PW.pt (pw_or (pt_not (pt_val (pe_callB c_is (by rfl) T.b_isinstance (by decide +kernel) (pa_cons (pv 0) (pa_cons (pe_bltn (v := .ty "tuple") rfl T.b_tuple (by decide +kernel) rfl) pa_nil))))) (pw_or1 (pt_cmpR (o_ne hr.units) (pe_callB (c_len (K := K)) (by rfl) T.b_len (by decide +kernel) (pa_cons (pv 0) pa_nil)) pe_int (nomark _))))) (pss_one (ps_ret pe_bl)) pss_nil)
      (pss_one (ps_ret (pe_and (pe_call (ok__law_tuples T) (hr.mono (by decide)) rfl T.d__law_tuples.g T.d__law_tuples.F.kp T.d__law_tuples.b .nil pass0 (pa_cons (pe_ix (i_ix (K := K)) (pv 0) pe_int (fun _ _ => rfl)) (pa_cons pe_int pa_nil))) (pe_and (pe_call (ok__law_tuples T) (hr.mono (by decide)) rfl T.d__law_tuples.g T.d__law_tuples.F.kp T.d__law_tuples.b .nil pass0 (pa_cons (pe_ix (i_ix (K := K)) (pv 0) pe_int (fun _ _ => rfl)) (pa_cons pe_int pa_nil))) (pe_one (pe_call (ok__law_tuples T) (hr.mono (by decide)) rfl T.d__law_tuples.g T.d__law_tuples.F.kp T.d__law_tuples.b .nil pass0 (pa_cons (pe_ix (i_ix (K := K)) (pv 0) pe_int (fun _ _ => rfl)) (pa_cons pe_int pa_nil))))))))), ?_⟩
    walk_at "go"
    refine st_isTupD hx.rq ?_
    refine ⟨_, rfl, ?_⟩
    by_cases hd : ∃ ds, d = .tuple ds
    rotate_left
    · refine st_T ?_ ?_
      · cases d <;> first | rfl | exact absurd ⟨_, rfl⟩ hd
      walk_at "go"
      have h := k H (Fr.refl _)
      unfold newsD at h
      cases d <;> first | exact h | exact absurd ⟨_, rfl⟩ hd
    obtain ⟨ds, rfl⟩ := hd
    obtain ⟨a, xs, rfl, h1, h2⟩ := hx.tupAt
    have hl := h2.len
    refine st_F rfl ?_
    walk_at "go"
    refine st_brn (fun c => ?_) (fun c => ?_)
    · walk_at "go"
      have h := k H (Fr.refl _)
      unfold newsD at h
      match ds, hl with
      | [a, b, c'], hl => exact absurd hl (by simp; omega)
      | [], _ => exact h
      | [_], _ => exact h
      | [_, _], _ => exact h
      | _ :: _ :: _ :: _ :: _, _ => exact h
    have hx3 : xs.length = 3 := by omega
    obtain ⟨x0, x1, x2, rfl⟩ : ∃ x0 x1 x2, xs = [x0, x1, x2] := by
      match xs, hx3 with
      | [x0, x1, x2], _ => exact ⟨x0, x1, x2, rfl⟩
    obtain ⟨d0, d1, d2, rfl⟩ : ∃ d0 d1 d2, ds = [d0, d1, d2] := by
      match ds, hl with
      | [x0, x1, x2], _ => exact ⟨x0, x1, x2, rfl⟩
    obtain ⟨g0, g1, g2⟩ : Rn H x0 d0 ∧ Rn H x1 d1 ∧ Rn H x2 d2 := by
      cases h2 with
      | cons r0 r =>
        cases r with
        | cons r1 r =>
          cases r with
          | cons r2 r => exact ⟨r0, r1, r2⟩
    have kk : ∀ H', Ex H H' → Q (.bl (rowsD d0 3 && rowsD d1 3 && rowsD d2 6)) H' := k
    walk_at "go"
    refine ⟨x0, 3, d0, rfl, g0, by omega, (hz d0 (by simp)).t, fun H1 e1 => ?_⟩
    have h11 := e1.get h1
    cases w0 : rowsD d0 3 with
    | false =>
      walk_at "go"
      have h := kk H1 e1
      rw [w0] at h
      exact h
    | true =>
      walk_at "go"
      refine ⟨x1, 3, d1, rfl, g1.ex e1, by omega, (hz d1 (by simp)).t, fun H2 e2 => ?_⟩
      have h12 := e2.get h11
      cases w1 : rowsD d1 3 with
      | false =>
        walk_at "go"
        have h := kk H2 (e1.trans e2)
        rw [w0, w1] at h
        exact h
      | true =>
        walk_at "go"
        refine ⟨x2, 6, d2, rfl, (g2.ex e1).ex e2, by omega, (hz d2 (by simp)).t, fun H3 e3 => ?_⟩
        have h := kk H3 ((e1.trans e2).trans e3)
        rw [w0, w1] at h
        walk_at "go"
        exact h
def sp__law_ranks : Sp := fun vs H Q _ => ∃ (A : Addr) (zs : List ZT) (l : List Q3), vs = [.ref A] ∧ RkL H A zs l ∧ l.length ≤ 625 ∧ (l.map (·.2)).Nodup ∧ ∀ D kvs H', Ex H H' → H D = none → RkAt H' D kvs l → Q (.ref D) H'
theorem RkAt.put {H : Hp} {D : Addr} {kvs : List (List L2.Key × V)} {l : List Q3} {i : Nat} {q : Q3} {t : Addr} (h : RkAt H D kvs (l.take i)) (nd : (l.map (·.2)).Nodup) (hli : l[i]? = some q) (ht : H t = some (.tup [.int q.1, .int (i : Nat)])) : RkAt (upd H D (.dT (putK kvs (kS q.2) (.ref t)))) D (putK kvs (kS q.2) (.ref t)) (l.take (i + 1)) := by
  have hi2 : i < l.length := (List.getElem?_eq_some_iff.mp hli).1
  have hti : (l.take i).length = i := by rw [List.length_take]; omega
  have hnm : q.2 ∉ (l.take i).map (·.2) := fun hm => by
    obtain ⟨q', hq, e⟩ := List.mem_map.mp hm
    obtain ⟨j, hj⟩ := List.getElem?_of_mem hq
    have hji : j < i := by
      have := (List.getElem?_eq_some_iff.mp hj).1
      omega
    rw [List.getElem?_take_of_lt hji] at hj
    have e1 : (l.map (·.2))[j]? = (l.map (·.2))[i]? := by
      rw [List.getElem?_map, List.getElem?_map, hj, hli]
      exact congrArg some e
    have := (List.getElem?_inj (by rw [List.length_map]; omega) nd).mp e1
    omega
  have nv := h.miss hnm
  have kl := h.len
  refine ⟨upd_same, ?_, fun j q' hj => ?_⟩
  · rw [putK_newT nv, List.length_append, kl, List.length_take, List.length_take]
    show min i l.length + 1 = min (i + 1) l.length
    omega
  · rw [putK_newT nv]
    have tD : ∀ {a : Addr} {ys : List V}, H a = some (.tup ys) → upd H D (.dT (kvs ++ [(kS q.2, .ref t)])) a = some (.tup ys) := fun {a ys} h' => by
      rw [upd_ne (fun z => by rw [z, h.at_] at h'; cases h')]
      exact h'
    by_cases hji : j < i
    · rw [List.getElem?_take_of_lt (by omega)] at hj
      obtain ⟨t', a, b⟩ := h.row j q' (by rw [List.getElem?_take_of_lt hji]; exact hj)
      refine ⟨t', ?_, tD b⟩
      rw [List.getElem?_append_left (by omega)]
      exact a
    · have hj2 : j = i := by
        have := (List.getElem?_eq_some_iff.mp hj).1
        rw [List.length_take] at this
        omega
      subst hj2
      rw [List.getElem?_take_of_lt (by omega), hli] at hj
      cases hj
      refine ⟨t, ?_, tD ht⟩
      rw [List.getElem?_append_right (by omega), kl, hti, Nat.sub_self]
      rfl
theorem ok__law_ranks (T : Tx K mg ad fd tk) : FnOk P w K mg base CX0 1 (ad 15) (fd 15) ["_law_rows"] sp__law_ranks := by
  refine T.d__law_ranks.F.ok sc__law_ranks (fun vs H Q E h => ?_) (fun cdv A outer s H vs Q E hr h => ?_)
  · obtain ⟨A, zs, l, rfl, _⟩ := h
    rfl
  · obtain ⟨A, zs, l, rfl, hA, hl, hnd, k⟩ := h
    refine ⟨_, (pss_cons (ps_set (i := 1) sc__law_ranks.nd rfl (Or.inl rfl) pe_dnewT)
      (pss_cons (ps_for PassesOwn.never rfl (pi_range1 rfl T.b_range (pa_cons (pe_callB (c_len (K := K)) (by rfl) T.b_len (by decide +kernel) (pa_cons (pv 0) pa_nil)) pa_nil)) (pg_name (i := 2) sc__law_ranks.nd rfl (Or.inl rfl)) (pss_one (ps_dput (hu_of hr) (pv 1) (pe_slice (s_slA (K := K)) (pe_ix (i_ix (K := K)) (pv 0) (pv 2) (fun _ _ => rfl)) (po_some pe_int) po_none) (pe_tup (pa_cons (pe_ix (i_ix (K := K)) (pe_ix (i_ix (K := K)) (pv 0) (pv 2) (fun _ _ => rfl)) pe_int (fun _ _ => rfl)) (pa_cons (pv 2) pa_nil))) rfl)))
      (pss_one (ps_ret (pv 1))))), ?_⟩
    walk_at "go"
    rename_i D H1 n1 e1 v1
    have hA1 := hA.ex e1
    have hA1a := hA1.at_
    have hzl : zs.length = l.length := by rw [← hA.eq, List.length_map]
    walk_at "go"
    rw [Int.toNat_natCast]
    refine for_runs (runs_range 0 _) (fun i σ H' => Ex H H' ∧ (∃ kvs, RkAt H' D kvs (l.take i)) ∧ ∃ a2, σ = [some (.ref A), some (.ref D), a2]) ⟨e1, ⟨[], v1, rfl, fun i q h => by simp at h⟩, _, rfl⟩ (fun _ _ _ _ _ => trivial) ?_ ?_
    · rintro i x σ H2 H3 hi ⟨e2, ⟨kvs, hk⟩, a2, rfl⟩ ⟨rfl, rfl⟩
      have hi2 : i < l.length := by rw [List.length_map] at hi; omega
      obtain ⟨z, hz⟩ : ∃ z, zs[i]? = some z := ⟨_, List.getElem?_eq_getElem (by omega)⟩
      have hz3 : H3 z.1 = some (.tup [.int z.2.1, .int z.2.2.1, .int z.2.2.2]) := (hA.t3.ex e2) z (List.mem_of_getElem? hz)
      have hli : l[i]? = some z.2 := by rw [← hA.eq, List.getElem?_map, hz]; rfl
      have hAa := (hA.ex e2).at_
      rw [Int.zero_add]
      walk_at "go"
      have hat : atI (zs.map z3V) (i : Int) = some (.ref z.1) := at_mapN (f := z3V) hz
      refine st_ixL hAa hat ?_
      walk_at "go"
      rename_i t H4 n4 e4 v4
      refine st_ixL (e4.get hAa) hat ?_
      walk_at "go"
      refine st_slA (tup_of (e4.get hz3)) (nw3 _ _ _) fun S H5 nS e5 vS => ?_
      have e45 := e4.trans e5
      have hk5 := hk.ex e45
      have kl := hk5.len
      rw [List.length_take] at kl
      walk_at "go"
      refine st_dputT (k := kS z.2.2) hk5.at_ (cut3 (q := z.2) vS) (by omega) ?_
      exact ⟨(e2.trans e45).mut n1, ⟨_, hk5.put hnd hli (e5.get v4)⟩, _, rfl⟩
    · rintro σ H2 ⟨e2, ⟨kvs, hk⟩, a2, rfl⟩
      walk_at "go"
      rw [List.length_map, hzl, List.take_length] at hk
      exact k D kvs H2 e2 n1 hk
def sp__law_news : Sp := fun vs H Q _ => ∃ (A1 A2 : Addr) (z1 z2 : List ZT) (l1 l2 : List Q3), vs = [.ref A1, .ref A2] ∧ RkL H A1 z1 l1 ∧ RkL H A2 z2 l2 ∧ l1.length ≤ 625 ∧ l2.length ≤ 625 ∧ (l1.map (·.2)).Nodup ∧ (l2.map (·.2)).Nodup ∧
  ∀ t C W M zc zw H', Ex H H' → H t = none → H C = none → H W = none → H M = none → NwAt H' t C W M zc zw (notIn l1 l2) (notIn l2 l1) (movL l1 l2) → Q (.ref t) H'
theorem ok__law_news (T : Tx K mg ad fd tk) : FnOk P w K mg base CX0 2 (ad 16) (fd 16) ["_law_ahead", "_law_behind"] sp__law_news := by
  refine T.d__law_news.F.ok sc__law_news (fun vs H Q E h => ?_) (fun cdv A outer s H vs Q E hr h => ?_)
  · obtain ⟨A1, A2, z1, z2, l1, l2, rfl, _⟩ := h
    rfl
  · obtain ⟨A1, A2, z1, z2, l1, l2, rfl, h1, h2, s1, s2, d1, d2, k⟩ := h
    refine ⟨_, (pss_cons (ps_set (i := 2) sc__law_news.nd rfl (Or.inr rfl) (pe_call (ok__law_ranks T) (hr.mono (by decide)) rfl T.d__law_ranks.g T.d__law_ranks.F.kp T.d__law_ranks.b .nil pass0 (pa_cons (pv 0) pa_nil)))
      (pss_cons (ps_set (i := 3) sc__law_news.nd rfl (Or.inr rfl) (pe_call (ok__law_ranks T) (hr.mono (by decide)) rfl T.d__law_ranks.g T.d__law_ranks.F.kp T.d__law_ranks.b .nil pass0 (pa_cons (pv 1) pa_nil)))
      (pss_cons (ps_setLc (i := 4) (own := [("_law_row", 7)]) (g := gName 7) rfl sc__law_news.nd rfl rfl (sw_true rfl rfl rfl (by decide +kernel)) (pi_list (pv 1)) (blkOk_by (own := [("_law_row", 7)]) (N := N__law_news) (sc := defScope s__law_news) (by decide +kernel)) (fun _ _ _ _ _ => pg_name (i := 7) sc__law_news.nd rfl (Or.inl rfl)) (fun _ _ _ _ _ => pts_one (pt_cmp (pc_dnotin (hu_of hr) (pe_slice (s_slA (K := K)) (pv 7) (po_some pe_int) po_none) (pv 2)))) (fun _ _ _ _ _ => (pv 7)))
      (pss_cons (ps_setLc (i := 5) (own := [("_law_row", 7)]) (g := gName 7) rfl sc__law_news.nd rfl rfl (sw_true rfl rfl rfl (by decide +kernel)) (pi_list (pv 0)) (blkOk_by (own := [("_law_row", 7)]) (N := N__law_news) (sc := defScope s__law_news) (by decide +kernel)) (fun _ _ _ _ _ => pg_name (i := 7) sc__law_news.nd rfl (Or.inl rfl)) (fun _ _ _ _ _ => pts_one (pt_cmp (pc_dnotin (hu_of hr) (pe_slice (s_slA (K := K)) (pv 7) (po_some pe_int) po_none) (pv 3)))) (fun _ _ _ _ _ => (pv 7)))
      (pss_cons (ps_set (i := 6) sc__law_news.nd rfl (Or.inl rfl) (pe_lst pa_nil))
      (pss_cons (ps_for PassesOwn.never rfl (pi_list (pv 1)) (pg_name (i := 7) sc__law_news.nd rfl (Or.inl rfl)) (pss_one (ps_if (pt_cmp (pc_din (hu_of hr) (pe_slice (s_slA (K := K)) (pv 7) (po_some pe_int) po_none) (pv 2))) (pss_cons (ps_asg (pe_dget (hu_of hr) (pv 2) (pe_slice (s_slA (K := K)) (pv 7) (po_some pe_int) po_none) (fun _ _ => rfl)) (pg_tup rfl (pgs_cons (pg_name (i := 8) sc__law_news.nd rfl (Or.inl rfl)) (pgs_cons (pg_name (i := 9) sc__law_news.nd rfl (Or.inl rfl)) pgs_nil))))
      (pss_one (ps_if (pt_cmpR (o_ne hr.units) (pe_tup (pa_cons (pv 8) (pa_cons (pv 9) pa_nil))) (pe_dget (hu_of hr) (pv 3) (pe_slice (s_slA (K := K)) (pv 7) (po_some pe_int) po_none) (fun _ _ => rfl)) (nomark _)) (pss_one (ps_expr (pe_bm PySem.F.plainAttrs_list PySem.F.slot_list_append PySem.F.type_list_append mt_append (pv 6) (pa_cons (pe_tup (pa_cons (pe_ix (i_ix (K := K)) (pv 7) pe_int (fun _ _ => rfl)) (pa_cons (pe_ix (i_ix (K := K)) (pv 7) pe_int (fun _ _ => rfl)) (pa_cons (pv 8) (pa_cons (pe_ix (i_ix (K := K)) (pv 7) pe_int (fun _ _ => rfl)) (pa_cons (pv 9) (pa_cons (pe_ix (i_ix (K := K)) (pe_dget (hu_of hr) (pv 3) (pe_slice (s_slA (K := K)) (pv 7) (po_some pe_int) po_none) (fun _ _ => rfl)) pe_int (fun _ _ => rfl)) pa_nil))))))) pa_nil)))) pss_nil))) pss_nil)))
      (pss_one (ps_ret (pe_tup (pa_cons (pv 4) (pa_cons (pv 5) (pa_cons (pv 6) pa_nil)))))))))))), ?_⟩
    walk_at "go"
    refine ⟨A1, z1, l1, rfl, h1, s1, d1, fun D1 kv1 H1 e1 n1 k1 => ?_⟩
    walk_at "go"
    refine ⟨A2, z2, l2, rfl, h2.ex e1, s2, d2, fun D2 kv2 H2 e2 n2 k2 => ?_⟩
    have e02 := e1.trans e2
    have a1 := (h1.ex e02).at_
    have a2 := (h2.ex e02).at_
    walk_at "go"
    have zl1 : z1.length = l1.length := by rw [← h1.eq, List.length_map]
    have zl2 : z2.length = l2.length := by rw [← h2.eq, List.length_map]
    have k12 := k1.ex e2
    have t1 := (h1.ex e02).t3
    have t2 := (h2.ex e02).t3
    refine lc_pure (rv_list _ A2 z2 z3V) (fun H' e => lst_of (e.get a2)) (by rw [zl2]; omega) (fun z => !inS l1 z.2.2) z3V ?_ ?_
    · intro z H' hz e B A' kB kA
      have t : H' z.1 = some (.tup [.int z.2.1, .int z.2.2.1, .int z.2.2.2]) := e.get (t2 z hz)
      refine ⟨rfl, ?_⟩
      walk_at "go"
      refine st_slA (tup_of t) (nw3 _ _ _) fun S H3 nS e3 vS => ?_
      walk_at "go"
      refine st_dninB ((k12.ex (e.trans e3)).at_) (cut3 (q := z.2) vS) ?_
      rw [k12.isSome d1]
      cases hin : inS l1 z.2.2 with
      | true =>
        have hin' := hin
        unfold inS at hin
        rw [hin]
        have hA := kA (by rw [hin']; rfl) H3 e3
        walk_at "go"
        exact hA
      | false =>
        have hin' := hin
        unfold inS at hin
        rw [hin]
        have hB := kB (by rw [hin']; rfl) H3 e3
        walk_at "go"
        exact hB
    intro C G1 nC f1 vC
    have hC := RkL.filt (l := l1) (t2.ex f1) h2.eq vC
    have a1' := f1.get a1
    have t1' := t1.ex f1
    have k2' := k2.ex f1
    walk_at "go"
    refine lc_pure (rv_list _ A1 z1 z3V) (fun H' e => lst_of (e.get a1')) (by rw [zl1]; omega) (fun z => !inS l2 z.2.2) z3V ?_ ?_
    · intro z H' hz e B A' kB kA
      have t : H' z.1 = some (.tup [.int z.2.1, .int z.2.2.1, .int z.2.2.2]) := e.get (t1' z hz)
      refine ⟨rfl, ?_⟩
      walk_at "go"
      refine st_slA (tup_of t) (nw3 _ _ _) fun S H3 nS e3 vS => ?_
      walk_at "go"
      refine st_dninB ((k2'.ex (e.trans e3)).at_) (cut3 (q := z.2) vS) ?_
      rw [k2'.isSome d2]
      cases hin : inS l2 z.2.2 with
      | true =>
        have hin' := hin
        unfold inS at hin
        rw [hin]
        have hA := kA (by rw [hin']; rfl) H3 e3
        walk_at "go"
        exact hA
      | false =>
        have hin' := hin
        unfold inS at hin
        rw [hin]
        have hB := kB (by rw [hin']; rfl) H3 e3
        walk_at "go"
        exact hB
    intro W G2 nW f2 vW
    have hW := RkL.filt (l := l2) (t1'.ex f2) h1.eq vW
    walk_at "go"
    rename_i M G3 nM f3 vM
    have e23 := (f1.trans f2).trans f3
    have k13 := k12.ex e23
    have k23 := k2.ex e23
    have hC3 := hC.ex (f2.trans f3)
    have hW3 := hW.ex f3
    have e03 := e02.trans e23
    have nM0 := Ex.free (e02.trans (f1.trans f2)) nM
    have nC0 := Ex.free e02 nC
    have nW0 := Ex.free (e02.trans f1) nW
    have q1M : D1 ≠ M := ne_of_none ((k12.ex (f1.trans f2)).at_) nM
    have q2M : D2 ≠ M := ne_of_none ((k2.ex (f1.trans f2)).at_) nM
    have qCM : C ≠ M := ne_of_none (f2.get hC.at_) nM
    have qWM : W ≠ M := ne_of_none hW.at_ nM
    have a2M : A2 ≠ M := ne_of_none ((f1.trans f2).get a2) nM
    have a23 := e23.get a2
    have t23 := t2.ex e23
    walk_at "go"
    refine for_runs (rv_list _ A2 z2 z3V) (fun i σ H' => FrP M G3 H' ∧ RwI H' M (movS l1 l2 i) ∧ ∃ a7 a8 a9, σ = [some (.ref A1), some (.ref A2), some (.ref D1), some (.ref D2), some (.ref C), some (.ref W), some (.ref M), a7, a8, a9]) ⟨Fr.refl _, ⟨[], vM, rfl, fun i t r h => by simp at h⟩, _, _, _, rfl⟩ (fun i σ H' _ h => lst_of (h.1.get a2M a23)) ?_ ?_
    · rintro i x σ H5 H6 hi ⟨e5, ⟨ts, m1, m2, m3⟩, a7, a8, a9, rfl⟩ ⟨rfl, z, hz, rfl⟩
      walk_at "go"
      have hq : l2[i]? = some z.2 := by rw [← h2.eq, List.getElem?_map, hz]; rfl
      have tM : ∀ {b : Addr} {ys : List V}, G3 b = some (.tup ys) → ¬ b = M := fun {b ys} h e => by
        rw [e, vM] at h
        cases h
      have z3 : G3 z.1 = some (.tup [.int z.2.1, .int z.2.2.1, .int z.2.2.2]) := t23 z (List.mem_of_getElem? hz)
      have z6 : H6 z.1 = some (.tup [.int z.2.1, .int z.2.2.1, .int z.2.2.2]) := e5.get (tM z3) z3
      have g1 := e5.get q1M k13.at_
      have g2 := e5.get q2M k23.at_
      have mS := movS_succ l1 l2 i
      rw [hq, Option.bind_some] at mS
      unfold z3V
      refine st_slA (tup_of z6) (nw3 _ _ _) fun S H7 nS e7 vS => ?_
      have vS := cut3 (q := z.2) vS
      walk_at "go"
      refine st_dinB (e7.get g1) vS ?_
      rw [k13.isSome d1]
      by_cases hin : z.2.2 ∈ l1.map (·.2)
      rotate_left
      · rw [decide_eq_false hin]
        rw [movE_no hin] at mS
        walk_at "go"
        refine ⟨e5.trans (Fr.ex e7), ?_, _, _, _, rfl⟩
        rw [mS, show (none : Option (List Int)).toList = [] from rfl, List.append_nil]
        exact ⟨ts, e7.get m1, m2, fun j t r h1 h2 => e7.get (m3 j t r h1 h2)⟩
      · rw [decide_eq_true hin]
        obtain ⟨r, hr, er⟩ := List.mem_map.mp hin
        obtain ⟨i1, hi1⟩ := List.getElem?_of_mem hr
        obtain ⟨t1, hv1, ht1⟩ := k13.hit d1 hi1
        rw [er] at hv1
        obtain ⟨t2', hv2, ht2⟩ := k23.hit d2 hq
        have vt1 := e5.get (tM ht1) ht1
        have vt2 := e5.get (tM ht2) ht2
        have mA := movE_at (j := i) d1 hi1 er
        rw [mA] at mS
        have dg1 : ∀ (H' : Hp) (S : Addr), Ex H6 H' → H' S = some (.tup ((kS z.2.2).map kV)) → DGet H' D1 (.ref S) (some (.ref t1)) := fun H' S e h => by
          rw [← hv1]
          exact DGet.t (e.get g1) h
        have dg2 : ∀ (H' : Hp) (S : Addr), Ex H6 H' → H' S = some (.tup ((kS z.2.2).map kV)) → DGet H' D2 (.ref S) (some (.ref t2')) := fun H' S e h => by
          rw [← hv2]
          exact DGet.t (e.get g2) h
        walk_at "go"
        refine st_slA (tup_of (e7.get z6)) (nw3 _ _ _) fun S2 H8 nS2 e8 vS2 => ?_
        have e68 := e7.trans e8
        have vt18 := e68.get vt1
        walk_at "go"
        refine ⟨D1, .ref t1, rfl, dg1 _ _ e68 (cut3 (q := z.2) vS2), ?_⟩
        walk_at "go"
        rename_i p H9 np e9 vp
        have e69 := e68.trans e9
        refine st_slA (tup_of (e69.get z6)) (nw3 _ _ _) fun S3 H10 nS3 e10 vS3 => ?_
        have e610 := e69.trans e10
        have z10 := e610.get z6
        have vt210 := e610.get vt2
        refine ⟨D2, .ref t2', rfl, dg2 _ _ e610 (cut3 (q := z.2) vS3), ?_⟩
        have r1 : Rp H10 (.ref p) (.tuple [.int r.1, .int (i1 : Nat)]) := .tup (tup_of (e10.get vp)) (.cons (.int _) (.cons (.int _) .nil))
        have r2 : Rp H10 (.ref t2') (.tuple [.int z.2.1, .int (i : Nat)]) := .tup (tup_of vt210) (.cons (.int _) (.cons (.int _) .nil))
        refine st_neD r1 r2 (by simp [PyData.depth, PyData.depthAll]) ?_
        have ev : PyData.eqv (.tuple [.int r.1, .int (i1 : Nat)]) (.tuple [.int z.2.1, .int (i : Nat)]) = decide (r.1 = z.2.1 ∧ i1 = i) := by
          simp only [PyData.eqv, PyData.eqvAll, Bool.and_true]
          by_cases h1 : r.1 = z.2.1
          · by_cases h2 : i1 = i
            · subst h2
              rw [h1]
              simp
            · have : ((i1 : Nat) : Int) ≠ (i : Nat) := by omega
              simp [h2, this]
          · simp [h1]
        rw [ev]
        by_cases hs : r.1 = z.2.1 ∧ i1 = i
        · rw [decide_eq_true hs]
          rw [if_pos hs] at mS
          walk_at "go"
          refine ⟨e5.trans (Fr.ex e610), ?_, _, _, _, rfl⟩
          rw [mS, show (none : Option (List Int)).toList = [] from rfl, List.append_nil]
          exact ⟨ts, e610.get m1, m2, fun j t r h1 h2 => e610.get (m3 j t r h1 h2)⟩
        · rw [decide_eq_false hs]
          rw [if_neg hs] at mS
          have ml : (movS l1 l2 i).length ≤ i := by
            have h := List.length_filterMap_le (fun j => (l2[j]?).bind fun q => movE l1 j q) (List.range i)
            rw [List.length_range] at h
            exact h
          walk_at "go"
          refine st_slA (tup_of z10) (nw3 _ _ _) fun S4 H11 nS4 e11 vS4 => ?_
          have e611 := e610.trans e11
          have vt211 := e11.get vt210
          walk_at "go"
          refine ⟨D2, .ref t2', rfl, dg2 _ _ e611 (cut3 (q := z.2) vS4), ?_⟩
          walk_at "go"
          rename_i S5 H12 nS5 e12 vS5
          have e612 := e611.trans e12
          refine st_app (e612.get m1) (by rw [List.length_map]; omega) ?_
          refine ⟨(e5.trans (Fr.ex e612)).trans FrP.at, ?_, _, _, _, rfl⟩
          rw [mS]
          exact RwI.snoc (r := [z.2.2.1, z.2.2.2, r.1, z.2.1, (i1 : Int), (i : Int)]) m2 (fun j t r h1 h2 => e612.get (m3 j t r h1 h2)) (e612.get m1) vS5
    · rintro σ H5 ⟨e5, hm, a7, a8, a9, rfl⟩
      walk_at "go"
      have hz2' : z2.length = l2.length := zl2
      rw [show z2.length = l2.length from zl2] at hm
      have eX : Ex H H5 := Ex.comp (M := fun b => b = M) e03 e5 fun b hb => by rw [hb]; exact nM0
      have rC : RkL H5 C (z2.filter fun z => !inS l1 z.2.2) (notIn l1 l2) := ⟨e5.get qCM hC3.at_, fun z hz => e5.get (fun e => by
        have h := hC3.t3 z hz
        rw [e, vM] at h
        cases h) (hC3.t3 z hz), hC3.eq⟩
      have rW : RkL H5 W (z1.filter fun z => !inS l2 z.2.2) (notIn l2 l1) := ⟨e5.get qWM hW3.at_, fun z hz => e5.get (fun e => by
        have h := hW3.t3 z hz
        rw [e, vM] at h
        cases h) (hW3.t3 z hz), hW3.eq⟩
      rename_i t G6 nt f6 vt
      exact k t C W M _ _ G6 (eX.trans f6) (Ex.free eX nt) nC0 nW0 nM0 ⟨vt, rC.ex f6, rW.ex f6, hm.ex f6⟩
def sp__law_list : Sp := fun vs H Q _ => ∃ (c : Int), vs = [.int c] ∧ ∀ D zs l H', Ex H H' → H D = none → RkL H' D zs l → RankL l → l.length ≤ 40 → Q (.ref D) H'
def m5 (n : Nat) : List Int := (List.replicate n [3, 49, 4, 24, 24]).flatten
theorem m5_len (n : Nat) : (m5 n).length = 5 * n := by
  unfold m5
  induction n with
  | zero => rfl
  | succ n ih => rw [List.replicate_succ, List.flatten_cons, List.length_append, ih]; show 5 + 5 * n = 5 * (n + 1); omega
theorem m5_map (n : Nat) : (List.replicate n [V.int 3, V.int 49, V.int 4, V.int 24, V.int 24]).flatten = (m5 n).map V.int := by
  unfold m5
  induction n with
  | zero => rfl
  | succ n ih => rw [List.replicate_succ, List.flatten_cons, ih, List.replicate_succ, List.flatten_cons, List.map_append]; rfl
theorem m5_at : ∀ {n k t : Nat}, k < n → t < 5 → (m5 n)[5 * k + t]? = [3, 49, 4, 24, 24][t]?
  | 0, _, _, h, _ => absurd h (Nat.not_lt_zero _)
  | n + 1, 0, t, _, ht => by
    unfold m5
    rw [List.replicate_succ, List.flatten_cons, Nat.mul_zero, Nat.zero_add, List.getElem?_append_left (by show t < 5; exact ht)]
  | n + 1, k + 1, t, h, ht => by
    have ih := m5_at (n := n) (k := k) (t := t) (by omega) ht
    unfold m5 at ih ⊢
    rw [List.replicate_succ, List.flatten_cons, List.getElem?_append_right (by show 5 ≤ _; omega), show 5 * (k + 1) + t - [3, 49, 4, 24, (24 : Int)].length = 5 * k + t by show 5 * (k + 1) + t - 5 = _; omega]
    exact ih
theorem m5_pos {n : Nat} : ∀ m ∈ m5 n, (0 : Int) < m ∧ m ≤ 1000000 := fun m hm => by
  unfold m5 at hm
  obtain ⟨l, hl, h2⟩ := List.mem_flatten.mp hm
  rw [(List.mem_replicate.mp hl).2] at h2
  simp at h2
  omega
theorem five_at {ns : List Int} {n k : Nat} (hl : ns.length = 3 + 5 * n) (hk : k < n) (hn : ∀ (j : Nat) (a m : Int), ns[j]? = some a → ([8, 9, 41] ++ m5 n)[j]? = some m → 0 ≤ a ∧ a < m) :
    ∃ a0 a1 a2 a3 a4 : Int, (ns.take (8 + 5 * k)).drop (3 + 5 * k) = [a0, a1, a2, a3, a4] ∧ (0 ≤ a0 ∧ a0 < 3) ∧ (0 ≤ a1 ∧ a1 < 49) ∧ (0 ≤ a2 ∧ a2 < 4) ∧ (0 ≤ a3 ∧ a3 < 24) ∧ (0 ≤ a4 ∧ a4 < 24) := by
  have at_ : ∀ t, t < 5 → ∃ a m, ns[3 + 5 * k + t]? = some a ∧ [3, 49, 4, 24, 24][t]? = some m ∧ 0 ≤ a ∧ a < m := fun t ht => by
    have h1 := List.getElem?_eq_getElem (l := ns) (i := 3 + 5 * k + t) (by omega)
    have h2 : ([8, 9, 41] ++ m5 n)[3 + 5 * k + t]? = [3, 49, 4, 24, 24][t]? := by
      rw [List.getElem?_append_right (by show 3 ≤ _; omega), show 3 + 5 * k + t - [8, 9, (41 : Int)].length = 5 * k + t by show 3 + 5 * k + t - 3 = _; omega]
      exact m5_at hk ht
    have h3 := List.getElem?_eq_getElem (l := [3, 49, 4, 24, (24 : Int)]) (i := t) ht
    have := hn _ _ _ h1 (h2.trans h3)
    exact ⟨_, _, h1, h3, this⟩
  obtain ⟨a0, m0, p0, r0, q0⟩ := at_ 0 (by omega)
  obtain ⟨a1, m1, p1, r1, q1⟩ := at_ 1 (by omega)
  obtain ⟨a2, m2, p2, r2, q2⟩ := at_ 2 (by omega)
  obtain ⟨a3, m3, p3, r3, q3⟩ := at_ 3 (by omega)
  obtain ⟨a4, m4, p4, r4, q4⟩ := at_ 4 (by omega)
  cases r0
  cases r1
  cases r2
  cases r3
  cases r4
  refine ⟨a0, a1, a2, a3, a4, ?_, q0, q1, q2, q3, q4⟩
  refine List.ext_getElem? fun t => ?_
  rw [List.getElem?_drop]
  by_cases ht : t < 5
  · rw [List.getElem?_take_of_lt (by omega)]
    match t, ht with
    | 0, _ => exact p0
    | 1, _ => exact p1
    | 2, _ => exact p2
    | 3, _ => exact p3
    | 4, _ => exact p4
  · rw [List.getElem?_eq_none (by rw [List.length_take]; omega), List.getElem?_eq_none (by show 5 ≤ t; omega)]
theorem ok__law_list (T : Tx K mg ad fd tk) : FnOk P w K mg base CX0 2 (ad 17) (fd 17) ["_law_cell_here"] sp__law_list := by
  refine T.d__law_list.F.ok sc__law_list (fun vs H Q E h => ?_) (fun cdv A outer s H vs Q E hr h => ?_)
  · obtain ⟨c, rfl, _⟩ := h
    rfl
  · obtain ⟨c, rfl, k⟩ := h
    refine ⟨_, (pss_cons (ps_set (i := 1) sc__law_list.nd rfl (Or.inl rfl) (pe_call (ok__law_drawn T) (hr.mono (by decide)) rfl T.d__law_drawn.g T.d__law_drawn.F.kp T.d__law_drawn.b .nil pass0 (pa_cons (pv 0) (pa_cons (pe_lst (pa_cons pe_int (pa_cons pe_int (pa_cons pe_int pa_nil)))) pa_nil))))
      (pss_cons (ps_set (i := 2) sc__law_list.nd rfl (Or.inl rfl) (pe_ix (i_ix (K := K)) (pv 1) pe_int (fun _ _ => rfl)))
      (pss_cut (ps_if (pt_cmpR (o_eq hr.units) (pe_ix (i_ix (K := K)) (pv 1) pe_int (fun _ _ => rfl)) pe_int (nomark _)) (pss_one (ps_set (i := 2) sc__law_list.nd rfl (Or.inl rfl) (pe_ix (i_ix (K := K)) (pv 1) pe_int (fun _ _ => rfl)))) pss_nil)
      (pss_cons (ps_set (i := 3) sc__law_list.nd rfl (Or.inl rfl) (pe_call (ok__law_drawn T) (hr.mono (by decide)) rfl T.d__law_drawn.g T.d__law_drawn.F.kp T.d__law_drawn.b .nil pass0 (pa_cons (pv 0) (pa_cons (pe_op o_add (pe_lst (pa_cons pe_int (pa_cons pe_int (pa_cons pe_int pa_nil)))) (pe_op o_mul (pe_lst (pa_cons pe_int (pa_cons pe_int (pa_cons pe_int (pa_cons pe_int (pa_cons pe_int pa_nil)))))) (pv 2))) pa_nil))))
      (pss_cons (ps_set (i := 4) sc__law_list.nd rfl (Or.inr rfl) pe_dnewT)
      (pss_cons (ps_for PassesOwn.never rfl (pi_range1 rfl T.b_range (pa_cons (pv 2) pa_nil)) (pg_name (i := 5) sc__law_list.nd rfl (Or.inl rfl)) (pss_cons (ps_asg (pe_slice (s_sl (K := K)) (pv 3) (po_some (pe_op o_add pe_int (pe_op o_mul pe_int (pv 5)))) (po_some (pe_op o_add pe_int (pe_op o_mul pe_int (pv 5))))) (pg_lst rfl (pgs_cons (pg_name (i := 6) sc__law_list.nd rfl (Or.inl rfl)) (pgs_cons (pg_name (i := 7) sc__law_list.nd rfl (Or.inl rfl)) (pgs_cons (pg_name (i := 8) sc__law_list.nd rfl (Or.inl rfl)) (pgs_cons (pg_name (i := 9) sc__law_list.nd rfl (Or.inl rfl)) (pgs_cons (pg_name (i := 10) sc__law_list.nd rfl (Or.inl rfl)) pgs_nil)))))))
      (pss_cut (ps_if (pt_cmpR o_gt (pv 6) pe_int (nomark _)) (pss_one (ps_set (i := 7) sc__law_list.nd rfl (Or.inl rfl) (pv 8))) pss_nil)
      (pss_one (ps_dput (hu_of hr) (pv 4) (pe_tup (pa_cons (pv 9) (pa_cons (pe_op o_add (pe_op o_add (pv 9) pe_int) (pe_op o_mod (pv 10) (pe_op o_sub pe_int (pv 9)))) pa_nil))) (pv 7) rfl)))))
      (pss_one (ps_ret (pe_callB (c_sort3 (K := K)) (by rfl) T.b_sorted (by decide +kernel) (pa_cons (pe_lock (pe_lc (own := [("_law_span", 11)]) (g := gName 11) rfl sc__law_list.nd (pi_keys (pv 4)) (blkOk_by (own := [("_law_span", 11)]) (N := N__law_list) (sc := defScope s__law_list) (by decide +kernel)) (fun _ _ _ _ _ => pg_name (i := 11) sc__law_list.nd rfl (Or.inl rfl)) (fun _ _ _ _ _ => pts_nil) (fun _ _ _ _ _ => (pe_tup (pa_cons (pe_dget (hu_of hr) (pv 4) (pv 11) (fun _ _ => rfl)) (pa_cons (pe_ix (i_ix (K := K)) (pv 11) pe_int (fun _ _ => rfl)) (pa_cons (pe_ix (i_ix (K := K)) (pv 11) pe_int (fun _ _ => rfl)) pa_nil))))))) pa_nil)))))))))), ?_⟩
    walk_at "go"
    rename_i q1 H1 n1 e1 v1
    refine ⟨c, q1, [8, 9, 41], rfl, v1, by decide, by decide, fun q2 H2 ns e2 n2 v2 hl hn => ?_⟩
    obtain ⟨x0, x1, x2, rfl⟩ : ∃ x0 x1 x2, ns = [x0, x1, x2] := by
      match ns, hl with
      | [x0, x1, x2], _ => exact ⟨x0, x1, x2, rfl⟩
    have y1 := hn 1 x1 9 rfl rfl
    have y2 := hn 2 x2 41 rfl rfl
    obtain ⟨s1, hs1⟩ := Int.eq_ofNat_of_zero_le y1.1
    obtain ⟨s2, hs2⟩ := Int.eq_ofNat_of_zero_le y2.1
    subst hs1 hs2
    replace v2 : H2 q2 = some (.lst [.int x0, .int (s1 : Nat), .int (s2 : Nat)]) := v2
    have e02 := e1.trans e2
    clear e1 v1 n1 n2
    walk_at "go"
    refine ⟨fun σ H' => H' = H2 ∧ ∃ sz : Nat, sz ≤ 40 ∧ σ = [some (.int c), some (.ref q2), some (.int (sz : Nat)), none, none, none, none, none, none, none, none, none], ?_, ?_⟩
    · walk_at "go"
      refine st_br2 (fun d => ?_) (fun d => ?_)
      · walk_at "go"
        exact ⟨rfl, s2, by omega, rfl⟩
      · walk_at "go"
        exact ⟨rfl, s1, by omega, rfl⟩
    · rintro σ H3 ⟨rfl, sz, hsz, rfl⟩
      walk_at "go"
      rename_i p1 G1 m1 f1 w1 p2 G2 m2 f2 w2 p3 G3 m3 f3 w3
      rw [Int.toNat_natCast, m5_map] at w3
      refine st_addL (xs := [V.int 8, V.int 9, V.int 41]) ((f2.trans f3).get w1) w3 (by rw [List.length_map, m5_len]; show 3 + 5 * sz ≤ _; omega) fun p4 G4 m4 f4 w4 => ?_
      have w4' : G4 p4 = some (.lst (([8, 9, 41] ++ m5 sz).map V.int)) := by rw [w4, List.map_append]; rfl
      walk_at "go"
      refine ⟨c, p4, [8, 9, 41] ++ m5 sz, rfl, w4', by rw [List.length_append, m5_len]; show 3 + 5 * sz ≤ 2000; omega, fun m hm => ?_, fun q5 G5 ns f5 m5' w5 hl5 hn5 => ?_⟩
      · rcases List.mem_append.mp hm with h | h
        · simp at h; omega
        · exact m5_pos m h
      have hl6 : ns.length = 3 + 5 * sz := by rw [hl5, List.length_append, m5_len]; rfl
      have e05 := ((((e02.trans f1).trans f2).trans f3).trans f4).trans f5
      clear e02 f1 f2 f3 f4 f5 w1 w2 w3 w4 w4' m1 m2 m3 m4 m5' v2
      walk_at "go"
      rename_i D G6 nD f6 vD
      rw [Int.toNat_natCast]
      have nD0 := Ex.free e05 nD
      have e06 := e05.trans f6
      have w6 := f6.get w5
      have qD : q5 ≠ D := ne_of_none w5 nD
      clear e05 f6 w5 nD
      refine for_runs (runs_range 0 sz) (fun i σ H' => (Ex H H' ∧ H' q5 = some (.lst (ns.map V.int)) ∧ ∃ es : List Q3, H' D = some (.dT (es.map enC)) ∧ (es.map (·.2)).Nodup ∧ (∀ e ∈ es, ToldQ e) ∧ es.length ≤ i) ∧ ∃ a5 a6 a7 a8 a9 a10 a11, σ = [some (.int c), some (.ref q2), some (.int (sz : Nat)), some (.ref q5), some (.ref D), a5, a6, a7, a8, a9, a10, a11]) ⟨⟨e06, w6, [], vD, List.nodup_nil, (fun _ h => by cases h), Nat.le_refl _⟩, _, _, _, _, _, _, _, rfl⟩ (fun _ _ _ _ _ => trivial) ?_ ?_
      · rintro i x σ H6 H7 hi ⟨⟨e6, p5, es, pD, nd, told, hel⟩, a5, a6, a7, a8, a9, a10, a11, rfl⟩ ⟨rfl, rfl⟩
        obtain ⟨b0, b1, b2, b3, b4, hcut, r0, r1, r2, r3, r4⟩ := five_at hl6 hi hn5
        rw [Int.zero_add]
        walk_at "go"
        rename_i S H8 nS e8 vS
        have vS' : H8 S = some (.lst [.int b0, .int b1, .int b2, .int b3, .int b4]) := by
          rw [vS, show (3 : Int) + 5 * (i : Int) = ((3 + 5 * i : Nat) : Int) by omega, show (8 : Int) + 5 * (i : Int) = ((8 + 5 * i : Nat) : Int) by omega, cutV_mid, ← List.map_take, ← List.map_drop, hcut]
          rfl
        refine st_glst vS' rfl ?_
        walk_at "go"
        refine ⟨fun σ H' => H' = H8 ∧ ∃ pr : Int, (0 ≤ pr ∧ pr ≤ 48) ∧ σ = [some (.int c), some (.ref q2), some (.int (sz : Nat)), some (.ref q5), some (.ref D), some (.int (i : Nat)), some (.int b0), some (.int pr), some (.int b2), some (.int b3), some (.int b4), a11], ?_, ?_⟩
        · walk_at "go"
          refine st_br2 (fun d => ?_) (fun d => ?_)
          · walk_at "go"
            exact ⟨rfl, b2, by omega, rfl⟩
          · walk_at "go"
            exact ⟨rfl, b1, by omega, rfl⟩
        · rintro σ H9 ⟨rfl, pr, hpr, rfl⟩
          have g0 := Int.emod_nonneg b4 (b := 24 - b3) (by omega)
          have g1 := Int.emod_lt_of_pos b4 (b := 24 - b3) (by omega)
          walk_at "go"
          rename_i K1 H10 nK e10 vK
          have e810 := e8.trans e10
          refine st_dputT (k := kS (b3, b3 + 1 + b4 % (24 - b3))) (e810.get pD) vK (by rw [List.length_map]; omega) ?_
          have hq : ToldQ (pr, (b3, b3 + 1 + b4 % (24 - b3))) := ⟨hpr.1, hpr.2, r3.1, by show b3 < b3 + 1 + b4 % (24 - b3); omega, by show b3 + 1 + b4 % (24 - b3) ≤ 24; omega⟩
          rw [show putK (es.map enC) (kS (b3, b3 + 1 + b4 % (24 - b3))) (V.int pr) = (putQ es (pr, (b3, b3 + 1 + b4 % (24 - b3)))).map enC from putK_enC es (pr, (b3, b3 + 1 + b4 % (24 - b3)))]
          refine ⟨⟨(e6.trans e810).mut nD0, (upd_ne qD).trans (e810.get p5), _, upd_same, putQ_nd nd, fun e he => ?_, ?_⟩, _, _, _, _, _, _, _, rfl⟩
          · rcases putQ_mem he with rfl | h
            · exact hq
            · exact told e h
          · have := putQ_len es (pr, (b3, b3 + 1 + b4 % (24 - b3)))
            omega
      · rintro σ H6 ⟨⟨e6, p5, es, pD, nd, told, hel⟩, a5, a6, a7, a8, a9, a10, a11, rfl⟩
        walk_at "go"
        refine ⟨D, .dT (es.map enC), pD, trivial, fun od => ?_⟩
        obtain ⟨G0, hG0⟩ : ∃ G, G = upd H6 D (.frz od (.dT (es.map enC))) := ⟨_, rfl⟩
        rw [← hG0]
        have z0 : G0 D = some (.frz od (.dT (es.map enC))) := by rw [hG0, upd_same]
        walk_at "go"
        unfold iKeys
        walk_at "go"
        refine ⟨D, od, rfl, .inr ⟨es.map enC, z0, ?_⟩⟩
        refine lc_mk (runs_keysT D od (es.map enC)) (fun i x H H' h => by rw [h.1]; exact Fr.refl _) (fun H' e => e.get z0) (by rw [List.length_map]; omega) (fun i o => ∃ e, es[i]? = some e ∧ o = tri3 e) ?_ ?_
        · rintro i x H7 H8 hi e7 ⟨rfl, ky, v, u, hkv, rfl, hu⟩ B hB
          rw [List.getElem?_map] at hkv
          obtain ⟨e, he, hen⟩ := Option.map_eq_some_iff.mp hkv
          cases hen
          refine ⟨rfl, ?_⟩
          have dg : DGet H8 D (.ref u) (some (.int e.1)) := .inr ⟨_, _, u, .inr ⟨od, e7.get z0⟩, rfl, hu, (valV_enC nd he).symm⟩
          walk_at "go"
          refine ⟨D, .int e.1, rfl, dg, ?_⟩
          walk_at "go"
          rename_i S9 H9 n9 e9 v9
          exact hB S9 H9 _ n9 e9 v9 ⟨e, he, rfl⟩
        intro D2 H7 ts os nD2 e7 vD2 hos hol hR nts hnew
        rw [List.length_map] at hol
        have hz0 := e7.get z0
        refine ⟨hz0, ?_⟩
        have qDD : D2 ≠ D := (ne_of_none z0 nD2).symm
        have htl : ts.length = es.length := by rw [hos.len, hol]
        obtain ⟨zs, hzs⟩ : ∃ zs : List ZT, zs = ts.zip es := ⟨_, rfl⟩
        have hz1 : zs.map z3V = ts.map V.ref := by
          rw [hzs, show (z3V : ZT → V) = V.ref ∘ Prod.fst from rfl, ← List.map_map, List.map_fst_zip (by omega)]
        have hz2 : zs.map (·.2) = es := by rw [hzs]; exact List.map_snd_zip (by omega)
        have eX : Ex H (upd H7 D (.dT (es.map enC))) := by
          intro b o hb h
          by_cases z : b = D
          · rw [z, nD0] at h
            cases h
          · rw [upd_ne z]
            refine e7 b o hb ?_
            rw [hG0, upd_ne z]
            exact e6 b o hb h
        have ht3 : T3 (upd H7 D (.dT (es.map enC))) zs := fun z hz => by
          obtain ⟨i, hi⟩ := List.getElem?_of_mem hz
          rw [hzs] at hi
          obtain ⟨i1, i2⟩ := List.getElem?_zip_eq_some.mp hi
          have h1 := List.getElem?_eq_getElem (l := os) (i := i) (by
            have := (List.getElem?_eq_some_iff.mp i2).1
            omega)
          obtain ⟨e, he, ho⟩ := hR i _ h1
          have h2 := hos.at i z.1 _ i1 h1
          rw [i2] at he
          cases he
          rw [ho] at h2
          rw [upd_ne (fun e => by rw [e, hz0] at h2; cases h2)]
          exact h2
        have v8 : (upd H7 D (.dT (es.map enC))) D2 = some (.lst (zs.map z3V)) := by rw [upd_ne qDD, vD2, hz1]
        walk_at "go"
        refine st_sort3 (lstAt_sq (lst_of v8)) ht3 fun ys q H8 hp hs nq e8 v9 => ?_
        have hr : RankL (ys.map (·.2)) := rank_sorted (es := es) (by rw [← hz2]; exact hp.map _) hs nd told
        exact k q ys _ H8 (eX.trans e8) (Ex.free eX nq) ⟨v9, (ht3.perm hp).ex e8, rfl⟩ hr (by rw [List.length_map, hp.length_eq]; have := congrArg List.length hz2; rw [List.length_map] at this; omega)
def sp__law_next : Sp := fun vs H Q _ => ∃ (c : Int) (A : Addr) (zs : List ZT) (l : List Q3), vs = [.int c, .ref A] ∧ RkL H A zs l ∧ RankL l ∧ ∀ D zs l' H', Ex H H' → H D = none → RkL H' D zs l' → RankL l' → l'.length ≤ max 40 (l.length + 3) → Q (.ref D) H'
def rep (n : Nat) (L : List Int) : List Int := (List.replicate n L).flatten
theorem rep_len (n : Nat) (L : List Int) : (rep n L).length = L.length * n := by
  unfold rep
  induction n with
  | zero => rfl
  | succ n ih => rw [List.replicate_succ, List.flatten_cons, List.length_append, ih, Nat.mul_succ]; omega
theorem rep_map (n : Nat) (L : List Int) : (List.replicate n (L.map V.int)).flatten = (rep n L).map V.int := by
  unfold rep
  induction n with
  | zero => rfl
  | succ n ih => rw [List.replicate_succ, List.flatten_cons, ih, List.replicate_succ, List.flatten_cons, List.map_append]
theorem rep_mem {n : Nat} {L : List Int} {m : Int} (h : m ∈ rep n L) : m ∈ L := by
  unfold rep at h
  obtain ⟨l, hl, h2⟩ := List.mem_flatten.mp h
  rw [(List.mem_replicate.mp hl).2] at h2
  exact h2
theorem rep_at {L : List Int} : ∀ {n k t : Nat}, k < n → t < L.length → (rep n L)[L.length * k + t]? = L[t]?
  | 0, _, _, h, _ => absurd h (Nat.not_lt_zero _)
  | n + 1, 0, t, _, ht => by
    unfold rep
    rw [List.replicate_succ, List.flatten_cons, Nat.mul_zero, Nat.zero_add, List.getElem?_append_left ht]
  | n + 1, k + 1, t, h, ht => by
    have ih := rep_at (L := L) (n := n) (k := k) (t := t) (by omega) ht
    unfold rep at ih ⊢
    rw [List.replicate_succ, List.flatten_cons, List.getElem?_append_right (by rw [Nat.mul_succ]; omega), show L.length * (k + 1) + t - L.length = L.length * k + t by rw [Nat.mul_succ]; omega]
    exact ih
theorem ok__law_next (T : Tx K mg ad fd tk) : FnOk P w K mg base CX0 3 (ad 18) (fd 18) ["_law_cell_here", "_law_ahead"] sp__law_next := by
  refine T.d__law_next.F.ok sc__law_next (fun vs H Q E h => ?_) (fun cdv A outer s H vs Q E hr h => ?_)
  · obtain ⟨c, A, zs, l, rfl, _⟩ := h
    rfl
  · obtain ⟨c, A, zs, l, rfl, hA, hrk, k⟩ := h
    refine ⟨_, (pss_cons (ps_set (i := 2) sc__law_next.nd rfl (Or.inl rfl) (pe_callB (c_len (K := K)) (by rfl) T.b_len (by decide +kernel) (pa_cons (pv 1) pa_nil)))
      (pss_cons (ps_set (i := 3) sc__law_next.nd rfl (Or.inl rfl) (pe_call (ok__law_drawn T) (hr.mono (by decide)) rfl T.d__law_drawn.g T.d__law_drawn.F.kp T.d__law_drawn.b .nil pass0 (pa_cons (pv 0) (pa_cons (pe_op o_add (pe_op o_add (pe_lst (pa_cons pe_int (pa_cons pe_int pa_nil))) (pe_op o_mul (pe_lst (pa_cons pe_int (pa_cons pe_int pa_nil))) (pv 2))) (pe_op o_mul (pe_lst (pa_cons pe_int (pa_cons pe_int (pa_cons pe_int pa_nil)))) pe_int)) pa_nil))))
      (pss_cons (ps_if (pt_cmpR (o_eq hr.units) (pe_ix (i_ix (K := K)) (pv 3) pe_int (fun _ _ => rfl)) pe_int (nomark _)) (pss_cons (ps_set (i := 4) sc__law_next.nd rfl (Or.inl rfl) (pe_op o_add (pv 0) pe_int))
      (pss_cut (ps_if (pt_cmpR o_ge (pv 0) (pe_op o_pow pe_int pe_int) (nomark _)) (pss_one (ps_set (i := 4) sc__law_next.nd rfl (Or.inl rfl) (pe_op o_div (pv 0) pe_int))) pss_nil)
      (pss_one (ps_ret (pe_call (ok__law_list T) (hr.mono (by decide)) rfl T.d__law_list.g T.d__law_list.F.kp T.d__law_list.b .nil pass0 (pa_cons (pv 4) pa_nil)))))) pss_nil)
      (pss_cons (ps_set (i := 5) sc__law_next.nd rfl (Or.inr rfl) pe_dnewT)
      (pss_cons (ps_for PassesOwn.never rfl (pi_range1 rfl T.b_range (pa_cons (pv 2) pa_nil)) (pg_name (i := 6) sc__law_next.nd rfl (Or.inl rfl)) (pss_cons (ps_asg (pe_slice (s_sl (K := K)) (pv 3) (po_some (pe_op o_add pe_int (pe_op o_mul pe_int (pv 6)))) (po_some (pe_op o_add pe_int (pe_op o_mul pe_int (pv 6))))) (pg_lst rfl (pgs_cons (pg_name (i := 7) sc__law_next.nd rfl (Or.inl rfl)) (pgs_cons (pg_name (i := 8) sc__law_next.nd rfl (Or.inl rfl)) pgs_nil))))
      (pss_one (ps_if (pt_cmpR (o_eq hr.units) (pv 7) pe_int (nomark _)) (pss_one (ps_dput (hu_of hr) (pv 5) (pe_slice (s_slA (K := K)) (pe_ix (i_ix (K := K)) (pv 1) (pv 6) (fun _ _ => rfl)) (po_some pe_int) po_none) (pv 8) rfl)) (pss_one (ps_if (pt_cmpR o_gt (pv 7) pe_int (nomark _)) (pss_one (ps_dput (hu_of hr) (pv 5) (pe_slice (s_slA (K := K)) (pe_ix (i_ix (K := K)) (pv 1) (pv 6) (fun _ _ => rfl)) (po_some pe_int) po_none) (pe_ix (i_ix (K := K)) (pe_ix (i_ix (K := K)) (pv 1) (pv 6) (fun _ _ => rfl)) pe_int (fun _ _ => rfl)) rfl)) pss_nil))))))
      (pss_cons (ps_for PassesOwn.never rfl (pi_range1 rfl T.b_range (pa_cons (pe_ix (i_ix (K := K)) (pv 3) pe_int (fun _ _ => rfl)) pa_nil)) (pg_name (i := 6) sc__law_next.nd rfl (Or.inl rfl)) (pss_cons (ps_asg (pe_slice (s_sl (K := K)) (pv 3) (po_some (pe_op o_add (pe_op o_add pe_int (pe_op o_mul pe_int (pv 2))) (pe_op o_mul pe_int (pv 6)))) (po_some (pe_op o_add (pe_op o_add pe_int (pe_op o_mul pe_int (pv 2))) (pe_op o_mul pe_int (pv 6))))) (pg_lst rfl (pgs_cons (pg_name (i := 9) sc__law_next.nd rfl (Or.inl rfl)) (pgs_cons (pg_name (i := 10) sc__law_next.nd rfl (Or.inl rfl)) (pgs_cons (pg_name (i := 8) sc__law_next.nd rfl (Or.inl rfl)) pgs_nil)))))
      (pss_one (ps_dput (hu_of hr) (pv 5) (pe_tup (pa_cons (pv 9) (pa_cons (pe_op o_add (pe_op o_add (pv 9) pe_int) (pe_op o_mod (pv 10) (pe_op o_sub pe_int (pv 9)))) pa_nil))) (pv 8) rfl))))
      (pss_one (ps_ret (pe_callB (c_sort3 (K := K)) (by rfl) T.b_sorted (by decide +kernel) (pa_cons (pe_lock (pe_lc (own := [("_law_span", 11)]) (g := gName 11) rfl sc__law_next.nd (pi_keys (pv 5)) (blkOk_by (own := [("_law_span", 11)]) (N := N__law_next) (sc := defScope s__law_next) (by decide +kernel)) (fun _ _ _ _ _ => pg_name (i := 11) sc__law_next.nd rfl (Or.inl rfl)) (fun _ _ _ _ _ => pts_nil) (fun _ _ _ _ _ => (pe_tup (pa_cons (pe_dget (hu_of hr) (pv 5) (pv 11) (fun _ _ => rfl)) (pa_cons (pe_ix (i_ix (K := K)) (pv 11) pe_int (fun _ _ => rfl)) (pa_cons (pe_ix (i_ix (K := K)) (pv 11) pe_int (fun _ _ => rfl)) pa_nil))))))) pa_nil)))))))))), ?_⟩
    have hlen := rank_len hrk
    have hzl : zs.length = l.length := by rw [← hA.eq, List.length_map]
    have hAa := hA.at_
    walk_at "go"
    rename_i p1 G1 m1 f1 w1 p2 G2 m2 f2 w2 p3 G3 m3 f3 w3
    rw [Int.toNat_natCast, List.length_map, hzl, show [V.int 5, V.int 49] = [(5 : Int), 49].map V.int from rfl, rep_map] at w3
    refine st_addL (xs := [V.int 4, V.int 4]) ((f2.trans f3).get w1) w3 (by rw [List.length_map, rep_len]; show 2 + 2 * l.length ≤ _; omega) fun p4 G4 m4 f4 w4 => ?_
    walk_at "go"
    rename_i p5 G5 m5 f5 w5 p6 G6 m6 f6 w6
    have w6' : G6 p6 = some (.lst (([24, 24, 49, 24, 24, 49, 24, 24, 49] : List Int).map V.int)) := w6
    have w46 := (f5.trans f6).get w4
    refine st_addL w46 w6' (by rw [List.length_append, List.length_map, List.length_map, rep_len]; show 2 + 2 * l.length + 9 ≤ _; omega) fun p7 G7 m7 f7 w7 => ?_
    obtain ⟨menu, hmenu⟩ : ∃ menu : List Int, menu = [4, 4] ++ rep l.length [5, 49] ++ [24, 24, 49, 24, 24, 49, 24, 24, 49] := ⟨_, rfl⟩
    have w7' : G7 p7 = some (.lst (menu.map V.int)) := by rw [w7, hmenu, List.map_append, List.map_append]; rfl
    have hmn : menu.length = 11 + 2 * l.length := by
      rw [hmenu, List.length_append, List.length_append, rep_len]
      show 2 + 2 * l.length + 9 = _
      omega
    have e07 := (((((f1.trans f2).trans f3).trans f4).trans f5).trans f6).trans f7
    clear f1 f2 f3 f4 f5 f6 f7 w1 w2 w3 w4 w5 w6 w6' w46 w7 m1 m2 m3 m4 m5 m6 m7
    walk_at "go"
    refine ⟨c, p7, menu, rfl, w7', by omega, fun m hm => ?_, fun q8 G8 ns f8 n8 w8 hl8 hn8 => ?_⟩
    · rw [hmenu] at hm
      rcases List.mem_append.mp hm with h | h
      · rcases List.mem_append.mp h with h | h
        · simp at h; omega
        · have := rep_mem h
          simp at this; omega
      · simp at h; omega
    have e08 := e07.trans f8
    have hA8 := hA.ex e08
    have hA8a := hA8.at_
    obtain ⟨y0, hy0⟩ : ∃ y, ns[0]? = some y := ⟨_, List.getElem?_eq_getElem (by omega)⟩
    obtain ⟨y1, hy1⟩ : ∃ y, ns[1]? = some y := ⟨_, List.getElem?_eq_getElem (by omega)⟩
    have b1 := hn8 1 y1 4 hy1 (by rw [hmenu]; rfl)
    clear e07 f8 w7' hAa
    walk_at "go"
    refine st_ixL w8 (at_mapN (i := 0) hy0) ?_
    walk_at "go"
    refine st_br2 (fun d => ?_) (fun d => ?_)
    · walk_at "go"
      have e08' := e08
      refine ⟨fun σ H' => H' = G8 ∧ ∃ z : Int, σ = [some (.int c), some (.ref A), some (.int ((zs.map z3V).length : Nat)), some (.ref q8), some (.int z), none, none, none, none, none, none, none], ?_, ?_⟩
      · walk_at "go"
        refine st_br2 (fun d2 => ?_) (fun d2 => ?_)
        · walk_at "go"
          exact ⟨rfl, _, rfl⟩
        · walk_at "go"
          exact ⟨rfl, _, rfl⟩
      · rintro σ H' ⟨rfl, z, rfl⟩
        walk_at "go"
        refine ⟨z, rfl, fun D zs' l' H9 e9 n9 h1 h2 h3 => ?_⟩
        exact k D zs' l' H9 (e08.trans e9) (Ex.free e08 n9) h1 h2 (by omega)
    · walk_at "go"
      rename_i D G9 nD f9 vD
      have nD0 := Ex.free e08 nD
      have e09 := e08.trans f9
      have w9 := f9.get w8
      have qD : q8 ≠ D := ne_of_none w8 nD
      rw [List.length_map, hzl, Int.toNat_natCast]
      have mAt : ∀ i t, i < l.length → t < 2 → menu[2 + 2 * i + t]? = [(5 : Int), 49][t]? := fun i t hi ht => by
        have h := rep_at (L := [(5 : Int), 49]) (n := l.length) (k := i) (t := t) hi ht
        have hrl := rep_len l.length [(5 : Int), 49]
        replace hrl : (rep l.length [(5 : Int), 49]).length = 2 * l.length := hrl
        rw [hmenu, List.getElem?_append_left (by rw [List.length_append, hrl]; show _ < 2 + 2 * l.length; omega), List.getElem?_append_right (by show 2 ≤ _; omega), show 2 + 2 * i + t - [(4 : Int), 4].length = 2 * i + t by show 2 + 2 * i + t - 2 = _; omega]
        exact h
      have two : ∀ i, i < l.length → ∃ a0 a1 : Int, (ns.take (4 + 2 * i)).drop (2 + 2 * i) = [a0, a1] ∧ (0 ≤ a0 ∧ a0 < 5) ∧ (0 ≤ a1 ∧ a1 < 49) := fun i hi => by
        have h0 := List.getElem?_eq_getElem (l := ns) (i := 2 + 2 * i + 0) (by omega)
        have h1 := List.getElem?_eq_getElem (l := ns) (i := 2 + 2 * i + 1) (by omega)
        refine ⟨_, _, ?_, hn8 _ _ 5 h0 (mAt i 0 hi (by omega)), hn8 _ _ 49 h1 (mAt i 1 hi (by omega))⟩
        refine List.ext_getElem? fun t => ?_
        rw [List.getElem?_drop]
        by_cases ht : t < 2
        · rw [List.getElem?_take_of_lt (by omega)]
          match t, ht with
          | 0, _ => exact h0
          | 1, _ => exact h1
        · rw [List.getElem?_eq_none (by rw [List.length_take]; omega), List.getElem?_eq_none (by show 2 ≤ t; omega)]
      refine for_runs (runs_range 0 l.length) (fun i σ H' => (Ex H H' ∧ H' q8 = some (.lst (ns.map V.int)) ∧ ∃ es : List Q3, H' D = some (.dT (es.map enC)) ∧ (es.map (·.2)).Nodup ∧ (∀ e ∈ es, ToldQ e) ∧ es.length ≤ i) ∧ ∃ a4 a6 a7 a8 a9 a10 a11, σ = [some (.int c), some (.ref A), some (.int (l.length : Nat)), some (.ref q8), a4, some (.ref D), a6, a7, a8, a9, a10, a11]) ⟨⟨e09, w9, [], vD, List.nodup_nil, (fun _ h => by cases h), Nat.le_refl _⟩, _, _, _, _, _, _, _, rfl⟩ (fun _ _ _ _ _ => trivial) ?_ ?_
      · rintro i x σ H6 H7 hi ⟨⟨e6, p5, es, pD, nd, told, hel⟩, a4, a6, a7, a8, a9, a10, a11, rfl⟩ ⟨rfl, rfl⟩
        obtain ⟨b0, b1', hcut, r0, r1⟩ := two i hi
        have hA7 := hA.ex e6
        have hA7a := hA7.at_
        rw [Int.zero_add]
        walk_at "go"
        rename_i S H8 nS e8 vS
        have vS' : H8 S = some (.lst [.int b0, .int b1']) := by
          rw [vS, show (2 : Int) + 2 * (i : Int) = ((2 + 2 * i : Nat) : Int) by omega, show (4 : Int) + 2 * (i : Int) = ((4 + 2 * i : Nat) : Int) by omega, cutV_mid, ← List.map_take, ← List.map_drop, hcut]
          rfl
        refine st_glst vS' rfl ?_
        obtain ⟨z, hz⟩ : ∃ z, zs[i]? = some z := ⟨_, List.getElem?_eq_getElem (by omega)⟩
        have hat : atI (zs.map z3V) (i : Int) = some (.ref z.1) := at_mapN (f := z3V) hz
        have hz7 : H7 z.1 = some (.tup [.int z.2.1, .int z.2.2.1, .int z.2.2.2]) := hA7.t3 z (List.mem_of_getElem? hz)
        have hzt : ToldQ z.2 := hrk.2.2 z.2 (by rw [← hA.eq]; exact List.mem_map.mpr ⟨z, List.mem_of_getElem? hz, rfl⟩)
        walk_at "go"
        refine st_br2 (fun d1 => ?_) (fun d1 => ?_)
        · walk_at "go"
          refine st_ixL (e8.get hA7a) hat ?_
          walk_at "go"
          refine st_slA (tup_of (e8.get hz7)) (nw3 _ _ _) fun S2 H9 nS2 e9 vS2 => ?_
          walk_at "go"
          have e89 := e8.trans e9
          refine st_dputT (k := kS z.2.2) (e89.get pD) (cut3 (q := z.2) vS2) (by rw [List.length_map]; omega) ?_
          have hq : ToldQ (b1', z.2.2) := ⟨by omega, by omega, hzt.2.2.1, hzt.2.2.2.1, hzt.2.2.2.2⟩
          rw [show putK (es.map enC) (kS z.2.2) (V.int b1') = (putQ es (b1', z.2.2)).map enC from putK_enC es (b1', z.2.2)]
          refine ⟨⟨(e6.trans e89).mut nD0, (upd_ne qD).trans (e89.get p5), _, upd_same, putQ_nd nd, fun e he => ?_, ?_⟩, _, _, _, _, _, _, _, rfl⟩
          · rcases putQ_mem he with rfl | h
            · exact hq
            · exact told e h
          · have := putQ_len es (b1', z.2.2)
            omega
        walk_at "go"
        refine st_br2 (fun d2 => ?_) (fun d2 => ?_)
        · walk_at "go"
          refine st_ixL (e8.get hA7a) hat ?_
          walk_at "go"
          refine st_ixL (e8.get hA7a) hat ?_
          walk_at "go"
          refine st_slA (tup_of (e8.get hz7)) (nw3 _ _ _) fun S2 H9 nS2 e9 vS2 => ?_
          walk_at "go"
          have e89 := e8.trans e9
          refine st_dputT (k := kS z.2.2) (e89.get pD) (cut3 (q := z.2) vS2) (by rw [List.length_map]; omega) ?_
          have hq : ToldQ (z.2.1, z.2.2) := ⟨hzt.1, hzt.2.1, hzt.2.2.1, hzt.2.2.2.1, hzt.2.2.2.2⟩
          rw [show putK (es.map enC) (kS z.2.2) (V.int z.2.1) = (putQ es (z.2.1, z.2.2)).map enC from putK_enC es (z.2.1, z.2.2)]
          refine ⟨⟨(e6.trans e89).mut nD0, (upd_ne qD).trans (e89.get p5), _, upd_same, putQ_nd nd, fun e he => ?_, ?_⟩, _, _, _, _, _, _, _, rfl⟩
          · rcases putQ_mem he with rfl | h
            · exact hq
            · exact told e h
          · have := putQ_len es (z.2.1, z.2.2)
            omega
        · walk_at "go"
          exact ⟨⟨e6.trans e8, e8.get p5, es, e8.get pD, nd, told, by omega⟩, _, _, _, _, _, _, _, rfl⟩
      · rintro σ H6 ⟨⟨e6, p5, es, pD, nd, told, hel⟩, a4, a6, a7, a8, a9, a10, a11, rfl⟩
        walk_at "go"
        refine st_ixL p5 (at_mapN (i := 1) hy1) ?_
        walk_at "go"
        obtain ⟨s1, hs1⟩ := Int.eq_ofNat_of_zero_le b1.1
        subst hs1
        rw [Int.toNat_natCast]
        have three : ∀ i, i < 3 → ∃ a0 a1 a2 : Int, (ns.take (5 + 2 * l.length + 3 * i)).drop (2 + 2 * l.length + 3 * i) = [a0, a1, a2] ∧ (0 ≤ a0 ∧ a0 < 24) ∧ (0 ≤ a1 ∧ a1 < 24) ∧ (0 ≤ a2 ∧ a2 < 49) := fun i hi => by
          have mB : ∀ t, t < 3 → menu[2 + 2 * l.length + 3 * i + t]? = [(24 : Int), 24, 49][t]? := fun t ht => by
            have hrl : (rep l.length [(5 : Int), 49]).length = 2 * l.length := rep_len l.length [(5 : Int), 49]
            have hrl2 : ([(4 : Int), 4] ++ rep l.length [5, 49]).length = 2 + 2 * l.length := by rw [List.length_append, hrl]; rfl
            rw [hmenu, List.getElem?_append_right (by rw [hrl2]; omega), hrl2, show 2 + 2 * l.length + 3 * i + t - (2 + 2 * l.length) = 3 * i + t by omega]
            match i, hi, t, ht with
            | 0, _, 0, _ => rfl
            | 0, _, 1, _ => rfl
            | 0, _, 2, _ => rfl
            | 1, _, 0, _ => rfl
            | 1, _, 1, _ => rfl
            | 1, _, 2, _ => rfl
            | 2, _, 0, _ => rfl
            | 2, _, 1, _ => rfl
            | 2, _, 2, _ => rfl
          have h0 := List.getElem?_eq_getElem (l := ns) (i := 2 + 2 * l.length + 3 * i + 0) (by omega)
          have h1 := List.getElem?_eq_getElem (l := ns) (i := 2 + 2 * l.length + 3 * i + 1) (by omega)
          have h2 := List.getElem?_eq_getElem (l := ns) (i := 2 + 2 * l.length + 3 * i + 2) (by omega)
          refine ⟨_, _, _, ?_, hn8 _ _ 24 h0 (mB 0 (by omega)), hn8 _ _ 24 h1 (mB 1 (by omega)), hn8 _ _ 49 h2 (mB 2 (by omega))⟩
          refine List.ext_getElem? fun t => ?_
          rw [List.getElem?_drop]
          by_cases ht : t < 3
          · rw [List.getElem?_take_of_lt (by omega)]
            match t, ht with
            | 0, _ => exact h0
            | 1, _ => exact h1
            | 2, _ => exact h2
          · rw [List.getElem?_eq_none (by rw [List.length_take]; omega), List.getElem?_eq_none (by show 3 ≤ t; omega)]
        refine for_runs (runs_range 0 s1) (fun i σ H' => (Ex H H' ∧ H' q8 = some (.lst (ns.map V.int)) ∧ ∃ es : List Q3, H' D = some (.dT (es.map enC)) ∧ (es.map (·.2)).Nodup ∧ (∀ e ∈ es, ToldQ e) ∧ es.length ≤ l.length + i) ∧ ∃ a4 a6 a7 a8 a9 a10 a11, σ = [some (.int c), some (.ref A), some (.int (l.length : Nat)), some (.ref q8), a4, some (.ref D), a6, a7, a8, a9, a10, a11]) ⟨⟨e6, p5, es, pD, nd, told, hel⟩, _, _, _, _, _, _, _, rfl⟩ (fun _ _ _ _ _ => trivial) ?_ ?_
        · clear e6 p5 pD nd told hel es
          rintro i x σ H6 H7 hi ⟨⟨e6, p5, es, pD, nd, told, hel⟩, a4, a6, a7, a8, a9, a10, a11, rfl⟩ ⟨rfl, rfl⟩
          obtain ⟨b0, b2, b3, hcut, r0, r1, r2⟩ := three i (by omega)
          rw [Int.zero_add]
          walk_at "go"
          rename_i S H8 nS e8 vS
          have vS' : H8 S = some (.lst [.int b0, .int b2, .int b3]) := by
            rw [vS, show (2 : Int) + 2 * (l.length : Int) + 3 * (i : Int) = ((2 + 2 * l.length + 3 * i : Nat) : Int) by omega, show (5 : Int) + 2 * (l.length : Int) + 3 * (i : Int) = ((5 + 2 * l.length + 3 * i : Nat) : Int) by omega, cutV_mid, ← List.map_take, ← List.map_drop, hcut]
            rfl
          refine st_glst vS' rfl ?_
          have g0 := Int.emod_nonneg b2 (b := 24 - b0) (by omega)
          have g1 := Int.emod_lt_of_pos b2 (b := 24 - b0) (by omega)
          walk_at "go"
          rename_i K1 H10 nK e10 vK
          have e810 := e8.trans e10
          refine st_dputT (k := kS (b0, b0 + 1 + b2 % (24 - b0))) (e810.get pD) vK (by rw [List.length_map]; omega) ?_
          have hq : ToldQ (b3, (b0, b0 + 1 + b2 % (24 - b0))) := ⟨r2.1, by show b3 ≤ 48; omega, r0.1, by show b0 < b0 + 1 + b2 % (24 - b0); omega, by show b0 + 1 + b2 % (24 - b0) ≤ 24; omega⟩
          rw [show putK (es.map enC) (kS (b0, b0 + 1 + b2 % (24 - b0))) (V.int b3) = (putQ es (b3, (b0, b0 + 1 + b2 % (24 - b0)))).map enC from putK_enC es (b3, (b0, b0 + 1 + b2 % (24 - b0)))]
          refine ⟨⟨(e6.trans e810).mut nD0, (upd_ne qD).trans (e810.get p5), _, upd_same, putQ_nd nd, fun e he => ?_, ?_⟩, _, _, _, _, _, _, _, rfl⟩
          · rcases putQ_mem he with rfl | h
            · exact hq
            · exact told e h
          · have := putQ_len es (b3, (b0, b0 + 1 + b2 % (24 - b0)))
            omega
        · clear e6 p5 pD nd told hel es
          rintro σ H6 ⟨⟨e6, p5, es, pD, nd, told, hel⟩, a4, a6, a7, a8, a9, a10, a11, rfl⟩
          walk_at "go"
          refine ⟨D, .dT (es.map enC), pD, trivial, fun od => ?_⟩
          obtain ⟨G0, hG0⟩ : ∃ G, G = upd H6 D (.frz od (.dT (es.map enC))) := ⟨_, rfl⟩
          rw [← hG0]
          have z0 : G0 D = some (.frz od (.dT (es.map enC))) := by rw [hG0, upd_same]
          walk_at "go"
          unfold iKeys
          walk_at "go"
          refine ⟨D, od, rfl, .inr ⟨es.map enC, z0, ?_⟩⟩
          refine lc_mk (runs_keysT D od (es.map enC)) (fun i x H H' h => by rw [h.1]; exact Fr.refl _) (fun H' e => e.get z0) (by rw [List.length_map]; omega) (fun i o => ∃ e, es[i]? = some e ∧ o = tri3 e) ?_ ?_
          · rintro i x H7 H8 hi e7 ⟨rfl, ky, v, u, hkv, rfl, hu⟩ B hB
            rw [List.getElem?_map] at hkv
            obtain ⟨e, he, hen⟩ := Option.map_eq_some_iff.mp hkv
            cases hen
            refine ⟨rfl, ?_⟩
            have dg : DGet H8 D (.ref u) (some (.int e.1)) := .inr ⟨_, _, u, .inr ⟨od, e7.get z0⟩, rfl, hu, (valV_enC nd he).symm⟩
            walk_at "go"
            refine ⟨D, .int e.1, rfl, dg, ?_⟩
            walk_at "go"
            rename_i S9 H9 n9 e9 v9
            exact hB S9 H9 _ n9 e9 v9 ⟨e, he, rfl⟩
          intro D2 H7 ts os nD2 e7 vD2 hos hol hR nts hnew
          rw [List.length_map] at hol
          have hz0 := e7.get z0
          refine ⟨hz0, ?_⟩
          have qDD : D2 ≠ D := (ne_of_none z0 nD2).symm
          have htl : ts.length = es.length := by rw [hos.len, hol]
          obtain ⟨zs, hzs⟩ : ∃ zs : List ZT, zs = ts.zip es := ⟨_, rfl⟩
          have hz1 : zs.map z3V = ts.map V.ref := by
            rw [hzs, show (z3V : ZT → V) = V.ref ∘ Prod.fst from rfl, ← List.map_map, List.map_fst_zip (by omega)]
          have hz2 : zs.map (·.2) = es := by rw [hzs]; exact List.map_snd_zip (by omega)
          have eX : Ex H (upd H7 D (.dT (es.map enC))) := by
            intro b o hb h
            by_cases z : b = D
            · rw [z, nD0] at h
              cases h
            · rw [upd_ne z]
              refine e7 b o hb ?_
              rw [hG0, upd_ne z]
              exact e6 b o hb h
          have ht3 : T3 (upd H7 D (.dT (es.map enC))) zs := fun z hz => by
            obtain ⟨i, hi⟩ := List.getElem?_of_mem hz
            rw [hzs] at hi
            obtain ⟨i1, i2⟩ := List.getElem?_zip_eq_some.mp hi
            have h1 := List.getElem?_eq_getElem (l := os) (i := i) (by
              have := (List.getElem?_eq_some_iff.mp i2).1
              omega)
            obtain ⟨e, he, ho⟩ := hR i _ h1
            have h2 := hos.at i z.1 _ i1 h1
            rw [i2] at he
            cases he
            rw [ho] at h2
            rw [upd_ne (fun e => by rw [e, hz0] at h2; cases h2)]
            exact h2
          have v8 : (upd H7 D (.dT (es.map enC))) D2 = some (.lst (zs.map z3V)) := by rw [upd_ne qDD, vD2, hz1]
          walk_at "go"
          refine st_sort3 (lstAt_sq (lst_of v8)) ht3 fun ys q H8 hp hs nq e8 v9 => ?_
          have hr : RankL (ys.map (·.2)) := rank_sorted (es := es) (by rw [← hz2]; exact hp.map _) hs nd told
          exact k q ys _ H8 (eX.trans e8) (Ex.free eX nq) ⟨v9, (ht3.perm hp).ex e8, rfl⟩ hr (by rw [List.length_map, hp.length_eq]; have := congrArg List.length hz2; rw [List.length_map] at this; omega)
def sp__law_good : Sp := fun vs H Q _ => ∃ (x : V) (d : PyData), vs = [x] ∧ Rn H x d ∧ lenT d ∧ ∀ b H', Ex H H' → (b = true ↔ RankD d) → Q (.bl b) H'
theorem lastQ_take {l : List Q3} {i : Nat} {q : Q3} (h : l[i]? = some q) : lastQ (l.take (i + 1)) = q := by
  rw [List.take_add_one, h]
  exact lastQ_snoc _ _
theorem told_first {q : Q3} (h : ToldQ q) : lt3 (lastQ []).1 (lastQ []).2.1 (lastQ []).2.2 q.1 q.2.1 q.2.2 = true := by
  have e2 : lastQ [] = (-1, 0, 0) := rfl
  rw [e2]
  unfold lt3
  have := h.1
  rw [if_neg (by simp only; omega)]
  exact decide_eq_true (by simp only; omega)
theorem ok__law_good (T : Tx K mg ad fd tk) : FnOk P w K mg base CX0 2 (ad 19) (fd 19) ["_law_rows"] sp__law_good := by
  refine T.d__law_good.F.ok sc__law_good (fun vs H Q E h => ?_) (fun cdv A outer s H vs Q E hr h => ?_)
  · obtain ⟨x, d, rfl, _⟩ := h
    rfl
  · obtain ⟨x, d, rfl, hx, hz, k⟩ := h
    refine ⟨_, (pss_cons (ps_if (pt_not (pt_val (pe_call (ok__law_tuples T) (hr.mono (by decide)) rfl T.d__law_tuples.g T.d__law_tuples.F.kp T.d__law_tuples.b .nil pass0 (pa_cons (pv 0) (pa_cons pe_int pa_nil))))) (pss_one (ps_ret pe_bl)) pss_nil)
      (pss_cons (ps_set (i := 1) sc__law_good.nd rfl (Or.inl rfl) pe_dnewT)
      (pss_cons (ps_for PassesOwn.never rfl (pi_range1 rfl T.b_range (pa_cons (pe_callB (c_len (K := K)) (by rfl) T.b_len (by decide +kernel) (pa_cons (pv 0) pa_nil)) pa_nil)) (pg_name (i := 2) sc__law_good.nd rfl (Or.inl rfl)) (pss_cons (ps_asg (pe_ix (i_ix (K := K)) (pv 0) (pv 2) (fun _ _ => rfl)) (pg_tup rfl (pgs_cons (pg_name (i := 3) sc__law_good.nd rfl (Or.inl rfl)) (pgs_cons (pg_name (i := 4) sc__law_good.nd rfl (Or.inl rfl)) (pgs_cons (pg_name (i := 5) sc__law_good.nd rfl (Or.inl rfl)) pgs_nil)))))
      (pss_cons (ps_if (PW.pt (pw_or (pt_not (pt_chain o_le o_le pe_int (pv 3) pe_int)) (pw_or (pt_not (pt_chainN pe_int (PCh.cons o_le (pv 4) (PCh.cons o_lt (pv 5) (PCh.one o_le pe_int))))) (pw_or1 (pt_cmp (pc_din (hu_of hr) (pe_tup (pa_cons (pv 4) (pa_cons (pv 5) pa_nil))) (pv 1))))))) (pss_one (ps_ret pe_bl)) pss_nil)
      (pss_cons (ps_if (PW.pt (pw_and (pt_cmpR o_gt (pv 2) pe_int (nomark _)) (pw_and1 (pt_cmpR (o_leD hr.units) (pe_ix (i_ix (K := K)) (pv 0) (pv 2) (fun _ _ => rfl)) (pe_ix (i_ix (K := K)) (pv 0) (pe_op o_sub (pv 2) pe_int) (fun _ _ => rfl)) (nomark _))))) (pss_one (ps_ret pe_bl)) pss_nil)
      (pss_one (ps_dput (hu_of hr) (pv 1) (pe_tup (pa_cons (pv 4) (pa_cons (pv 5) pa_nil))) pe_bl rfl))))))
      (pss_one (ps_ret pe_bl))))), ?_⟩
    have no : ∀ H', Ex H H' → (¬ RankD d) → Q (.bl false) H' := fun H' e n => k false H' e ⟨(fun z => nomatch z), (fun z => (n z).elim)⟩
    walk_at "go"
    refine ⟨x, 3, d, rfl, hx, by omega, hz, fun H1 e1 => ?_⟩
    walk_at "go"
    cases hw : rowsD d 3 with
    | false =>
      refine st_T rfl ?_
      walk_at "go"
      refine no H1 e1 fun h => ?_
      obtain ⟨l, rfl, _⟩ := h
      have : rowsD (.list (l.map enc3)) 3 = true := by
        show (l.map enc3).all (fun e => wholesD e 3) = true
        rw [List.all_map, List.all_eq_true]
        intro q _
        rfl
      rw [this] at hw
      cases hw
    | true =>
      refine st_F rfl ?_
      obtain ⟨l, rfl⟩ : ∃ l : List Q3, d = .list (l.map enc3) := by
        unfold rowsD at hw
        split at hw
        · obtain ⟨c, rfl⟩ := rows_3 hw
          exact ⟨c, rfl⟩
        · cases hw
      obtain ⟨A, zs, rfl, hA⟩ := rkl_rn hx
      have hzl : zs.length = l.length := by rw [← hA.eq, List.length_map]
      have hll : l.length < 1000000 := by have := hz.1; rwa [List.length_map] at this
      walk_at "go"
      rename_i D H2 nD e2 vD
      have nD0 := Ex.free e1 nD
      have e02 := e1.trans e2
      have hAa := (hA.ex e02).at_
      clear e1 e2 nD
      walk_at "go"
      rw [Int.toNat_natCast, List.length_map, hzl]
      refine for_runs (runs_range 0 l.length) (fun i σ H' => (Ex H H' ∧ RankL (l.take i) ∧ ∃ kvs, H' D = some (.dT kvs) ∧ kvs.length ≤ i ∧ ∀ p, (valV kvs (kS p)).isSome = true ↔ p ∈ (l.take i).map (·.2)) ∧ ∃ a2 a3 a4 a5, σ = [some (.ref A), some (.ref D), a2, a3, a4, a5]) ⟨⟨e02, ⟨.nil, List.nodup_nil, (fun _ h => by cases h)⟩, [], vD, Nat.le_refl _, fun p => by simp [valV]⟩, _, _, _, _, rfl⟩ (fun _ _ _ _ _ => trivial) ?_ ?_
      · rintro i x σ H3 H3' hi ⟨⟨e3, hr, kvs, vk, hkl, hkv⟩, a2, a3, a4, a5, rfl⟩ ⟨rfl, rfl⟩
        obtain ⟨q, hq⟩ : ∃ q, l[i]? = some q := ⟨_, List.getElem?_eq_getElem hi⟩
        obtain ⟨z, hz'⟩ : ∃ z, zs[i]? = some z := ⟨_, List.getElem?_eq_getElem (by omega)⟩
        have ezq : z.2 = q := by
          have : (zs.map (·.2))[i]? = some z.2 := by rw [List.getElem?_map, hz']; rfl
          rw [hA.eq, hq] at this
          exact (Option.some.inj this).symm
        have hat : atI (zs.map z3V) (i : Int) = some (.ref z.1) := at_mapN (f := z3V) hz'
        have hA3 := hA.ex e3
        have hA3a := hA3.at_
        have t3 : H3' z.1 = some (.tup [.int q.1, .int q.2.1, .int q.2.2]) := by
          have := hA3.t3 z (List.mem_of_getElem? hz')
          rw [ezq] at this
          exact this
        have key : RankD (.list (l.map enc3)) → RankL (l.take i ++ [q]) := fun h => by
          obtain ⟨l', e, h⟩ := h
          injection e with e
          have e := enc3_map e
          subst e
          have := rank_take h (i + 1)
          rwa [List.take_add_one, hq] at this
        have no' : ∀ H', Ex H H' → ¬ (ToldQ q ∧ q.2 ∉ (l.take i).map (·.2) ∧ lt3 (lastQ (l.take i)).1 (lastQ (l.take i)).2.1 (lastQ (l.take i)).2.2 q.1 q.2.1 q.2.2 = true) → Q (.bl false) H' := fun H' e n => no H' e fun h => n (rank_snoc.mp (key h)).2
        rw [Int.zero_add]
        walk_at "go"
        refine st_ixL hA3a hat ?_
        walk_at "go"
        refine st_br2 (fun c1 => ?_) (fun c1 => ?_)
        rotate_left
        · walk_at "go"
          exact no' _ e3 fun h => c1 h.1.1
        walk_at "go"
        refine st_brn (fun c2 => ?_) (fun c2 => ?_)
        · walk_at "go"
          exact no' _ e3 fun h => c2 h.1.2.1
        walk_at "go"
        refine st_br2 (fun c3 => ?_) (fun c3 => ?_)
        rotate_left
        · walk_at "go"
          exact no' _ e3 fun h => c3 h.1.2.2.1
        walk_at "go"
        refine st_br2 (fun c4 => ?_) (fun c4 => ?_)
        rotate_left
        · walk_at "go"
          exact no' _ e3 fun h => c4 h.1.2.2.2.1
        walk_at "go"
        refine st_brn (fun c5 => ?_) (fun c5 => ?_)
        · walk_at "go"
          exact no' _ e3 fun h => c5 h.1.2.2.2.2
        have hq' : ToldQ q := ⟨c1, c2, c3, c4, c5⟩
        walk_at "go"
        rename_i K1 G1 n1 f1 v1
        have v1 : G1 K1 = some (.tup ((kS q.2).map kV)) := v1
        refine st_dinB (f1.get vk) v1 ?_
        cases hin : (valV kvs (kS q.2)).isSome with
        | true =>
          walk_at "go"
          exact no' _ (e3.trans f1) fun h => h.2.1 ((hkv q.2).mp hin)
        | false =>
          have hnm : q.2 ∉ (l.take i).map (·.2) := fun hm => by
            have := (hkv q.2).mpr hm
            rw [hin] at this
            cases this
          have nv : valV kvs (kS q.2) = none := Option.not_isSome_iff_eq_none.mp (by rw [hin]; decide)
          have e31 := e3.trans f1
          have tail : ∀ H2 : Hp, Ex H H2 → H2 D = some (.dT kvs) → lt3 (lastQ (l.take i)).1 (lastQ (l.take i)).2.1 (lastQ (l.take i)).2.2 q.1 q.2.1 q.2.2 = true → ∀ b H3 (K2 : Addr), Ex H2 H3 → H3 K2 = some (.tup ((kS q.2).map kV)) → (Ex H (upd H3 D (.dT (putK kvs (kS q.2) (.bl b)))) ∧ RankL (l.take (i + 1)) ∧ ∃ kvs', upd H3 D (.dT (putK kvs (kS q.2) (.bl b))) D = some (.dT kvs') ∧ kvs'.length ≤ i + 1 ∧ ∀ p, (valV kvs' (kS p)).isSome = true ↔ p ∈ (l.take (i + 1)).map (·.2)) := fun H2 e2 v2 hlt b H3 K2 e3 v3 => by
            refine ⟨(e2.trans e3).mut nD0, ?_, _, upd_same, ?_, fun p => ?_⟩
            · rw [List.take_add_one, hq]
              exact rank_snoc.mpr ⟨hr, hq', hnm, hlt⟩
            · rw [putK_newT nv, List.length_append]
              show kvs.length + 1 ≤ i + 1
              omega
            · rw [valV_put, List.take_add_one, hq, List.map_append, List.mem_append]
              by_cases e : kS p = kS q.2
              · rw [if_pos e, kS_inj e]
                simp
              · rw [if_neg e, hkv p]
                constructor
                · exact .inl
                · rintro (h | h)
                  · exact h
                  · simp only [Option.toList_some, List.map_cons, List.map_nil, List.mem_singleton] at h
                    exact absurd (by rw [h]) e
          walk_at "go"
          refine st_br2 (fun c6 => ?_) (fun c6 => ?_)
          · obtain ⟨i', rfl⟩ : ∃ i', i = i' + 1 := ⟨i - 1, by omega⟩
            obtain ⟨q0, hq0⟩ : ∃ q, l[i']? = some q := ⟨_, List.getElem?_eq_getElem (by omega)⟩
            obtain ⟨z0, hz0⟩ : ∃ z, zs[i']? = some z := ⟨_, List.getElem?_eq_getElem (by omega)⟩
            have ezq0 : z0.2 = q0 := by
              have : (zs.map (·.2))[i']? = some z0.2 := by rw [List.getElem?_map, hz0]; rfl
              rw [hA.eq, hq0] at this
              exact (Option.some.inj this).symm
            have hat0 : atI (zs.map z3V) ((i' : Nat) : Int) = some (.ref z0.1) := at_mapN (f := z3V) hz0
            have t0 : H3' z0.1 = some (.tup [.int q0.1, .int q0.2.1, .int q0.2.2]) := by
              have := hA3.t3 z0 (List.mem_of_getElem? hz0)
              rw [ezq0] at this
              exact this
            have hlq : lastQ (l.take (i' + 1)) = q0 := lastQ_take hq0
            walk_at "go"
            refine st_ixL (f1.get hA3a) hat ?_
            walk_at "go"
            rw [show (((i' + 1 : Nat) : Int) - 1) = ((i' : Nat) : Int) by omega]
            refine st_ixL (f1.get hA3a) hat0 ?_
            refine st_leT (f1.get t3) (f1.get t0) ?_
            cases hlt : lt3 q0.1 q0.2.1 q0.2.2 q.1 q.2.1 q.2.2 with
            | false =>
              walk_at "go"
              refine no' _ e31 fun h => ?_
              have := h.2.2
              rw [hlq, hlt] at this
              cases this
            | true =>
              walk_at "go"
              rename_i K2 G2 n2 f2 v2
              have v2 : G2 K2 = some (.tup ((kS q.2).map kV)) := v2
              refine st_dputT (f2.get (f1.get vk)) v2 (by omega) ?_
              exact ⟨tail G1 e31 (f1.get vk) (by rw [hlq]; exact hlt) true G2 K2 f2 v2, _, _, _, _, rfl⟩
          · obtain rfl : i = 0 := by omega
            walk_at "go"
            rename_i K2 G2 n2 f2 v2
            have v2 : G2 K2 = some (.tup ((kS q.2).map kV)) := v2
            refine st_dputT (f2.get (f1.get vk)) v2 (by omega) ?_
            exact ⟨tail G1 e31 (f1.get vk) (told_first hq') true G2 K2 f2 v2, _, _, _, _, rfl⟩
      · rintro σ H3 ⟨⟨e3, hr, _⟩, a2, a3, a4, a5, rfl⟩
        walk_at "go"
        refine k true H3 e3 ⟨fun _ => ⟨l, rfl, ?_⟩, fun _ => rfl⟩
        rwa [List.take_length] at hr
/-! the law's own leading, by marks -/
def markQ (q : Q3) : Q3 := (-1, q.2)
def lawF (l c w : List Q3) (m : List (List Int)) : List Q3 := c.foldl putQ ((m.map mv3).foldl putQ ((w.map markQ).foldl putQ (l.foldl putQ [])))
def lawQ (l c w : List Q3) (m : List (List Int)) : List Q3 := (lawF l c w m).filter fun e => !decide (e.1 = -1)
theorem lawF_nd (l c w : List Q3) (m : List (List Int)) : ((lawF l c w m).map (·.2)).Nodup := puts_nd (puts_nd (puts_nd (puts_nd List.nodup_nil)))
theorem lawQ_nd (l c w : List Q3) (m : List (List Int)) : ((lawQ l c w m).map (·.2)).Nodup := (lawF_nd l c w m).sublist (List.filter_sublist.map _)
theorem lawF_len (l c w : List Q3) (m : List (List Int)) : (lawF l c w m).length ≤ l.length + w.length + m.length + c.length := by
  unfold lawF
  have h1 := puts_len c ((m.map mv3).foldl putQ ((w.map markQ).foldl putQ (l.foldl putQ [])))
  have h2 := puts_len (m.map mv3) ((w.map markQ).foldl putQ (l.foldl putQ []))
  have h3 := puts_len (w.map markQ) (l.foldl putQ [])
  have h4 := puts_len l []
  rw [List.length_map] at h2 h3
  rw [List.length_nil] at h4
  omega
theorem mark_spans (w : List Q3) : (w.map markQ).map (·.2) = w.map (·.2) := by
  rw [List.map_map]
  rfl
theorem lawQ_mem {l c w ys : List Q3} {m : List (List Int)} (hl : RankL l) (hf : RankL ys ∧ notIn l ys = c ∧ notIn ys l = w ∧ movL l ys = m) (e : Q3) : e ∈ lawQ l c w m ↔ e ∈ ledQ l c w m := by
  obtain ⟨hy, rfl, rfl, rfl⟩ := hf
  have nc := notIn_nd (l := l) hy.2.1
  have nw := notIn_nd (l := ys) hl.2.1
  have nm := movQ_nd (l := l) hy.2.1
  unfold lawQ lawF ledQ
  rw [List.mem_filter, puts_iff nc, puts_iff nc, mov_map, puts_iff nm, puts_iff nm, puts_iff (by rw [mark_spans]; exact nw), mark_spans, drops_iff]
  have cy : ∀ q ∈ notIn l ys, q.1 ≠ -1 := fun q hq z => by
    have := (hy.2.2 q (notIn_mem.mp hq).1).1
    omega
  have my : ∀ q ∈ movQ l ys, q.1 ≠ -1 := fun q hq z => by
    obtain ⟨j, r, hj, _⟩ := movQ_mem.mp hq
    have := (hy.2.2 q (List.mem_of_getElem? hj)).1
    omega
  have ly : ∀ q ∈ l, q.1 ≠ -1 := fun q hq z => by
    have := (hl.2.2 q hq).1
    omega
  have ne : ∀ {q : Q3}, q.1 ≠ -1 → (!decide (q.1 = -1)) = true := fun h => by rw [decide_eq_false h]; rfl
  have pl : e ∈ l.foldl putQ [] ↔ e ∈ l := by
    rw [puts_iff hl.2.1]
    simp
  rw [pl]
  constructor
  · rintro ⟨h | ⟨h | ⟨h | ⟨h1, h2⟩, h3⟩, h4⟩, h5⟩
    · exact .inl h
    · exact .inr ⟨.inl h, h4⟩
    · exfalso
      obtain ⟨q, _, rfl⟩ := List.mem_map.mp h
      exact absurd h5 (by unfold markQ; simp)
    · exact .inr ⟨.inr ⟨⟨h1, h2⟩, h3⟩, h4⟩
  · rintro (h | ⟨h | ⟨⟨h1, h2⟩, h3⟩, h4⟩)
    · exact ⟨.inl h, ne (cy e h)⟩
    · exact ⟨.inr ⟨.inl h, h4⟩, ne (my e h)⟩
    · exact ⟨.inr ⟨.inr ⟨.inr ⟨h1, h2⟩, h3⟩, h4⟩, ne (ly e h1)⟩
theorem lawQ_eq {l c w ys zs : List Q3} {m : List (List Int)} (hl : RankL l) (hf : RankL ys ∧ notIn l ys = c ∧ notIn ys l = w ∧ movL l ys = m) (hp : ys.Perm (ledQ l c w m)) (hs : ys.Pairwise lexI3) (zp : zs.Perm (lawQ l c w m)) (zs' : zs.Pairwise lexI3) : zs = ys :=
  sorted3_uniq zs' hs (zp.trans (((List.perm_ext_iff_of_nodup (nd_of (lawQ_nd _ _ _ _)) (nd_of (ledQ_nd _ _ _ _))).mpr fun e => lawQ_mem hl hf e).trans hp.symm))
/-- the news lead to this list -/
def Leads (l : List Q3) (d : PyData) (ys : List Q3) : Prop := ∃ c w m, d = newsE c w m ∧ (∀ r ∈ m, r.length = 6) ∧ ys.Perm (ledQ l c w m) ∧ ys.Pairwise lexI3 ∧ Fits l c w m ys
theorem leads_of {l ys : List Q3} (hl : RankL l) (hy : RankL ys) : Leads l (newsE (notIn l ys) (notIn ys l) (movL l ys)) ys := ⟨_, _, _, rfl, movL_six, (ledQ_perm hl.2.1 hy.2.1).symm, hy.1, hy, rfl, rfl, rfl⟩
theorem newsE_inj {c w c' w' : List Q3} {m m' : List (List Int)} (h : newsE c w m = newsE c' w' m') : c = c' ∧ w = w' ∧ m = m' := by
  have h1 := eqv_news c w c' w' m m'
  rw [h] at h1
  have h2 := eqv_news c' w' c' w' m' m'
  rw [decide_eq_true ⟨rfl, rfl, rfl⟩] at h2
  rw [h2] at h1
  exact of_decide_eq_true h1.symm
theorem foldX_snoc {α β : Type} (f : β → α → β) (z : β) {l : List α} {i : Nat} {x : α} (h : l[i]? = some x) : (l.take (i + 1)).foldl f z = f ((l.take i).foldl f z) x := by
  rw [List.take_add_one, h, List.foldl_append]
  rfl
theorem sixX {r : List Int} (h : r.length = 6) : ∃ a b c d e f : Int, r = [a, b, c, d, e, f] := by
  match r, h with
  | [a, b, c, d, e, f], _ => exact ⟨a, b, c, d, e, f, rfl⟩
theorem cutX {H : Hp} {S : Addr} {a b c d e f : Int} (h : H S = some (.tup (cutV [V.int a, V.int b, V.int c, V.int d, V.int e, V.int f] none (some 2)))) : H S = some (.tup ((kS (a, b)).map kV)) := by
  rw [h, kS_kV]
  exact congrArg (fun z => some (HO.tup z)) (cutV_to [V.int a, V.int b, V.int c, V.int d, V.int e, V.int f] 2)
def sp__law_following : Sp := fun vs H Q _ => ∃ (A : Addr) (x : V) (za : List ZT) (l : List Q3) (d : PyData), vs = [.ref A, x] ∧ RkL H A za l ∧ RankL l ∧ Rn H x d ∧ okN d ∧
  (∀ H', Ex H H' → (∀ ys, ¬ Leads l d ys) → Q .non H') ∧ (∀ D zs ys H', Ex H H' → RkL H' D zs ys → Leads l d ys → Q (.ref D) H')
theorem lc_objF {α : Type} {ys : List α} {J : It} {S : Hp → Prop} {item : Nat → V → Hp → Hp → Prop} {g : TG} {σ : L2.St} {H1 : Hp} {tt : TT} {te : TE} {vs : List Nat} {Q : VK} (hR : Runs J ys.length S item) (hE : ∀ i x H H', item i x H H' → Ex H H') (hS : ∀ H', Ex H1 H' → S H') (hz : ys.length < 1000000) (p : α → Bool) (o : α → HO)
    (hs : ∀ i y x H0 H', ys[i]? = some y → Ex H1 H0 → item i x H0 H' → ∀ (B : V → Hp → Prop) (A : Hp → Prop), (p y = true → ∀ a H'', H' a = none → Ex H' H'' → H'' a = some (o y) → B (.ref a) H'') → (p y = false → ∀ H'', Ex H' H'' → A H'') → g x (wipe σ vs) H' fun σ2 H2 => wipe σ2 vs = wipe σ vs ∧ tt σ2 H2 fun b H3 => if b = true then te σ2 H3 B else A H3)
    (hd : ∀ D H' ts, H1 D = none → Ex H1 H' → H' D = some (.lst (ts.map V.ref)) → ObjsAt H' ts ((ys.filter p).map o) → ts.Nodup → D ∉ ts → (∀ a ∈ ts, H1 a = none) → Q (.ref D) H') : LcGoal J g tt te vs σ Q H1 := by
  intro D hD
  obtain ⟨W, hW⟩ : ∃ W : Nat → Hp → Prop, W = fun i H => ∃ ts : List Addr, H D = some (.lst (ts.map V.ref)) ∧ Ex H1 H ∧ ObjsAt H ts (((ys.take i).filter p).map o) ∧ ts.Nodup ∧ D ∉ ts ∧ ∀ a ∈ ts, H1 a = none := ⟨_, rfl⟩
  have hWi : ∀ i H, W i H ↔ ∃ ts : List Addr, H D = some (.lst (ts.map V.ref)) ∧ Ex H1 H ∧ ObjsAt H ts (((ys.take i).filter p).map o) ∧ ts.Nodup ∧ D ∉ ts ∧ ∀ a ∈ ts, H1 a = none := fun i H => by rw [hW]
  refine ⟨fun i m H => m = ys.length - i ∧ i ≤ ys.length ∧ W i H, ⟨ys.length, by simp, Nat.zero_le _, (hWi _ _).mpr ⟨[], upd_same, Fr.new hD, by rw [List.take_zero]; exact .nil, List.nodup_nil, by simp, by simp⟩⟩, ?_⟩
  rintro i m H ⟨rfl, hi, hw⟩
  obtain ⟨ts, h1, h2, h3, h4, h5, h6⟩ := (hWi _ _).mp hw
  by_cases hlt : i < ys.length
  · refine .inr ⟨hR.go i H hlt (hS H h2), W (i + 1), fun H' p' => ⟨ys.length - (i + 1), by omega, rfl, hlt, p'⟩, fun x H' y => ?_⟩
    have hx := hR.yld i H x H' hlt (hS H h2) y
    have e0 := hE _ _ _ _ hx
    obtain ⟨y0, hy⟩ : ∃ y0, ys[i]? = some y0 := ⟨_, List.getElem?_eq_getElem hlt⟩
    have ht : ys.take (i + 1) = ys.take i ++ [y0] := by rw [List.take_add_one, hy]; rfl
    refine hs i y0 x H H' hy h2 hx (fun v H4 => ∃ acc, H4 D = some (.lst acc) ∧ acc.length < sizeLine ∧ W (i + 1) (upd H4 D (.lst (acc ++ [v])))) (W (i + 1)) ?_ ?_
    · intro hp a H4 ha e hv
      have h1 := e0.get h1
      have h2 := h2.trans e0
      have h3 := h3.ex e0
      have hDa : a ≠ D := fun z => by rw [z, h1] at ha; cases ha
      have haN : a ∉ ts := fun z => by
        obtain ⟨k, hk⟩ := List.getElem?_of_mem z
        have hk2 : k < (((ys.take i).filter p).map o).length := by
          rw [← h3.len]; exact (List.getElem?_eq_some_iff.mp hk).1
        have := h3.at k a _ hk (List.getElem?_eq_getElem hk2)
        rw [this] at ha
        cases ha
      have hlen : ts.length < 1000000 := by
        rw [h3.len, List.length_map]
        have := List.length_filter_le p (ys.take i)
        rw [List.length_take] at this
        omega
      refine ⟨ts.map V.ref, e.get h1, by rw [List.length_map, sl16]; omega, (hWi _ _).mpr ⟨ts ++ [a], by rw [upd_same, List.map_append]; rfl, (h2.trans e).mut hD, ?_, ?_, ?_, ?_⟩⟩
      · rw [ht, List.filter_append, List.map_append, List.filter_cons_of_pos hp, List.filter_nil]
        refine .up ?_ ((h3.ex e).app (.one hv))
        rw [List.mem_append, List.mem_singleton]
        rintro (z | z)
        · exact h5 z
        · exact hDa z.symm
      · rw [List.nodup_append]
        exact ⟨h4, by simp, fun b hb c hc => by rw [List.mem_singleton.mp hc]; exact fun z => haN (z ▸ hb)⟩
      · rw [List.mem_append, List.mem_singleton]
        rintro (z | z)
        · exact h5 z
        · exact hDa z.symm
      · intro b hb
        rcases List.mem_append.mp hb with h | h
        · exact h6 b h
        · rw [List.mem_singleton.mp h]; exact Ex.free h2 ha
    · intro hp H4 e
      have h1 := e0.get h1
      have h2 := h2.trans e0
      have h3 := h3.ex e0
      refine (hWi _ _).mpr ⟨ts, e.get h1, h2.trans e, ?_, h4, h5, h6⟩
      rw [ht, List.filter_append, List.filter_cons_of_neg (by rw [hp]; decide), List.filter_nil, List.append_nil]
      exact h3.ex e
  · have e : i = ys.length := by omega
    subst e
    rw [List.take_length] at h3
    exact .inl ⟨hR.stop H (hS H h2), hd D H ts hD h2 h1 h3 h4 h5 h6⟩
theorem ok__law_following (T : Tx K mg ad fd tk) : FnOk P w K mg base CX0 3 (ad 20) (fd 20) ["_law_ahead", "_law_news_here"] sp__law_following := by
  refine T.d__law_following.F.ok sc__law_following (fun vs H Q E h => ?_) (fun cdv A outer s H vs Q E hr h => ?_)
  · obtain ⟨A, x, za, l, d, rfl, _⟩ := h
    rfl
  · obtain ⟨A, x, za, l, d, rfl, hA, hl, hx, hz, kn, kf⟩ := h
    refine ⟨_, (pss_cons (ps_if (pt_not (pt_val (pe_call (ok__law_news_kind T) (hr.mono (by decide)) rfl T.d__law_news_kind.g T.d__law_news_kind.F.kp T.d__law_news_kind.b .nil pass0 (pa_cons (pv 1) pa_nil)))) (pss_one (ps_ret pe_non)) pss_nil)
      (pss_cons (ps_set (i := 2) sc__law_following.nd rfl (Or.inr rfl) pe_dnewT)
      (pss_cons (ps_for PassesOwn.never rfl (pi_list (pv 0)) (pg_name (i := 3) sc__law_following.nd rfl (Or.inl rfl)) (pss_one (ps_dput (hu_of hr) (pv 2) (pe_slice (s_slA (K := K)) (pv 3) (po_some pe_int) po_none) (pe_ix (i_ix (K := K)) (pv 3) pe_int (fun _ _ => rfl)) rfl)))
      (pss_cons (ps_for PassesOwn.never rfl (pi_list (pe_ix (i_ix (K := K)) (pv 1) pe_int (fun _ _ => rfl))) (pg_name (i := 3) sc__law_following.nd rfl (Or.inl rfl)) (pss_one (ps_dput (hu_of hr) (pv 2) (pe_slice (s_slA (K := K)) (pv 3) (po_some pe_int) po_none) (pe_un un_neg pe_int) rfl)))
      (pss_cons (ps_for PassesOwn.never rfl (pi_list (pe_ix (i_ix (K := K)) (pv 1) pe_int (fun _ _ => rfl))) (pg_name (i := 3) sc__law_following.nd rfl (Or.inl rfl)) (pss_one (ps_dput (hu_of hr) (pv 2) (pe_slice (s_slA (K := K)) (pv 3) po_none (po_some pe_int)) (pe_ix (i_ix (K := K)) (pv 3) pe_int (fun _ _ => rfl)) rfl)))
      (pss_cons (ps_for PassesOwn.never rfl (pi_list (pe_ix (i_ix (K := K)) (pv 1) pe_int (fun _ _ => rfl))) (pg_name (i := 3) sc__law_following.nd rfl (Or.inl rfl)) (pss_one (ps_dput (hu_of hr) (pv 2) (pe_slice (s_slA (K := K)) (pv 3) (po_some pe_int) po_none) (pe_ix (i_ix (K := K)) (pv 3) pe_int (fun _ _ => rfl)) rfl)))
      (pss_cons (ps_set (i := 4) sc__law_following.nd rfl (Or.inl rfl) (pe_callB (c_sort3 (K := K)) (by rfl) T.b_sorted (by decide +kernel) (pa_cons (pe_lock (pe_lc (own := [("_law_span", 5)]) (g := gName 5) rfl sc__law_following.nd (pi_keys (pv 2)) (blkOk_by (own := [("_law_span", 5)]) (N := N__law_following) (sc := defScope s__law_following) (by decide +kernel)) (fun _ _ _ _ _ => pg_name (i := 5) sc__law_following.nd rfl (Or.inl rfl)) (fun _ _ _ _ _ => pts_one (pt_cmpR (o_ne hr.units) (pe_dget (hu_of hr) (pv 2) (pv 5) (fun _ _ => rfl)) (pe_un un_neg pe_int) (nomark _))) (fun _ _ _ _ _ => (pe_tup (pa_cons (pe_dget (hu_of hr) (pv 2) (pv 5) (fun _ _ => rfl)) (pa_cons (pe_ix (i_ix (K := K)) (pv 5) pe_int (fun _ _ => rfl)) (pa_cons (pe_ix (i_ix (K := K)) (pv 5) pe_int (fun _ _ => rfl)) pa_nil))))))) pa_nil)))
      (pss_cons (ps_if (PW.pt (pw_and (pt_val (pe_call (ok__law_good T) (hr.mono (by decide)) rfl T.d__law_good.g T.d__law_good.F.kp T.d__law_good.b .nil pass0 (pa_cons (pv 4) pa_nil))) (pw_and1 (pt_cmpR (o_eq hr.units) (pe_call (ok__law_news T) (hr.mono (by decide)) rfl T.d__law_news.g T.d__law_news.F.kp T.d__law_news.b .nil pass0 (pa_cons (pv 0) (pa_cons (pv 4) pa_nil))) (pv 1) (nomark _))))) (pss_one (ps_ret (pv 4))) pss_nil)
      (pss_one (ps_ret pe_non)))))))))), ?_⟩
    walk_at "go"
    refine ⟨x, d, rfl, hx, hz, fun H0 e0 => ?_⟩
    walk_at "go"
    cases hnw : newsD d with
    | false =>
      refine st_T rfl ?_
      walk_at "go"
      refine kn H0 e0 fun ys h => ?_
      obtain ⟨c, w, m, rfl, h6, _⟩ := h
      rw [news_made h6] at hnw
      cases hnw
    | true =>
      refine st_F rfl ?_
      obtain ⟨c, w, m, rfl, h6⟩ := news_shape hnw
      obtain ⟨t, C, W, M, zc, zw, rfl, hn0⟩ := nw_rn hx
      have hn := hn0.ex e0
      have ll := rank_len hl
      have lc : c.length ≤ 1000 := by have := (hz (.list (c.map enc3)) (by simp)).1; rwa [List.length_map] at this
      have lw : w.length ≤ 1000 := by have := (hz (.list (w.map enc3)) (by simp)).1; rwa [List.length_map] at this
      have lm : m.length ≤ 1000 := by have := (hz (.list (m.map encI)) (by simp)).1; rwa [List.length_map] at this
      have hA0 := hA.ex e0
      walk_at "go"
      rename_i D H1 nD e1 vD
      have nD0 := Ex.free e0 nD
      have e01 := e0.trans e1
      have hA1 := (hA.ex e01).at_
      have zl : za.length = l.length := by rw [← hA.eq, List.length_map]
      clear nD e1 hA0
      walk_at "go"
      refine for_runs (rv_list _ A za z3V) (fun i σ H' => Ex H H' ∧ H' D = some (.dT (((l.take i).foldl putQ []).map enC)) ∧ ∃ a3 a4 a5, σ = [some (.ref A), some (.ref t), some (.ref D), a3, a4, a5]) ⟨e01, vD, _, _, _, rfl⟩ (fun i σ H' _ h => lst_of ((hA.ex h.1).at_)) ?_ ?_
      · clear e01 vD hA1
        rintro i x σ H2 H3 hi ⟨e2, vD2, a3, a4, a5, rfl⟩ ⟨rfl, z, hz, rfl⟩
        have hq : l[i]? = some z.2 := by rw [← hA.eq, List.getElem?_map, hz]; rfl
        have z3 : H3 z.1 = some (.tup [.int z.2.1, .int z.2.2.1, .int z.2.2.2]) := e2.get (hA.t3 z (List.mem_of_getElem? hz))
        have hb := puts_len (l.take i) []
        rw [List.length_take, List.length_nil] at hb
        walk_at "go"
        unfold z3V
        refine st_slA (tup_of z3) (nw3 _ _ _) fun S H4 nS e4 vS => ?_
        have vS := cut3 (q := z.2) vS
        walk_at "go"
        refine st_dputT (k := kS z.2.2) (e4.get vD2) vS (by rw [List.length_map]; omega) ?_
        refine ⟨(e2.trans e4).mut nD0, ?_, _, _, _, rfl⟩
        rw [upd_same, foldX_snoc putQ [] hq]
        exact congrArg (fun z => some (HO.dT z)) (putK_enC _ z.2)
      clear e01 vD hA1
      rintro σ H2 ⟨e2, vD2, a3, a4, a5, rfl⟩
      rw [zl, List.take_length] at vD2
      obtain ⟨E1, hE1⟩ : ∃ E, E = l.foldl putQ [] := ⟨_, rfl⟩
      rw [← hE1] at vD2
      have hb1 : E1.length ≤ 1000 := by
        have hb := puts_len l []
        rw [← hE1, List.length_nil] at hb
        omega
      have hnt := (hn0.ex e2).at_
      have hW := (hn0.ex e2).went.at_
      have zw1 : zw.length = w.length := by rw [← hn0.went.eq, List.length_map]
      walk_at "go"
      refine for_runs (rv_list _ W zw z3V) (fun i σ H' => Ex H H' ∧ H' D = some (.dT ((((w.take i).map markQ).foldl putQ E1).map enC)) ∧ ∃ a3 a4 a5, σ = [some (.ref A), some (.ref t), some (.ref D), a3, a4, a5]) ⟨e2, vD2, _, _, _, rfl⟩ (fun i σ H' _ h => lst_of ((hn0.ex h.1).went.at_)) ?_ ?_
      · clear e2 vD2 hW hnt
        rintro i x σ H2 H3 hi ⟨e2, vD2, a3, a4, a5, rfl⟩ ⟨rfl, z, hz, rfl⟩
        have hq : w[i]? = some z.2 := by rw [← hn0.went.eq, List.getElem?_map, hz]; rfl
        have z3 : H3 z.1 = some (.tup [.int z.2.1, .int z.2.2.1, .int z.2.2.2]) := e2.get (hn0.went.t3 z (List.mem_of_getElem? hz))
        have hb := puts_len ((w.take i).map markQ) E1
        rw [List.length_map, List.length_take] at hb
        walk_at "go"
        unfold z3V
        refine st_slA (tup_of z3) (nw3 _ _ _) fun S H4 nS e4 vS => ?_
        have vS := cut3 (q := z.2) vS
        walk_at "go"
        refine st_dputT (k := kS z.2.2) (e4.get vD2) vS (by rw [List.length_map]; omega) ?_
        refine ⟨(e2.trans e4).mut nD0, ?_, _, _, _, rfl⟩
        have hr3 : (w.map markQ)[i]? = some (markQ z.2) := by rw [List.getElem?_map, hq]; rfl
        rw [upd_same, List.map_take, List.map_take, foldX_snoc putQ E1 hr3]
        exact congrArg (fun z => some (HO.dT z)) (putK_enC _ (markQ z.2))
      clear e2 vD2 hW hnt
      rintro σ H2 ⟨e2, vD2, a3, a4, a5, rfl⟩
      rw [zw1, List.take_length] at vD2
      obtain ⟨E2, hE2⟩ : ∃ E, E = (w.map markQ).foldl putQ E1 := ⟨_, rfl⟩
      rw [← hE2] at vD2
      have hb2 : E2.length ≤ 2000 := by
        have hb := puts_len (w.map markQ) E1
        rw [← hE2, List.length_map] at hb
        omega
      obtain ⟨ts, m1, m2, m3⟩ := hn0.moved
      have hnt := (hn0.ex e2).at_
      have hM := e2.get m1
      walk_at "go"
      refine for_runs (runs_list _ M (ts.map V.ref)) (fun i σ H' => Ex H H' ∧ H' D = some (.dT ((((m.take i).map mv3).foldl putQ E2).map enC)) ∧ ∃ a3 a4 a5, σ = [some (.ref A), some (.ref t), some (.ref D), a3, a4, a5]) ⟨e2, vD2, _, _, _, rfl⟩ (fun i σ H' _ h => lst_of (h.1.get m1)) ?_ ?_
      · clear e2 vD2 hM hnt
        rintro i x σ H2 H3 hi ⟨e2, vD2, a3, a4, a5, rfl⟩ ⟨rfl, hx⟩
        rw [List.getElem?_map] at hx
        obtain ⟨tr, htr, rfl⟩ := Option.map_eq_some_iff.mp hx
        rw [List.length_map] at hi
        have hr := List.getElem?_eq_getElem (l := m) (i := i) (by omega)
        obtain ⟨r0, r1, r2, r3, r4, r5, er⟩ := sixX (h6 _ (List.mem_of_getElem? hr))
        rw [er] at hr
        have v3 : H3 tr = some (.tup [.int r0, .int r1, .int r2, .int r3, .int r4, .int r5]) := e2.get (m3 i tr _ htr hr)
        have hb := puts_len ((m.take i).map mv3) E2
        rw [List.length_map, List.length_take] at hb
        walk_at "go"
        refine st_slA (tup_of v3) (fun z => absurd z.2 (show ¬ (HT.sIx 6 6 (some 2) = 6) by decide)) fun S H4 nS e4 vS => ?_
        have vS := cutX vS
        walk_at "go"
        refine st_dputT (k := kS (r0, r1)) (e4.get vD2) vS (by rw [List.length_map]; omega) ?_
        refine ⟨(e2.trans e4).mut nD0, ?_, _, _, _, rfl⟩
        have hr3 : (m.map mv3)[i]? = some (r3, r0, r1) := by rw [List.getElem?_map, hr]; rfl
        rw [upd_same, List.map_take, List.map_take, foldX_snoc putQ E2 hr3]
        exact congrArg (fun z => some (HO.dT z)) (putK_enC _ (r3, r0, r1))
      clear e2 vD2 hM hnt
      rintro σ H2 ⟨e2, vD2, a3, a4, a5, rfl⟩
      rw [List.length_map, m2, List.take_length] at vD2
      obtain ⟨E3, hE3⟩ : ∃ E, E = (m.map mv3).foldl putQ E2 := ⟨_, rfl⟩
      rw [← hE3] at vD2
      have hb3 : E3.length ≤ 3000 := by
        have hb := puts_len (m.map mv3) E2
        rw [← hE3, List.length_map] at hb
        omega
      have hnt := (hn0.ex e2).at_
      have hC := (hn0.ex e2).came.at_
      have zc1 : zc.length = c.length := by rw [← hn0.came.eq, List.length_map]
      walk_at "go"
      refine for_runs (rv_list _ C zc z3V) (fun i σ H' => Ex H H' ∧ H' D = some (.dT (((c.take i).foldl putQ E3).map enC)) ∧ ∃ a3 a4 a5, σ = [some (.ref A), some (.ref t), some (.ref D), a3, a4, a5]) ⟨e2, vD2, _, _, _, rfl⟩ (fun i σ H' _ h => lst_of ((hn0.ex h.1).came.at_)) ?_ ?_
      · clear e2 vD2 hC hnt
        rintro i x σ H2 H3 hi ⟨e2, vD2, a3, a4, a5, rfl⟩ ⟨rfl, z, hz, rfl⟩
        have hq : c[i]? = some z.2 := by rw [← hn0.came.eq, List.getElem?_map, hz]; rfl
        have z3 : H3 z.1 = some (.tup [.int z.2.1, .int z.2.2.1, .int z.2.2.2]) := e2.get (hn0.came.t3 z (List.mem_of_getElem? hz))
        have hb := puts_len (c.take i) E3
        rw [List.length_take] at hb
        walk_at "go"
        unfold z3V
        refine st_slA (tup_of z3) (nw3 _ _ _) fun S H4 nS e4 vS => ?_
        have vS := cut3 (q := z.2) vS
        walk_at "go"
        refine st_dputT (k := kS z.2.2) (e4.get vD2) vS (by rw [List.length_map]; omega) ?_
        refine ⟨(e2.trans e4).mut nD0, ?_, _, _, _, rfl⟩
        rw [upd_same, foldX_snoc putQ E3 hq]
        exact congrArg (fun z => some (HO.dT z)) (putK_enC _ z.2)
      clear e2 vD2 hC hnt
      rintro σ H6 ⟨e6, pD, a3, a4, a5, rfl⟩
      rw [zc1, List.take_length] at pD
      obtain ⟨es, hes⟩ : ∃ E, E = c.foldl putQ E3 := ⟨_, rfl⟩
      rw [← hes] at pD
      have hel : es.length ≤ 4000 := by
        have hb := puts_len c E3
        rw [← hes] at hb
        omega
      have hlaw : es = lawF l c w m := by rw [hes, hE3, hE2, hE1]; rfl
      have nd : (es.map (·.2)).Nodup := by rw [hlaw]; exact lawF_nd _ _ _ _
      walk_at "go"
      refine ⟨D, .dT (es.map enC), pD, trivial, fun od => ?_⟩
      obtain ⟨G0, hG0⟩ : ∃ G, G = upd H6 D (.frz od (.dT (es.map enC))) := ⟨_, rfl⟩
      rw [← hG0]
      have z0 : G0 D = some (.frz od (.dT (es.map enC))) := by rw [hG0, upd_same]
      walk_at "go"
      unfold iKeys
      walk_at "go"
      refine ⟨D, od, rfl, .inr ⟨es.map enC, z0, ?_⟩⟩
      refine lc_objF (ys := es) (by
          have h := runs_keysT D od (es.map enC)
          rw [List.length_map] at h
          exact h) (fun i x H H' h => by rw [h.1]; exact Fr.refl _) (fun H' e => e.get z0) (by omega) (fun e => !decide (e.1 = -1)) tri3 ?_ ?_
      · rintro i e x H7 H8 he e7 ⟨rfl, ky, v, u, hkv, rfl, hu⟩ B A' hB hA'
        rw [List.getElem?_map, he] at hkv
        cases hkv
        refine ⟨rfl, ?_⟩
        have dg : DGet H8 D (.ref u) (some (.int e.1)) := .inr ⟨_, _, u, .inr ⟨od, e7.get z0⟩, rfl, hu, (valV_enC nd he).symm⟩
        have hu8 : H8 u = some (.tup [.int e.2.1, .int e.2.2]) := hu
        walk_at "go"
        refine ⟨D, .int e.1, rfl, dg, ?_⟩
        walk_at "go"
        cases hdec : (!decide (e.1 = -1)) with
        | false => exact hA' hdec H8 (Fr.refl _)
        | true =>
          rw [if_pos rfl]
          walk_at "go"
          refine ⟨D, .int e.1, rfl, dg, ?_⟩
          walk_at "go"
          rename_i S9 H9 n9 e9 v9
          exact hB hdec S9 H9 n9 e9 v9
      · intro D2 H7 ts nD2 e7 vD2 hos _ _ hnew
        have hz0 := e7.get z0
        refine ⟨hz0, ?_⟩
        obtain ⟨fs, hfs⟩ : ∃ fs, fs = es.filter fun e => !decide (e.1 = -1) := ⟨_, rfl⟩
        rw [← hfs] at hos
        have hfl : fs = lawQ l c w m := by rw [hfs, hlaw]; rfl
        have qDD : D2 ≠ D := (ne_of_none z0 nD2).symm
        have htl : ts.length = fs.length := by rw [hos.len, List.length_map]
        obtain ⟨zs, hzs⟩ : ∃ zs : List ZT, zs = ts.zip fs := ⟨_, rfl⟩
        have hz1 : zs.map z3V = ts.map V.ref := by
          rw [hzs, show (z3V : ZT → V) = V.ref ∘ Prod.fst from rfl, ← List.map_map, List.map_fst_zip (by omega)]
        have hz2 : zs.map (·.2) = fs := by rw [hzs]; exact List.map_snd_zip (by omega)
        have eX : Ex H (upd H7 D (.dT (es.map enC))) := by
          intro b o hb h
          by_cases z : b = D
          · rw [z, nD0] at h
            cases h
          · rw [upd_ne z]
            refine e7 b o hb ?_
            rw [hG0, upd_ne z]
            exact e6 b o hb h
        have ht3 : T3 (upd H7 D (.dT (es.map enC))) zs := fun z hz => by
          obtain ⟨i, hi⟩ := List.getElem?_of_mem hz
          rw [hzs] at hi
          obtain ⟨i1, i2⟩ := List.getElem?_zip_eq_some.mp hi
          have h2 := hos.at i z.1 (tri3 z.2) i1 (by rw [List.getElem?_map, i2]; rfl)
          rw [upd_ne (fun e => by rw [e, hz0] at h2; cases h2)]
          exact h2
        have v8 : (upd H7 D (.dT (es.map enC))) D2 = some (.lst (zs.map z3V)) := by rw [upd_ne qDD, vD2, hz1]
        walk_at "go"
        refine st_sort3 (lstAt_sq (lst_of v8)) ht3 fun ys q H8 hp hs nq e8 v9 => ?_
        have eX8 := eX.trans e8
        have hR : RkL H8 q ys (ys.map (·.2)) := ⟨v9, (ht3.perm hp).ex e8, rfl⟩
        have hperm : (ys.map (·.2)).Perm (lawQ l c w m) := by rw [← hfl, ← hz2]; exact hp.map _
        obtain ⟨qs, hqs⟩ : ∃ qs, qs = ys.map (·.2) := ⟨_, rfl⟩
        rw [← hqs] at hR hperm hs
        have hql : qs.length ≤ 4000 := by
          rw [hperm.length_eq, ← hfl, hfs]
          exact Nat.le_trans (List.length_filter_le _ _) hel
        -- what does not lead
        have non : ∀ H', Ex H H' → (¬ (RankL qs ∧ notIn l qs = c ∧ notIn qs l = w ∧ movL l qs = m)) → Q .non H' := fun H' e n => kn H' e fun zs' hl' => by
          obtain ⟨c', w', m', en, _, hp', hs', hf'⟩ := hl'
          obtain ⟨rfl, rfl, rfl⟩ := newsE_inj en
          have := lawQ_eq hl hf' hp' hs' hperm hs
          subst this
          exact n hf'
        walk_at "go"
        refine ⟨.ref q, _, rfl, hR.rn, ?_, fun b H9 e9 hb => ?_⟩
        · refine ⟨by rw [List.length_map]; omega, fun e he ds ed => ?_⟩
          obtain ⟨x, _, rfl⟩ := List.mem_map.mp he
          injection ed with ed
          rw [← ed]
          exact (by decide : 3 < 1000000)
        have hrk : b = true ↔ RankL qs := hb.trans ⟨fun ⟨l', e, h⟩ => by
          injection e with e
          rw [enc3_map e]
          exact h, fun h => ⟨qs, rfl, h⟩⟩
        have eX9 := eX8.trans e9
        cases b with
        | false =>
          walk_at "go"
          exact non H9 eX9 fun h => Bool.false_ne_true (hrk.mpr h.1)
        | true =>
          have hr := hrk.mp rfl
          have hR9 := hR.ex e9
          walk_at "go"
          refine ⟨A, q, za, ys, l, qs, rfl, hA.ex eX9, hR9, ll, rank_len hr, hl.2.1, hr.2.1, fun t2 C2 W2 M2 zc2 zw2 H10 e10 _ _ _ _ hn2 => ?_⟩
          have eX10 := eX9.trans e10
          walk_at "go"
          refine st_eqN hn2.rn (hn0.ex eX10).rn ?_
          by_cases hf : notIn l qs = c ∧ notIn qs l = w ∧ movL l qs = m
          · rw [decide_eq_true hf]
            walk_at "go"
            obtain ⟨rfl, rfl, rfl⟩ := hf
            exact kf q ys qs H10 eX10 (hR9.ex e10) (leads_of hl hr)
          · rw [decide_eq_false hf]
            walk_at "go"
            exact non H10 eX10 fun h => hf h.2
/-! spoilt things -/
/-- a row that is not long -/
def okR : PyData → Prop
  | .tuple ds => ds.length ≤ 1000
  | _ => True
theorem rnA_app {H : Hp} : ∀ {xs : List V} {ds : List PyData} {ys : List V} {es : List PyData}, RnA H xs ds → RnA H ys es → RnA H (xs ++ ys) (ds ++ es)
  | _, _, _, _, .nil, k => k
  | _, _, _, _, .cons h t, k => .cons h (rnA_app t k)
theorem rnA_len {H : Hp} {xs : List V} {ds : List PyData} (h : RnA H xs ds) : ds.length = xs.length := h.len.symm
/-- rows that are told by some data, none long -/
def RowsK (H : Hp) (xs : List V) : Prop := ∃ ds, RnA H xs ds ∧ ∀ e ∈ ds, okR e
theorem RowsK.nil {H : Hp} : RowsK H [] := ⟨[], .nil, fun _ h => by cases h⟩
theorem RowsK.one {H : Hp} {v : V} {d : PyData} (h : Rn H v d) (k : okR d) : RowsK H [v] := ⟨[d], .cons h .nil, fun e he => by rw [List.mem_singleton.mp he]; exact k⟩
theorem RowsK.app {H : Hp} {xs ys : List V} (h : RowsK H xs) (k : RowsK H ys) : RowsK H (xs ++ ys) := by
  obtain ⟨ds, a, b⟩ := h
  obtain ⟨es, c, d⟩ := k
  exact ⟨ds ++ es, rnA_app a c, fun e he => (List.mem_append.mp he).elim (b e) (d e)⟩
theorem RowsK.ex {H H' : Hp} {xs : List V} (h : RowsK H xs) (e : Ex H H') : RowsK H' xs := by
  obtain ⟨ds, a, b⟩ := h
  exact ⟨ds, RnA.ex e a, b⟩
theorem RowsK.at {H : Hp} : ∀ {xs : List V}, RowsK H xs → ∀ v ∈ xs, ∃ d, Rn H v d ∧ okR d
  | [], _, _, h => by cases h
  | x :: xs, ⟨ds, a, b⟩, v, hv => by
    cases a with
    | @cons _ _ d ds' h t =>
      rcases List.mem_cons.mp hv with rfl | hv
      · exact ⟨d, h, b d List.mem_cons_self⟩
      · exact RowsK.at ⟨ds', t, fun e he => b e (List.mem_cons_of_mem _ he)⟩ v hv
theorem RowsK.of {H : Hp} : ∀ {xs : List V}, (∀ v ∈ xs, ∃ d, Rn H v d ∧ okR d) → RowsK H xs
  | [], _ => .nil
  | x :: xs, h => by
    obtain ⟨d, a, b⟩ := h x List.mem_cons_self
    exact RowsK.app (xs := [x]) (.one a b) (RowsK.of fun v hv => h v (List.mem_cons_of_mem _ hv))
theorem RowsK.sub {H : Hp} {xs ys : List V} (h : RowsK H xs) (k : ∀ v ∈ ys, v ∈ xs) : RowsK H ys := .of fun v hv => h.at v (k v hv)
theorem RowsK.set {H : Hp} {xs : List V} {j : Nat} {v : V} {d : PyData} (h : RowsK H xs) (hv : Rn H v d) (hd : okR d) : RowsK H (xs.set j v) := .of fun u hu => by
  rcases List.mem_or_eq_of_mem_set hu with h' | h'
  · exact h.at u h'
  · rw [h']; exact ⟨d, hv, hd⟩
theorem RowsK.lst {H : Hp} {a : Addr} {xs : List V} (h : RowsK H xs) (ha : H a = some (.lst xs)) (hl : xs.length ≤ 1000) : ∃ d, Rn H (.ref a) d ∧ okL d := by
  obtain ⟨ds, r, b⟩ := h
  refine ⟨.list ds, .lst ha r, by rw [rnA_len r]; exact hl, fun e he ts et => ?_⟩
  have := b e he
  rw [et] at this
  exact this
theorem RkL.rows {H : Hp} {A : Addr} {zs : List ZT} {l : List Q3} (h : RkL H A zs l) : RowsK H (zs.map z3V) := .of fun v hv => by
  obtain ⟨z, hz, rfl⟩ := List.mem_map.mp hv
  exact ⟨_, rn_tri (h.t3 z hz), (by decide : 3 ≤ 1000)⟩
/-- v is told by d where a list that stood is left out -/
def Apart (H H' : Hp) (v : V) (d : PyData) : Prop := ∀ F ws, H F = some (.lst ws) → Rn (hid F H') v d
theorem Apart.tup {H H' : Hp} {q : Addr} {xs : List V} {ds : List PyData} (e : Ex H H') (h : H' q = some (.tup xs)) (k : ∀ G, RnA G xs ds) : Apart H H' (.ref q) (.tuple ds) := fun F ws hF => .tup (hid_get h fun z => by
  have := e.get hF
  rw [← z, h] at this
  cases this) (k _)
theorem Apart.lst {H H' : Hp} {q : Addr} {xs : List V} {ds : List PyData} (n : H q = none) (h : H' q = some (.lst xs)) (k : ∀ G, RnA G xs ds) : Apart H H' (.ref q) (.list ds) := fun F ws hF => .lst (hid_get h fun z => by
  rw [z, hF] at n
  cases n) (k _)
theorem t3_rows {H : Hp} {zs : List ZT} (h : T3 H zs) : RowsK H (zs.map z3V) := .of fun v hv => by
  obtain ⟨z, hz, rfl⟩ := List.mem_map.mp hv
  exact ⟨_, rn_tri (h z hz), (by decide : 3 ≤ 1000)⟩
theorem hid_up {H : Hp} {F : Addr} {u : HO} : Ex (hid F H) (upd H F u) := fun b o _ h => by
  have hb : b ≠ F := fun z => by
    unfold hid at h
    rw [if_pos z] at h
    cases h
  unfold hid at h
  rw [if_neg hb] at h
  rw [upd_ne hb]
  exact h
theorem t3_set {H : Hp} {zs : List ZT} {j : Nat} {y : ZT} (h : T3 H zs) (hy : H y.1 = some (tri3 y.2)) : T3 H (zs.set j y) := fun z hz => by
  rcases List.mem_or_eq_of_mem_set hz with h' | h'
  · exact h z h'
  · rw [h']; exact hy
theorem cutV_sub {xs : List V} {lo hi : Option Int} : ∀ v ∈ cutV xs lo hi, v ∈ xs := fun v hv => cutV_mem hv
def sp__law_one_spoilt : Sp := fun vs H Q _ => ∃ (t : Addr) (q : Q3) (w : Int), vs = [.ref t, .int w] ∧ H t = some (tri3 q) ∧ ∀ v d H', Ex H H' → Apart H H' v d → okR d → Q v H'
theorem ok__law_one_spoilt (T : Tx K mg ad fd tk) : FnOk P w K mg base CX0 1 (ad 21) (fd 21) ["_law_row", "_law_word"] sp__law_one_spoilt := by
  refine T.d__law_one_spoilt.F.ok sc__law_one_spoilt (fun vs H Q E h => ?_) (fun cdv A outer s H vs Q E hr h => ?_)
  · obtain ⟨t, q, w, rfl, _⟩ := h
    rfl
  · obtain ⟨t, q, w, rfl, ht, k⟩ := h
    refine ⟨_, (pss_cons (ps_asg (pv 0) (pg_tup rfl (pgs_cons (pg_name (i := 2) sc__law_one_spoilt.nd rfl (Or.inl rfl)) (pgs_cons (pg_name (i := 3) sc__law_one_spoilt.nd rfl (Or.inl rfl)) (pgs_cons (pg_name (i := 4) sc__law_one_spoilt.nd rfl (Or.inl rfl)) pgs_nil)))))
      (pss_cons (ps_if (pt_cmpR (o_eq hr.units) (pv 1) pe_int (nomark _)) (pss_one (ps_ret (pe_callTy (c_list rfl (K := K)) (by rfl) T.b_list (by decide +kernel) (pa_cons (pv 0) pa_nil)))) pss_nil)
      (pss_cons (ps_if (pt_cmpR (o_eq hr.units) (pv 1) pe_int (nomark _)) (pss_one (ps_ret (pe_tup (pa_cons (pv 2) (pa_cons (pv 3) pa_nil))))) pss_nil)
      (pss_cons (ps_if (pt_cmpR (o_eq hr.units) (pv 1) pe_int (nomark _)) (pss_one (ps_ret (pe_tup (pa_cons (pv 2) (pa_cons (pv 3) (pa_cons (pv 4) (pa_cons (pv 4) pa_nil))))))) pss_nil)
      (pss_cons (ps_if (pt_cmpR (o_eq hr.units) (pv 1) pe_int (nomark _)) (pss_one (ps_ret (pe_tup (pa_cons (pv 2) (pa_cons (pv 3) (pa_cons pe_bl pa_nil)))))) pss_nil)
      (pss_cons (ps_if (pt_cmpR (o_eq hr.units) (pv 1) pe_int (nomark _)) (pss_one (ps_ret (pe_tup (pa_cons pe_non (pa_cons (pv 3) (pa_cons (pv 4) pa_nil)))))) pss_nil)
      (pss_cons (ps_if (pt_cmpR (o_eq hr.units) (pv 1) pe_int (nomark _)) (pss_one (ps_ret (pe_tup (pa_cons (pv 2) (pa_cons pe_str (pa_cons (pv 4) pa_nil)))))) pss_nil)
      (pss_one (ps_ret pe_non))))))))), ?_⟩
    have ht' : H t = some (.tup [.int q.1, .int q.2.1, .int q.2.2]) := ht
    walk_at "go"
    refine st_br2 (fun c => ?_) (fun c => ?_)
    · walk_at "go"
      refine st_listQ (seq_t ht') fun p H' n e v => ?_
      exact k _ _ H' e (Apart.lst n v fun _ => (.cons (.int _) (.cons (.int _) (.cons (.int _) .nil)))) trivial
    walk_at "go"
    refine st_br2 (fun c => ?_) (fun c => ?_)
    · walk_at "go"
      rename_i p H' n e v
      exact k _ _ H' e (Apart.tup e v fun _ => (.cons (.int _) (.cons (.int _) .nil))) (by decide : 2 ≤ 1000)
    walk_at "go"
    refine st_br2 (fun c => ?_) (fun c => ?_)
    · walk_at "go"
      rename_i p H' n e v
      exact k _ _ H' e (Apart.tup e v fun _ => (.cons (.int _) (.cons (.int _) (.cons (.int _) (.cons (.int _) .nil))))) (by decide : 4 ≤ 1000)
    walk_at "go"
    refine st_br2 (fun c => ?_) (fun c => ?_)
    · walk_at "go"
      rename_i p H' n e v
      exact k _ _ H' e (Apart.tup e v fun _ => (.cons (.int _) (.cons (.int _) (.cons (.bl _) .nil)))) (by decide : 3 ≤ 1000)
    walk_at "go"
    refine st_br2 (fun c => ?_) (fun c => ?_)
    · walk_at "go"
      rename_i p H' n e v
      exact k _ _ H' e (Apart.tup e v fun _ => (.cons .non (.cons (.int _) (.cons (.int _) .nil)))) (by decide : 3 ≤ 1000)
    walk_at "go"
    refine st_br2 (fun c => ?_) (fun c => ?_)
    · walk_at "go"
      rename_i p H' n e v
      exact k _ _ H' e (Apart.tup e v fun _ => (.cons (.int _) (.cons (.str _) (.cons (.int _) .nil)))) (by decide : 3 ≤ 1000)
    walk_at "go"
    exact k _ _ H (Fr.refl _) (fun _ _ _ => .non) trivial
theorem news_ok {H : Hp} {Q : VK} {E : XK} {K : PySem.W.Frag} {A1 A2 : Addr} {z1 z2 : List ZT} {l1 l2 : List Q3} (h1 : RkL H A1 z1 l1) (h2 : RkL H A2 z2 l2) (r1 : RankL l1) (r2 : RankL l2)
    (k : ∀ t C W M zc zw H', Ex H H' → H t = none → H C = none → H W = none → H M = none → NwAt H' t C W M zc zw (notIn l1 l2) (notIn l2 l1) (movL l1 l2) → Q (.ref t) H') : sp_news_of K [.ref A1, .ref A2] H Q E := by
  refine ⟨.ref A1, .ref A2, _, _, rfl, h1.rn, h2.rn, fun h => absurd ⟨l1, rfl, r1⟩ h, fun _ h => absurd ⟨l2, rfl, r2⟩ h, fun m1 m2 e1 e2 _ _ t C W M zc zw H' e n1 n2 n3 n4 hn => ?_⟩
  injection e1 with e1
  injection e2 with e2
  have e1 := enc3_map e1
  have e2 := enc3_map e2
  subst e1 e2
  exact k t C W M zc zw H' e n1 n2 n3 n4 hn
theorem foll_ok {H : Hp} {Q : VK} {E : XK} {K : PySem.W.Frag} {A1 t C W M : Addr} {z1 zc zw : List ZT} {l1 l2 : List Q3} (h1 : RkL H A1 z1 l1) (hn : NwAt H t C W M zc zw (notIn l1 l2) (notIn l2 l1) (movL l1 l2)) (r1 : RankL l1) (r2 : RankL l2)
    (k : ∀ D zs H', Ex H H' → H D = none → RkL H' D zs l2 → Q (.ref D) H') : sp_followed K [.ref A1, .ref t] H Q E := by
  have s1 := rank_len r1
  have s2 := rank_len r2
  have a1 := notIn_len l1 l2
  have a2 := notIn_len l2 l1
  have a3 := movL_len l1 l2
  refine ⟨.ref A1, .ref t, _, _, rfl, h1.rn, hn.rn, ?_, fun h => absurd ⟨l1, rfl, r1⟩ h, fun _ h => ?_, fun l c w m e1 _ e2 h6 ys hp hs => ?_⟩
  · intro e he es ee
    simp only [List.mem_cons, List.not_mem_nil, or_false] at he
    rcases he with rfl | rfl | rfl
    · injection ee with ee; rw [← ee, List.length_map]; omega
    · injection ee with ee; rw [← ee, List.length_map]; omega
    · injection ee with ee; rw [← ee, List.length_map]; omega
  · rw [news_made movL_six] at h
    cases h
  · injection e1 with e1
    have e1 := enc3_map e1
    subst e1
    unfold newsE at e2
    injection e2 with e2
    injection e2 with c1 e2
    injection e2 with c2 e2
    injection e2 with c3 e2
    injection c1 with c1
    injection c2 with c2
    injection c3 with c3
    have c1 := enc3_map c1
    have c2 := enc3_map c2
    have c3 : movL l1 l2 = m := (List.map_inj_right (fun a b h => by
      have h2 := eqv_encI a b
      rw [h] at h2
      have h3 := eqv_encI b b
      rw [h3, decide_eq_true rfl] at h2
      exact of_decide_eq_true h2.symm)).mp c3
    subst c1 c2 c3
    have ey := led_uniq r1 r2 hp hs
    subst ey
    exact ⟨fun h => absurd ⟨r2, rfl, rfl, rfl⟩ h, fun _ => k⟩
theorem some_lst {H : Hp} {C M : Addr} {ys zs : List V} (hM : H M = some (.lst ys)) : ∃ ws, upd H C (.lst zs) M = some (.lst ws) := by
  by_cases e : M = C
  · rw [e]; exact ⟨_, upd_same⟩
  · exact ⟨_, (upd_ne e).trans hM⟩
theorem rkl_nil {H : Hp} {A : Addr} (h : H A = some (.lst [])) : RkL H A [] [] := ⟨h, (fun _ h => by cases h), rfl⟩
theorem rank_nil : RankL [] := ⟨.nil, List.nodup_nil, (fun _ h => by cases h)⟩
theorem rankD_iff {l : List Q3} {b : Bool} (h : b = true ↔ RankD (.list (l.map enc3))) (r : RankL l) : b = true := h.mpr ⟨l, rfl, r⟩
def sp__law_list_spoilt : Sp := fun vs H Q _ => ∃ (A : Addr) (zs : List ZT) (l : List Q3) (w a : Int), vs = [.ref A, .int w, .int a] ∧ RkL H A zs l ∧ l.length ≤ 60 ∧ (0 ≤ w ∧ w < 18) ∧ 0 ≤ a ∧ ∀ v d H', Ex H H' → Rn H' v d → okL d → Q v H'
theorem ok__law_list_spoilt (T : Tx K mg ad fd tk) : FnOk P w K mg base CX0 2 (ad 22) (fd 22) ["_law_rows", "_law_word", "_law_at"] sp__law_list_spoilt := by
  refine T.d__law_list_spoilt.F.ok sc__law_list_spoilt (fun vs H Q E h => ?_) (fun cdv A outer s H vs Q E hr h => ?_)
  · obtain ⟨A, zs, l, w, a, rfl, _⟩ := h
    rfl
  · obtain ⟨A, zs, l, w, a, rfl, hA, hl, hw, ha, k⟩ := h
    refine ⟨_, (pss_cons (ps_set (i := 3) sc__law_list_spoilt.nd rfl (Or.inl rfl) (pe_callTy (c_list rfl (K := K)) (by rfl) T.b_list (by decide +kernel) (pa_cons (pv 0) pa_nil)))
      (pss_cons (ps_if (PW.pt (pw_or (pt_cmpR (o_eq hr.units) (pv 0) (pe_lst pa_nil) (nomark _)) (pw_or1 (pt_cmpR o_gt (pv 1) pe_int (nomark _))))) (pss_one (ps_ret (pe_ix (i_ix (K := K)) (pe_lst (pa_cons (pe_callTy (c_tuple rfl (K := K)) (by rfl) T.b_tuple (by decide +kernel) (pa_cons (pv 0) pa_nil)) (pa_cons pe_dnewK (pa_cons pe_str (pa_cons pe_non (pa_cons pe_int (pa_cons (pe_lst (pa_cons pe_int pa_nil)) (pa_cons (pe_lst (pa_cons (pe_tup pa_nil) pa_nil)) (pa_cons pe_bl pa_nil))))))))) (pe_op o_mod (pv 2) pe_int) (fun _ _ => rfl)))) pss_nil)
      (pss_cons (ps_set (i := 2) sc__law_list_spoilt.nd rfl (Or.inl rfl) (pe_op o_mod (pv 2) (pe_callB (c_max rfl) (by rfl) T.b_max (by decide +kernel) (pa_cons pe_int (pa_cons (pe_callB (c_len (K := K)) (by rfl) T.b_len (by decide +kernel) (pa_cons (pv 0) pa_nil)) pa_nil)))))
      (pss_cons (ps_asg (pe_ix (i_ix (K := K)) (pv 0) (pv 2) (fun _ _ => rfl)) (pg_tup rfl (pgs_cons (pg_name (i := 4) sc__law_list_spoilt.nd rfl (Or.inl rfl)) (pgs_cons (pg_name (i := 5) sc__law_list_spoilt.nd rfl (Or.inl rfl)) (pgs_cons (pg_name (i := 6) sc__law_list_spoilt.nd rfl (Or.inl rfl)) pgs_nil)))))
      (pss_cons (ps_if (pt_cmpR o_lt (pv 1) pe_int (nomark _)) (pss_cons (ps_asg (pe_call (ok__law_one_spoilt T) (hr.mono (by decide)) rfl T.d__law_one_spoilt.g T.d__law_one_spoilt.F.kp T.d__law_one_spoilt.b .nil pass0 (pa_cons (pe_ix (i_ix (K := K)) (pv 0) (pv 2) (fun _ _ => rfl)) (pa_cons (pv 1) pa_nil))) (pg_sub (pv 3) (pv 2) set_list))
      (pss_one (ps_ret (pv 3)))) pss_nil)
      (pss_cons (ps_if (pt_cmpR (o_eq hr.units) (pv 1) pe_int (nomark _)) (pss_one (ps_ret (pe_op o_add (pe_op o_add (pe_slice (s_sl (K := K)) (pv 3) po_none (po_some (pv 2))) (pe_lst (pa_cons (pe_ix (i_ix (K := K)) (pv 0) (pv 2) (fun _ _ => rfl)) pa_nil))) (pe_slice (s_sl (K := K)) (pv 3) (po_some (pv 2)) po_none)))) pss_nil)
      (pss_cons (ps_if (pt_cmpR (o_eq hr.units) (pv 1) pe_int (nomark _)) (pss_one (ps_ret (pe_op o_add (pe_slice (s_sl (K := K)) (pv 3) (po_some (pv 2)) po_none) (pe_slice (s_sl (K := K)) (pv 3) po_none (po_some (pv 2)))))) pss_nil)
      (pss_cons (ps_if (pt_cmpR (o_eq hr.units) (pv 1) pe_int (nomark _)) (pss_one (ps_ret (pe_callB (c_sort3 (K := K)) (by rfl) T.b_sorted (by decide +kernel) (pa_cons (pe_op o_add (pv 3) (pe_lst (pa_cons (pe_tup (pa_cons (pe_op o_add (pv 4) pe_int) (pa_cons (pv 5) (pa_cons (pv 6) pa_nil)))) pa_nil))) pa_nil)))) pss_nil)
      (pss_cons (ps_set (i := 7) sc__law_list_spoilt.nd rfl (Or.inl rfl) (pe_lst (pa_cons (pe_tup (pa_cons pe_int (pa_cons (pv 5) (pa_cons (pv 6) pa_nil)))) (pa_cons (pe_tup (pa_cons (pe_un un_neg pe_int) (pa_cons (pv 5) (pa_cons (pv 6) pa_nil)))) (pa_cons (pe_tup (pa_cons (pv 4) (pa_cons (pe_un un_neg pe_int) (pa_cons (pv 6) pa_nil)))) (pa_cons (pe_tup (pa_cons (pv 4) (pa_cons (pv 5) (pa_cons pe_int pa_nil)))) (pa_cons (pe_tup (pa_cons (pv 4) (pa_cons (pv 5) (pa_cons (pv 5) pa_nil)))) pa_nil)))))))
      (pss_cons (ps_set (i := 7) sc__law_list_spoilt.nd rfl (Or.inl rfl) (pe_op o_add (pv 7) (pe_lst (pa_cons (pe_tup (pa_cons (pv 4) (pa_cons (pv 6) (pa_cons (pv 5) pa_nil)))) (pa_cons (pe_tup (pa_cons (pv 4) (pa_cons pe_int (pa_cons pe_int pa_nil)))) pa_nil)))))
      (pss_cons (ps_asg (pe_ix (i_ix (K := K)) (pv 7) (pe_op o_sub (pv 1) pe_int) (fun _ _ => rfl)) (pg_sub (pv 3) (pv 2) set_list))
      (pss_one (ps_ret (pe_callB (c_sort3 (K := K)) (by rfl) T.b_sorted (by decide +kernel) (pa_cons (pv 3) pa_nil))))))))))))))), ?_⟩
    have hAa := hA.at_
    have hzl : zs.length = l.length := by rw [← hA.eq, List.length_map]
    walk_at "go"
    rename_i F H1 nF e1 vF N H2 nN e2 vN
    have hA2 := hA.ex (e1.trans e2)
    refine st_eq3 hA2 (rkl_nil vN) ?_
    have e02 := e1.trans e2
    have vF2 := e2.get vF
    have hA2a := hA2.at_
    by_cases hc : l = []
    · rw [decide_eq_true hc]
      walk_at "go"
      rename_i p1 G1 m1 t1 w1 p2 G2 m2 t2 w2 p3 G3 m3 t3 w3 p4 G4 m4 t4 w4 p5 G5 m5 t5 w5 p6 G6 m6 t6 w6
      obtain ⟨j, hj, j0, j1⟩ : ∃ j, j = a % 8 ∧ 0 ≤ j ∧ j < 8 := ⟨_, rfl, Int.emod_nonneg _ (by decide), Int.emod_lt_of_pos _ (by decide)⟩
      rw [← hj]
      have t26 := (((t2.trans t3).trans t4).trans t5).trans t6
      have e06 := e02.trans (t1.trans t26)
      obtain rfl | rfl | rfl | rfl | rfl | rfl | rfl | rfl : j = 0 ∨ j = 1 ∨ j = 2 ∨ j = 3 ∨ j = 4 ∨ j = 5 ∨ j = 6 ∨ j = 7 := by omega
      · exact st_ixL w6 (v := .ref p1) rfl (k _ _ G6 e06 (.tup (t26.get w1) (rnA_tri ((hA2.ex (t1.trans t26)).t3))) trivial)
      · exact st_ixL w6 (v := .ref p2) rfl (k _ _ G6 e06 (.dk ((((t3.trans t4).trans t5).trans t6).get w2)) trivial)
      · exact st_ixL w6 (v := .str "") rfl (k _ _ G6 e06 (.str _) trivial)
      · exact st_ixL w6 (v := .non) rfl (k _ _ G6 e06 .non trivial)
      · exact st_ixL w6 (v := .int 0) rfl (k _ _ G6 e06 (.int _) trivial)
      · exact st_ixL w6 (v := .ref p3) rfl (k _ _ G6 e06 (.lst (((t4.trans t5).trans t6).get w3) (.cons (.int _) .nil)) ⟨by decide, fun e he ds ed => by rw [List.mem_singleton.mp he] at ed; cases ed⟩)
      · exact st_ixL w6 (v := .ref p5) rfl (k _ _ G6 e06 (.lst (t6.get w5) (.cons (.tup ((t5.trans t6).get w4) .nil) .nil)) ⟨by decide, fun e he ds ed => by rw [List.mem_singleton.mp he] at ed; cases ed; decide⟩)
      · exact st_ixL w6 (v := .bl true) rfl (k _ _ G6 e06 (.bl _) trivial)
    rw [decide_eq_false hc]
    walk_at "go"
    refine st_br2 (fun c16 => ?_) (fun c16 => ?_)
    · skip
      walk_at "go"
      rename_i p1 G1 m1 t1 w1 p2 G2 m2 t2 w2 p3 G3 m3 t3 w3 p4 G4 m4 t4 w4 p5 G5 m5 t5 w5 p6 G6 m6 t6 w6
      obtain ⟨j, hj, j0, j1⟩ : ∃ j, j = a % 8 ∧ 0 ≤ j ∧ j < 8 := ⟨_, rfl, Int.emod_nonneg _ (by decide), Int.emod_lt_of_pos _ (by decide)⟩
      rw [← hj]
      have t26 := (((t2.trans t3).trans t4).trans t5).trans t6
      have e06 := e02.trans (t1.trans t26)
      obtain rfl | rfl | rfl | rfl | rfl | rfl | rfl | rfl : j = 0 ∨ j = 1 ∨ j = 2 ∨ j = 3 ∨ j = 4 ∨ j = 5 ∨ j = 6 ∨ j = 7 := by omega
      · exact st_ixL w6 (v := .ref p1) rfl (k _ _ G6 e06 (.tup (t26.get w1) (rnA_tri ((hA2.ex (t1.trans t26)).t3))) trivial)
      · exact st_ixL w6 (v := .ref p2) rfl (k _ _ G6 e06 (.dk ((((t3.trans t4).trans t5).trans t6).get w2)) trivial)
      · exact st_ixL w6 (v := .str "") rfl (k _ _ G6 e06 (.str _) trivial)
      · exact st_ixL w6 (v := .non) rfl (k _ _ G6 e06 .non trivial)
      · exact st_ixL w6 (v := .int 0) rfl (k _ _ G6 e06 (.int _) trivial)
      · exact st_ixL w6 (v := .ref p3) rfl (k _ _ G6 e06 (.lst (((t4.trans t5).trans t6).get w3) (.cons (.int _) .nil)) ⟨by decide, fun e he ds ed => by rw [List.mem_singleton.mp he] at ed; cases ed⟩)
      · exact st_ixL w6 (v := .ref p5) rfl (k _ _ G6 e06 (.lst (t6.get w5) (.cons (.tup ((t5.trans t6).get w4) .nil) .nil)) ⟨by decide, fun e he ds ed => by rw [List.mem_singleton.mp he] at ed; cases ed; decide⟩)
      · exact st_ixL w6 (v := .bl true) rfl (k _ _ G6 e06 (.bl _) trivial)
    have hl0 : 1 ≤ l.length := by
      cases l with
      | nil => exact absurd rfl hc
      | cons _ _ => rw [List.length_cons]; omega
    walk_at "go"
    obtain ⟨at_, hat⟩ : ∃ z : Int, z = a % (if ((zs.map z3V).length : Int) > 1 then ((zs.map z3V).length : Int) else 1) := ⟨_, rfl⟩
    rw [← hat]
    have hb : 0 ≤ at_ ∧ at_ < (zs.length : Int) := by
      rw [List.length_map] at hat
      subst hat
      split
      · exact ⟨Int.emod_nonneg _ (by omega), Int.emod_lt_of_pos _ (by omega)⟩
      · exact ⟨Int.emod_nonneg _ (by decide), by have := Int.emod_lt_of_pos a (b := 1) (by decide); omega⟩
    clear hat
    obtain ⟨j, rfl⟩ := Int.eq_ofNat_of_zero_le hb.1
    obtain ⟨z, hz⟩ : ∃ z, zs[j]? = some z := ⟨_, List.getElem?_eq_getElem (by omega)⟩
    have hix : atI (zs.map z3V) ((j : Nat) : Int) = some (.ref z.1) := at_mapN (f := z3V) hz
    have z2 : H2 z.1 = some (.tup [.int z.2.1, .int z.2.2.1, .int z.2.2.2]) := hA2.t3 z (List.mem_of_getElem? hz)
    have hzm : V.ref z.1 ∈ zs.map z3V := List.mem_map.mpr ⟨z, List.mem_of_getElem? hz, rfl⟩
    have hset : ixN (zs.map z3V).length ((j : Nat) : Int) = some j := by
      unfold ixN
      rw [if_pos (by omega), if_pos (by rw [List.length_map]; omega)]
      rfl
    have rows2 := t3_rows hA2.t3
    have lc := fun (lo hi : Option Int) => cutV_length (zs.map z3V) lo hi
    rw [List.length_map, hzl] at lc
    refine st_ixL hA2a hix ?_
    walk_at "go"
    refine st_br2 (fun c7 => ?_) (fun c7 => ?_)
    · walk_at "go"
      refine st_ixL hA2a hix ?_
      walk_at "go"
      refine ⟨z.1, z.2, w, rfl, z2, fun v d G1 f1 hv hd => ?_⟩
      walk_at "go"
      refine st_setL (f1.get vF2) hset ?_
      walk_at "go"
      have hr := RowsK.set (j := j) (t3_rows ((hA2.t3.ex f1).up (u := .lst ((zs.map z3V).set j v)) (f1.get vF2))) ((hv F _ vF2).ex hid_up) hd
      obtain ⟨dd, h1, h2⟩ := hr.lst upd_same (by rw [List.length_set, List.length_map]; omega)
      exact k _ _ _ ((e02.trans f1).mut nF) h1 h2
    walk_at "go"
    refine st_br2 (fun c8 => ?_) (fun c8 => ?_)
    · walk_at "go"
      rename_i p1 G1 m1 t1 w1
      refine st_ixL (t1.get hA2a) hix ?_
      walk_at "go"
      rename_i p2 G2 m2 t2 w2
      refine st_addL (t2.get w1) w2 (by have := lc none (some ((j : Nat) : Int)); rw [List.length_singleton]; omega) fun p3 G3 m3 t3 w3 => ?_
      have vF3 := (((t1.trans t2).trans t3).get vF2)
      walk_at "go"
      rename_i p4 G4 m4 t4 w4
      refine st_addL (t4.get w3) w4 (by have := lc none (some ((j : Nat) : Int)); have := lc (some ((j : Nat) : Int)) none; rw [List.length_append, List.length_singleton]; omega) fun p5 G5 m5 t5 w5 => ?_
      have t15 := (((t1.trans t2).trans t3).trans t4).trans t5
      obtain ⟨dd, h1, h2⟩ := ((((rows2.ex t15).sub (cutV_sub (lo := none) (hi := some ((j : Nat) : Int)))).app ((rows2.ex t15).sub (fun v hv => by rw [List.mem_singleton.mp hv]; exact hzm))).app ((rows2.ex t15).sub (cutV_sub (lo := some ((j : Nat) : Int)) (hi := none)))).lst w5 (by have := lc none (some ((j : Nat) : Int)); have := lc (some ((j : Nat) : Int)) none; rw [List.length_append, List.length_append, List.length_singleton]; omega)
      exact k _ _ G5 (e02.trans t15) h1 h2
    walk_at "go"
    refine st_br2 (fun c9 => ?_) (fun c9 => ?_)
    · walk_at "go"
      rename_i p1 G1 m1 t1 w1 p2 G2 m2 t2 w2
      refine st_addL (t2.get w1) w2 (by have := lc none (some ((j : Nat) : Int)); have := lc (some ((j : Nat) : Int)) none; omega) fun p5 G5 m5 t5 w5 => ?_
      have t15 := (t1.trans t2).trans t5
      obtain ⟨dd, h1, h2⟩ := (((rows2.ex t15).sub (cutV_sub (lo := some ((j : Nat) : Int)) (hi := none))).app ((rows2.ex t15).sub (cutV_sub (lo := none) (hi := some ((j : Nat) : Int))))).lst w5 (by have := lc none (some ((j : Nat) : Int)); have := lc (some ((j : Nat) : Int)) none; rw [List.length_append]; omega)
      exact k _ _ G5 (e02.trans t15) h1 h2
    walk_at "go"
    refine st_br2 (fun c10 => ?_) (fun c10 => ?_)
    · walk_at "go"
      rename_i p1 G1 m1 t1 w1 p2 G2 m2 t2 w2 p3 G3 m3 t3 w3
      have t13 := (t1.trans t2).trans t3
      have ht : T3 G3 (zs ++ [(p1, (z.2.1 + 1, z.2.2.1, z.2.2.2))]) := T3.app (hA2.t3.ex t13) (T3.cons ((t2.trans t3).get w1) fun _ h => by cases h)
      have w3' : G3 p3 = some (.lst ((zs ++ [(p1, (z.2.1 + 1, z.2.2.1, z.2.2.2))]).map z3V)) := by rw [w3, List.map_append]; rfl
      refine st_sort3 (lstAt_sq (lst_of w3')) ht fun ys q H8 hp hs nq e8 v9 => ?_
      obtain ⟨dd, h1, h2⟩ := (t3_rows ((ht.perm hp).ex e8)).lst v9 (by rw [List.length_map, hp.length_eq, List.length_append, List.length_singleton]; omega)
      exact k _ _ H8 ((e02.trans t13).trans e8) h1 h2
    walk_at "go"
    rename_i p1 G1 m1 t1 w1 p2 G2 m2 t2 w2 p3 G3 m3 t3 w3 p4 G4 m4 t4 w4 p5 G5 m5 t5 w5 p6 G6 m6 t6 w6 p7 G7 m7 t7 w7 p8 G8 m8 t8 w8 p9 G9 m9 t9 w9 p10 G10 m10 t10 w10
    have t210 := ((((((((t2.trans t3).trans t4).trans t5).trans t6).trans t7).trans t8).trans t9).trans t10)
    have t310 := (((((((t3.trans t4).trans t5).trans t6).trans t7).trans t8).trans t9).trans t10)
    have t410 := ((((((t4.trans t5).trans t6).trans t7).trans t8).trans t9).trans t10)
    have t510 := (((((t5.trans t6).trans t7).trans t8).trans t9).trans t10)
    have t610 := ((((t6.trans t7).trans t8).trans t9).trans t10)
    have t810 := (t8.trans t9).trans t10
    have t910 := t9.trans t10
    have t110 := t1.trans t210
    obtain ⟨os, hos⟩ : ∃ os : List ZT, os = [(p1, (49, z.2.2.1, z.2.2.2)), (p2, (-1, z.2.2.1, z.2.2.2)), (p3, (z.2.1, -1, z.2.2.2)), (p4, (z.2.1, z.2.2.1, 25)), (p5, (z.2.1, z.2.2.1, z.2.2.1)), (p7, (z.2.1, z.2.2.2, z.2.2.1)), (p8, (z.2.1, 24, 24))] := ⟨_, rfl⟩
    have ht : T3 G10 os := by
      rw [hos]
      exact T3.cons (t210.get w1) (T3.cons (t310.get w2) (T3.cons (t410.get w3) (T3.cons (t510.get w4) (T3.cons (t610.get w5) (T3.cons (t810.get w7) (T3.cons (t910.get w8) fun _ h => by cases h))))))
    have w10' : G10 p10 = some (.lst (os.map z3V)) := by rw [w10, hos]; rfl
    obtain ⟨i, hi⟩ := Int.eq_ofNat_of_zero_le (show 0 ≤ w - 10 by omega)
    obtain ⟨y, hy⟩ : ∃ y, os[i]? = some y := ⟨_, List.getElem?_eq_getElem (by rw [hos]; show i < 7; omega)⟩
    rw [hi]
    refine st_ixL w10' (at_mapN (f := z3V) hy) ?_
    walk_at "go"
    have vF10 := t110.get vF2
    refine st_setL vF10 hset ?_
    walk_at "go"
    have hyt := ht y (List.mem_of_getElem? hy)
    have hts : T3 (upd G10 F (.lst ((zs.map z3V).set j (.ref y.1)))) (zs.set j y) := t3_set ((hA2.t3.ex t110).up vF10) (by
      rw [upd_ne fun e => by rw [e, vF10] at hyt; cases hyt]
      exact hyt)
    have vFn : (upd G10 F (.lst ((zs.map z3V).set j (.ref y.1)))) F = some (.lst ((zs.set j y).map z3V)) := by rw [upd_same, List.map_set]
    have eF : Ex H (upd G10 F (.lst ((zs.map z3V).set j (.ref y.1)))) := (e02.trans t110).mut nF
    refine st_sort3 (lstAt_sq (lst_of vFn)) hts fun ys q H8 hp hs nq e8 v9 => ?_
    obtain ⟨dd, h1, h2⟩ := (t3_rows ((hts.perm hp).ex e8)).lst v9 (by rw [List.length_map, hp.length_eq, List.length_set]; omega)
    exact k _ _ H8 (eF.trans e8) h1 h2
def sp__law_row_spoilt : Sp := fun vs H Q _ => ∃ (t : Addr) (r : List Int) (w dr : Int), vs = [.ref t, .int w, .int dr] ∧ H t = some (.tup (r.map V.int)) ∧ (1 ≤ r.length ∧ r.length ≤ 100) ∧ 0 ≤ dr ∧ ∀ v d H', Ex H H' → Apart H H' v d → okR d → Q v H'
theorem ok__law_row_spoilt (T : Tx K mg ad fd tk) : FnOk P w K mg base CX0 1 (ad 23) (fd 23) ["_law_row", "_law_word", "_law_draw"] sp__law_row_spoilt := by
  refine T.d__law_row_spoilt.F.ok sc__law_row_spoilt (fun vs H Q E h => ?_) (fun cdv A outer s H vs Q E hr h => ?_)
  · obtain ⟨t, r, w, dr, rfl, _⟩ := h
    rfl
  · obtain ⟨t, r, w, dr, rfl, ht, hl, hd, k⟩ := h
    refine ⟨_, (pss_cons (ps_set (i := 3) sc__law_row_spoilt.nd rfl (Or.inl rfl) (pe_op o_mod (pv 2) (pe_callB (c_max rfl) (by rfl) T.b_max (by decide +kernel) (pa_cons pe_int (pa_cons (pe_callB (c_len (K := K)) (by rfl) T.b_len (by decide +kernel) (pa_cons (pv 0) pa_nil)) pa_nil)))))
      (pss_cons (ps_if (pt_cmpR (o_eq hr.units) (pv 1) pe_int (nomark _)) (pss_one (ps_ret (pe_op (o_addA (K := K)) (pe_op (o_addA (K := K)) (pe_slice (s_slA (K := K)) (pv 0) po_none (po_some (pv 3))) (pe_tup (pa_cons (pe_op o_add (pe_ix (i_ix (K := K)) (pv 0) (pv 3) (fun _ _ => rfl)) pe_int) pa_nil))) (pe_slice (s_slA (K := K)) (pv 0) (po_some (pe_op o_add (pv 3) pe_int)) po_none)))) pss_nil)
      (pss_cons (ps_if (pt_cmpR (o_eq hr.units) (pv 1) pe_int (nomark _)) (pss_one (ps_ret (pe_op (o_addA (K := K)) (pe_op (o_addA (K := K)) (pe_slice (s_slA (K := K)) (pv 0) po_none (po_some (pv 3))) (pe_tup (pa_cons (pe_op o_sub (pe_ix (i_ix (K := K)) (pv 0) (pv 3) (fun _ _ => rfl)) pe_int) pa_nil))) (pe_slice (s_slA (K := K)) (pv 0) (po_some (pe_op o_add (pv 3) pe_int)) po_none)))) pss_nil)
      (pss_cons (ps_if (pt_cmpR (o_eq hr.units) (pv 1) pe_int (nomark _)) (pss_one (ps_ret (pe_op (o_addA (K := K)) (pe_op (o_addA (K := K)) (pe_slice (s_slA (K := K)) (pv 0) po_none (po_some (pv 3))) (pe_tup (pa_cons (pe_cmpR (o_eq hr.units) (pe_ix (i_ix (K := K)) (pv 0) (pv 3) (fun _ _ => rfl)) pe_int (nomark _)) pa_nil))) (pe_slice (s_slA (K := K)) (pv 0) (po_some (pe_op o_add (pv 3) pe_int)) po_none)))) pss_nil)
      (pss_cons (ps_if (pt_cmpR (o_eq hr.units) (pv 1) pe_int (nomark _)) (pss_one (ps_ret (pe_op (o_addA (K := K)) (pe_op (o_addA (K := K)) (pe_slice (s_slA (K := K)) (pv 0) po_none (po_some (pv 3))) (pe_tup (pa_cons pe_non pa_nil))) (pe_slice (s_slA (K := K)) (pv 0) (po_some (pe_op o_add (pv 3) pe_int)) po_none)))) pss_nil)
      (pss_cons (ps_if (pt_cmpR (o_eq hr.units) (pv 1) pe_int (nomark _)) (pss_one (ps_ret (pe_callTy (c_list rfl (K := K)) (by rfl) T.b_list (by decide +kernel) (pa_cons (pv 0) pa_nil)))) pss_nil)
      (pss_cons (ps_if (pt_cmpR (o_eq hr.units) (pv 1) pe_int (nomark _)) (pss_one (ps_ret (pe_slice (s_slA (K := K)) (pv 0) po_none (po_some (pe_un un_neg pe_int))))) pss_nil)
      (pss_one (ps_ret (pe_op (o_addA (K := K)) (pv 0) (pe_tup (pa_cons pe_int pa_nil)))))))))))), ?_⟩
    walk_at "go"
    obtain ⟨at_, hat⟩ : ∃ z : Int, z = dr % (if ((r.map V.int).length : Int) > 1 then ((r.map V.int).length : Int) else 1) := ⟨_, rfl⟩
    rw [← hat]
    have hb : 0 ≤ at_ ∧ at_ < (r.length : Int) := by
      rw [List.length_map] at hat
      subst hat
      split
      · exact ⟨Int.emod_nonneg _ (by omega), Int.emod_lt_of_pos _ (by omega)⟩
      · exact ⟨Int.emod_nonneg _ (by decide), by have := Int.emod_lt_of_pos dr (b := 1) (by decide); omega⟩
    clear hat
    obtain ⟨j, rfl⟩ := Int.eq_ofNat_of_zero_le hb.1
    obtain ⟨rj, hrj⟩ : ∃ y, r[j]? = some y := ⟨_, List.getElem?_eq_getElem (by omega)⟩
    have hix : atI (r.map V.int) ((j : Nat) : Int) = some (.int rj) := at_mapN (f := V.int) hrj
    refine st_br2 (fun c => ?_) (fun c => ?_)
    · walk_at "go"
      refine st_slE ht fun q1 G1 f1 w1 => ?_
      rw [cutV_map] at w1
      have l1 := cutL_len r none (some ((j : Nat) : Int))
      have ht1 := f1.get ht
      walk_at "go"
      refine st_ixT ht1 hix ?_
      walk_at "go"
      rename_i q2 G2 n2 f2 w2
      refine st_addA (f2.get w1) w2 (by rw [List.length_map, List.length_singleton]; omega) fun q3 G3 f3 w3 => ?_
      walk_at "go"
      refine st_slE ((f2.trans f3).get ht1) fun q4 G4 f4 w4 => ?_
      rw [cutV_map] at w4
      have l2 := cutL_len r (some (((j : Nat) : Int) + 1)) none
      refine st_addA (f4.get w3) w4 (by rw [List.length_append, List.length_map, List.length_map, List.length_singleton]; omega) fun q5 G5 f5 w5 => ?_
      exact k _ _ G5 ((((f1.trans f2).trans f3).trans f4).trans f5) (Apart.tup ((((f1.trans f2).trans f3).trans f4).trans f5) w5 fun _ => (rnA_app (rnA_app (rnA_ints _) (.cons (.int _) .nil)) (rnA_ints _))) (by show List.length _ ≤ 1000; rw [List.length_append, List.length_append, List.length_map, List.length_map, List.length_singleton]; omega)
    walk_at "go"
    refine st_br2 (fun c => ?_) (fun c => ?_)
    · walk_at "go"
      refine st_slE ht fun q1 G1 f1 w1 => ?_
      rw [cutV_map] at w1
      have l1 := cutL_len r none (some ((j : Nat) : Int))
      have ht1 := f1.get ht
      walk_at "go"
      refine st_ixT ht1 hix ?_
      walk_at "go"
      rename_i q2 G2 n2 f2 w2
      refine st_addA (f2.get w1) w2 (by rw [List.length_map, List.length_singleton]; omega) fun q3 G3 f3 w3 => ?_
      walk_at "go"
      refine st_slE ((f2.trans f3).get ht1) fun q4 G4 f4 w4 => ?_
      rw [cutV_map] at w4
      have l2 := cutL_len r (some (((j : Nat) : Int) + 1)) none
      refine st_addA (f4.get w3) w4 (by rw [List.length_append, List.length_map, List.length_map, List.length_singleton]; omega) fun q5 G5 f5 w5 => ?_
      exact k _ _ G5 ((((f1.trans f2).trans f3).trans f4).trans f5) (Apart.tup ((((f1.trans f2).trans f3).trans f4).trans f5) w5 fun _ => (rnA_app (rnA_app (rnA_ints _) (.cons (.int _) .nil)) (rnA_ints _))) (by show List.length _ ≤ 1000; rw [List.length_append, List.length_append, List.length_map, List.length_map, List.length_singleton]; omega)
    walk_at "go"
    refine st_br2 (fun c => ?_) (fun c => ?_)
    · walk_at "go"
      refine st_slE ht fun q1 G1 f1 w1 => ?_
      rw [cutV_map] at w1
      have l1 := cutL_len r none (some ((j : Nat) : Int))
      have ht1 := f1.get ht
      walk_at "go"
      refine st_ixT ht1 hix ?_
      walk_at "go"
      rename_i q2 G2 n2 f2 w2
      refine st_addA (f2.get w1) w2 (by rw [List.length_map, List.length_singleton]; omega) fun q3 G3 f3 w3 => ?_
      walk_at "go"
      refine st_slE ((f2.trans f3).get ht1) fun q4 G4 f4 w4 => ?_
      rw [cutV_map] at w4
      have l2 := cutL_len r (some (((j : Nat) : Int) + 1)) none
      refine st_addA (f4.get w3) w4 (by rw [List.length_append, List.length_map, List.length_map, List.length_singleton]; omega) fun q5 G5 f5 w5 => ?_
      exact k _ _ G5 ((((f1.trans f2).trans f3).trans f4).trans f5) (Apart.tup ((((f1.trans f2).trans f3).trans f4).trans f5) w5 fun _ => (rnA_app (rnA_app (rnA_ints _) (.cons (.bl _) .nil)) (rnA_ints _))) (by show List.length _ ≤ 1000; rw [List.length_append, List.length_append, List.length_map, List.length_map, List.length_singleton]; omega)
    walk_at "go"
    refine st_br2 (fun c => ?_) (fun c => ?_)
    · walk_at "go"
      refine st_slE ht fun q1 G1 f1 w1 => ?_
      rw [cutV_map] at w1
      have l1 := cutL_len r none (some ((j : Nat) : Int))
      have ht1 := f1.get ht
      walk_at "go"
      rename_i q2 G2 n2 f2 w2
      refine st_addA (f2.get w1) w2 (by rw [List.length_map, List.length_singleton]; omega) fun q3 G3 f3 w3 => ?_
      walk_at "go"
      refine st_slE ((f2.trans f3).get ht1) fun q4 G4 f4 w4 => ?_
      rw [cutV_map] at w4
      have l2 := cutL_len r (some (((j : Nat) : Int) + 1)) none
      refine st_addA (f4.get w3) w4 (by rw [List.length_append, List.length_map, List.length_map, List.length_singleton]; omega) fun q5 G5 f5 w5 => ?_
      exact k _ _ G5 ((((f1.trans f2).trans f3).trans f4).trans f5) (Apart.tup ((((f1.trans f2).trans f3).trans f4).trans f5) w5 fun _ => (rnA_app (rnA_app (rnA_ints _) (.cons .non .nil)) (rnA_ints _))) (by show List.length _ ≤ 1000; rw [List.length_append, List.length_append, List.length_map, List.length_map, List.length_singleton]; omega)
    walk_at "go"
    refine st_br2 (fun c => ?_) (fun c => ?_)
    · walk_at "go"
      refine st_listQ (seq_t ht) fun p H' n e v => ?_
      exact k _ _ H' e (Apart.lst n v fun _ => rnA_ints _) trivial
    walk_at "go"
    refine st_br2 (fun c => ?_) (fun c => ?_)
    · walk_at "go"
      refine st_slE ht fun q1 G1 f1 w1 => ?_
      rw [cutV_map] at w1
      have l1 := cutL_len r none (some (-1 : Int))
      exact k _ _ G1 f1 (Apart.tup f1 w1 fun _ => rnA_ints _) (by show List.length _ ≤ 1000; rw [List.length_map]; omega)
    walk_at "go"
    rename_i q2 G2 n2 f2 w2
    refine st_addA (f2.get ht) w2 (by rw [List.length_map, List.length_singleton]; omega) fun q3 G3 f3 w3 => ?_
    exact k _ _ G3 (f2.trans f3) (Apart.tup (f2.trans f3) w3 fun _ => (rnA_app (rnA_ints _) (.cons (.int _) .nil))) (by show List.length _ ≤ 1000; rw [List.length_append, List.length_map, List.length_singleton]; omega)
def q2l (q : Q3) : List Int := [q.1, q.2.1, q.2.2]
theorem RkL.rwi {H : Hp} {A : Addr} {zs : List ZT} {l : List Q3} (h : RkL H A zs l) : RwI H A (l.map q2l) := by
  refine ⟨zs.map (·.1), by rw [h.at_, List.map_map]; rfl, by rw [List.length_map, List.length_map, ← h.eq, List.length_map], fun i t r h1 h2 => ?_⟩
  rw [List.getElem?_map] at h1
  obtain ⟨z, hz, rfl⟩ := Option.map_eq_some_iff.mp h1
  rw [List.getElem?_map, ← h.eq, List.getElem?_map, hz] at h2
  cases h2
  exact h.t3 z (List.mem_of_getElem? hz)
/-- rows, none long, not many of them -/
def RsK (R : List (List Int)) : Prop := R.length ≤ 60 ∧ ∀ r ∈ R, 1 ≤ r.length ∧ r.length ≤ 100
theorem RwI.rows {H : Hp} {M : Addr} {R : List (List Int)} {ts : List Addr} (hl : ts.length = R.length) (hc : ∀ (i : Nat) (t : Addr) (r : List Int), ts[i]? = some t → R[i]? = some r → H t = some (.tup (r.map V.int))) (hR : RsK R) : RowsK H (ts.map V.ref) := .of fun v hv => by
  obtain ⟨t, ht, rfl⟩ := List.mem_map.mp hv
  obtain ⟨i, hi⟩ := List.getElem?_of_mem ht
  have hlt := (List.getElem?_eq_some_iff.mp hi).1
  have hr := List.getElem?_eq_getElem (l := R) (i := i) (by omega)
  have := (hR.2 _ (List.mem_of_getElem? hr)).2
  exact ⟨_, .tup (hc i t _ hi hr) (rnA_ints _), by show List.length _ ≤ 1000; rw [List.length_map]; omega⟩
theorem RwI.lst {H : Hp} {M : Addr} {R : List (List Int)} (h : RwI H M R) (hR : RsK R) : ∃ d, Rn H (.ref M) d ∧ okL d := by
  obtain ⟨ts, a, b, c⟩ := h
  exact (RwI.rows (M := M) b c hR).lst a (by rw [List.length_map]; have := hR.1; omega)
/-- a list of three things that are told by some data -/
def FoundK (H : Hp) (F : Addr) : Prop := ∃ xs, H F = some (.lst xs) ∧ xs.length = 3 ∧ ∀ x ∈ xs, ∃ d, Rn H x d ∧ okL d
/-- three lists of rows in a list -/
structure Fd3 (H : Hp) (F : Addr) (Fs : List Addr) (Rs : List (List (List Int))) : Prop where
  at_ : H F = some (.lst (Fs.map V.ref))
  len : Fs.length = 3
  len2 : Rs.length = 3
  rw : ∀ (i : Nat) (a : Addr) (R : List (List Int)), Fs[i]? = some a → Rs[i]? = some R → RwI H a R
  ne : ∀ a ∈ Fs, a ≠ F
  nd : Fs.Nodup
theorem Fd3.ex {H H' : Hp} {F : Addr} {Fs : List Addr} {Rs : List (List (List Int))} (h : Fd3 H F Fs Rs) (e : Ex H H') : Fd3 H' F Fs Rs := ⟨e.get h.at_, h.len, h.len2, fun i a R h1 h2 => (h.rw i a R h1 h2).ex e, h.ne, h.nd⟩
/-- the part-th one is put in another's place -/
theorem Fd3.put {H : Hp} {F : Addr} {Fs : List Addr} {Rs : List (List (List Int))} {p : Nat} {v : V} {d : PyData} (h : Fd3 H F Fs Rs) (hR : ∀ R ∈ Rs, RsK R) (hv : Rn (upd H F (.lst ((Fs.map V.ref).set p v))) v d) (hd : okL d) : FoundK (upd H F (.lst ((Fs.map V.ref).set p v))) F := by
  refine ⟨_, upd_same, by rw [List.length_set, List.length_map]; exact h.len, fun x hx => ?_⟩
  rcases List.mem_or_eq_of_mem_set hx with hx | rfl
  · obtain ⟨a, ha, rfl⟩ := List.mem_map.mp hx
    obtain ⟨i, hi⟩ := List.getElem?_of_mem ha
    have hlt := (List.getElem?_eq_some_iff.mp hi).1
    have h1 := h.len
    have h2 := h.len2
    have hr := List.getElem?_eq_getElem (l := Rs) (i := i) (by omega)
    exact ((h.rw i a _ hi hr).upd h.at_ (h.ne a ha)).lst (hR _ (List.mem_of_getElem? hr))
  · exact ⟨d, hv, hd⟩
/-- the part-th one is changed -/
theorem Fd3.chg {H : Hp} {F A : Addr} {Fs : List Addr} {Rs : List (List (List Int))} {p : Nat} {ws ys : List V} {d : PyData} (h : Fd3 H F Fs Rs) (hR : ∀ R ∈ Rs, RsK R) (hA : Fs[p]? = some A) (hl : H A = some (.lst ws)) (hv : Rn (upd H A (.lst ys)) (.ref A) d) (hd : okL d) : FoundK (upd H A (.lst ys)) F := by
  refine ⟨Fs.map V.ref, (upd_ne (h.ne A (List.mem_of_getElem? hA)).symm).trans h.at_, by rw [List.length_map]; exact h.len, fun x hx => ?_⟩
  obtain ⟨a, ha, rfl⟩ := List.mem_map.mp hx
  by_cases e : a = A
  · rw [e]; exact ⟨d, hv, hd⟩
  · obtain ⟨i, hi⟩ := List.getElem?_of_mem ha
    have hlt := (List.getElem?_eq_some_iff.mp hi).1
    have h1 := h.len
    have h2 := h.len2
    have hr := List.getElem?_eq_getElem (l := Rs) (i := i) (by omega)
    exact ((h.rw i a _ hi hr).upd hl e).lst (hR _ (List.mem_of_getElem? hr))
/-- the part-th one is changed, and another put in its place -/
theorem Fd3.put2 {H : Hp} {F A : Addr} {Fs : List Addr} {Rs : List (List (List Int))} {p : Nat} {ws ys : List V} {v : V} {d : PyData} {H2 : Hp} (h : Fd3 H F Fs Rs) (hR : ∀ R ∈ Rs, RsK R) (hA : Fs[p]? = some A) (hl : H A = some (.lst ws)) (e2 : Ex (upd H A (.lst ys)) H2) (hv : Rn (upd H2 F (.lst ((Fs.map V.ref).set p v))) v d) (hd : okL d) : FoundK (upd H2 F (.lst ((Fs.map V.ref).set p v))) F := by
  refine ⟨_, upd_same, by rw [List.length_set, List.length_map]; exact h.len, fun x hx => ?_⟩
  rw [List.mem_iff_getElem?] at hx
  obtain ⟨i, hi⟩ := hx
  by_cases e : i = p
  · subst e
    rw [List.getElem?_set_self (by rw [List.length_map]; exact (List.getElem?_eq_some_iff.mp hA).1)] at hi
    cases hi
    exact ⟨d, hv, hd⟩
  · rw [List.getElem?_set_ne (Ne.symm e), List.getElem?_map] at hi
    obtain ⟨a, ha, rfl⟩ := Option.map_eq_some_iff.mp hi
    have hlt := (List.getElem?_eq_some_iff.mp ha).1
    have h1 := h.len
    have h2 := h.len2
    have hr := List.getElem?_eq_getElem (l := Rs) (i := i) (by omega)
    have hne : a ≠ A := fun z => e ((List.getElem?_inj hlt h.nd).mp (by rw [ha, hA, z]))
    have hF2 : H2 F = some (.lst (Fs.map V.ref)) := e2.get ((upd_ne (h.ne A (List.mem_of_getElem? hA)).symm).trans h.at_)
    exact ((((h.rw i a _ ha hr).upd hl hne).ex e2).upd hF2 (h.ne a (List.mem_of_getElem? ha))).lst (hR _ (List.mem_of_getElem? hr))
/-- rows whose numbers are small -/
def SmR (R : List (List Int)) : Prop := ∀ r ∈ R, ∀ x ∈ r, 0 ≤ x ∧ x < 10000
def sp__law_news_spoilt : Sp := fun vs H Q _ => ∃ (P0 t C W M A1 A2 : Addr) (z1 z2 zc zw : List ZT) (l1 l2 c w : List Q3) (m : List (List Int)) (p : Nat) (wd a dr : Int), vs = [.ref P0, .ref t, .int (p : Nat), .int wd, .int a, .int dr] ∧ H P0 = some (.lst [.ref A1, .ref A2]) ∧ RkL H A1 z1 l1 ∧ RkL H A2 z2 l2 ∧ NwAt H t C W M zc zw c w m ∧ (∀ r ∈ m, r.length = 6) ∧ (l1.length ≤ 60 ∧ l2.length ≤ 60) ∧
  (c.length ≤ 60 ∧ w.length ≤ 60 ∧ m.length ≤ 60) ∧ (SmR (l1.map q2l) ∧ SmR (l2.map q2l) ∧ SmR (c.map q2l) ∧ SmR (w.map q2l) ∧ SmR m) ∧ p < 3 ∧ (0 ≤ wd ∧ wd < 19) ∧ 0 ≤ a ∧ 0 ≤ dr ∧ ∀ v d H', Ex H H' → Rn H' v d → okN d → Q v H'
theorem ok__law_news_spoilt (T : Tx K mg ad fd tk) : FnOk P w K mg base CX0 2 (ad 24) (fd 24) ["_law_lists", "_law_news_here", "_law_part", "_law_word", "_law_at", "_law_draw"] sp__law_news_spoilt := by
  refine T.d__law_news_spoilt.F.ok sc__law_news_spoilt (fun vs H Q E h => ?_) (fun cdv A outer s H vs Q E hr h => ?_)
  · obtain ⟨P0, t, C, W, M, A1, A2, z1, z2, zc, zw, l1, l2, c, w, m, p, wd, a, dr, rfl, _⟩ := h
    rfl
  · obtain ⟨P0, t, C, W, M, A1, A2, z1, z2, zc, zw, l1, l2, c, w, m, p, wd, a, dr, rfl, hP, h1, h2, hn, h6, hll, hR, hB, hp, hw, ha, hdr, k⟩ := h
    refine ⟨_, (pss_cons (ps_set (i := 6) sc__law_news_spoilt.nd rfl (Or.inl rfl) (pe_lst (pa_cons (pe_callTy (c_list rfl (K := K)) (by rfl) T.b_list (by decide +kernel) (pa_cons (pe_ix (i_ix (K := K)) (pv 1) pe_int (fun _ _ => rfl)) pa_nil)) (pa_cons (pe_callTy (c_list rfl (K := K)) (by rfl) T.b_list (by decide +kernel) (pa_cons (pe_ix (i_ix (K := K)) (pv 1) pe_int (fun _ _ => rfl)) pa_nil)) (pa_cons (pe_callTy (c_list rfl (K := K)) (by rfl) T.b_list (by decide +kernel) (pa_cons (pe_ix (i_ix (K := K)) (pv 1) pe_int (fun _ _ => rfl)) pa_nil)) pa_nil)))))
      (pss_cons (ps_set (i := 7) sc__law_news_spoilt.nd rfl (Or.inl rfl) (pe_ix (i_ix (K := K)) (pv 6) (pv 2) (fun _ _ => rfl)))
      (pss_cons (ps_if (pt_cmpR (o_eq hr.units) (pv 3) pe_int (nomark _)) (pss_one (ps_ret (pe_ix (i_ix (K := K)) (pe_lst (pa_cons pe_non (pa_cons pe_int (pa_cons pe_str (pa_cons pe_dnewK (pa_cons (pv 6) (pa_cons (pe_tup (pa_cons (pe_ix (i_ix (K := K)) (pv 6) pe_int (fun _ _ => rfl)) (pa_cons (pe_ix (i_ix (K := K)) (pv 6) pe_int (fun _ _ => rfl)) pa_nil))) (pa_cons (pe_tup (pa_cons (pe_ix (i_ix (K := K)) (pv 6) pe_int (fun _ _ => rfl)) (pa_cons (pe_ix (i_ix (K := K)) (pv 6) pe_int (fun _ _ => rfl)) (pa_cons (pe_ix (i_ix (K := K)) (pv 6) pe_int (fun _ _ => rfl)) (pa_cons (pe_lst pa_nil) pa_nil))))) (pa_cons (pe_tup pa_nil) pa_nil))))))))) (pe_op o_mod (pv 5) pe_int) (fun _ _ => rfl)))) pss_nil)
      (pss_cut (ps_if (pt_cmpR (o_eq hr.units) (pv 3) pe_int (nomark _)) (pss_one (ps_asg (pe_ix (i_ix (K := K)) (pe_lst (pa_cons (pe_callTy (c_tuple rfl (K := K)) (by rfl) T.b_tuple (by decide +kernel) (pa_cons (pv 7) pa_nil)) (pa_cons pe_non (pa_cons pe_dnewK (pa_cons pe_str (pa_cons pe_int pa_nil)))))) (pe_op o_mod (pv 5) pe_int) (fun _ _ => rfl)) (pg_sub (pv 6) (pv 2) set_list))) (pss_one (ps_if (PW.pt (pw_or (pt_cmpR o_gt (pv 3) pe_int (nomark _)) (pw_or1 (pt_cmpR (o_eqE (K := K) hr.units) (pv 7) (pe_lst pa_nil) (nomark _))))) (pss_cons (ps_set (i := 8) sc__law_news_spoilt.nd rfl (Or.inl rfl) (pe_op o_add (pe_op o_add (pe_ix (i_ix (K := K)) (pv 0) pe_int (fun _ _ => rfl)) (pe_ix (i_ix (K := K)) (pv 0) pe_int (fun _ _ => rfl))) (pe_lst (pa_cons (pe_tup (pa_cons (pe_op o_mod (pv 5) pe_int) (pa_cons (pe_op o_mod (pv 5) pe_int) (pa_cons pe_int pa_nil)))) pa_nil))))
      (pss_cons (ps_set (i := 9) sc__law_news_spoilt.nd rfl (Or.inl rfl) (pe_ix (i_ix (K := K)) (pv 8) (pe_op o_mod (pv 4) (pe_callB (c_max rfl) (by rfl) T.b_max (by decide +kernel) (pa_cons pe_int (pa_cons (pe_callB (c_len (K := K)) (by rfl) T.b_len (by decide +kernel) (pa_cons (pv 8) pa_nil)) pa_nil)))) (fun _ _ => rfl)))
      (pss_cut (ps_if (pt_cmpR (o_eq hr.units) (pv 2) pe_int (nomark _)) (pss_one (ps_set (i := 9) sc__law_news_spoilt.nd rfl (Or.inl rfl) (pe_tup (pa_cons (pe_ix (i_ix (K := K)) (pv 9) pe_int (fun _ _ => rfl)) (pa_cons (pe_ix (i_ix (K := K)) (pv 9) pe_int (fun _ _ => rfl)) (pa_cons (pe_ix (i_ix (K := K)) (pv 9) pe_int (fun _ _ => rfl)) (pa_cons (pe_ix (i_ix (K := K)) (pv 9) pe_int (fun _ _ => rfl)) (pa_cons (pe_op o_mod (pv 5) pe_int) (pa_cons (pe_op o_mod (pv 5) pe_int) pa_nil))))))))) pss_nil)
      (pss_cons (ps_expr (pe_bm PySem.F.plainAttrs_list PySem.F.slot_list_append PySem.F.type_list_append mt_append (pv 7) (pa_cons (pv 9) pa_nil)))
      (pss_one (ps_if (pt_cmpR o_gt (pe_op o_mod (pv 5) pe_int) pe_int (nomark _)) (pss_one (ps_asg (pe_callB (c_sortX (K := K)) (by rfl) T.b_sorted (by decide +kernel) (pa_cons (pv 7) pa_nil)) (pg_sub (pv 6) (pv 2) set_list))) pss_nil)))))) (pss_cons (ps_set (i := 4) sc__law_news_spoilt.nd rfl (Or.inl rfl) (pe_op o_mod (pv 4) (pe_callB (c_max rfl) (by rfl) T.b_max (by decide +kernel) (pa_cons pe_int (pa_cons (pe_callB (c_len (K := K)) (by rfl) T.b_len (by decide +kernel) (pa_cons (pv 7) pa_nil)) pa_nil)))))
      (pss_one (ps_if (pt_cmpR o_lt (pv 3) pe_int (nomark _)) (pss_one (ps_asg (pe_call (ok__law_row_spoilt T) (hr.mono (by decide)) rfl T.d__law_row_spoilt.g T.d__law_row_spoilt.F.kp T.d__law_row_spoilt.b .nil pass0 (pa_cons (pe_ix (i_ix (K := K)) (pv 7) (pv 4) (fun _ _ => rfl)) (pa_cons (pv 3) (pa_cons (pv 5) pa_nil)))) (pg_sub (pv 7) (pv 4) set_list))) (pss_one (ps_if (pt_cmpR o_lt (pv 3) pe_int (nomark _)) (pss_one (ps_expr (pe_bm PySem.F.plainAttrs_list PySem.F.slot_list_pop PySem.F.type_list_pop mt_popAt (pv 7) (pa_cons (pv 4) pa_nil)))) (pss_one (ps_if (pt_cmpR o_lt (pv 3) pe_int (nomark _)) (pss_one (ps_expr (pe_bm PySem.F.plainAttrs_list PySem.F.slot_list_insert PySem.F.type_list_insert mt_insert (pv 7) (pa_cons (pv 4) (pa_cons (pe_ix (i_ix (K := K)) (pv 7) (pv 4) (fun _ _ => rfl)) pa_nil))))) (pss_one (ps_asg (pe_op o_add (pe_slice (s_sl (K := K)) (pv 7) (po_some (pv 4)) po_none) (pe_slice (s_sl (K := K)) (pv 7) po_none (po_some (pv 4)))) (pg_sub (pv 6) (pv 2) set_list)))))))))))))
      (pss_one (ps_ret (pe_tup (pa_cons (pe_ix (i_ix (K := K)) (pv 6) pe_int (fun _ _ => rfl)) (pa_cons (pe_ix (i_ix (K := K)) (pv 6) pe_int (fun _ _ => rfl)) (pa_cons (pe_ix (i_ix (K := K)) (pv 6) pe_int (fun _ _ => rfl)) pa_nil)))))))))), ?_⟩
    have htt := hn.at_
    have hC := hn.came.at_
    have hW := hn.went.at_
    obtain ⟨ts, m1, m2, m3⟩ := hn.moved
    walk_at "go"
    rename_i F0 G0 n0 e0 v0 F1 G1 n1 e1 v1 F2 G2 n2 e2 v2 F G3 n3 e3 v3
    have e03 := ((e0.trans e1).trans e2).trans e3
    have nF : H F = none := Ex.free ((e0.trans e1).trans e2) n3
    have nF0 : H F0 = none := n0
    have nF1 : H F1 = none := Ex.free e0 n1
    have nF2 : H F2 = none := Ex.free (e0.trans e1) n2
    obtain ⟨Fs, hFs⟩ : ∃ Fs, Fs = [F0, F1, F2] := ⟨_, rfl⟩
    obtain ⟨Rs, hRs⟩ : ∃ Rs, Rs = [c.map q2l, w.map q2l, m] := ⟨_, rfl⟩
    have q0 : RwI G3 F0 (c.map q2l) := (RkL.rwi (RkL.mk v0 (hn.came.t3.ex e0) hn.came.eq)).ex ((e1.trans e2).trans e3)
    have q1 : RwI G3 F1 (w.map q2l) := (RkL.rwi (RkL.mk v1 (hn.went.t3.ex (e0.trans e1)) hn.went.eq)).ex (e2.trans e3)
    have q2 : RwI G3 F2 m := (show RwI G2 F2 m from ⟨ts, v2, m2, fun i t r h1 h2 => ((e0.trans e1).trans e2).get (m3 i t r h1 h2)⟩).ex e3
    have d01 : F0 ≠ F1 := ne_of_none v0 n1
    have d02 : F0 ≠ F2 := ne_of_none (e1.get v0) n2
    have d12 : F1 ≠ F2 := ne_of_none v1 n2
    have d0F : F0 ≠ F := ne_of_none ((e1.trans e2).get v0) n3
    have d1F : F1 ≠ F := ne_of_none (e2.get v1) n3
    have d2F : F2 ≠ F := ne_of_none v2 n3
    have fd : Fd3 G3 F Fs Rs := ⟨by rw [hFs]; exact v3, by rw [hFs]; rfl, by rw [hRs]; rfl, fun i a R ha hR' => by
      rw [hFs] at ha
      rw [hRs] at hR'
      match i, ha, hR' with
      | 0, ha, hR' => cases ha; cases hR'; exact q0
      | 1, ha, hR' => cases ha; cases hR'; exact q1
      | 2, ha, hR' => cases ha; cases hR'; exact q2
      | i + 3, ha, _ => simp at ha, fun a ha => by
      rw [hFs] at ha
      simp only [List.mem_cons, List.not_mem_nil, or_false] at ha
      rcases ha with rfl | rfl | rfl
      · exact d0F
      · exact d1F
      · exact d2F, by
      rw [hFs]
      simp only [List.nodup_cons, List.mem_cons, List.not_mem_nil, or_false, not_or, List.nodup_nil, and_true, not_false_eq_true]
      exact ⟨⟨d01, d02⟩, d12⟩⟩
    have hRK : ∀ R ∈ Rs, RsK R := fun R hR' => by
      rw [hRs] at hR'
      simp only [List.mem_cons, List.not_mem_nil, or_false] at hR'
      rcases hR' with rfl | rfl | rfl
      · exact ⟨by rw [List.length_map]; exact hR.1, fun r hr => by obtain ⟨q, _, rfl⟩ := List.mem_map.mp hr; exact ⟨(by decide : 1 ≤ 3), (by decide : 3 ≤ 100)⟩⟩
      · exact ⟨by rw [List.length_map]; exact hR.2.1, fun r hr => by obtain ⟨q, _, rfl⟩ := List.mem_map.mp hr; exact ⟨(by decide : 1 ≤ 3), (by decide : 3 ≤ 100)⟩⟩
      · exact ⟨hR.2.2, fun r hr => by rw [h6 r hr]; exact ⟨by decide, by decide⟩⟩
    obtain ⟨Fp, hFp⟩ : ∃ Fp, Fs[p]? = some Fp := ⟨_, List.getElem?_eq_getElem (by rw [fd.len]; exact hp)⟩
    obtain ⟨R, hRp⟩ : ∃ R, Rs[p]? = some R := ⟨_, List.getElem?_eq_getElem (by rw [fd.len2]; exact hp)⟩
    have hRKp := hRK R (List.mem_of_getElem? hRp)
    have nFp : H Fp = none := by
      have := List.mem_of_getElem? hFp
      rw [hFs] at this
      simp only [List.mem_cons, List.not_mem_nil, or_false] at this
      rcases this with rfl | rfl | rfl
      · exact nF0
      · exact nF1
      · exact nF2
    obtain ⟨tr, r1, r2, r3⟩ := fd.rw p Fp R hFp hRp
    have hixp : atI (Fs.map V.ref) ((p : Nat) : Int) = some (.ref Fp) := at_mapN (f := V.ref) hFp
    have hsetp : ∀ xs : List V, xs.length = 3 → ixN xs.length ((p : Nat) : Int) = some p := fun xs hx => by
      unfold ixN
      rw [if_pos (by omega), if_pos (by omega)]
      rfl
    have hFsl : (Fs.map V.ref).length = 3 := by rw [List.length_map, fd.len]
    obtain ⟨dd0, x0, o0⟩ := q0.lst (hRK _ (by rw [hRs]; simp))
    obtain ⟨dd1, x1, o1⟩ := q1.lst (hRK _ (by rw [hRs]; simp))
    obtain ⟨dd2, x2, o2⟩ := q2.lst (hRK _ (by rw [hRs]; simp))
    clear e0 e1 e2 e3 v0 v1 v2 n0 n1 n2 n3 q0 q1 q2 d01 d02 d12 d0F d1F d2F m1 m2 m3
    refine st_ixL (show G3 F = some (.lst (Fs.map V.ref)) by rw [hFs]; exact v3) hixp ?_
    walk_at "go"
    refine st_br2 (fun c18 => ?_) (fun c18 => ?_)
    · walk_at "go"
      rename_i p1 K1 k1 t1 w1 p2 K2 k2 t2 w2 p3 K3 k3 t3 w3 p4 K4 k4 t4 w4 p5 K5 k5 t5 w5 p6 K6 k6 t6 w6
      obtain ⟨j, hj, j0, j1⟩ : ∃ j, j = dr % 8 ∧ 0 ≤ j ∧ j < 8 := ⟨_, rfl, Int.emod_nonneg _ (by decide), Int.emod_lt_of_pos _ (by decide)⟩
      rw [← hj]
      have t16 := ((((t1.trans t2).trans t3).trans t4).trans t5).trans t6
      have e06 := e03.trans t16
      have y0 := x0.ex t16
      have y1 := x1.ex t16
      have y2 := x2.ex t16
      obtain rfl | rfl | rfl | rfl | rfl | rfl | rfl | rfl : j = 0 ∨ j = 1 ∨ j = 2 ∨ j = 3 ∨ j = 4 ∨ j = 5 ∨ j = 6 ∨ j = 7 := by omega
      · exact st_ixL w6 (v := .non) rfl (k _ _ K6 e06 .non trivial)
      · exact st_ixL w6 (v := .int 0) rfl (k _ _ K6 e06 (.int _) trivial)
      · exact st_ixL w6 (v := .str "news") rfl (k _ _ K6 e06 (.str _) trivial)
      · exact st_ixL w6 (v := .ref p1) rfl (k _ _ K6 e06 (.dk (((((t2.trans t3).trans t4).trans t5).trans t6).get w1)) trivial)
      · exact st_ixL w6 (v := .ref F) rfl (k _ _ K6 e06 (.lst (t16.get v3) (.cons y0 (.cons y1 (.cons y2 .nil)))) trivial)
      · exact st_ixL w6 (v := .ref p2) rfl (k _ _ K6 e06 (.tup ((((t3.trans t4).trans t5).trans t6).get w2) (.cons y0 (.cons y1 .nil))) (by
          intro e he
          simp only [List.mem_cons, List.not_mem_nil, or_false] at he
          rcases he with rfl | rfl
          · exact o0
          · exact o1))
      · exact st_ixL w6 (v := .ref p4) rfl (k _ _ K6 e06 (.tup ((t5.trans t6).get w4) (.cons y0 (.cons y1 (.cons y2 (.cons (.lst (((t4.trans t5).trans t6).get w3) .nil) .nil))))) (by
          intro e he
          simp only [List.mem_cons, List.not_mem_nil, or_false] at he
          rcases he with rfl | rfl | rfl | rfl
          · exact o0
          · exact o1
          · exact o2
          · exact ⟨by decide, fun e he => by cases he⟩))
      · exact st_ixL w6 (v := .ref p5) rfl (k _ _ K6 e06 (.tup (t6.get w5) .nil) (by intro e he; cases he))
    walk_at "go"
    refine ⟨fun σ H' => Ex H H' ∧ FoundK H' F ∧ ∃ b4 b7 b8 b9, σ = [some (.ref P0), some (.ref t), some (.int (p : Nat)), some (.int wd), b4, some (.int dr), some (.ref F), b7, b8, b9], ?_, ?_⟩
    rotate_left
    · rintro σ G4 ⟨e4, ⟨xs, g1, g2, g3⟩, b4, b7, b8, b9, rfl⟩
      obtain ⟨y0, y1, y2, rfl⟩ : ∃ y0 y1 y2, xs = [y0, y1, y2] := by
        match xs, g2 with
        | [y0, y1, y2], _ => exact ⟨y0, y1, y2, rfl⟩
      walk_at "go"
      rename_i p1 K1 k1 t1 w1
      obtain ⟨a0, c0, o0⟩ := g3 y0 (by simp)
      obtain ⟨a1, c1, o1⟩ := g3 y1 (by simp)
      obtain ⟨a2, c2, o2⟩ := g3 y2 (by simp)
      refine k _ _ K1 (e4.trans t1) (.tup w1 (.cons (c0.ex t1) (.cons (c1.ex t1) (.cons (c2.ex t1) .nil)))) ?_
      intro e he
      simp only [List.mem_cons, List.not_mem_nil, or_false] at he
      rcases he with rfl | rfl | rfl
      · exact o0
      · exact o1
      · exact o2
    walk_at "go"
    refine st_br2 (fun c17 => ?_) (fun c17 => ?_)
    · walk_at "go"
      rename_i p1 K1 k1 t1 w1 p2 K2 k2 t2 w2 p3 K3 k3 t3 w3
      obtain ⟨j, hj, j0, j1⟩ : ∃ j, j = dr % 5 ∧ 0 ≤ j ∧ j < 5 := ⟨_, rfl, Int.emod_nonneg _ (by decide), Int.emod_lt_of_pos _ (by decide)⟩
      rw [← hj]
      have t13 := (t1.trans t2).trans t3
      have vF3 : K3 F = some (.lst (Fs.map V.ref)) := t13.get (by rw [hFs]; exact v3)
      have eU : ∀ u, Ex H (upd K3 F u) := fun u => (e03.trans t13).mut nF
      have p1F : p1 ≠ F := fun z => by rw [z, v3] at k1; cases k1
      have p2F : p2 ≠ F := fun z => by rw [z, t1.get v3] at k2; cases k2
      have rowsU : ∀ u, RowsK (upd K3 F u) (tr.map V.ref) := fun u => RwI.rows (M := Fp) r2 (fun i t r hi hr => by
        have h := t13.get (r3 i t r hi hr)
        rw [upd_ne fun e => by rw [e, vF3] at h; cases h]
        exact h) hRKp
      have fd3 := fd.ex t13
      obtain rfl | rfl | rfl | rfl | rfl : j = 0 ∨ j = 1 ∨ j = 2 ∨ j = 3 ∨ j = 4 := by omega
      · refine st_ixL w3 (v := .ref p1) rfl ?_
        walk_at "go"
        refine st_setL vF3 (hsetp _ hFsl) ?_
        obtain ⟨ds, rr, _⟩ := rowsU (.lst ((Fs.map V.ref).set p (.ref p1)))
        exact ⟨eU _, fd3.put hRK (d := .tuple ds) (.tup ((upd_ne p1F).trans ((t2.trans t3).get w1)) rr) trivial, _, _, _, _, rfl⟩
      · refine st_ixL w3 (v := .non) rfl ?_
        walk_at "go"
        refine st_setL vF3 (hsetp _ hFsl) ?_
        exact ⟨eU _, fd3.put hRK .non trivial, _, _, _, _, rfl⟩
      · refine st_ixL w3 (v := (.ref p2)) rfl ?_
        walk_at "go"
        refine st_setL vF3 (hsetp _ hFsl) ?_
        exact ⟨eU _, fd3.put hRK (.dk ((upd_ne p2F).trans (t3.get w2))) trivial, _, _, _, _, rfl⟩
      · refine st_ixL w3 (v := (.str "")) rfl ?_
        walk_at "go"
        refine st_setL vF3 (hsetp _ hFsl) ?_
        exact ⟨eU _, fd3.put hRK (.str _) trivial, _, _, _, _, rfl⟩
      · refine st_ixL w3 (v := (.int 0)) rfl ?_
        walk_at "go"
        refine st_setL vF3 (hsetp _ hFsl) ?_
        exact ⟨eU _, fd3.put hRK (.int _) trivial, _, _, _, _, rfl⟩
    have hRd : ∀ r ∈ R, r.length = (if p = 2 then 6 else 3) ∧ ∀ x ∈ r, 0 ≤ x ∧ x < 10000 := fun r hr => by
      rw [hRs] at hRp
      match p, hp, hRp with
      | 0, _, hRp => cases hRp; obtain ⟨q, hq, rfl⟩ := List.mem_map.mp hr; exact ⟨rfl, hB.2.2.1 _ (List.mem_map.mpr ⟨q, hq, rfl⟩)⟩
      | 1, _, hRp => cases hRp; obtain ⟨q, hq, rfl⟩ := List.mem_map.mp hr; exact ⟨rfl, hB.2.2.2.1 _ (List.mem_map.mpr ⟨q, hq, rfl⟩)⟩
      | 2, _, hRp => cases hRp; exact ⟨h6 r hr, hB.2.2.2.2 r hr⟩
      | p + 3, hp, _ => omega
    have hz1 : z1.length ≤ 60 := by have := congrArg List.length h1.eq; rw [List.length_map] at this; omega
    have hz2 : z2.length ≤ 60 := by have := congrArg List.length h2.eq; rw [List.length_map] at this; omega
    have hA1 := (h1.ex e03).at_
    have hA2 := (h2.ex e03).at_
    have hP3 := e03.get hP
    walk_at "go"
    refine st_br2 (fun c13 => ?_) (fun c13 => ?_)
    · skip
      walk_at "go"
      rename_i pS S1 s1 u1 y1 pT S2 s2 u2 y2 pL S3 s3 u3 y3 pM S4 s4 u4 y4
      have ub : Ex G3 S4 := ((u1.trans u2).trans u3).trans u4
      obtain ⟨zs3, hzs3⟩ : ∃ zs3 : List ZT, zs3 = z1 ++ z2 ++ [(pT, (dr % 49, dr % 24, 24))] := ⟨_, rfl⟩
      have y4' : S4 pM = some (.lst (zs3.map z3V)) := by rw [y4, hzs3, List.map_append, List.map_append]; rfl
      have hT3 : T3 S4 zs3 := by rw [hzs3]; exact T3.app (T3.app ((h1.t3.ex e03).ex ub) ((h2.t3.ex e03).ex ub)) (T3.cons ((u3.trans u4).get y2) fun _ h => by cases h)
      have hsm3 : ∀ z ∈ zs3, ∀ x ∈ q2l z.2, 0 ≤ x ∧ x < 10000 := fun z hz x hx => by
        rw [hzs3] at hz
        rcases List.mem_append.mp hz with hz | hz
        · rcases List.mem_append.mp hz with hz | hz
          · exact hB.1 (q2l z.2) (List.mem_map.mpr ⟨z.2, by rw [← h1.eq]; exact List.mem_map.mpr ⟨z, hz, rfl⟩, rfl⟩) x hx
          · exact hB.2.1 (q2l z.2) (List.mem_map.mpr ⟨z.2, by rw [← h2.eq]; exact List.mem_map.mpr ⟨z, hz, rfl⟩, rfl⟩) x hx
        · rw [List.mem_singleton.mp hz] at hx
          simp only [q2l, List.mem_cons, List.not_mem_nil, or_false] at hx
          have a1 := Int.emod_nonneg dr (b := 49) (by decide)
          have a2 := Int.emod_lt_of_pos dr (b := 49) (by decide)
          have a3 := Int.emod_nonneg dr (b := 24) (by decide)
          have a4 := Int.emod_lt_of_pos dr (b := 24) (by decide)
          omega
      have el : (z1.map z3V ++ z2.map z3V ++ [V.ref pT]).length = zs3.length := by rw [hzs3]; simp
      rw [el]
      obtain ⟨at_, hat⟩ : ∃ z : Int, z = a % (if (zs3.length : Int) > 1 then (zs3.length : Int) else 1) := ⟨_, rfl⟩
      rw [← hat]
      have h31 : 1 ≤ zs3.length := by rw [hzs3, List.length_append, List.length_singleton]; omega
      have hb : 0 ≤ at_ ∧ at_ < (zs3.length : Int) := by
        subst hat
        split
        · exact ⟨Int.emod_nonneg _ (by omega), Int.emod_lt_of_pos _ (by omega)⟩
        · exact ⟨Int.emod_nonneg _ (by decide), by have := Int.emod_lt_of_pos a (b := 1) (by decide); omega⟩
      clear hat
      obtain ⟨j, rfl⟩ := Int.eq_ofNat_of_zero_le hb.1
      obtain ⟨z, hz⟩ : ∃ z, zs3[j]? = some z := ⟨_, List.getElem?_eq_getElem (by omega)⟩
      refine st_ixL y4' (at_mapN (f := z3V) hz) ?_
      have zt : S4 z.1 = some (.tup [.int z.2.1, .int z.2.2.1, .int z.2.2.2]) := hT3 z (List.mem_of_getElem? hz)
      have zsm := hsm3 z (List.mem_of_getElem? hz)
      have vF4 : S4 F = some (.lst (Fs.map V.ref)) := ub.get (by rw [hFs]; exact v3)
      have vp4 := ub.get r1
      clear u1 u2 u3 u4 s1 s2 s3 s4 y1 y2 y3 y4 hsm3
      walk_at "go"
      refine ⟨fun σ H' => Ex S4 H' ∧ ∃ (tq : Addr) (rq : List Int), H' tq = some (.tup (rq.map V.int)) ∧ rq.length = (if p = 2 then 6 else 3) ∧ (∀ x ∈ rq, 0 ≤ x ∧ x < 10000) ∧ σ = [some (.ref P0), some (.ref t), some (.int (p : Nat)), some (.int wd), some (.int a), some (.int dr), some (.ref F), some (.ref Fp), some (.ref pM), some (.ref tq)], ?_, ?_⟩
      · walk_at "go"
        refine st_br2 (fun cp => ?_) (fun cp => ?_)
        · walk_at "go"
          rename_i q6 S5 s5 u5 y5
          refine ⟨u5, q6, [z.2.2.1, z.2.2.2, z.2.1, z.2.1, dr % 3, dr % 3], y5, by rw [if_pos (by omega)]; rfl, fun x hx => ?_, rfl⟩
          have b1 := zsm z.2.1 (by simp [q2l])
          have b2 := zsm z.2.2.1 (by simp [q2l])
          have b3 := zsm z.2.2.2 (by simp [q2l])
          have a1 := Int.emod_nonneg dr (b := 3) (by decide)
          have a2 := Int.emod_lt_of_pos dr (b := 3) (by decide)
          simp only [List.mem_cons, List.not_mem_nil, or_false] at hx
          rcases hx with rfl | rfl | rfl | rfl | rfl | rfl <;> omega
        · walk_at "go"
          exact ⟨Fr.refl _, z.1, q2l z.2, zt, by rw [if_neg (by omega)]; rfl, zsm, rfl⟩
      · rintro σ S6 ⟨u6, tq, rq, hq, hql, hqs, rfl⟩
        have vp6 := u6.get vp4
        have vF6 := u6.get vF4
        have e36 := ub.trans u6
        have fd6 := fd.ex e36
        have hrq : 1 ≤ rq.length ∧ rq.length ≤ 6 := by rw [hql]; split <;> decide
        have ltr : tr.length ≤ 60 := by rw [r2]; exact hRKp.1
        walk_at "go"
        refine st_app vp6 (by rw [List.length_map]; omega) ?_
        obtain ⟨ys, hys⟩ : ∃ ys, ys = tr.map V.ref ++ [V.ref tq] := ⟨_, rfl⟩
        rw [← hys]
        have eU : Ex H (upd S6 Fp (.lst ys)) := (e03.trans e36).mut nFp
        have tqU : upd S6 Fp (.lst ys) tq = some (.tup (rq.map V.int)) := by rw [upd_ne fun e => by rw [e, vp6] at hq; cases hq]; exact hq
        have trU : ∀ (i : Nat) (t : Addr) (r : List Int), tr[i]? = some t → R[i]? = some r → upd S6 Fp (.lst ys) t = some (.tup (r.map V.int)) := fun i t r hi hr => by
          have h := e36.get (r3 i t r hi hr)
          rw [upd_ne fun e => by rw [e, vp6] at h; cases h]
          exact h
        have rowsU0 : RowsK (upd S6 Fp (.lst ys)) (tr.map V.ref ++ [V.ref tq]) := (RwI.rows (M := Fp) r2 trU hRKp).app (.one (.tup tqU (rnA_ints _)) (by show List.length _ ≤ 1000; rw [List.length_map]; omega))
        have rowsU : RowsK (upd S6 Fp (.lst ys)) ys := by
          have h := rowsU0
          rwa [← hys] at h
        have lys : ys.length ≤ 61 := by rw [hys, List.length_append, List.length_map, List.length_singleton]; omega
        have vFU : upd S6 Fp (.lst ys) F = some (.lst (Fs.map V.ref)) := (upd_ne (fd.ne Fp (List.mem_of_getElem? hFp)).symm).trans vF6
        walk_at "go"
        refine st_br2 (fun cs => ?_) (fun cs => ?_)
        · walk_at "go"
          refine ⟨if p = 2 then 6 else 3, 10000, by split <;> decide, Fp, ys, rfl, lstAt_sq (lst_of upd_same), by omega, fun x hx => ?_, fun ws q hp2 _ hq2 => ?_⟩
          · rw [hys] at hx
            rcases List.mem_append.mp hx with hx | hx
            · obtain ⟨tx', ht', rfl⟩ := List.mem_map.mp hx
              obtain ⟨i, hi⟩ := List.getElem?_of_mem ht'
              have hil := (List.getElem?_eq_some_iff.mp hi).1
              have hr' := List.getElem?_eq_getElem (l := R) (i := i) (by omega)
              exact ⟨_, ⟨tx', rfl, tupAt_sq (tup_of (trU i tx' _ hi hr'))⟩, (hRd _ (List.mem_of_getElem? hr')).1, (hRd _ (List.mem_of_getElem? hr')).2⟩
            · rw [List.mem_singleton.mp hx]
              exact ⟨rq, ⟨tq, rfl, tupAt_sq (tup_of tqU)⟩, hql, hqs⟩
          · have e2 : Ex (upd S6 Fp (.lst ys)) (upd (upd S6 Fp (.lst ys)) q (.lst ws)) := Fr.new hq2
            have vF2 := e2.get vFU
            have rows2 := rowsU.ex e2
            have qF : q ≠ F := fun e => by rw [e, vFU] at hq2; cases hq2
            walk_at "go"
            refine st_setL vF2 (hsetp _ hFsl) ?_
            have tupU : ∀ v ∈ ws, ∃ (tt : Addr) (rr : List Int), v = V.ref tt ∧ upd (upd S6 Fp (.lst ys)) q (.lst ws) tt = some (.tup (rr.map V.int)) ∧ rr.length ≤ 100 := fun v hv => by
              have hv := hp2.mem_iff.mp hv
              rw [hys] at hv
              rcases List.mem_append.mp hv with hv | hv
              · obtain ⟨tx', ht', rfl⟩ := List.mem_map.mp hv
                obtain ⟨i, hi⟩ := List.getElem?_of_mem ht'
                have hil := (List.getElem?_eq_some_iff.mp hi).1
                have hr' := List.getElem?_eq_getElem (l := R) (i := i) (by omega)
                exact ⟨tx', _, rfl, e2.get (trU i tx' _ hi hr'), (hRKp.2 _ (List.mem_of_getElem? hr')).2⟩
              · rw [List.mem_singleton.mp hv]
                exact ⟨tq, rq, rfl, e2.get tqU, by omega⟩
            have rows3 : RowsK (upd (upd (upd S6 Fp (.lst ys)) q (.lst ws)) F (.lst ((Fs.map V.ref).set p (.ref q)))) ws := .of fun v hv => by
              obtain ⟨tt, rr, rfl, h1, h2⟩ := tupU v hv
              exact ⟨_, .tup (by rw [upd_ne fun e => by rw [e, vF2] at h1; cases h1]; exact h1) (rnA_ints _), by show List.length _ ≤ 1000; rw [List.length_map]; omega⟩
            obtain ⟨dq, hq3, hq4⟩ := rows3.lst ((upd_ne qF).trans upd_same) (by rw [hp2.length_eq]; omega)
            exact ⟨(eU.trans e2).mut nF, fd6.put2 hRK hFp vp6 e2 hq3 hq4, _, _, _, _, rfl⟩
        · walk_at "go"
          obtain ⟨dq, hq3, hq4⟩ := rowsU.lst upd_same (by omega)
          exact ⟨eU, fd6.chg hRK hFp vp6 hq3 hq4, _, _, _, _, rfl⟩
    · walk_at "go"
      rename_i N K1 k1 t1 w1
      refine st_eqE (t1.get r1) w1 ?_
      cases hem : (tr.map V.ref).isEmpty with
      | true =>
        skip
        walk_at "go"
        rename_i pS S1 s1 u1 y1 pT S2 s2 u2 y2 pL S3 s3 u3 y3 pM S4 s4 u4 y4
        have ub : Ex G3 S4 := t1.trans (((u1.trans u2).trans u3).trans u4)
        obtain ⟨zs3, hzs3⟩ : ∃ zs3 : List ZT, zs3 = z1 ++ z2 ++ [(pT, (dr % 49, dr % 24, 24))] := ⟨_, rfl⟩
        have y4' : S4 pM = some (.lst (zs3.map z3V)) := by rw [y4, hzs3, List.map_append, List.map_append]; rfl
        have hT3 : T3 S4 zs3 := by rw [hzs3]; exact T3.app (T3.app ((h1.t3.ex e03).ex ub) ((h2.t3.ex e03).ex ub)) (T3.cons ((u3.trans u4).get y2) fun _ h => by cases h)
        have hsm3 : ∀ z ∈ zs3, ∀ x ∈ q2l z.2, 0 ≤ x ∧ x < 10000 := fun z hz x hx => by
          rw [hzs3] at hz
          rcases List.mem_append.mp hz with hz | hz
          · rcases List.mem_append.mp hz with hz | hz
            · exact hB.1 (q2l z.2) (List.mem_map.mpr ⟨z.2, by rw [← h1.eq]; exact List.mem_map.mpr ⟨z, hz, rfl⟩, rfl⟩) x hx
            · exact hB.2.1 (q2l z.2) (List.mem_map.mpr ⟨z.2, by rw [← h2.eq]; exact List.mem_map.mpr ⟨z, hz, rfl⟩, rfl⟩) x hx
          · rw [List.mem_singleton.mp hz] at hx
            simp only [q2l, List.mem_cons, List.not_mem_nil, or_false] at hx
            have a1 := Int.emod_nonneg dr (b := 49) (by decide)
            have a2 := Int.emod_lt_of_pos dr (b := 49) (by decide)
            have a3 := Int.emod_nonneg dr (b := 24) (by decide)
            have a4 := Int.emod_lt_of_pos dr (b := 24) (by decide)
            omega
        have el : (z1.map z3V ++ z2.map z3V ++ [V.ref pT]).length = zs3.length := by rw [hzs3]; simp
        rw [el]
        obtain ⟨at_, hat⟩ : ∃ z : Int, z = a % (if (zs3.length : Int) > 1 then (zs3.length : Int) else 1) := ⟨_, rfl⟩
        rw [← hat]
        have h31 : 1 ≤ zs3.length := by rw [hzs3, List.length_append, List.length_singleton]; omega
        have hb : 0 ≤ at_ ∧ at_ < (zs3.length : Int) := by
          subst hat
          split
          · exact ⟨Int.emod_nonneg _ (by omega), Int.emod_lt_of_pos _ (by omega)⟩
          · exact ⟨Int.emod_nonneg _ (by decide), by have := Int.emod_lt_of_pos a (b := 1) (by decide); omega⟩
        clear hat
        obtain ⟨j, rfl⟩ := Int.eq_ofNat_of_zero_le hb.1
        obtain ⟨z, hz⟩ : ∃ z, zs3[j]? = some z := ⟨_, List.getElem?_eq_getElem (by omega)⟩
        refine st_ixL y4' (at_mapN (f := z3V) hz) ?_
        have zt : S4 z.1 = some (.tup [.int z.2.1, .int z.2.2.1, .int z.2.2.2]) := hT3 z (List.mem_of_getElem? hz)
        have zsm := hsm3 z (List.mem_of_getElem? hz)
        have vF4 : S4 F = some (.lst (Fs.map V.ref)) := ub.get (by rw [hFs]; exact v3)
        have vp4 := ub.get r1
        clear u1 u2 u3 u4 s1 s2 s3 s4 y1 y2 y3 y4 hsm3
        walk_at "go"
        refine ⟨fun σ H' => Ex S4 H' ∧ ∃ (tq : Addr) (rq : List Int), H' tq = some (.tup (rq.map V.int)) ∧ rq.length = (if p = 2 then 6 else 3) ∧ (∀ x ∈ rq, 0 ≤ x ∧ x < 10000) ∧ σ = [some (.ref P0), some (.ref t), some (.int (p : Nat)), some (.int wd), some (.int a), some (.int dr), some (.ref F), some (.ref Fp), some (.ref pM), some (.ref tq)], ?_, ?_⟩
        · walk_at "go"
          refine st_br2 (fun cp => ?_) (fun cp => ?_)
          · walk_at "go"
            rename_i q6 S5 s5 u5 y5
            refine ⟨u5, q6, [z.2.2.1, z.2.2.2, z.2.1, z.2.1, dr % 3, dr % 3], y5, by rw [if_pos (by omega)]; rfl, fun x hx => ?_, rfl⟩
            have b1 := zsm z.2.1 (by simp [q2l])
            have b2 := zsm z.2.2.1 (by simp [q2l])
            have b3 := zsm z.2.2.2 (by simp [q2l])
            have a1 := Int.emod_nonneg dr (b := 3) (by decide)
            have a2 := Int.emod_lt_of_pos dr (b := 3) (by decide)
            simp only [List.mem_cons, List.not_mem_nil, or_false] at hx
            rcases hx with rfl | rfl | rfl | rfl | rfl | rfl <;> omega
          · walk_at "go"
            exact ⟨Fr.refl _, z.1, q2l z.2, zt, by rw [if_neg (by omega)]; rfl, zsm, rfl⟩
        · rintro σ S6 ⟨u6, tq, rq, hq, hql, hqs, rfl⟩
          have vp6 := u6.get vp4
          have vF6 := u6.get vF4
          have e36 := ub.trans u6
          have fd6 := fd.ex e36
          have hrq : 1 ≤ rq.length ∧ rq.length ≤ 6 := by rw [hql]; split <;> decide
          have ltr : tr.length ≤ 60 := by rw [r2]; exact hRKp.1
          walk_at "go"
          refine st_app vp6 (by rw [List.length_map]; omega) ?_
          obtain ⟨ys, hys⟩ : ∃ ys, ys = tr.map V.ref ++ [V.ref tq] := ⟨_, rfl⟩
          rw [← hys]
          have eU : Ex H (upd S6 Fp (.lst ys)) := (e03.trans e36).mut nFp
          have tqU : upd S6 Fp (.lst ys) tq = some (.tup (rq.map V.int)) := by rw [upd_ne fun e => by rw [e, vp6] at hq; cases hq]; exact hq
          have trU : ∀ (i : Nat) (t : Addr) (r : List Int), tr[i]? = some t → R[i]? = some r → upd S6 Fp (.lst ys) t = some (.tup (r.map V.int)) := fun i t r hi hr => by
            have h := e36.get (r3 i t r hi hr)
            rw [upd_ne fun e => by rw [e, vp6] at h; cases h]
            exact h
          have rowsU0 : RowsK (upd S6 Fp (.lst ys)) (tr.map V.ref ++ [V.ref tq]) := (RwI.rows (M := Fp) r2 trU hRKp).app (.one (.tup tqU (rnA_ints _)) (by show List.length _ ≤ 1000; rw [List.length_map]; omega))
          have rowsU : RowsK (upd S6 Fp (.lst ys)) ys := by
            have h := rowsU0
            rwa [← hys] at h
          have lys : ys.length ≤ 61 := by rw [hys, List.length_append, List.length_map, List.length_singleton]; omega
          have vFU : upd S6 Fp (.lst ys) F = some (.lst (Fs.map V.ref)) := (upd_ne (fd.ne Fp (List.mem_of_getElem? hFp)).symm).trans vF6
          walk_at "go"
          refine st_br2 (fun cs => ?_) (fun cs => ?_)
          · walk_at "go"
            refine ⟨if p = 2 then 6 else 3, 10000, by split <;> decide, Fp, ys, rfl, lstAt_sq (lst_of upd_same), by omega, fun x hx => ?_, fun ws q hp2 _ hq2 => ?_⟩
            · rw [hys] at hx
              rcases List.mem_append.mp hx with hx | hx
              · obtain ⟨tx', ht', rfl⟩ := List.mem_map.mp hx
                obtain ⟨i, hi⟩ := List.getElem?_of_mem ht'
                have hil := (List.getElem?_eq_some_iff.mp hi).1
                have hr' := List.getElem?_eq_getElem (l := R) (i := i) (by omega)
                exact ⟨_, ⟨tx', rfl, tupAt_sq (tup_of (trU i tx' _ hi hr'))⟩, (hRd _ (List.mem_of_getElem? hr')).1, (hRd _ (List.mem_of_getElem? hr')).2⟩
              · rw [List.mem_singleton.mp hx]
                exact ⟨rq, ⟨tq, rfl, tupAt_sq (tup_of tqU)⟩, hql, hqs⟩
            · have e2 : Ex (upd S6 Fp (.lst ys)) (upd (upd S6 Fp (.lst ys)) q (.lst ws)) := Fr.new hq2
              have vF2 := e2.get vFU
              have rows2 := rowsU.ex e2
              have qF : q ≠ F := fun e => by rw [e, vFU] at hq2; cases hq2
              walk_at "go"
              refine st_setL vF2 (hsetp _ hFsl) ?_
              have tupU : ∀ v ∈ ws, ∃ (tt : Addr) (rr : List Int), v = V.ref tt ∧ upd (upd S6 Fp (.lst ys)) q (.lst ws) tt = some (.tup (rr.map V.int)) ∧ rr.length ≤ 100 := fun v hv => by
                have hv := hp2.mem_iff.mp hv
                rw [hys] at hv
                rcases List.mem_append.mp hv with hv | hv
                · obtain ⟨tx', ht', rfl⟩ := List.mem_map.mp hv
                  obtain ⟨i, hi⟩ := List.getElem?_of_mem ht'
                  have hil := (List.getElem?_eq_some_iff.mp hi).1
                  have hr' := List.getElem?_eq_getElem (l := R) (i := i) (by omega)
                  exact ⟨tx', _, rfl, e2.get (trU i tx' _ hi hr'), (hRKp.2 _ (List.mem_of_getElem? hr')).2⟩
                · rw [List.mem_singleton.mp hv]
                  exact ⟨tq, rq, rfl, e2.get tqU, by omega⟩
              have rows3 : RowsK (upd (upd (upd S6 Fp (.lst ys)) q (.lst ws)) F (.lst ((Fs.map V.ref).set p (.ref q)))) ws := .of fun v hv => by
                obtain ⟨tt, rr, rfl, h1, h2⟩ := tupU v hv
                exact ⟨_, .tup (by rw [upd_ne fun e => by rw [e, vF2] at h1; cases h1]; exact h1) (rnA_ints _), by show List.length _ ≤ 1000; rw [List.length_map]; omega⟩
              obtain ⟨dq, hq3, hq4⟩ := rows3.lst ((upd_ne qF).trans upd_same) (by rw [hp2.length_eq]; omega)
              exact ⟨(eU.trans e2).mut nF, fd6.put2 hRK hFp vp6 e2 hq3 hq4, _, _, _, _, rfl⟩
          · walk_at "go"
            obtain ⟨dq, hq3, hq4⟩ := rowsU.lst upd_same (by omega)
            exact ⟨eU, fd6.chg hRK hFp vp6 hq3 hq4, _, _, _, _, rfl⟩
      | false =>
        have htr1 : 1 ≤ tr.length := by
          cases tr with
          | nil => simp at hem
          | cons _ _ => rw [List.length_cons]; omega
        have ltr : tr.length ≤ 60 := by rw [r2]; exact hRKp.1
        walk_at "go"
        obtain ⟨at_, hat⟩ : ∃ z : Int, z = a % (if ((tr.map V.ref).length : Int) > 1 then ((tr.map V.ref).length : Int) else 1) := ⟨_, rfl⟩
        rw [← hat]
        have hb : 0 ≤ at_ ∧ at_ < (tr.length : Int) := by
          rw [List.length_map] at hat
          subst hat
          split
          · exact ⟨Int.emod_nonneg _ (by omega), Int.emod_lt_of_pos _ (by omega)⟩
          · exact ⟨Int.emod_nonneg _ (by decide), by have := Int.emod_lt_of_pos a (b := 1) (by decide); omega⟩
        clear hat
        obtain ⟨j, rfl⟩ := Int.eq_ofNat_of_zero_le hb.1
        obtain ⟨tj, hj⟩ : ∃ tj, tr[j]? = some tj := ⟨_, List.getElem?_eq_getElem (by omega)⟩
        obtain ⟨rj, hrj⟩ : ∃ rj, R[j]? = some rj := ⟨_, List.getElem?_eq_getElem (by omega)⟩
        have hix : atI (tr.map V.ref) ((j : Nat) : Int) = some (.ref tj) := at_mapN (f := V.ref) hj
        have hset : ixN (tr.map V.ref).length ((j : Nat) : Int) = some j := by
          unfold ixN
          rw [if_pos (by omega), if_pos (by rw [List.length_map]; omega)]
          rfl
        have vp1 := t1.get r1
        have vF1 : K1 F = some (.lst (Fs.map V.ref)) := t1.get (by rw [hFs]; exact v3)
        have fd1 := fd.ex t1
        have r31 : ∀ (i : Nat) (t : Addr) (r : List Int), tr[i]? = some t → R[i]? = some r → K1 t = some (.tup (r.map V.int)) := fun i t r hi hr => t1.get (r3 i t r hi hr)
        have upR : ∀ {G : Hp} {u : HO}, Ex K1 G → RowsK (upd G Fp u) (tr.map V.ref) := fun {G u} e => RwI.rows (M := Fp) r2 (fun i t r hi hr => by
          have h := e.get (r31 i t r hi hr)
          have h2 := e.get vp1
          rw [upd_ne fun z => by rw [z, h2] at h; cases h]
          exact h) hRKp
        refine st_br2 (fun c7 => ?_) (fun c7 => ?_)
        · walk_at "go"
          refine st_ixL vp1 hix ?_
          walk_at "go"
          refine ⟨tj, rj, wd, dr, rfl, r31 j tj rj hj hrj, hRKp.2 rj (List.mem_of_getElem? hrj), hdr, fun v d K2 t2 hv hd => ?_⟩
          walk_at "go"
          refine st_setL (t2.get vp1) hset ?_
          obtain ⟨dq, hq3, hq4⟩ := (RowsK.set (j := j) (upR (u := .lst ((tr.map V.ref).set j v)) t2) ((hv Fp _ vp1).ex hid_up) hd).lst upd_same (by rw [List.length_set, List.length_map]; omega)
          exact ⟨((e03.trans t1).trans t2).mut nFp, (fd1.ex t2).chg hRK hFp (t2.get vp1) hq3 hq4, _, _, _, _, rfl⟩
        walk_at "go"
        refine st_br2 (fun c9 => ?_) (fun c9 => ?_)
        · walk_at "go"
          refine st_popAt vp1 (by omega) (by omega) (y := .ref tj) (by rw [Int.toNat_natCast, List.getElem?_map, hj]; rfl) ?_
          rw [Int.toNat_natCast]
          walk_at "go"
          obtain ⟨dq, hq3, hq4⟩ := ((upR (u := .lst ((tr.map V.ref).eraseIdx j)) (Fr.refl _)).sub (fun v hv => List.mem_of_mem_eraseIdx hv)).lst upd_same (by have := List.length_eraseIdx_le (tr.map V.ref) j; rw [List.length_map] at this; omega)
          exact ⟨(e03.trans t1).mut nFp, fd1.chg hRK hFp vp1 hq3 hq4, _, _, _, _, rfl⟩
        walk_at "go"
        refine st_br2 (fun c11 => ?_) (fun c11 => ?_)
        · walk_at "go"
          refine st_ixL vp1 hix ?_
          walk_at "go"
          refine ⟨Fp, tr.map V.ref, ((j : Nat) : Int), .ref tj, rfl, rfl, vp1, by rw [sl16, List.length_map]; omega, by omega, by omega, ?_⟩
          rw [Int.toNat_natCast]
          walk_at "go"
          obtain ⟨dq, hq3, hq4⟩ := ((upR (u := .lst ((tr.map V.ref).take j ++ [V.ref tj] ++ (tr.map V.ref).drop j)) (Fr.refl _)).sub (fun v hv => by
            rcases List.mem_append.mp hv with hv | hv
            · rcases List.mem_append.mp hv with hv | hv
              · exact List.mem_of_mem_take hv
              · rw [List.mem_singleton.mp hv]
                exact List.mem_map.mpr ⟨tj, List.mem_of_getElem? hj, rfl⟩
            · exact List.mem_of_mem_drop hv)).lst upd_same (by rw [List.length_append, List.length_append, List.length_take, List.length_drop, List.length_map, List.length_singleton]; omega)
          exact ⟨(e03.trans t1).mut nFp, fd1.chg hRK hFp vp1 hq3 hq4, _, _, _, _, rfl⟩
        · walk_at "go"
          rename_i p1 K2 k2 t2 w2 p2 K3 k3 t3 w3
          have lc := fun (lo hi : Option Int) => cutV_length (tr.map V.ref) lo hi
          rw [List.length_map] at lc
          have lc1 := lc (some ((j : Nat) : Int)) none
          have lc2 := lc none (some ((j : Nat) : Int))
          refine st_addL (t3.get w2) w3 (by omega) fun p3 K4 k4 t4 w4 => ?_
          have t24 := (t2.trans t3).trans t4
          have vF4 := t24.get vF1
          walk_at "go"
          refine st_setL vF4 (hsetp _ hFsl) ?_
          have p3F : p3 ≠ F := fun e => by rw [e, (t2.trans t3).get vF1] at k4; cases k4
          have rowsU : RowsK (upd K4 F (.lst ((Fs.map V.ref).set p (.ref p3)))) (tr.map V.ref) := RwI.rows (M := Fp) r2 (fun i t r hi hr => by
            have h := t24.get (r31 i t r hi hr)
            rw [upd_ne fun z => by rw [z, vF4] at h; cases h]
            exact h) hRKp
          obtain ⟨dq, hq3, hq4⟩ := ((rowsU.sub (cutV_sub (lo := some ((j : Nat) : Int)) (hi := none))).app (rowsU.sub (cutV_sub (lo := none) (hi := some ((j : Nat) : Int))))).lst ((upd_ne p3F).trans w4) (by rw [List.length_append]; omega)
          exact ⟨((e03.trans t1).trans t24).mut nF, (fd1.ex t24).put hRK hq3 hq4, _, _, _, _, rfl⟩
/-- how it is refused, due -/
def RefD (wd tag : Str) (x y v : V) (dx dy : PyData) : Prop :=
  (wd = "news" ∧ tag = "near" ∧ ((¬ RankD dx ∧ v = x) ∨ (RankD dx ∧ ¬ RankD dy ∧ v = y))) ∨
  (wd = "led" ∧ ((tag = "near" ∧ ¬ RankD dx ∧ v = x) ∨ (tag = "told" ∧ v = y ∧ ∃ l : List Q3, dx = .list (l.map enc3) ∧ RankL l ∧ ∀ ys, ¬ Leads l dy ys)))
def sp__law_refused (K : PySem.W.Frag) : Sp := fun vs H Q _ => ∃ (wd tag : Str) (x y v : V) (dx dy : PyData), vs = [.str wd, x, y] ∧ Rn H x dx ∧ Rn H y dy ∧ (wd = "led" → lenF dy) ∧ RefD wd tag x y v dx dy ∧ ∀ D H', Ex H H' → H D = none → H' D = some (.lst [.str tag, v, .bl true]) → Q (.ref D) H'
theorem ok__law_refused (T : Tx K mg ad fd tk) : FnOk P w K mg base CX0 7 (ad 25) (fd 25) ["_law_word", "_law_one", "_law_other"] (sp__law_refused K) := by
  refine T.d__law_refused.F.ok sc__law_refused (fun vs H Q E h => ?_) (fun cdv A outer s H vs Q E hr h => ?_)
  · obtain ⟨wd, tag, x, y, v, dx, dy, rfl, _⟩ := h
    rfl
  · obtain ⟨wd, tag, x, y, v, dx, dy, rfl, hx, hy, hlen, hdue, k⟩ := h
    refine ⟨_, (pss_cons (ps_tryG rfl rfl L2.takes0 (fun W pn xe tk hp => (pss_one (ps_if (pt_cmpR (o_eq hr.units) (pv 0) pe_str (nomark _)) (pss_one (ps_expr (pe_callS (E := WE W) (ok_news_of T) (hr.mono (by decide)) rfl T.d_news_of.g T.d_news_of.F.kp T.d_news_of.b (fun σ => passAt tk σ) (pa_cons (pv 1) (pa_cons (pv 2) pa_nil))))) (pss_one (ps_expr (pe_callS (E := WE W) (ok_followed T) (hr.mono (by decide)) rfl T.d_followed.g T.d_followed.F.kp T.d_followed.b (fun σ => passAt tk σ) (pa_cons (pv 1) (pa_cons (pv 2) pa_nil))))))))
      (.named (i := 3) sc__law_refused.nd rfl rfl ⟨rfl, by decide, Or.inl T.e_NoNear.g⟩ (fun a oe cls d pn hz hf => (pss_one (ps_ret (pe_lst (pa_cons pe_str (pa_cons (pe_xe hz hf (pv 3)) (pa_cons (pe_and (pe_callB (call_isX hz hf) (by rfl) T.b_isinstance (by decide +kernel) (pa_cons (pv 3) (pa_cons (pe_glob (v := .ref (clsA K "PaneError")) rfl T.e_PaneError.g rfl) pa_nil))) (pe_and (pe_callB (call_isX hz hf) (by rfl) T.b_isinstance (by decide +kernel) (pa_cons (pv 3) (pa_cons (pe_bltn (v := .ty "ValueError") rfl T.b_ValueError (by decide +kernel) rfl) pa_nil))) (pe_one (pe_not (pe_callB (call_isX hz hf) (by rfl) T.b_isinstance (by decide +kernel) (pa_cons (pv 3) (pa_cons (pe_glob (v := .ref (clsA K "NoTold")) rfl T.e_NoTold.g rfl) pa_nil))))))) pa_nil))))))) (.named (i := 3) sc__law_refused.nd rfl rfl ⟨rfl, by decide, Or.inl T.e_NoTold.g⟩ (fun a oe cls d pn hz hf => (pss_one (ps_ret (pe_lst (pa_cons pe_str (pa_cons (pe_xe hz hf (pv 3)) (pa_cons (pe_and (pe_callB (call_isX hz hf) (by rfl) T.b_isinstance (by decide +kernel) (pa_cons (pv 3) (pa_cons (pe_glob (v := .ref (clsA K "PaneError")) rfl T.e_PaneError.g rfl) pa_nil))) (pe_one (pe_callB (call_isX hz hf) (by rfl) T.b_isinstance (by decide +kernel) (pa_cons (pv 3) (pa_cons (pe_bltn (v := .ty "ValueError") rfl T.b_ValueError (by decide +kernel) rfl) pa_nil))))) pa_nil))))))) .nil)) pss_nil)
      (pss_one (ps_ret (pe_lst (pa_cons pe_str pa_nil))))), ?_⟩
    rcases hdue with ⟨rfl, rfl, hd⟩ | ⟨rfl, hd⟩
    · walk_at "go"
      refine ⟨x, y, dx, dy, rfl, hx, hy, fun hn d H1 hd1 e1 hv1 => ?_, fun hr hn d H1 hd1 e1 hv1 => ?_, fun l1 l2 e1 e2 r1 r2 => ?_⟩
      · rcases hd with ⟨_, rfl⟩ | ⟨h, _⟩
        · walk_at "go"
          rename_i q H' n e v
          exact k q H' (e1.trans e) (Ex.free e1 n) v
        · exact absurd h hn
      · rcases hd with ⟨h, _⟩ | ⟨_, _, rfl⟩
        · exact absurd hr h
        · walk_at "go"
          rename_i q H' n e v
          exact k q H' (e1.trans e) (Ex.free e1 n) v
      · exfalso
        rcases hd with ⟨h, _⟩ | ⟨_, h, _⟩
        · exact h ⟨l1, e1, r1⟩
        · exact h ⟨l2, e2, r2⟩
    · walk_at "go"
      refine ⟨x, y, dx, dy, rfl, hx, hy, hlen rfl, fun hn d H1 hd1 e1 hv1 => ?_, fun hr hn d H1 hd1 e1 hv1 => ?_, fun l c w m e1 r1 e2 h6 ys hp hs => ⟨fun hn d H1 hd1 e3 hv1 => ?_, fun hf => ?_⟩⟩
      · rcases hd with ⟨rfl, _, rfl⟩ | ⟨rfl, rfl, l, rfl, hl, _⟩
        · walk_at "go"
          rename_i q H' n e v
          exact k q H' (e1.trans e) (Ex.free e1 n) v
        · exact absurd ⟨l, rfl, hl⟩ hn
      · rcases hd with ⟨_, h, _⟩ | ⟨rfl, rfl, _⟩
        · exact absurd hr h
        · walk_at "go"
          rename_i q H' n e v
          exact k q H' (e1.trans e) (Ex.free e1 n) v
      · rcases hd with ⟨_, h, _⟩ | ⟨rfl, rfl, _⟩
        · exact absurd ⟨l, e1, r1⟩ h
        · walk_at "go"
          rename_i q H' n e v
          exact k q H' (e3.trans e) (Ex.free e3 n) v
      · exfalso
        rcases hd with ⟨_, h, _⟩ | ⟨_, _, l', e3, hl', hnl⟩
        · exact h ⟨l, e1, r1⟩
        · rw [e1] at e3
          injection e3 with e3
          have e3 := enc3_map e3
          subst e3
          exact hnl ys ⟨c, w, m, e2, h6, hp, hs, hf⟩
theorem lk_any {H : Hp} {x : V} {d : PyData} (h : Rn H x d) : Lk H x x := by
  cases h with
  | non => exact .dat .non .non (by simp [PyData.depth]) (by simp [PyData.eqv])
  | bl b => exact Lk.bl b
  | int i => exact Lk.int i
  | str z => exact Lk.str z
  | lst _ _ => exact .same _
  | tup _ _ => exact .same _
  | dk _ => exact .same _
theorem lks_due {H : Hp} {x : V} {d : PyData} {tag : Str} (h : Rn H x d) : Lks H [.str tag, x, .bl true] [.str tag, x, .bl true] := .cons (Lk.str _) (.cons (lk_any h) (.cons (Lk.bl _) .nil))
def sp__law_no_list (K : PySem.W.Frag) : Sp := fun vs H Q _ => ∃ (x y : V) (A : Addr) (zs : List ZT) (l : List Q3) (dx dy : PyData), vs = [x, .ref A, y] ∧ Rn H x dx ∧ ¬ RankD dx ∧ RkL H A zs l ∧ RankL l ∧ Rn H y dy ∧ lenF dy ∧ ∀ H', Ex H H' → Q (.bl true) H'
theorem ok__law_no_list (T : Tx K mg ad fd tk) : FnOk P w K mg base CX0 8 (ad 26) (fd 26) ["_law_thing", "_law_good_here", "_law_news_here"] (sp__law_no_list K) := by
  refine T.d__law_no_list.F.ok sc__law_no_list (fun vs H Q E h => ?_) (fun cdv A outer s H vs Q E hr h => ?_)
  · obtain ⟨x, y, A, zs, l, dx, dy, rfl, _⟩ := h
    rfl
  · obtain ⟨x, y, A, zs, l, dx, dy, rfl, hx, hn, hA, hl, hy, hlen, k⟩ := h
    refine ⟨_, (pss_cons (ps_set (i := 3) sc__law_no_list.nd rfl (Or.inl rfl) (pe_lst (pa_cons pe_str (pa_cons (pv 0) (pa_cons pe_bl pa_nil)))))
      (pss_cons (ps_if (PW.pt (pw_or (pt_cmpR (o_neL (K := K) hr.units) (pe_call (ok__law_refused T) (hr.mono (by decide)) rfl T.d__law_refused.g T.d__law_refused.F.kp T.d__law_refused.b .nil pass0 (pa_cons pe_str (pa_cons (pv 0) (pa_cons (pv 1) pa_nil)))) (pv 3) (nomark _)) (pw_or1 (pt_cmpR (o_neL (K := K) hr.units) (pe_call (ok__law_refused T) (hr.mono (by decide)) rfl T.d__law_refused.g T.d__law_refused.F.kp T.d__law_refused.b .nil pass0 (pa_cons pe_str (pa_cons (pv 1) (pa_cons (pv 0) pa_nil)))) (pv 3) (nomark _))))) (pss_one (ps_ret pe_bl)) pss_nil)
      (pss_cons (ps_if (pt_cmpR (o_neL (K := K) hr.units) (pe_call (ok__law_refused T) (hr.mono (by decide)) rfl T.d__law_refused.g T.d__law_refused.F.kp T.d__law_refused.b .nil pass0 (pa_cons pe_str (pa_cons (pv 0) (pa_cons pe_non pa_nil)))) (pv 3) (nomark _)) (pss_one (ps_ret pe_bl)) pss_nil)
      (pss_one (ps_ret (pe_and (pe_cmpR (o_eqL hr.units) (pe_call (ok__law_refused T) (hr.mono (by decide)) rfl T.d__law_refused.g T.d__law_refused.F.kp T.d__law_refused.b .nil pass0 (pa_cons pe_str (pa_cons (pv 0) (pa_cons (pv 2) pa_nil)))) (pv 3) (nomark _)) (pe_one (pe_cmpR (o_eqL hr.units) (pe_call (ok__law_refused T) (hr.mono (by decide)) rfl T.d__law_refused.g T.d__law_refused.F.kp T.d__law_refused.b .nil pass0 (pa_cons pe_str (pa_cons (pv 0) (pa_cons pe_non pa_nil)))) (pv 3) (nomark _))))))))), ?_⟩
    walk_at "go"
    rename_i D H1 nD e1 vD
    have no : ("news" : Str) = "led" → ∀ d, lenF d := fun h => absurd h (by decide)
    refine ⟨"news", "near", x, .ref A, x, dx, .list (l.map enc3), rfl, hx.ex e1, (hA.ex e1).rn, fun h => no h _, .inl ⟨rfl, rfl, .inl ⟨hn, rfl⟩⟩, fun D1 H2 e2 n1 v1 => ?_⟩
    have e02 := e1.trans e2
    have vD2 := e2.get vD
    walk_at "go"
    refine st_neLs v1 vD2 (lks_due (hx.ex e02)) ?_
    walk_at "go"
    refine ⟨"news", "near", .ref A, x, x, .list (l.map enc3), dx, rfl, (hA.ex e02).rn, hx.ex e02, fun h => no h _, .inl ⟨rfl, rfl, .inr ⟨⟨l, rfl, hl⟩, hn, rfl⟩⟩, fun D2 H3 e3 n2 v2 => ?_⟩
    have e03 := e02.trans e3
    have vD3 := e3.get vD2
    walk_at "go"
    refine st_neLs v2 vD3 (lks_due (hx.ex e03)) ?_
    walk_at "go"
    refine ⟨"news", "near", x, .non, x, dx, .none, rfl, hx.ex e03, .non, fun h => no h _, .inl ⟨rfl, rfl, .inl ⟨hn, rfl⟩⟩, fun D3 H4 e4 n3 v3 => ?_⟩
    have e04 := e03.trans e4
    have vD4 := e4.get vD3
    walk_at "go"
    refine st_neLs v3 vD4 (lks_due (hx.ex e04)) ?_
    walk_at "go"
    refine ⟨"led", "near", x, y, x, dx, dy, rfl, hx.ex e04, hy.ex e04, fun _ => hlen, .inr ⟨rfl, .inl ⟨rfl, hn, rfl⟩⟩, fun D4 H5 e5 n4 v4 => ?_⟩
    have e05 := e04.trans e5
    have vD5 := e5.get vD4
    walk_at "go"
    refine st_eqLs v4 vD5 (lks_due (hx.ex e05)) ?_
    walk_at "go"
    refine ⟨"led", "near", x, .non, x, dx, .none, rfl, hx.ex e05, .non, fun _ => trivial, .inr ⟨rfl, .inl ⟨rfl, hn, rfl⟩⟩, fun D5 H6 e6 n5 v5 => ?_⟩
    have e06 := e05.trans e6
    have vD6 := e6.get vD5
    walk_at "go"
    refine st_eqLs v5 vD6 (lks_due (hx.ex e06)) ?_
    exact k H6 e06
def sp__law_judged (K : PySem.W.Frag) : Sp := fun vs H Q _ => ∃ (x y : V) (A : Addr) (zs : List ZT) (l : List Q3) (dx dy : PyData), vs = [x, .ref A, y] ∧ Rn H x dx ∧ okL dx ∧ RkL H A zs l ∧ RankL l ∧ Rn H y dy ∧ lenF dy ∧ ∀ H', Ex H H' → Q (.bl true) H'
theorem ok__law_judged (T : Tx K mg ad fd tk) : FnOk P w K mg base CX0 9 (ad 27) (fd 27) ["_law_thing", "_law_good_here", "_law_news_here"] (sp__law_judged K) := by
  refine T.d__law_judged.F.ok sc__law_judged (fun vs H Q E h => ?_) (fun cdv A outer s H vs Q E hr h => ?_)
  · obtain ⟨x, y, A, zs, l, dx, dy, rfl, _⟩ := h
    rfl
  · obtain ⟨x, y, A, zs, l, dx, dy, rfl, hx, ho, hA, hl, hy, hlen, k⟩ := h
    refine ⟨_, (pss_cons (ps_set (i := 3) sc__law_judged.nd rfl (Or.inl rfl) (pe_call (ok__law_good T) (hr.mono (by decide)) rfl T.d__law_good.g T.d__law_good.F.kp T.d__law_good.b .nil pass0 (pa_cons (pv 0) pa_nil)))
      (pss_cons (ps_set (i := 4) sc__law_judged.nd rfl (Or.inl rfl) (pe_call (ok_is_ranked T) (hr.mono (by decide)) rfl T.d_is_ranked.g T.d_is_ranked.F.kp T.d_is_ranked.b .nil pass0 (pa_cons (pv 0) pa_nil)))
      (pss_cons (ps_if (PW.pt (pw_or (pt_not (pt_val (pe_callB c_is (by rfl) T.b_isinstance (by decide +kernel) (pa_cons (pv 4) (pa_cons (pe_bltn (v := .ty "bool") rfl T.b_bool (by decide +kernel) rfl) pa_nil))))) (pw_or1 (pt_cmpR (o_ne hr.units) (pv 4) (pv 3) (nomark _))))) (pss_one (ps_ret pe_bl)) pss_nil)
      (pss_one (ps_ret (pe_or (pv 3) (pe_one (pe_call (ok__law_no_list T) (hr.mono (by decide)) rfl T.d__law_no_list.g T.d__law_no_list.F.kp T.d__law_no_list.b .nil pass0 (pa_cons (pv 0) (pa_cons (pv 1) (pa_cons (pv 2) pa_nil))))))))))), ?_⟩
    walk_at "go"
    refine ⟨x, dx, rfl, hx, ho.t, fun b1 H1 e1 h1 => ?_⟩
    walk_at "go"
    refine ⟨x, dx, rfl, hx.ex e1, fun b2 H2 e2 h2 => ?_⟩
    have e02 := e1.trans e2
    obtain rfl : b2 = b1 := by
      cases b1 <;> cases b2 <;> first | rfl | exact absurd (h2.mpr (h1.mp rfl)) (by decide) | exact absurd (h1.mpr (h2.mp rfl)) (by decide)
    walk_at "go"
    cases b2 with
    | true =>
      walk_at "go"
      exact k H2 e02
    | false =>
      walk_at "go"
      refine ⟨x, y, A, zs, l, dx, dy, rfl, hx.ex e02, fun h => Bool.false_ne_true (h2.mpr h), hA.ex e02, hl, hy.ex e02, hlen, fun H3 e3 => ?_⟩
      exact k H3 (e02.trans e3)
theorem rows3 (c : List Q3) : rowsD (.list (c.map enc3)) 3 = true := by
  show (c.map enc3).all (fun e => wholesD e 3) = true
  rw [List.all_map, List.all_eq_true]
  intro q _
  rfl
theorem rows6 {m : List (List Int)} (h : ∀ r ∈ m, r.length = 6) : rowsD (.list (m.map encI)) 6 = true := by
  show (m.map encI).all (fun e => wholesD e 6) = true
  rw [List.all_map, List.all_eq_true]
  intro r hr
  show (decide ((r.map PyData.int).length = 6) && (r.map PyData.int).all wholeD) = true
  rw [List.length_map, h r hr, List.all_map]
  simp only [decide_true, Bool.true_and]
  rw [List.all_eq_true]
  intro i _
  rfl
theorem lenT3 {c : List Q3} (h : c.length ≤ 625) : lenT (.list (c.map enc3)) := by
  refine ⟨by rw [List.length_map]; omega, fun e he ds ed => ?_⟩
  obtain ⟨q, _, rfl⟩ := List.mem_map.mp he
  injection ed with ed
  rw [← ed]
  exact (by decide : 3 < 1000000)
theorem lenT6 {m : List (List Int)} (h : m.length ≤ 625) (h6 : ∀ r ∈ m, r.length = 6) : lenT (.list (m.map encI)) := by
  refine ⟨by rw [List.length_map]; omega, fun e he ds ed => ?_⟩
  obtain ⟨r, hr, rfl⟩ := List.mem_map.mp he
  injection ed with ed
  rw [← ed, List.length_map, h6 r hr]
  omega
def sp__law_tried (K : PySem.W.Frag) : Sp := fun vs H Q _ => ∃ (A : Addr) (x : V) (za : List ZT) (l : List Q3) (d : PyData), vs = [.ref A, x] ∧ RkL H A za l ∧ RankL l ∧ Rn H x d ∧ okN d ∧ ∀ H', Ex H H' → Q (.bl true) H'
theorem ok__law_tried (T : Tx K mg ad fd tk) : FnOk P w K mg base CX0 8 (ad 28) (fd 28) ["_law_ahead", "_law_thing"] (sp__law_tried K) := by
  refine T.d__law_tried.F.ok sc__law_tried (fun vs H Q E h => ?_) (fun cdv A outer s H vs Q E hr h => ?_)
  · obtain ⟨A, x, za, l, d, rfl, _⟩ := h
    rfl
  · obtain ⟨A, x, za, l, d, rfl, hA, hl, hx, ho, k⟩ := h
    refine ⟨_, (pss_cons (ps_set (i := 2) sc__law_tried.nd rfl (Or.inl rfl) (pe_call (ok__law_following T) (hr.mono (by decide)) rfl T.d__law_following.g T.d__law_following.F.kp T.d__law_following.b .nil pass0 (pa_cons (pv 0) (pa_cons (pv 1) pa_nil))))
      (pss_cons (ps_if (pt_cmpR o_isN (pv 2) pe_non (nomark _)) (pss_one (ps_ret (pe_cmpR (o_eqL hr.units) (pe_call (ok__law_refused T) (hr.mono (by decide)) rfl T.d__law_refused.g T.d__law_refused.F.kp T.d__law_refused.b .nil pass0 (pa_cons pe_str (pa_cons (pv 0) (pa_cons (pv 1) pa_nil)))) (pe_lst (pa_cons pe_str (pa_cons (pv 1) (pa_cons pe_bl pa_nil)))) (nomark _)))) pss_nil)
      (pss_cons (ps_set (i := 3) sc__law_tried.nd rfl (Or.inl rfl) (pe_call (ok_followed T) (hr.mono (by decide)) rfl T.d_followed.g T.d_followed.F.kp T.d_followed.b .nil passL (pa_cons (pv 0) (pa_cons (pv 1) pa_nil))))
      (pss_one (ps_ret (pe_and (pe_call (ok__law_tuples T) (hr.mono (by decide)) rfl T.d__law_tuples.g T.d__law_tuples.F.kp T.d__law_tuples.b .nil pass0 (pa_cons (pv 3) (pa_cons pe_int pa_nil))) (pe_one (pe_cmpR (o_eq hr.units) (pv 3) (pv 2) (nomark _))))))))), ?_⟩
    walk_at "go"
    refine ⟨A, x, za, l, d, rfl, hA, hl, hx, ho, fun H1 e1 hno => ?_, fun D zs ys H1 e1 hD hy => ?_⟩
    · walk_at "go"
      refine ⟨"led", "told", .ref A, x, x, .list (l.map enc3), d, rfl, (hA.ex e1).rn, hx.ex e1, fun _ => ho.f, .inr ⟨rfl, .inr ⟨rfl, rfl, l, rfl, hl, hno⟩⟩, fun D1 H2 e2 n1 v1 => ?_⟩
      walk_at "go"
      rename_i D2 H3 n2 e3 v2
      refine st_eqLs (e3.get v1) v2 (lks_due (hx.ex ((e1.trans e2).trans e3))) ?_
      exact k H3 ((e1.trans e2).trans e3)
    · walk_at "go"
      obtain ⟨c, w, m, rfl, h6, hp, hs, hf⟩ := hy
      refine ⟨.ref A, x, _, _, rfl, (hA.ex e1).rn, hx.ex e1, ho.f, fun h => absurd ⟨l, rfl, hl⟩ h, fun _ h => ?_, fun l' c' w' m' q1 _ q2 _ ys' hp' hs' => ?_⟩
      · rw [news_made h6] at h
        cases h
      · injection q1 with q1
        have q1 := enc3_map q1
        subst q1
        obtain ⟨rfl, rfl, rfl⟩ := newsE_inj q2
        have ey : ys' = ys := sorted3_uniq hs' hs (hp'.trans hp.symm)
        subst ey
        refine ⟨fun h => absurd hf h, fun _ D2 zs2 H2 e2 n2 hD2 => ?_⟩
        have e02 := e1.trans e2
        have hyl := rank_len hf.1
        walk_at "go"
        refine ⟨.ref D2, 3, _, rfl, hD2.rn, by omega, lenT3 hyl, fun H3 e3 => ?_⟩
        rw [rows3]
        walk_at "go"
        refine st_eq3 (hD2.ex e3) (hD.ex (e2.trans e3)) ?_
        rw [decide_eq_true rfl]
        exact k H3 (e02.trans e3)
def sp_law (K : PySem.W.Frag) : Sp := fun vs H Q _ => ∃ (a : Addr) (ns : List Int), vs = [.ref a] ∧ Scr K H a ns ∧ ns.length ≤ 63 ∧ ∀ H', Q (.bl true) H'
theorem smR_rank {l : List Q3} (h : RankL l) : SmR (l.map q2l) := fun r hr x hx => by
  obtain ⟨q, hq, rfl⟩ := List.mem_map.mp hr
  obtain ⟨h1, h2, h3, h4, h5⟩ := h.2.2 q hq
  simp only [q2l, List.mem_cons, List.not_mem_nil, or_false] at hx
  rcases hx with rfl | rfl | rfl <;> omega
theorem smR_sub {l m : List Q3} (h : SmR (l.map q2l)) (k : ∀ q ∈ m, q ∈ l) : SmR (m.map q2l) := fun r hr => by
  obtain ⟨q, hq, rfl⟩ := List.mem_map.mp hr
  exact h _ (List.mem_map.mpr ⟨q, k q hq, rfl⟩)
theorem smR_mov {l m : List Q3} (hl : RankL l) (hm : RankL m) : SmR (movL l m) := fun r hr x hx => by
  unfold movL movS at hr
  obtain ⟨j, hj, h⟩ := List.mem_filterMap.mp hr
  cases hmj : m[j]? with
  | none => rw [hmj] at h; cases h
  | some q =>
    rw [hmj, Option.bind_some] at h
    unfold movE at h
    cases hf : l.findIdx? (fun r => decide (r.2 = q.2)) with
    | none => rw [hf] at h; cases h
    | some i =>
      rw [hf, Option.bind_some] at h
      cases hli : l[i]? with
      | none => rw [hli] at h; cases h
      | some y =>
        rw [hli, Option.bind_some] at h
        split at h
        · cases h
        · cases h
          obtain ⟨h1, h2, h3, h4, h5⟩ := hm.2.2 q (List.mem_of_getElem? hmj)
          obtain ⟨g1, g2, g3, g4, g5⟩ := hl.2.2 y (List.mem_of_getElem? hli)
          have := rank_len hl
          have := rank_len hm
          have := (List.getElem?_eq_some_iff.mp hli).1
          have := (List.getElem?_eq_some_iff.mp hmj).1
          simp only [List.mem_cons, List.not_mem_nil, or_false] at hx
          rcases hx with rfl | rfl | rfl | rfl | rfl | rfl <;> omega
theorem ok_law (T : Tx K mg ad fd tk) : FnOk P w K mg base CX0 10 (ad 29) (fd 29) ["_law_script"] (sp_law K) := by
  refine T.d_law.F.ok sc_law (fun vs H Q E h => ?_) (fun cdv A outer s H vs Q E hr h => ?_)
  · obtain ⟨a, ns, rfl, _⟩ := h
    rfl
  · obtain ⟨a, ns, rfl, hs, hl, k⟩ := h
    refine ⟨_, (pss_cons (ps_set (i := 1) sc_law.nd rfl (Or.inl rfl) (pe_call (ok__law_list T) (hr.mono (by decide)) rfl T.d__law_list.g T.d__law_list.F.kp T.d__law_list.b .nil pass0 (pa_cons (pe_call (ok__law_cell T) (hr.mono (by decide)) rfl T.d__law_cell.g T.d__law_cell.F.kp T.d__law_cell.b .nil pass0 (pa_cons (pv 0) (pa_cons pe_int pa_nil))) pa_nil)))
      (pss_cons (ps_set (i := 2) sc_law.nd rfl (Or.inl rfl) (pe_call (ok__law_next T) (hr.mono (by decide)) rfl T.d__law_next.g T.d__law_next.F.kp T.d__law_next.b .nil pass0 (pa_cons (pe_call (ok__law_cell T) (hr.mono (by decide)) rfl T.d__law_cell.g T.d__law_cell.F.kp T.d__law_cell.b .nil pass0 (pa_cons (pv 0) (pa_cons pe_int pa_nil))) (pa_cons (pv 1) pa_nil))))
      (pss_cons (ps_set (i := 3) sc_law.nd rfl (Or.inl rfl) (pe_call (ok__law_news T) (hr.mono (by decide)) rfl T.d__law_news.g T.d__law_news.F.kp T.d__law_news.b .nil pass0 (pa_cons (pv 1) (pa_cons (pv 2) pa_nil))))
      (pss_cons (ps_if (PW.pt (pw_or (pt_not (pt_val (pe_call (ok__law_judged T) (hr.mono (by decide)) rfl T.d__law_judged.g T.d__law_judged.F.kp T.d__law_judged.b .nil pass0 (pa_cons (pv 1) (pa_cons (pv 2) (pa_cons (pv 3) pa_nil)))))) (pw_or1 (pt_not (pt_val (pe_call (ok__law_tried T) (hr.mono (by decide)) rfl T.d__law_tried.g T.d__law_tried.F.kp T.d__law_tried.b .nil pass0 (pa_cons (pv 1) (pa_cons (pv 3) pa_nil)))))))) (pss_one (ps_ret pe_bl)) pss_nil)
      (pss_cons (ps_for PassesOwn.never rfl (pi_list (pe_slice (s_sl (K := K)) (pv 0) (po_some pe_int) (po_some pe_int))) (pg_name (i := 4) sc_law.nd rfl (Or.inl rfl)) (pss_cons (ps_asg (pe_call (ok__law_drawn T) (hr.mono (by decide)) rfl T.d__law_drawn.g T.d__law_drawn.F.kp T.d__law_drawn.b .nil pass0 (pa_cons (pv 4) (pa_cons (pe_lst (pa_cons pe_int (pa_cons pe_int (pa_cons pe_int (pa_cons pe_int (pa_cons pe_int (pa_cons pe_int pa_nil))))))) pa_nil))) (pg_lst rfl (pgs_cons (pg_name (i := 5) sc_law.nd rfl (Or.inl rfl)) (pgs_cons (pg_name (i := 6) sc_law.nd rfl (Or.inl rfl)) (pgs_cons (pg_name (i := 7) sc_law.nd rfl (Or.inl rfl)) (pgs_cons (pg_name (i := 8) sc_law.nd rfl (Or.inl rfl)) (pgs_cons (pg_name (i := 9) sc_law.nd rfl (Or.inl rfl)) (pgs_cons (pg_name (i := 10) sc_law.nd rfl (Or.inl rfl)) pgs_nil))))))))
      (pss_cons (ps_set (i := 11) sc_law.nd rfl (Or.inl rfl) (pe_lst (pa_cons (pv 1) (pa_cons (pv 2) pa_nil))))
      (pss_cons (ps_if (pt_not (pt_val (pe_call (ok__law_judged T) (hr.mono (by decide)) rfl T.d__law_judged.g T.d__law_judged.F.kp T.d__law_judged.b .nil pass0 (pa_cons (pe_call (ok__law_list_spoilt T) (hr.mono (by decide)) rfl T.d__law_list_spoilt.g T.d__law_list_spoilt.F.kp T.d__law_list_spoilt.b .nil pass0 (pa_cons (pe_ix (i_ix (K := K)) (pv 11) (pv 5) (fun _ _ => rfl)) (pa_cons (pv 6) (pa_cons (pv 7) pa_nil)))) (pa_cons (pe_ix (i_ix (K := K)) (pv 11) (pe_op o_sub pe_int (pv 5)) (fun _ _ => rfl)) (pa_cons (pv 3) pa_nil)))))) (pss_one (ps_ret pe_bl)) pss_nil)
      (pss_one (ps_if (pt_not (pt_val (pe_call (ok__law_tried T) (hr.mono (by decide)) rfl T.d__law_tried.g T.d__law_tried.F.kp T.d__law_tried.b .nil pass0 (pa_cons (pv 1) (pa_cons (pe_call (ok__law_news_spoilt T) (hr.mono (by decide)) rfl T.d__law_news_spoilt.g T.d__law_news_spoilt.F.kp T.d__law_news_spoilt.b .nil pass0 (pa_cons (pv 11) (pa_cons (pv 3) (pa_cons (pv 9) (pa_cons (pv 8) (pa_cons (pv 7) (pa_cons (pv 10) pa_nil))))))) pa_nil))))) (pss_one (ps_ret pe_bl)) pss_nil))))))
      (pss_one (ps_ret pe_bl))))))), ?_⟩
    walk_at "go"
    refine ⟨a, ns, 0, rfl, hs.sq, by decide, hl, fun c => ?_⟩
    walk_at "go"
    refine ⟨c, rfl, fun A z1 l1 H1 e1 nA hA r1 s1 => ?_⟩
    walk_at "go"
    refine ⟨a, ns, 1, rfl, (hs.ex e1).sq, by decide, hl, fun c2 => ?_⟩
    walk_at "go"
    refine ⟨c2, A, z1, l1, rfl, hA, r1, fun B z2 l2 H2 e2 nB hB r2 s2 => ?_⟩
    have s2 : l2.length ≤ 43 := by omega
    have hA2 := hA.ex e2
    walk_at "go"
    refine ⟨A, B, z1, z2, l1, l2, rfl, hA2, hB, by omega, by omega, r1.2.1, r2.2.1, fun t C W M zc zw H3 e3 _ _ _ _ hn => ?_⟩
    have q1 := notIn_len l1 l2
    have q2 := notIn_len l2 l1
    have q3 := movL_len l1 l2
    have lenN : okN (newsE (notIn l1 l2) (notIn l2 l1) (movL l1 l2)) := by
      intro e he
      simp only [List.mem_cons, List.not_mem_nil, or_false] at he
      have k3 : ∀ c : List Q3, c.length ≤ 60 → okL (.list (c.map enc3)) := fun c hc => ⟨by rw [List.length_map]; omega, fun e he ds ed => by
        obtain ⟨q, _, rfl⟩ := List.mem_map.mp he
        injection ed with ed
        rw [← ed]
        exact (by decide : 3 ≤ 1000)⟩
      rcases he with rfl | rfl | rfl
      · exact k3 _ (by omega)
      · exact k3 _ (by omega)
      · refine ⟨by rw [List.length_map]; omega, fun e he ds ed => ?_⟩
        obtain ⟨r, hr, rfl⟩ := List.mem_map.mp he
        injection ed with ed
        rw [← ed, List.length_map, movL_six r hr]
        decide
    have okA : okL (.list (l1.map enc3)) := ⟨by rw [List.length_map]; omega, fun e he ds ed => by
      obtain ⟨q, _, rfl⟩ := List.mem_map.mp he
      injection ed with ed
      rw [← ed]
      exact (by decide : 3 ≤ 1000)⟩
    have e03 := (e1.trans e2).trans e3
    have hA3 := hA2.ex e3
    have hB3 := hB.ex e3
    clear hA hA2 hB nA nB e1 e2 e3
    walk_at "go"
    refine ⟨.ref A, .ref t, B, z2, l2, _, _, rfl, hA3.rn, okA, hB3, r2, hn.rn, lenN.f, fun H4 e4 => ?_⟩
    walk_at "go"
    refine ⟨A, .ref t, z1, l1, _, rfl, hA3.ex e4, r1, (hn.ex e4).rn, lenN, fun H5 e5 => ?_⟩
    have e35 := e4.trans e5
    have e05 := e03.trans e35
    have hA5 := hA3.ex e35
    have hB5 := hB3.ex e35
    have hn5 := hn.ex e35
    clear hA3 hB3 hn e4 e5 e35 e03
    walk_at "go"
    refine st_slK (hs.ex e05).sq ?_
    walk_at "nw"
    rename_i S H6 nS e6 vS
    obtain ⟨cells, hcells, hcl⟩ : ∃ cells : List Int, cutV (ns.map V.int) (some 2) (some 32) = cells.map V.int ∧ cells.length ≤ 63 := ⟨_, cutV_map _ _ _ _, Nat.le_trans (cutL_len _ _ _) hl⟩
    rw [hcells] at vS
    have hA6 := hA5.ex e6
    have hB6 := hB5.ex e6
    have hn6 := hn5.ex e6
    clear hA5 hB5 hn5
    walk_at "go"
    refine for_runs (rv_list _ S cells V.int) (fun i σ H' => Ex H6 H' ∧ ∃ b4 b5 b6 b7 b8 b9 b10 b11, σ = [some (.ref a), some (.ref A), some (.ref B), some (.ref t), b4, b5, b6, b7, b8, b9, b10, b11]) ⟨Fr.refl _, _, _, _, _, _, _, _, _, rfl⟩ (fun i σ H' _ ⟨e, _⟩ => lst_of (e.get vS)) ?_ ?_
    · rintro i x σ G1 G2 hi ⟨f1, b4, b5, b6, b7, b8, b9, b10, b11, rfl⟩ ⟨rfl, y, hy, rfl⟩
      walk_at "go"
      rename_i q1' G3 n3 f3 v3
      refine ⟨y, q1', [2, 18, 997, 19, 3, 9973], rfl, v3, by decide, by decide, fun q2' G4 ds f4 n4 v4 hlen hbd => ?_⟩
      obtain ⟨x0, x1, x2, x3, x4, x5, rfl⟩ : ∃ x0 x1 x2 x3 x4 x5, ds = [x0, x1, x2, x3, x4, x5] := by
        match ds, hlen with
        | [x0, x1, x2, x3, x4, x5], _ => exact ⟨x0, x1, x2, x3, x4, x5, rfl⟩
      have c0 := hbd 0 x0 2 rfl rfl
      have c1 := hbd 1 x1 18 rfl rfl
      have c2 := hbd 2 x2 997 rfl rfl
      have c3 := hbd 3 x3 19 rfl rfl
      have c4 := hbd 4 x4 3 rfl rfl
      have c5 := hbd 5 x5 9973 rfl rfl
      obtain ⟨p, rfl⟩ := Int.eq_ofNat_of_zero_le c4.1
      replace v4 : G4 q2' = some (.lst [.int x0, .int x1, .int x2, .int x3, .int (p : Nat), .int x5]) := v4
      have f24 := f3.trans f4
      clear v3 n3 n4 hbd f3 f4
      walk_at "go"
      rename_i LL G5 n5 f5 v5
      have f15 := (f1.trans f24).trans f5
      have gA := hA6.ex f15
      have gB := hB6.ex f15
      have gn := hn6.ex f15
      obtain ⟨X, zX, lX, Y, zY, lY, ax, ay, hX, hY, rX, rY, sX⟩ : ∃ (X : Addr) (zX : List ZT) (lX : List Q3) (Y : Addr) (zY : List ZT) (lY : List Q3), atI [V.ref A, V.ref B] x0 = some (.ref X) ∧ atI [V.ref A, V.ref B] (1 - x0) = some (.ref Y) ∧ RkL G5 X zX lX ∧ RkL G5 Y zY lY ∧ RankL lX ∧ RankL lY ∧ lX.length ≤ 60 := by
        obtain rfl | rfl : x0 = 0 ∨ x0 = 1 := by omega
        · exact ⟨A, z1, l1, B, z2, l2, rfl, rfl, gA, gB, r1, r2, by omega⟩
        · exact ⟨B, z2, l2, A, z1, l1, rfl, rfl, gB, gA, r2, r1, by omega⟩
      refine st_ixL v5 ax ?_
      walk_at "go"
      refine ⟨X, zX, lX, x1, x2, rfl, hX, sX, c1, c2.1, fun v d G6 g6 hv hd => ?_⟩
      walk_at "go"
      refine st_ixL (g6.get v5) ay ?_
      walk_at "go"
      refine ⟨v, .ref t, Y, zY, lY, d, _, rfl, hv, hd, hY.ex g6, rY, (gn.ex g6).rn, lenN.f, fun G7 g7 => ?_⟩
      have g57 := g6.trans g7
      have v57 := g57.get v5
      walk_at "go"
      refine ⟨LL, t, C, W, M, A, B, z1, z2, zc, zw, l1, l2, notIn l1 l2, notIn l2 l1, movL l1 l2, p, x3, x2, x5, rfl, v57, gA.ex g57, gB.ex g57, gn.ex g57, movL_six, ⟨by omega, by omega⟩, ⟨by omega, by omega, by omega⟩, ⟨smR_rank r1, smR_rank r2, smR_sub (smR_rank r2) (fun q hq => (notIn_mem.mp hq).1), smR_sub (smR_rank r1) (fun q hq => (notIn_mem.mp hq).1), smR_mov r1 r2⟩, by omega, c3, c2.1, c5.1, fun v' d' G8 g8 hv' hd' => ?_⟩
      walk_at "go"
      refine ⟨A, v', z1, l1, d', rfl, gA.ex (g57.trans g8), r1, hv', hd', fun G9 g9 => ?_⟩
      walk_at "go"
      exact ⟨(f15.trans (g57.trans g8)).trans g9, _, _, _, _, _, _, _, _, rfl⟩
    · rintro σ G1 ⟨f1, b4, b5, b6, b7, b8, b9, b10, b11, rfl⟩
      walk_at "go"
      exact k _
end
/-! ### what the top has written, the end -/
theorem all_mk {P : Program} {w : World} {K : PySem.W.Frag} {h : Heap} {mg : Str → Option Value} {fa f0 f1 f2 f3 f4 f5 f6 f7 f8 f9 f10 f11 f12 f13 f14 f15 f16 f17 f18 f19 f20 f21 f22 f23 f24 f25 f26 f27 f28 f29 : Addr} (X : K.In h) (G : h.Ns mainGlobals mg) (hfa : mg "law" = some (.ref fa))
    {od0 od1 od2 od3 od4 od5 od6 od7 od8 od9 od10 od11 od12 od13 od14 od15 od16 od17 od18 od19 od20 od21 od22 od23 od24 od25 od26 od27 od28 od29 an0 an1 an2 an3 an4 an5 an6 an7 an8 an9 an10 an11 an12 an13 an14 an15 an16 an17 an18 an19 an20 an21 an22 an23 an24 an25 an26 an27 an28 an29 : Option Addr} {sl0 sl1 sl2 sl3 sl4 sl5 sl6 sl7 sl8 sl9 sl10 sl11 sl12 sl13 sl14 sl15 sl16 sl17 sl18 sl19 sl20 sl21 sl22 sl23 sl24 sl25 sl26 sl27 sl28 sl29 : Array (Option Value)} {oc0 oc1 oc2 oc3 oc4 oc5 oc6 oc7 oc8 oc9 oc10 oc11 oc12 oc13 oc14 oc15 oc16 oc17 oc18 oc19 oc20 oc21 oc22 oc23 oc24 oc25 oc26 oc27 oc28 oc29 kV0 kV1 kV2 kV3 kV4 kV5 kV6 kV7 kV8 kV9 kV10 kV11 kV12 kV13 kV14 kV15 kV16 kV17 kV18 kV19 kV20 kV21 kV22 kV23 kV24 kV25 kV26 kV27 kV28 kV29 dc0 dc1 dc2 dc3 dc4 dc5 dc6 dc7 dc8 dc9 dc10 dc11 dc12 dc13 dc14 dc15 dc16 dc17 dc18 dc19 dc20 dc21 dc22 dc23 dc24 dc25 dc26 dc27 dc28 dc29 pm0 pm1 pm2 pm3 pm4 pm5 pm6 pm7 pm8 pm9 pm10 pm11 pm12 pm13 pm14 pm15 pm16 pm17 pm18 pm19 pm20 pm21 pm22 pm23 pm24 pm25 pm26 pm27 pm28 pm29 cd0 cd1 cd2 cd3 cd4 cd5 cd6 cd7 cd8 cd9 cd10 cd11 cd12 cd13 cd14 cd15 cd16 cd17 cd18 cd19 cd20 cd21 cd22 cd23 cd24 cd25 cd26 cd27 cd28 cd29 ct0 ct1 ct2 ct3 ct4 ct5 ct6 ct7 ct8 ct9 ct10 ct11 ct12 ct13 ct14 ct15 ct16 ct17 ct18 ct19 ct20 ct21 ct22 ct23 ct24 ct25 ct26 ct27 ct28 ct29 : Value} {t0 t1 : Tok}{C_NoNear C_NoTold C_PaneError I_NoNear I_NoTold : Addr} {xn_NoNear xn_NoTold xq_NoNear xq_NoTold : Str} {xN_NoNear xN_NoTold : Addr} {xb_NoNear xb_NoTold xu_NoNear xu_NoTold : List Value} {xs_NoNear xs_NoTold : List Str} {xa_NoNear xa_NoTold : Bool} {xc_NoNear xc_NoTold : Option Bool} {xd_NoNear xd_NoTold Iod_NoNear Iod_NoTold Ian_NoNear Ian_NoTold : Option Addr} {xk0_NoNear xk0_NoTold xk1_NoNear xk1_NoTold xk2_NoNear xk2_NoTold xk3_NoNear xk3_NoTold xk5_NoNear xk5_NoTold : Option Value} {Ioc_NoNear Ioc_NoTold IkV_NoNear IkV_NoTold Idc_NoNear Idc_NoTold Ipm_NoNear Ipm_NoTold Icd_NoNear Icd_NoTold Ict_NoNear Ict_NoTold : Value} {Isl_NoNear Isl_NoTold : Array (Option Value)} 
    (a0 : PySem.W.nsIn K mainGlobals "is_whole" = some (some (.ref f0)))
    (l0 : K.lookup f0 = some ⟨oc0, od0, .func (PySem.W.fnOf "is_whole" "is_whole" (defArgs s_is_whole) (defBody s_is_whole) (defScope s_is_whole) .none kV0 dc0 pm0 an0 cd0 ct0), sl0⟩)
    (c0 : PySem.W.codeIn K cd0 "is_whole" = true) (k0 : PySem.W.keepIn K (.ref f0) = true)
    (a1 : PySem.W.nsIn K mainGlobals "are_wholes" = some (some (.ref f1)))
    (l1 : K.lookup f1 = some ⟨oc1, od1, .func (PySem.W.fnOf "are_wholes" "are_wholes" (defArgs s_are_wholes) (defBody s_are_wholes) (defScope s_are_wholes) .none kV1 dc1 pm1 an1 cd1 ct1), sl1⟩)
    (c1 : PySem.W.codeIn K cd1 "are_wholes" = true) (k1 : PySem.W.keepIn K (.ref f1) = true)
    (a2 : PySem.W.nsIn K mainGlobals "is_told" = some (some (.ref f2)))
    (l2 : K.lookup f2 = some ⟨oc2, od2, .func (PySem.W.fnOf "is_told" "is_told" (defArgs s_is_told) (defBody s_is_told) (defScope s_is_told) .none kV2 dc2 pm2 an2 cd2 ct2), sl2⟩)
    (c2 : PySem.W.codeIn K cd2 "is_told" = true) (k2 : PySem.W.keepIn K (.ref f2) = true)
    (a3 : PySem.W.nsIn K mainGlobals "is_ranked" = some (some (.ref f3)))
    (l3 : K.lookup f3 = some ⟨oc3, od3, .func (PySem.W.fnOf "is_ranked" "is_ranked" (defArgs s_is_ranked) (defBody s_is_ranked) (defScope s_is_ranked) .none kV3 dc3 pm3 an3 cd3 ct3), sl3⟩)
    (c3 : PySem.W.codeIn K cd3 "is_ranked" = true) (k3 : PySem.W.keepIn K (.ref f3) = true)
    (a4 : PySem.W.nsIn K mainGlobals "need_ranked" = some (some (.ref f4)))
    (l4 : K.lookup f4 = some ⟨oc4, od4, .func (PySem.W.fnOf "need_ranked" "need_ranked" (defArgs s_need_ranked) (defBody s_need_ranked) (defScope s_need_ranked) .none kV4 dc4 pm4 an4 cd4 ct4), sl4⟩)
    (c4 : PySem.W.codeIn K cd4 "need_ranked" = true) (k4 : PySem.W.keepIn K (.ref f4) = true)
    (a5 : PySem.W.nsIn K mainGlobals "ranks_of" = some (some (.ref f5)))
    (l5 : K.lookup f5 = some ⟨oc5, od5, .func (PySem.W.fnOf "ranks_of" "ranks_of" (defArgs s_ranks_of) (defBody s_ranks_of) (defScope s_ranks_of) .none kV5 dc5 pm5 an5 cd5 ct5), sl5⟩)
    (c5 : PySem.W.codeIn K cd5 "ranks_of" = true) (k5 : PySem.W.keepIn K (.ref f5) = true)
    (a6 : PySem.W.nsIn K mainGlobals "difference" = some (some (.ref f6)))
    (l6 : K.lookup f6 = some ⟨oc6, od6, .func (PySem.W.fnOf "difference" "difference" (defArgs s_difference) (defBody s_difference) (defScope s_difference) .none kV6 dc6 pm6 an6 cd6 ct6), sl6⟩)
    (c6 : PySem.W.codeIn K cd6 "difference" = true) (k6 : PySem.W.keepIn K (.ref f6) = true)
    (a7 : PySem.W.nsIn K mainGlobals "news_of" = some (some (.ref f7)))
    (l7 : K.lookup f7 = some ⟨oc7, od7, .func (PySem.W.fnOf "news_of" "news_of" (defArgs s_news_of) (defBody s_news_of) (defScope s_news_of) .none kV7 dc7 pm7 an7 cd7 ct7), sl7⟩)
    (c7 : PySem.W.codeIn K cd7 "news_of" = true) (k7 : PySem.W.keepIn K (.ref f7) = true)
    (a8 : PySem.W.nsIn K mainGlobals "are_news" = some (some (.ref f8)))
    (l8 : K.lookup f8 = some ⟨oc8, od8, .func (PySem.W.fnOf "are_news" "are_news" (defArgs s_are_news) (defBody s_are_news) (defScope s_are_news) .none kV8 dc8 pm8 an8 cd8 ct8), sl8⟩)
    (c8 : PySem.W.codeIn K cd8 "are_news" = true) (k8 : PySem.W.keepIn K (.ref f8) = true)
    (a9 : PySem.W.nsIn K mainGlobals "led" = some (some (.ref f9)))
    (l9 : K.lookup f9 = some ⟨oc9, od9, .func (PySem.W.fnOf "led" "led" (defArgs s_led) (defBody s_led) (defScope s_led) .none kV9 dc9 pm9 an9 cd9 ct9), sl9⟩)
    (c9 : PySem.W.codeIn K cd9 "led" = true) (k9 : PySem.W.keepIn K (.ref f9) = true)
    (a10 : PySem.W.nsIn K mainGlobals "followed" = some (some (.ref f10)))
    (l10 : K.lookup f10 = some ⟨oc10, od10, .func (PySem.W.fnOf "followed" "followed" (defArgs s_followed) (defBody s_followed) (defScope s_followed) .none kV10 dc10 pm10 an10 cd10 ct10), sl10⟩)
    (c10 : PySem.W.codeIn K cd10 "followed" = true) (k10 : PySem.W.keepIn K (.ref f10) = true)
    (a11 : PySem.W.nsIn K mainGlobals "_law_cell" = some (some (.ref f11)))
    (l11 : K.lookup f11 = some ⟨oc11, od11, .func (PySem.W.fnOf "_law_cell" "_law_cell" (defArgs s__law_cell) (defBody s__law_cell) (defScope s__law_cell) .none kV11 dc11 pm11 an11 cd11 ct11), sl11⟩)
    (c11 : PySem.W.codeIn K cd11 "_law_cell" = true) (k11 : PySem.W.keepIn K (.ref f11) = true)
    (a12 : PySem.W.nsIn K mainGlobals "_law_drawn" = some (some (.ref f12)))
    (l12 : K.lookup f12 = some ⟨oc12, od12, .func (PySem.W.fnOf "_law_drawn" "_law_drawn" (defArgs s__law_drawn) (defBody s__law_drawn) (defScope s__law_drawn) .none kV12 dc12 pm12 an12 cd12 ct12), sl12⟩)
    (c12 : PySem.W.codeIn K cd12 "_law_drawn" = true) (k12 : PySem.W.keepIn K (.ref f12) = true)
    (a13 : PySem.W.nsIn K mainGlobals "_law_tuples" = some (some (.ref f13)))
    (l13 : K.lookup f13 = some ⟨oc13, od13, .func (PySem.W.fnOf "_law_tuples" "_law_tuples" (defArgs s__law_tuples) (defBody s__law_tuples) (defScope s__law_tuples) .none kV13 dc13 pm13 an13 cd13 ct13), sl13⟩)
    (c13 : PySem.W.codeIn K cd13 "_law_tuples" = true) (k13 : PySem.W.keepIn K (.ref f13) = true)
    (a14 : PySem.W.nsIn K mainGlobals "_law_news_kind" = some (some (.ref f14)))
    (l14 : K.lookup f14 = some ⟨oc14, od14, .func (PySem.W.fnOf "_law_news_kind" "_law_news_kind" (defArgs s__law_news_kind) (defBody s__law_news_kind) (defScope s__law_news_kind) .none kV14 dc14 pm14 an14 cd14 ct14), sl14⟩)
    (c14 : PySem.W.codeIn K cd14 "_law_news_kind" = true) (k14 : PySem.W.keepIn K (.ref f14) = true)
    (a15 : PySem.W.nsIn K mainGlobals "_law_ranks" = some (some (.ref f15)))
    (l15 : K.lookup f15 = some ⟨oc15, od15, .func (PySem.W.fnOf "_law_ranks" "_law_ranks" (defArgs s__law_ranks) (defBody s__law_ranks) (defScope s__law_ranks) .none kV15 dc15 pm15 an15 cd15 ct15), sl15⟩)
    (c15 : PySem.W.codeIn K cd15 "_law_ranks" = true) (k15 : PySem.W.keepIn K (.ref f15) = true)
    (a16 : PySem.W.nsIn K mainGlobals "_law_news" = some (some (.ref f16)))
    (l16 : K.lookup f16 = some ⟨oc16, od16, .func (PySem.W.fnOf "_law_news" "_law_news" (defArgs s__law_news) (defBody s__law_news) (defScope s__law_news) .none kV16 dc16 pm16 an16 cd16 ct16), sl16⟩)
    (c16 : PySem.W.codeIn K cd16 "_law_news" = true) (k16 : PySem.W.keepIn K (.ref f16) = true)
    (a17 : PySem.W.nsIn K mainGlobals "_law_list" = some (some (.ref f17)))
    (l17 : K.lookup f17 = some ⟨oc17, od17, .func (PySem.W.fnOf "_law_list" "_law_list" (defArgs s__law_list) (defBody s__law_list) (defScope s__law_list) .none kV17 dc17 pm17 an17 cd17 ct17), sl17⟩)
    (c17 : PySem.W.codeIn K cd17 "_law_list" = true) (k17 : PySem.W.keepIn K (.ref f17) = true)
    (a18 : PySem.W.nsIn K mainGlobals "_law_next" = some (some (.ref f18)))
    (l18 : K.lookup f18 = some ⟨oc18, od18, .func (PySem.W.fnOf "_law_next" "_law_next" (defArgs s__law_next) (defBody s__law_next) (defScope s__law_next) .none kV18 dc18 pm18 an18 cd18 ct18), sl18⟩)
    (c18 : PySem.W.codeIn K cd18 "_law_next" = true) (k18 : PySem.W.keepIn K (.ref f18) = true)
    (a19 : PySem.W.nsIn K mainGlobals "_law_good" = some (some (.ref f19)))
    (l19 : K.lookup f19 = some ⟨oc19, od19, .func (PySem.W.fnOf "_law_good" "_law_good" (defArgs s__law_good) (defBody s__law_good) (defScope s__law_good) .none kV19 dc19 pm19 an19 cd19 ct19), sl19⟩)
    (c19 : PySem.W.codeIn K cd19 "_law_good" = true) (k19 : PySem.W.keepIn K (.ref f19) = true)
    (a20 : PySem.W.nsIn K mainGlobals "_law_following" = some (some (.ref f20)))
    (l20 : K.lookup f20 = some ⟨oc20, od20, .func (PySem.W.fnOf "_law_following" "_law_following" (defArgs s__law_following) (defBody s__law_following) (defScope s__law_following) .none kV20 dc20 pm20 an20 cd20 ct20), sl20⟩)
    (c20 : PySem.W.codeIn K cd20 "_law_following" = true) (k20 : PySem.W.keepIn K (.ref f20) = true)
    (a21 : PySem.W.nsIn K mainGlobals "_law_one_spoilt" = some (some (.ref f21)))
    (l21 : K.lookup f21 = some ⟨oc21, od21, .func (PySem.W.fnOf "_law_one_spoilt" "_law_one_spoilt" (defArgs s__law_one_spoilt) (defBody s__law_one_spoilt) (defScope s__law_one_spoilt) .none kV21 dc21 pm21 an21 cd21 ct21), sl21⟩)
    (c21 : PySem.W.codeIn K cd21 "_law_one_spoilt" = true) (k21 : PySem.W.keepIn K (.ref f21) = true)
    (a22 : PySem.W.nsIn K mainGlobals "_law_list_spoilt" = some (some (.ref f22)))
    (l22 : K.lookup f22 = some ⟨oc22, od22, .func (PySem.W.fnOf "_law_list_spoilt" "_law_list_spoilt" (defArgs s__law_list_spoilt) (defBody s__law_list_spoilt) (defScope s__law_list_spoilt) .none kV22 dc22 pm22 an22 cd22 ct22), sl22⟩)
    (c22 : PySem.W.codeIn K cd22 "_law_list_spoilt" = true) (k22 : PySem.W.keepIn K (.ref f22) = true)
    (a23 : PySem.W.nsIn K mainGlobals "_law_row_spoilt" = some (some (.ref f23)))
    (l23 : K.lookup f23 = some ⟨oc23, od23, .func (PySem.W.fnOf "_law_row_spoilt" "_law_row_spoilt" (defArgs s__law_row_spoilt) (defBody s__law_row_spoilt) (defScope s__law_row_spoilt) .none kV23 dc23 pm23 an23 cd23 ct23), sl23⟩)
    (c23 : PySem.W.codeIn K cd23 "_law_row_spoilt" = true) (k23 : PySem.W.keepIn K (.ref f23) = true)
    (a24 : PySem.W.nsIn K mainGlobals "_law_news_spoilt" = some (some (.ref f24)))
    (l24 : K.lookup f24 = some ⟨oc24, od24, .func (PySem.W.fnOf "_law_news_spoilt" "_law_news_spoilt" (defArgs s__law_news_spoilt) (defBody s__law_news_spoilt) (defScope s__law_news_spoilt) .none kV24 dc24 pm24 an24 cd24 ct24), sl24⟩)
    (c24 : PySem.W.codeIn K cd24 "_law_news_spoilt" = true) (k24 : PySem.W.keepIn K (.ref f24) = true)
    (a25 : PySem.W.nsIn K mainGlobals "_law_refused" = some (some (.ref f25)))
    (l25 : K.lookup f25 = some ⟨oc25, od25, .func (PySem.W.fnOf "_law_refused" "_law_refused" (defArgs s__law_refused) (defBody s__law_refused) (defScope s__law_refused) .none kV25 dc25 pm25 an25 cd25 ct25), sl25⟩)
    (c25 : PySem.W.codeIn K cd25 "_law_refused" = true) (k25 : PySem.W.keepIn K (.ref f25) = true)
    (a26 : PySem.W.nsIn K mainGlobals "_law_no_list" = some (some (.ref f26)))
    (l26 : K.lookup f26 = some ⟨oc26, od26, .func (PySem.W.fnOf "_law_no_list" "_law_no_list" (defArgs s__law_no_list) (defBody s__law_no_list) (defScope s__law_no_list) .none kV26 dc26 pm26 an26 cd26 ct26), sl26⟩)
    (c26 : PySem.W.codeIn K cd26 "_law_no_list" = true) (k26 : PySem.W.keepIn K (.ref f26) = true)
    (a27 : PySem.W.nsIn K mainGlobals "_law_judged" = some (some (.ref f27)))
    (l27 : K.lookup f27 = some ⟨oc27, od27, .func (PySem.W.fnOf "_law_judged" "_law_judged" (defArgs s__law_judged) (defBody s__law_judged) (defScope s__law_judged) .none kV27 dc27 pm27 an27 cd27 ct27), sl27⟩)
    (c27 : PySem.W.codeIn K cd27 "_law_judged" = true) (k27 : PySem.W.keepIn K (.ref f27) = true)
    (a28 : PySem.W.nsIn K mainGlobals "_law_tried" = some (some (.ref f28)))
    (l28 : K.lookup f28 = some ⟨oc28, od28, .func (PySem.W.fnOf "_law_tried" "_law_tried" (defArgs s__law_tried) (defBody s__law_tried) (defScope s__law_tried) .none kV28 dc28 pm28 an28 cd28 ct28), sl28⟩)
    (c28 : PySem.W.codeIn K cd28 "_law_tried" = true) (k28 : PySem.W.keepIn K (.ref f28) = true)
    (a29 : PySem.W.nsIn K mainGlobals "law" = some (some (.ref f29)))
    (l29 : K.lookup f29 = some ⟨oc29, od29, .func (PySem.W.fnOf "law" "law" (defArgs s_law) (defBody s_law) (defScope s_law) .none kV29 dc29 pm29 an29 cd29 ct29), sl29⟩)
    (c29 : PySem.W.codeIn K cd29 "law" = true) (k29 : PySem.W.keepIn K (.ref f29) = true)
    (cn0 : PySem.W.nsIn K mainGlobals "MOST_COST" = some (some (.int 48 t0)))
    (cn1 : PySem.W.nsIn K mainGlobals "MOST_LETTERS" = some (some (.int 24 t1)))
    (z0 : PySem.W.nsIn K mainGlobals "isinstance" = some none)
    (z1 : PySem.W.nsIn K mainGlobals "int" = some none)
    (z2 : PySem.W.nsIn K mainGlobals "bool" = some none)
    (z3 : PySem.W.nsIn K mainGlobals "tuple" = some none)
    (z4 : PySem.W.nsIn K mainGlobals "all" = some none)
    (z5 : PySem.W.nsIn K mainGlobals "len" = some none)
    (z6 : PySem.W.nsIn K mainGlobals "list" = some none)
    (z7 : PySem.W.nsIn K mainGlobals "enumerate" = some none)
    (z8 : PySem.W.nsIn K mainGlobals "zip" = some none)
    (z9 : PySem.W.nsIn K mainGlobals "sorted" = some none)
    (z10 : PySem.W.nsIn K mainGlobals "range" = some none)
    (z11 : PySem.W.nsIn K mainGlobals "max" = some none)
    (z12 : PySem.W.nsIn K mainGlobals "ValueError" = some none)
    (g_NoNear : PySem.W.nsIn K mainGlobals "NoNear" = some (some (.ref C_NoNear)))
    (g_NoTold : PySem.W.nsIn K mainGlobals "NoTold" = some (some (.ref C_NoTold)))
    (g_PaneError : PySem.W.nsIn K mainGlobals "PaneError" = some (some (.ref C_PaneError)))
    (sb_NoNear : PySem.W.subIn K (.ref C_NoNear) (.type "BaseException") = some true)
    (hd_NoNear : PySem.W.hasDictIn K C_NoNear = true)
    (ty_NoNear : PySem.W.typeIn K (.ref C_NoNear) = some (.type "type"))
    (sb_NoTold : PySem.W.subIn K (.ref C_NoTold) (.type "BaseException") = some true)
    (hd_NoTold : PySem.W.hasDictIn K C_NoTold = true)
    (ty_NoTold : PySem.W.typeIn K (.ref C_NoTold) = some (.type "type"))
    (sb_PaneError : PySem.W.subIn K (.ref C_PaneError) (.type "BaseException") = some true)
    (hd_PaneError : PySem.W.hasDictIn K C_PaneError = true)
    (ty_PaneError : PySem.W.typeIn K (.ref C_PaneError) = some (.type "type"))
    (lk_NoNear : K.lookup C_NoNear = some (excClassObj xn_NoNear xq_NoNear C_NoNear xN_NoNear xb_NoNear [.ref C_PaneError, .type "ValueError", .type "Exception", .type "BaseException", .type "object"] true xs_NoNear xu_NoNear xa_NoNear xc_NoNear xd_NoNear xk0_NoNear xk1_NoNear xk2_NoNear xk3_NoNear xk5_NoNear "ValueError.__new__"))
    (f_setattr_NoNear : PySem.W.findIn K (.ref C_NoNear) "__setattr__" = some (some (.builtin "object.__setattr__")))
    (k_NoNear : PySem.W.keepIn K (.ref C_NoNear) = true)
    (f_found_NoNear : PySem.W.findIn K (.ref C_NoNear) "found" = some none)
    (ini_NoNear : PySem.W.findIn K (.ref C_NoNear) "__init__" = some (some (.ref I_NoNear)))
    (int_NoNear : PySem.W.typeIn K (.ref I_NoNear) = some (.type "function"))
    (il_NoNear : K.lookup I_NoNear = some ⟨Ioc_NoNear, Iod_NoNear, .func (PySem.W.fnOf "__init__" "NoNear.__init__" (defArgs si_NoNear) (defBody si_NoNear) (defScope si_NoNear) .none IkV_NoNear Idc_NoNear Ipm_NoNear Ian_NoNear Icd_NoNear Ict_NoNear), Isl_NoNear⟩)
    (ic_NoNear : PySem.W.codeIn K Icd_NoNear "NoNear.__init__" = true)
    (ik_NoNear : PySem.W.keepIn K (.ref I_NoNear) = true)
    (ct_ : PySem.W.specialIn K (.builtin "object.__class__") "__get__" = some (some (.builtin "getset_descriptor.__get__")))
    (cu_ : PySem.W.takesIn K (.builtin "object.__class__") = some true)
    (f_getattribute_NoNear : PySem.W.findIn K (.ref C_NoNear) "__getattribute__" = some (some (.builtin "BaseException.__getattribute__")))
    (f_getattr_NoNear : PySem.W.findIn K (.ref C_NoNear) "__getattr__" = some none)
    (f_class_NoNear : PySem.W.findIn K (.ref C_NoNear) "__class__" = some (some (.builtin "object.__class__")))
    (cm_NoNear : PySem.W.mroIn K C_NoNear (.type "object") = some true)
    (s_NoNear_NoNear : PySem.W.subIn K (.ref C_NoNear) (.ref C_NoNear) = some true)
    (s_NoNear_NoTold : PySem.W.subIn K (.ref C_NoNear) (.ref C_NoTold) = some false)
    (s_NoNear_PaneError : PySem.W.subIn K (.ref C_NoNear) (.ref C_PaneError) = some true)
    (v_NoNear : PySem.W.subIn K (.ref C_NoNear) (.type "ValueError") = some true)
    (lk_NoTold : K.lookup C_NoTold = some (excClassObj xn_NoTold xq_NoTold C_NoTold xN_NoTold xb_NoTold [.ref C_PaneError, .type "ValueError", .type "Exception", .type "BaseException", .type "object"] true xs_NoTold xu_NoTold xa_NoTold xc_NoTold xd_NoTold xk0_NoTold xk1_NoTold xk2_NoTold xk3_NoTold xk5_NoTold "ValueError.__new__"))
    (f_setattr_NoTold : PySem.W.findIn K (.ref C_NoTold) "__setattr__" = some (some (.builtin "object.__setattr__")))
    (k_NoTold : PySem.W.keepIn K (.ref C_NoTold) = true)
    (f_found_NoTold : PySem.W.findIn K (.ref C_NoTold) "found" = some none)
    (ini_NoTold : PySem.W.findIn K (.ref C_NoTold) "__init__" = some (some (.ref I_NoTold)))
    (int_NoTold : PySem.W.typeIn K (.ref I_NoTold) = some (.type "function"))
    (il_NoTold : K.lookup I_NoTold = some ⟨Ioc_NoTold, Iod_NoTold, .func (PySem.W.fnOf "__init__" "NoTold.__init__" (defArgs si_NoTold) (defBody si_NoTold) (defScope si_NoTold) .none IkV_NoTold Idc_NoTold Ipm_NoTold Ian_NoTold Icd_NoTold Ict_NoTold), Isl_NoTold⟩)
    (ic_NoTold : PySem.W.codeIn K Icd_NoTold "NoTold.__init__" = true)
    (ik_NoTold : PySem.W.keepIn K (.ref I_NoTold) = true)
    (f_getattribute_NoTold : PySem.W.findIn K (.ref C_NoTold) "__getattribute__" = some (some (.builtin "BaseException.__getattribute__")))
    (f_getattr_NoTold : PySem.W.findIn K (.ref C_NoTold) "__getattr__" = some none)
    (f_class_NoTold : PySem.W.findIn K (.ref C_NoTold) "__class__" = some (some (.builtin "object.__class__")))
    (cm_NoTold : PySem.W.mroIn K C_NoTold (.type "object") = some true)
    (s_NoTold_NoNear : PySem.W.subIn K (.ref C_NoTold) (.ref C_NoNear) = some false)
    (s_NoTold_NoTold : PySem.W.subIn K (.ref C_NoTold) (.ref C_NoTold) = some true)
    (s_NoTold_PaneError : PySem.W.subIn K (.ref C_NoTold) (.ref C_PaneError) = some true)
    (v_NoTold : PySem.W.subIn K (.ref C_NoTold) (.type "ValueError") = some true)
    (s_PaneError_PaneError : PySem.W.subIn K (.ref C_PaneError) (.ref C_PaneError) = some true)
    (ba_PaneError : PySem.W.specialIn K (.ref C_PaneError) "__getattribute__" = some (some (.builtin "type.__getattribute__")))
    (br_PaneError : PySem.W.readsIn K C_PaneError (.type "type") = true)
    (bf_PaneError : PySem.W.findCls K (.ref C_PaneError) (.type "type") "__init__" = some (.val (.builtin "ValueError.__init__")))
    : ∃ fd : FuncData, (∀ (s : Shared) (v : Value), BindsTo s fd ⟨[v], []⟩ [("_law_script", v)]) ∧ ∀ base : Heap, K.In base → base.Ns mainGlobals mg → FnOk P w K mg base CX0 10 fa fd ["_law_script"] (sp_law K) := by
  have e := hfa.symm.trans (PySem.W.mg_of X G a29)
  cases e
  have q_NoNear := clsA_of g_NoNear
  subst q_NoNear
  have q_NoTold := clsA_of g_NoTold
  subst q_NoTold
  have q_PaneError := clsA_of g_PaneError
  subst q_PaneError
  have T : Tx K mg (fun i => match i with | 0 => f0 | 1 => f1 | 2 => f2 | 3 => f3 | 4 => f4 | 5 => f5 | 6 => f6 | 7 => f7 | 8 => f8 | 9 => f9 | 10 => f10 | 11 => f11 | 12 => f12 | 13 => f13 | 14 => f14 | 15 => f15 | 16 => f16 | 17 => f17 | 18 => f18 | 19 => f19 | 20 => f20 | 21 => f21 | 22 => f22 | 23 => f23 | 24 => f24 | 25 => f25 | 26 => f26 | 27 => f27 | 28 => f28 | 29 => fa | _ => f0) (fun i => match i with | 0 => PySem.W.fnOf "is_whole" "is_whole" (defArgs s_is_whole) (defBody s_is_whole) (defScope s_is_whole) .none kV0 dc0 pm0 an0 cd0 ct0 | 1 => PySem.W.fnOf "are_wholes" "are_wholes" (defArgs s_are_wholes) (defBody s_are_wholes) (defScope s_are_wholes) .none kV1 dc1 pm1 an1 cd1 ct1 | 2 => PySem.W.fnOf "is_told" "is_told" (defArgs s_is_told) (defBody s_is_told) (defScope s_is_told) .none kV2 dc2 pm2 an2 cd2 ct2 | 3 => PySem.W.fnOf "is_ranked" "is_ranked" (defArgs s_is_ranked) (defBody s_is_ranked) (defScope s_is_ranked) .none kV3 dc3 pm3 an3 cd3 ct3 | 4 => PySem.W.fnOf "need_ranked" "need_ranked" (defArgs s_need_ranked) (defBody s_need_ranked) (defScope s_need_ranked) .none kV4 dc4 pm4 an4 cd4 ct4 | 5 => PySem.W.fnOf "ranks_of" "ranks_of" (defArgs s_ranks_of) (defBody s_ranks_of) (defScope s_ranks_of) .none kV5 dc5 pm5 an5 cd5 ct5 | 6 => PySem.W.fnOf "difference" "difference" (defArgs s_difference) (defBody s_difference) (defScope s_difference) .none kV6 dc6 pm6 an6 cd6 ct6 | 7 => PySem.W.fnOf "news_of" "news_of" (defArgs s_news_of) (defBody s_news_of) (defScope s_news_of) .none kV7 dc7 pm7 an7 cd7 ct7 | 8 => PySem.W.fnOf "are_news" "are_news" (defArgs s_are_news) (defBody s_are_news) (defScope s_are_news) .none kV8 dc8 pm8 an8 cd8 ct8 | 9 => PySem.W.fnOf "led" "led" (defArgs s_led) (defBody s_led) (defScope s_led) .none kV9 dc9 pm9 an9 cd9 ct9 | 10 => PySem.W.fnOf "followed" "followed" (defArgs s_followed) (defBody s_followed) (defScope s_followed) .none kV10 dc10 pm10 an10 cd10 ct10 | 11 => PySem.W.fnOf "_law_cell" "_law_cell" (defArgs s__law_cell) (defBody s__law_cell) (defScope s__law_cell) .none kV11 dc11 pm11 an11 cd11 ct11 | 12 => PySem.W.fnOf "_law_drawn" "_law_drawn" (defArgs s__law_drawn) (defBody s__law_drawn) (defScope s__law_drawn) .none kV12 dc12 pm12 an12 cd12 ct12 | 13 => PySem.W.fnOf "_law_tuples" "_law_tuples" (defArgs s__law_tuples) (defBody s__law_tuples) (defScope s__law_tuples) .none kV13 dc13 pm13 an13 cd13 ct13 | 14 => PySem.W.fnOf "_law_news_kind" "_law_news_kind" (defArgs s__law_news_kind) (defBody s__law_news_kind) (defScope s__law_news_kind) .none kV14 dc14 pm14 an14 cd14 ct14 | 15 => PySem.W.fnOf "_law_ranks" "_law_ranks" (defArgs s__law_ranks) (defBody s__law_ranks) (defScope s__law_ranks) .none kV15 dc15 pm15 an15 cd15 ct15 | 16 => PySem.W.fnOf "_law_news" "_law_news" (defArgs s__law_news) (defBody s__law_news) (defScope s__law_news) .none kV16 dc16 pm16 an16 cd16 ct16 | 17 => PySem.W.fnOf "_law_list" "_law_list" (defArgs s__law_list) (defBody s__law_list) (defScope s__law_list) .none kV17 dc17 pm17 an17 cd17 ct17 | 18 => PySem.W.fnOf "_law_next" "_law_next" (defArgs s__law_next) (defBody s__law_next) (defScope s__law_next) .none kV18 dc18 pm18 an18 cd18 ct18 | 19 => PySem.W.fnOf "_law_good" "_law_good" (defArgs s__law_good) (defBody s__law_good) (defScope s__law_good) .none kV19 dc19 pm19 an19 cd19 ct19 | 20 => PySem.W.fnOf "_law_following" "_law_following" (defArgs s__law_following) (defBody s__law_following) (defScope s__law_following) .none kV20 dc20 pm20 an20 cd20 ct20 | 21 => PySem.W.fnOf "_law_one_spoilt" "_law_one_spoilt" (defArgs s__law_one_spoilt) (defBody s__law_one_spoilt) (defScope s__law_one_spoilt) .none kV21 dc21 pm21 an21 cd21 ct21 | 22 => PySem.W.fnOf "_law_list_spoilt" "_law_list_spoilt" (defArgs s__law_list_spoilt) (defBody s__law_list_spoilt) (defScope s__law_list_spoilt) .none kV22 dc22 pm22 an22 cd22 ct22 | 23 => PySem.W.fnOf "_law_row_spoilt" "_law_row_spoilt" (defArgs s__law_row_spoilt) (defBody s__law_row_spoilt) (defScope s__law_row_spoilt) .none kV23 dc23 pm23 an23 cd23 ct23 | 24 => PySem.W.fnOf "_law_news_spoilt" "_law_news_spoilt" (defArgs s__law_news_spoilt) (defBody s__law_news_spoilt) (defScope s__law_news_spoilt) .none kV24 dc24 pm24 an24 cd24 ct24 | 25 => PySem.W.fnOf "_law_refused" "_law_refused" (defArgs s__law_refused) (defBody s__law_refused) (defScope s__law_refused) .none kV25 dc25 pm25 an25 cd25 ct25 | 26 => PySem.W.fnOf "_law_no_list" "_law_no_list" (defArgs s__law_no_list) (defBody s__law_no_list) (defScope s__law_no_list) .none kV26 dc26 pm26 an26 cd26 ct26 | 27 => PySem.W.fnOf "_law_judged" "_law_judged" (defArgs s__law_judged) (defBody s__law_judged) (defScope s__law_judged) .none kV27 dc27 pm27 an27 cd27 ct27 | 28 => PySem.W.fnOf "_law_tried" "_law_tried" (defArgs s__law_tried) (defBody s__law_tried) (defScope s__law_tried) .none kV28 dc28 pm28 an28 cd28 ct28 | 29 => PySem.W.fnOf "law" "law" (defArgs s_law) (defBody s_law) (defScope s_law) .none kV29 dc29 pm29 an29 cd29 ct29 | _ => PySem.W.fnOf "is_whole" "is_whole" (defArgs s_is_whole) (defBody s_is_whole) (defScope s_is_whole) .none kV0 dc0 pm0 an0 cd0 ct0) (fun i => match i with | 0 => t0 | 1 => t1 | _ => t0) := {
    d_is_whole := df_mk X G a0 l0 c0 k0 (fun _ _ _ _ _ _ us hl => match us, hl with | [_], _ => rfl)
    d_are_wholes := df_mk X G a1 l1 c1 k1 (fun _ _ _ _ _ _ us hl => match us, hl with | [_, _], _ => rfl)
    d_is_told := df_mk X G a2 l2 c2 k2 (fun _ _ _ _ _ _ us hl => match us, hl with | [_], _ => rfl)
    d_is_ranked := df_mk X G a3 l3 c3 k3 (fun _ _ _ _ _ _ us hl => match us, hl with | [_], _ => rfl)
    d_need_ranked := df_mk X G a4 l4 c4 k4 (fun _ _ _ _ _ _ us hl => match us, hl with | [_], _ => rfl)
    d_ranks_of := df_mk X G a5 l5 c5 k5 (fun _ _ _ _ _ _ us hl => match us, hl with | [_], _ => rfl)
    d_difference := df_mk X G a6 l6 c6 k6 (fun _ _ _ _ _ _ us hl => match us, hl with | [_, _], _ => rfl)
    d_news_of := df_mk X G a7 l7 c7 k7 (fun _ _ _ _ _ _ us hl => match us, hl with | [_, _], _ => rfl)
    d_are_news := df_mk X G a8 l8 c8 k8 (fun _ _ _ _ _ _ us hl => match us, hl with | [_], _ => rfl)
    d_led := df_mk X G a9 l9 c9 k9 (fun _ _ _ _ _ _ us hl => match us, hl with | [_, _], _ => rfl)
    d_followed := df_mk X G a10 l10 c10 k10 (fun _ _ _ _ _ _ us hl => match us, hl with | [_, _], _ => rfl)
    d__law_cell := df_mk X G a11 l11 c11 k11 (fun _ _ _ _ _ _ us hl => match us, hl with | [_, _], _ => rfl)
    d__law_drawn := df_mk X G a12 l12 c12 k12 (fun _ _ _ _ _ _ us hl => match us, hl with | [_, _], _ => rfl)
    d__law_tuples := df_mk X G a13 l13 c13 k13 (fun _ _ _ _ _ _ us hl => match us, hl with | [_, _], _ => rfl)
    d__law_news_kind := df_mk X G a14 l14 c14 k14 (fun _ _ _ _ _ _ us hl => match us, hl with | [_], _ => rfl)
    d__law_ranks := df_mk X G a15 l15 c15 k15 (fun _ _ _ _ _ _ us hl => match us, hl with | [_], _ => rfl)
    d__law_news := df_mk X G a16 l16 c16 k16 (fun _ _ _ _ _ _ us hl => match us, hl with | [_, _], _ => rfl)
    d__law_list := df_mk X G a17 l17 c17 k17 (fun _ _ _ _ _ _ us hl => match us, hl with | [_], _ => rfl)
    d__law_next := df_mk X G a18 l18 c18 k18 (fun _ _ _ _ _ _ us hl => match us, hl with | [_, _], _ => rfl)
    d__law_good := df_mk X G a19 l19 c19 k19 (fun _ _ _ _ _ _ us hl => match us, hl with | [_], _ => rfl)
    d__law_following := df_mk X G a20 l20 c20 k20 (fun _ _ _ _ _ _ us hl => match us, hl with | [_, _], _ => rfl)
    d__law_one_spoilt := df_mk X G a21 l21 c21 k21 (fun _ _ _ _ _ _ us hl => match us, hl with | [_, _], _ => rfl)
    d__law_list_spoilt := df_mk X G a22 l22 c22 k22 (fun _ _ _ _ _ _ us hl => match us, hl with | [_, _, _], _ => rfl)
    d__law_row_spoilt := df_mk X G a23 l23 c23 k23 (fun _ _ _ _ _ _ us hl => match us, hl with | [_, _, _], _ => rfl)
    d__law_news_spoilt := df_mk X G a24 l24 c24 k24 (fun _ _ _ _ _ _ us hl => match us, hl with | [_, _, _, _, _, _], _ => rfl)
    d__law_refused := df_mk X G a25 l25 c25 k25 (fun _ _ _ _ _ _ us hl => match us, hl with | [_, _, _], _ => rfl)
    d__law_no_list := df_mk X G a26 l26 c26 k26 (fun _ _ _ _ _ _ us hl => match us, hl with | [_, _, _], _ => rfl)
    d__law_judged := df_mk X G a27 l27 c27 k27 (fun _ _ _ _ _ _ us hl => match us, hl with | [_, _, _], _ => rfl)
    d__law_tried := df_mk X G a28 l28 c28 k28 (fun _ _ _ _ _ _ us hl => match us, hl with | [_, _], _ => rfl)
    d_law := df_mk X G a29 l29 c29 k29 (fun _ _ _ _ _ _ us hl => match us, hl with | [_], _ => rfl)
    c_MOST_COST := PySem.W.mg_of X G cn0
    c_MOST_LETTERS := PySem.W.mg_of X G cn1
    b_isinstance := PySem.W.mg_none_of X G z0
    b_int := PySem.W.mg_none_of X G z1
    b_bool := PySem.W.mg_none_of X G z2
    b_tuple := PySem.W.mg_none_of X G z3
    b_all := PySem.W.mg_none_of X G z4
    b_len := PySem.W.mg_none_of X G z5
    b_list := PySem.W.mg_none_of X G z6
    b_enumerate := PySem.W.mg_none_of X G z7
    b_zip := PySem.W.mg_none_of X G z8
    b_sorted := PySem.W.mg_none_of X G z9
    b_range := PySem.W.mg_none_of X G z10
    b_max := PySem.W.mg_none_of X G z11
    b_ValueError := PySem.W.mg_none_of X G z12
    e_NoNear := ⟨PySem.W.mg_of X G g_NoNear, sb_NoNear, hd_NoNear, ty_NoNear⟩
    e_NoTold := ⟨PySem.W.mg_of X G g_NoTold, sb_NoTold, hd_NoTold, ty_NoTold⟩
    e_PaneError := ⟨PySem.W.mg_of X G g_PaneError, sb_PaneError, hd_PaneError, ty_PaneError⟩
    g_NoNear := PySem.W.mg_of X G g_NoNear
    o_NoNear := ⟨⟨_, _, _, _, _, _, _, _, _, _, _, _, _, _, _, lk_NoNear, rfl⟩, f_setattr_NoNear, sb_NoNear, ty_NoNear, k_NoNear⟩
    n_NoNear_found := f_found_NoNear
    i_NoNear := ini_mk ini_NoNear int_NoNear il_NoNear ic_NoNear ik_NoNear (fun _ _ _ _ _ _ us hl => match us, hl with | [_, _], _ => rfl)
    x_NoNear := xi_mk f_getattribute_NoNear f_getattr_NoNear sb_NoNear hd_NoNear f_class_NoNear ct_ cu_ cm_NoNear
    s_NoNear_NoNear := s_NoNear_NoNear
    s_NoNear_NoTold := s_NoNear_NoTold
    s_NoNear_PaneError := s_NoNear_PaneError
    v_NoNear := v_NoNear
    g_NoTold := PySem.W.mg_of X G g_NoTold
    o_NoTold := ⟨⟨_, _, _, _, _, _, _, _, _, _, _, _, _, _, _, lk_NoTold, rfl⟩, f_setattr_NoTold, sb_NoTold, ty_NoTold, k_NoTold⟩
    n_NoTold_found := f_found_NoTold
    i_NoTold := ini_mk ini_NoTold int_NoTold il_NoTold ic_NoTold ik_NoTold (fun _ _ _ _ _ _ us hl => match us, hl with | [_, _], _ => rfl)
    x_NoTold := xi_mk f_getattribute_NoTold f_getattr_NoTold sb_NoTold hd_NoTold f_class_NoTold ct_ cu_ cm_NoTold
    s_NoTold_NoNear := s_NoTold_NoNear
    s_NoTold_NoTold := s_NoTold_NoTold
    s_NoTold_PaneError := s_NoTold_PaneError
    v_NoTold := v_NoTold
    s_PaneError_PaneError := s_PaneError_PaneError
    bi_PaneError := ⟨PySem.W.mg_of X G g_PaneError, ba_PaneError, br_PaneError, bf_PaneError⟩
  }
  exact ⟨PySem.W.fnOf "law" "law" (defArgs s_law) (defBody s_law) (defScope s_law) .none kV29 dc29 pm29 an29 cd29 ct29, fun s v => .of_eq rfl, fun base _ _ => ok_law T⟩
theorem walk {l : PySem.W.OpenLaw} {q : Program} {loose : List Str} {XP : (Str → Option Value) → Heap → Prop} {YP : World → Heap → Prop} {d : DefRec} {K : Params → PySem.W.Frag} (hn : l.most = some 63) (hdf : d.params.defaults = [])
    (hY : ∀ (w : World) (h : Heap), YP w h → (K w.params).In h)
    (F : ∀ (w : World) (mg : Str → Option Value) (fa : Addr) (h : Heap), (K w.params).In h → h.Ns mainGlobals mg → mg d.name = some (.ref fa) →
      ∃ fd : FuncData, (∀ (s : Shared) (u : Value), BindsTo s fd ⟨[u], []⟩ [("_law_script", u)]) ∧ ∀ base : Heap, (K w.params).In base → base.Ns mainGlobals mg → FnOk l.prog w (K w.params) mg base CX0 10 fa fd ["_law_script"] (sp_law (K w.params))) :
    PySem.W.WalkO q loose XP YP l.row.toRowW d [] (fun f vs => PySem.call f vs) :=
  L2.walk_of (n := 63) (k := 10) (x := "_law_script") (CX := fun _ => CX0) (sp := fun w => sp_law (K w.params)) hn (by decide) hdf ⟨rfl, by decide, by decide⟩ hY F (fun _ H a ns hl hO hS => ⟨a, ns, rfl, lst_only hO hS, hl, fun _ => rfl⟩) fun _ _ _ _ _ z => z
end My
open PySem PySem.W PyProof.Rows in
set_option maxRecDepth 100000 in
set_option maxHeartbeats 0 in
theorem PySem.Challenge.cw_panethread_k69_forged_lists_and_news_holds : PySem.Challenge.rw_panethread_k69_forged_lists_and_news.Holds := by
  w_on; o_law; k_head; (case hw => w_witness2)
  k_fill
  refine My.walk (l := PySem.Challenge.rw_panethread_k69_forged_lists_and_news) rfl rfl (fun w h Y => PySem.W.kIn_of Y) ?F
  case F =>
    intro w mg fa h KX G hmg
    refine' My.all_mk KX G hmg ?a0 ?l0 ?c0 ?k0 ?a1 ?l1 ?c1 ?k1 ?a2 ?l2 ?c2 ?k2 ?a3 ?l3 ?c3 ?k3 ?a4 ?l4 ?c4 ?k4 ?a5 ?l5 ?c5 ?k5 ?a6 ?l6 ?c6 ?k6 ?a7 ?l7 ?c7 ?k7 ?a8 ?l8 ?c8 ?k8 ?a9 ?l9 ?c9 ?k9 ?a10 ?l10 ?c10 ?k10 ?a11 ?l11 ?c11 ?k11 ?a12 ?l12 ?c12 ?k12 ?a13 ?l13 ?c13 ?k13 ?a14 ?l14 ?c14 ?k14 ?a15 ?l15 ?c15 ?k15 ?a16 ?l16 ?c16 ?k16 ?a17 ?l17 ?c17 ?k17 ?a18 ?l18 ?c18 ?k18 ?a19 ?l19 ?c19 ?k19 ?a20 ?l20 ?c20 ?k20 ?a21 ?l21 ?c21 ?k21 ?a22 ?l22 ?c22 ?k22 ?a23 ?l23 ?c23 ?k23 ?a24 ?l24 ?c24 ?k24 ?a25 ?l25 ?c25 ?k25 ?a26 ?l26 ?c26 ?k26 ?a27 ?l27 ?c27 ?k27 ?a28 ?l28 ?c28 ?k28 ?a29 ?l29 ?c29 ?k29 ?cn0 ?cn1 ?z0 ?z1 ?z2 ?z3 ?z4 ?z5 ?z6 ?z7 ?z8 ?z9 ?z10 ?z11 ?z12 ?g_NoNear ?g_NoTold ?g_PaneError ?sb_NoNear ?hd_NoNear ?ty_NoNear ?sb_NoTold ?hd_NoTold ?ty_NoTold ?sb_PaneError ?hd_PaneError ?ty_PaneError ?lk_NoNear ?f_setattr_NoNear ?k_NoNear ?f_found_NoNear ?ini_NoNear ?int_NoNear ?il_NoNear ?ic_NoNear ?ik_NoNear ?ct_ ?cu_ ?f_getattribute_NoNear ?f_getattr_NoNear ?f_class_NoNear ?cm_NoNear ?s_NoNear_NoNear ?s_NoNear_NoTold ?s_NoNear_PaneError ?v_NoNear ?lk_NoTold ?f_setattr_NoTold ?k_NoTold ?f_found_NoTold ?ini_NoTold ?int_NoTold ?il_NoTold ?ic_NoTold ?ik_NoTold ?f_getattribute_NoTold ?f_getattr_NoTold ?f_class_NoTold ?cm_NoTold ?s_NoTold_NoNear ?s_NoTold_NoTold ?s_NoTold_PaneError ?v_NoTold ?s_PaneError_PaneError ?ba_PaneError ?br_PaneError ?bf_PaneError
    (case g_NoNear => k_is)
    (case g_NoTold => k_is)
    (case g_PaneError => k_is)
    (case a0 => k_is)
    (case l0 => k_is)
    (case c0 => k_is)
    (case k0 => k_is)
    (case a1 => k_is)
    (case l1 => k_is)
    (case c1 => k_is)
    (case k1 => k_is)
    (case a2 => k_is)
    (case l2 => k_is)
    (case c2 => k_is)
    (case k2 => k_is)
    (case a3 => k_is)
    (case l3 => k_is)
    (case c3 => k_is)
    (case k3 => k_is)
    (case a4 => k_is)
    (case l4 => k_is)
    (case c4 => k_is)
    (case k4 => k_is)
    (case a5 => k_is)
    (case l5 => k_is)
    (case c5 => k_is)
    (case k5 => k_is)
    (case a6 => k_is)
    (case l6 => k_is)
    (case c6 => k_is)
    (case k6 => k_is)
    (case a7 => k_is)
    (case l7 => k_is)
    (case c7 => k_is)
    (case k7 => k_is)
    (case a8 => k_is)
    (case l8 => k_is)
    (case c8 => k_is)
    (case k8 => k_is)
    (case a9 => k_is)
    (case l9 => k_is)
    (case c9 => k_is)
    (case k9 => k_is)
    (case a10 => k_is)
    (case l10 => k_is)
    (case c10 => k_is)
    (case k10 => k_is)
    (case a11 => k_is)
    (case l11 => k_is)
    (case c11 => k_is)
    (case k11 => k_is)
    (case a12 => k_is)
    (case l12 => k_is)
    (case c12 => k_is)
    (case k12 => k_is)
    (case a13 => k_is)
    (case l13 => k_is)
    (case c13 => k_is)
    (case k13 => k_is)
    (case a14 => k_is)
    (case l14 => k_is)
    (case c14 => k_is)
    (case k14 => k_is)
    (case a15 => k_is)
    (case l15 => k_is)
    (case c15 => k_is)
    (case k15 => k_is)
    (case a16 => k_is)
    (case l16 => k_is)
    (case c16 => k_is)
    (case k16 => k_is)
    (case a17 => k_is)
    (case l17 => k_is)
    (case c17 => k_is)
    (case k17 => k_is)
    (case a18 => k_is)
    (case l18 => k_is)
    (case c18 => k_is)
    (case k18 => k_is)
    (case a19 => k_is)
    (case l19 => k_is)
    (case c19 => k_is)
    (case k19 => k_is)
    (case a20 => k_is)
    (case l20 => k_is)
    (case c20 => k_is)
    (case k20 => k_is)
    (case a21 => k_is)
    (case l21 => k_is)
    (case c21 => k_is)
    (case k21 => k_is)
    (case a22 => k_is)
    (case l22 => k_is)
    (case c22 => k_is)
    (case k22 => k_is)
    (case a23 => k_is)
    (case l23 => k_is)
    (case c23 => k_is)
    (case k23 => k_is)
    (case a24 => k_is)
    (case l24 => k_is)
    (case c24 => k_is)
    (case k24 => k_is)
    (case a25 => k_is)
    (case l25 => k_is)
    (case c25 => k_is)
    (case k25 => k_is)
    (case a26 => k_is)
    (case l26 => k_is)
    (case c26 => k_is)
    (case k26 => k_is)
    (case a27 => k_is)
    (case l27 => k_is)
    (case c27 => k_is)
    (case k27 => k_is)
    (case a28 => k_is)
    (case l28 => k_is)
    (case c28 => k_is)
    (case k28 => k_is)
    (case a29 => k_is)
    (case l29 => k_is)
    (case c29 => k_is)
    (case k29 => k_is)
    (case cn0 => k_is)
    (case cn1 => k_is)
    (case z0 => k_is)
    (case z1 => k_is)
    (case z2 => k_is)
    (case z3 => k_is)
    (case z4 => k_is)
    (case z5 => k_is)
    (case z6 => k_is)
    (case z7 => k_is)
    (case z8 => k_is)
    (case z9 => k_is)
    (case z10 => k_is)
    (case z11 => k_is)
    (case z12 => k_is)
    (case sb_NoNear => k_is)
    (case hd_NoNear => k_is)
    (case ty_NoNear => k_is)
    (case sb_NoTold => k_is)
    (case hd_NoTold => k_is)
    (case ty_NoTold => k_is)
    (case sb_PaneError => k_is)
    (case hd_PaneError => k_is)
    (case ty_PaneError => k_is)
    (case lk_NoNear => k_is)
    (case f_setattr_NoNear => k_is)
    (case k_NoNear => k_is)
    (case f_found_NoNear => k_is)
    (case ini_NoNear => k_is)
    (case int_NoNear => k_is)
    (case il_NoNear => k_is)
    (case ic_NoNear => k_is)
    (case ik_NoNear => k_is)
    (case ct_ => k_is)
    (case cu_ => k_is)
    (case f_getattribute_NoNear => k_is)
    (case f_getattr_NoNear => k_is)
    (case f_class_NoNear => k_is)
    (case cm_NoNear => k_is)
    (case s_NoNear_NoNear => k_is)
    (case s_NoNear_NoTold => k_is)
    (case s_NoNear_PaneError => k_is)
    (case v_NoNear => k_is)
    (case lk_NoTold => k_is)
    (case f_setattr_NoTold => k_is)
    (case k_NoTold => k_is)
    (case f_found_NoTold => k_is)
    (case ini_NoTold => k_is)
    (case int_NoTold => k_is)
    (case il_NoTold => k_is)
    (case ic_NoTold => k_is)
    (case ik_NoTold => k_is)
    (case f_getattribute_NoTold => k_is)
    (case f_getattr_NoTold => k_is)
    (case f_class_NoTold => k_is)
    (case cm_NoTold => k_is)
    (case s_NoTold_NoNear => k_is)
    (case s_NoTold_NoTold => k_is)
    (case s_NoTold_PaneError => k_is)
    (case v_NoTold => k_is)
    (case s_PaneError_PaneError => k_is)
    (case ba_PaneError => k_is)
    (case br_PaneError => k_is)
    (case bf_PaneError => k_is)
#print axioms PySem.Challenge.cw_panethread_k69_forged_lists_and_news_holds
