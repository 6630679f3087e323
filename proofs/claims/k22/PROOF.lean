import PyProof.Rows.All
import Wide.All
import OpenK.AllK
import Wide.FinOn
import HandS.ForMost
import HandS.ForExc
import HandS.IsInst
import HandS.Codes
import HandS.Evl
import KE.DataEq
import KE.GoesEnum
import HandS.ExcInit
import HandS.WordsExc
import HandS.ExcOwn
import HandS.TryElse
import HandS.ExcField
import HandS.ExcIs
import KE.KExcIs
import HandS.SetKeys
import HandS.SortRule
import HandS.SortInts
import HandS.TupLe
import PyProof.ReprRoads
import HandS.Ends
import PyProof.ReprLen
import HandS.DeepEq
import HandS.Conv
import HandS.Wide
import HandS.DictComp
import HandS.TupAny
import HandS.TupLen
import PyProof.FString5
import PyProof.StrLawsTight
import HandS.ExcValue
import HandS.Flt
import OpenK.KTop
import HandS.JoinGen
import HandS.NoneIn
import KE.DataMinMax
import KE.DatumOrd
import PyProof.DictMoreH
import PySem.Challenge.RW_panethread_k22_counts
set_option Elab.async false
set_option linter.all false
set_option maxRecDepth 100000
set_option maxHeartbeats 4000000
namespace Zb
open PySem PySem.Spec PyProof.Rows L2
def slot : L2.St → Nat → Option V
  | [], _ => none
  | a :: _, 0 => a
  | _ :: r, n + 1 => slot r n
def seqAt (H : Hp) (p : Addr) : Option (List V) := match H p with
  | some (.lst xs) => some xs
  | some (.tup xs) => some xs
  | some (.frz _ (.lst xs)) => some xs
  | some (.frz _ (.tup xs)) => some xs
  | _ => none
theorem seqAt_sq {K : PySem.W.Frag} {H : Hp} {p : Addr} {xs : List V} (h : seqAt H p = some xs) : SqL K H p xs ∨ SqT K H p xs := by
  unfold seqAt at h
  split at h
  · rename_i e; cases h; exact .inl (.inl (.inl e))
  · rename_i e; cases h; exact .inr (.inl (.inl e))
  · rename_i e; cases h; exact .inl (.inl (.inr ⟨_, e⟩))
  · rename_i e; cases h; exact .inr (.inl (.inr ⟨_, e⟩))
  · cases h
def lstAt (H : Hp) (p : Addr) : Option (List V) := match H p with
  | some (.lst xs) => some xs
  | some (.frz _ (.lst xs)) => some xs
  | _ => none
theorem lstAt_sq {K : PySem.W.Frag} {H : Hp} {p : Addr} {xs : List V} (h : lstAt H p = some xs) : SqL K H p xs := by
  unfold lstAt at h
  split at h
  · rename_i e; cases h; exact .inl (.inl e)
  · rename_i e; cases h; exact .inl (.inr ⟨_, e⟩)
  · cases h
def tupAt (H : Hp) (p : Addr) : Option (List V) := match H p with
  | some (.tup xs) => some xs
  | some (.frz _ (.tup xs)) => some xs
  | _ => none
theorem tupAt_sq {K : PySem.W.Frag} {H : Hp} {p : Addr} {xs : List V} (h : tupAt H p = some xs) : SqT K H p xs := by
  unfold tupAt at h
  split at h
  · rename_i e; cases h; exact .inl (.inl e)
  · rename_i e; cases h; exact .inl (.inr ⟨_, e⟩)
  · cases h
mutual
inductive Rp (H : Hp) : V → PyData → Prop
  | non : Rp H .non .none
  | bl (b : Bool) : Rp H (.bl b) (.bool b)
  | int (i : Int) : Rp H (.int i) (.int i)
  | str (x : Str) : Rp H (.str x) (.str x)
  | lst {a : Addr} {xs : List V} {ds : List PyData} : lstAt H a = some xs → RpA H xs ds → Rp H (.ref a) (.list ds)
  | tup {a : Addr} {xs : List V} {ds : List PyData} : tupAt H a = some xs → RpA H xs ds → Rp H (.ref a) (.tuple ds)
inductive RpA (H : Hp) : List V → List PyData → Prop
  | nil : RpA H [] []
  | cons {v : V} {vs : List V} {d : PyData} {ds : List PyData} : Rp H v d → RpA H vs ds → RpA H (v :: vs) (d :: ds)
end
mutual
theorem Rp.dp {K : PySem.W.Frag} {H : Hp} : ∀ {v : V} {d : PyData}, Rp H v d → Dp K H v d
  | _, _, .non => .non
  | _, _, .bl b => .bl b
  | _, _, .int i => .int i
  | _, _, .str x => .str x
  | _, _, .lst h k => .lst (lstAt_sq h) (RpA.dp k)
  | _, _, .tup h k => .tup (tupAt_sq h) (RpA.dp k)
theorem RpA.dp {K : PySem.W.Frag} {H : Hp} : ∀ {vs : List V} {ds : List PyData}, RpA H vs ds → DpAll K H vs ds
  | _, _, .nil => .nil
  | _, _, .cons h k => .cons (Rp.dp h) (RpA.dp k)
end
def rAdd : R2 := fun x y H Q => match x, y with
  | .int i, .int j => Q (.int (i + j)) H
  | .str a, .str b => a.length + b.length ≤ 16777216 ∧ Q (.str (a ++ b)) H
  | .ref p, .ref q => ∃ xs ys, H p = some (.lst xs) ∧ H q = some (.lst ys) ∧ xs.length + ys.length ≤ 16777216 ∧ ∀ r, H r = none → Q (.ref r) (upd H r (.lst (xs ++ ys)))
  | _, _ => False
def rSub : R2 := fun x y H Q => match x, y with
  | .int i, .int j => Q (.int (i - j)) H
  | _, _ => False
def rMul : R2 := fun x y H Q => match x, y with
  | .int i, .int j => CMul i j ∧ Q (.int (i * j)) H
  | .ref p, .int k => ∃ xs, H p = some (.lst xs) ∧ -1000000 ≤ k ∧ k ≤ 1000000 ∧ xs.length * k.toNat ≤ 16777216 ∧ ∀ r, H r = none → Q (.ref r) (upd H r (.lst (List.replicate k.toNat xs).flatten))
  | .str a, .int k => -1000000 ≤ k ∧ k ≤ 1000000 ∧ a.length * k.toNat ≤ 16777216 ∧ Q (.str (Txt.mul a k)) H
  | _, _ => False
def rMod : R2 := fun x y H Q => match x, y with
  | .int i, .int j => 0 < j ∧ Q (.int (i % j)) H
  | _, _ => False
def rDiv : R2 := fun x y H Q => match x, y with
  | .int i, .int j => 0 < j ∧ j < 1073741824 ∧ Q (.int (i / j)) H
  | _, _ => False
def rPow : R2 := fun x y H Q => match x, y with
  | .int i, .int j => 0 ≤ j ∧ j ≤ 1000000 ∧ i.natAbs < 2 ^ 64 ∧ Q (.int (i ^ j.toNat)) H
  | _, _ => False
def rCmpI (f : Int → Int → Bool) : R2 := fun x y H Q => match x, y with
  | .int i, .int j => Q (.bl (f i j)) H
  | _, _ => False
mutual
theorem Rp.plain {H : Hp} : ∀ {v : V} {d : PyData}, Rp H v d → d.plain = true
  | _, _, .non => rfl
  | _, _, .bl b => rfl
  | _, _, .int i => rfl
  | _, _, .str x => rfl
  | _, _, .lst h k => by simp only [PyData.plain]; exact RpA.plain k
  | _, _, .tup h k => by simp only [PyData.plain]; exact RpA.plain k
theorem RpA.plain {H : Hp} : ∀ {vs : List V} {ds : List PyData}, RpA H vs ds → PyData.plainAll ds = true
  | _, _, .nil => rfl
  | _, _, .cons h k => by simp only [PyData.plainAll, Rp.plain h, RpA.plain k, Bool.and_self]
end
/-- == of data at any depth -/
def rEqU : R2 := fun x y H Q => ∃ d e, Rp H x d ∧ Rp H y e ∧ min d.depth e.depth ≤ 64 ∧ Q (.bl (PyData.eqv d e)) H
def rNeU : R2 := fun x y H Q => ∃ d e, Rp H x d ∧ Rp H y e ∧ min d.depth e.depth ≤ 64 ∧ Q (.bl (!PyData.eqv d e)) H
section
variable {X : Cx}
theorem sl16 : sizeLine = 16777216 := sizeLine_eq
theorem o_add : OpR X (binaryOp .Add) rAdd := by
  intro pins s σ H x y v u Q I rx ry h
  unfold rAdd at h
  split at h
  · exact op_add pins s σ H _ _ v u Q I rx ry ⟨_, _, rfl, rfl, h⟩
  · exact op_add_str pins s σ H _ _ v u Q I rx ry ⟨_, _, rfl, rfl, by rw [sl16]; exact h.1, h.2⟩
  · obtain ⟨xs, ys, h1, h2, h3, h4⟩ := h
    exact op_cat pins s σ H _ _ v u Q I rx ry ⟨_, _, _, _, rfl, rfl, h1, h2, by rw [sl16]; exact h3, h4⟩
  · exact h.elim
theorem o_sub : OpR X (binaryOp .Sub) rSub := by
  intro pins s σ H x y v u Q I rx ry h
  unfold rSub at h
  split at h
  · exact op_sub pins s σ H _ _ v u Q I rx ry ⟨_, _, rfl, rfl, h⟩
  · exact h.elim
/-- a text by its codes -/
def tx (l : List Nat) : Str := ⟨l.toArray⟩
theorem tx_length (l : List Nat) : (tx l).length = l.length := by simp [tx, Str.length]
theorem txt_mul_ok {a : Str} {k : Int} (h1 : -1000000 ≤ k) (h2 : k ≤ 1000000) (h3 : a.length * k.toNat ≤ 16777216) : MulOk a k := by
  refine ⟨?_, fun h4 _ => ?_, fun _ _ => ?_⟩
  · have h5 : ¬ k < -(2 ^ 63 : Int) := by omega
    have h6 : ¬ k ≥ (2 ^ 63 : Int) := by omega
    rw [decide_eq_false h5, decide_eq_false h6]
    rfl
  · have e : (a.length : Int) * k ≤ 16777216 := by
      have e1 : ((a.length * k.toNat : Nat) : Int) ≤ ((16777216 : Nat) : Int) := Int.ofNat_le.mpr h3
      have e2 : ((k.toNat : Nat) : Int) = k := by omega
      rw [Int.natCast_mul, e2] at e1
      exact e1
    have : (a.length : Int) ≤ (2 ^ 63 - 1) / k := by
      rw [Int.le_ediv_iff_mul_le (by omega)]
      omega
    omega
  · unfold Builtin.Str.tooLong
    have : ¬ (a.length * k.toNat > sizeLine) := by rw [sl16]; omega
    exact decide_eq_false this
theorem o_mul : OpR X (binaryOp .Mult) rMul := by
  intro pins s σ H x y v u Q I rx ry h
  unfold rMul at h
  split at h
  · exact op_mul pins s σ H _ _ v u Q I rx ry ⟨_, _, rfl, rfl, h.1, h.2⟩
  · obtain ⟨xs, h1, h2, h3, h4, h5⟩ := h
    exact op_rep pins s σ H _ _ v u Q I rx ry ⟨_, _, _, rfl, rfl, h1, by omega, by omega, by rw [sl16]; exact h4, h5⟩
  · obtain ⟨h1, h2, h3, h4⟩ := h
    obtain ⟨t, rfl⟩ := rx
    obtain ⟨t', rfl⟩ := ry
    exact SB.mul (txt_mul_ok h1 h2 h3) fun t' k => ⟨.str _, H, I.tok k, ⟨_, rfl⟩, h4⟩
  · exact h.elim
theorem o_mod : OpR X (binaryOp .Mod) rMod := by
  intro pins s σ H x y v u Q I rx ry h
  unfold rMod at h
  split at h
  · exact op_mod pins s σ H _ _ v u Q I rx ry ⟨_, _, rfl, rfl, h.1, h.2⟩
  · exact h.elim
theorem o_div : OpR X (binaryOp .FloorDiv) rDiv := by
  intro pins s σ H x y v u Q I rx ry h
  unfold rDiv at h
  split at h
  · exact op_fdiv pins s σ H _ _ v u Q I rx ry ⟨_, _, rfl, rfl, ⟨h.1, h.2.1⟩, h.2.2⟩
  · exact h.elim
theorem o_pow : OpR X (binaryOp .Pow) rPow := by
  intro pins s σ H x y v u Q I rx ry h
  unfold rPow at h
  split at h
  · exact op_pow pins s σ H _ _ v u Q I rx ry ⟨_, _, rfl, rfl, ⟨h.1, h.2.1, h.2.2.1⟩, h.2.2.2⟩
  · exact h.elim
theorem cmpI_of {f : Int → Int → Bool} {op : Value → Value → Sem Value} (ho : OpR X op (rI0 fun i j => .bl (f i j))) : OpR X op (rCmpI f) := by
  intro pins s σ H x y v u Q I rx ry h
  unfold rCmpI at h
  split at h
  · exact ho pins s σ H _ _ v u Q I rx ry ⟨_, _, rfl, rfl, h⟩
  · exact h.elim
theorem o_lt : OpR X (compareOp .Lt) (rCmpI fun i j => decide (i < j)) := cmpI_of op_lt
theorem o_le : OpR X (compareOp .LtE) (rCmpI fun i j => decide (i ≤ j)) := cmpI_of op_le
theorem o_gt : OpR X (compareOp .Gt) (rCmpI fun i j => decide (j < i)) := cmpI_of op_gt
theorem o_eq (hu : X.A.units + 64 < cLine) : OpR X (compareOp .Eq) rEqU := by
  intro pins s σ H x y v u Q I rx ry h
  obtain ⟨d, e, h1, h2, h3, q⟩ := h
  obtain ⟨as, r1⟩ := Dp.reads I d x v h1.dp rx
  obtain ⟨bs, r2⟩ := Dp.reads I e y u h2.dp ry
  exact SeqAt.eq_plain r1 r2 h1.plain h2.plain (by omega) ⟨.bl _, H, I, rfl, q⟩
theorem o_ne (hu : X.A.units + 64 < cLine) : OpR X (compareOp .NotEq) rNeU := by
  intro pins s σ H x y v u Q I rx ry h
  obtain ⟨d, e, h1, h2, h3, q⟩ := h
  obtain ⟨as, r1⟩ := Dp.reads I d x v h1.dp rx
  obtain ⟨bs, r2⟩ := Dp.reads I e y u h2.dp ry
  exact SeqAt.ne_plain r1 r2 h1.plain h2.plain (by omega) ⟨.bl _, H, I, rfl, q⟩
def rIxU (K : PySem.W.Frag) : R2 := fun x y H Q => match x, y with
  | .str z, .int i => z.length ≤ 16777216 ∧ ∃ c, atI z.cps.toList i = some c ∧ Q (.str (tx [c])) H
  | .ref p, .int i => ∃ xs, (SqL K H p xs ∨ SqT K H p xs) ∧ ∃ v, atI xs i = some v ∧ Q v H
  | _, _ => False
theorem i_ix {K : PySem.W.Frag} (hK : X.K = K := by rfl) : IxR X (rIxU K) := by
  subst hK
  intro value slice pins s σ H x y v u Q I rx ry h hs
  unfold rIxU at h
  split at h
  · obtain ⟨h1, c, h2, h3⟩ := h
    exact ix_str value slice pins s σ H _ _ v u Q I rx ry ⟨_, _, _, rfl, rfl, by rw [sl16]; exact h1, h2, h3⟩ hs
  · obtain ⟨xs, h1, v, h2, h3⟩ := h
    rcases h1 with h1 | h1
    · exact ix_list value slice pins s σ H _ _ _ u Q I rx ry ⟨_, _, _, _, rfl, rfl, h1, h2, h3⟩ hs
    · exact ix_tup value slice pins s σ H _ _ _ u Q I rx ry ⟨_, _, _, _, rfl, rfl, h1, h2, h3⟩ hs
  · exact h.elim
/-- a[lo:hi] of a text or a list -/
def rSlU (K : PySem.W.Frag) : V → Option Int → Option Int → Hp → VK → Prop := fun x lo hi H Q => match x with
  | .str z => z.length ≤ 16777216 ∧ Q (.str (cutS z lo hi)) H
  | .ref p => ∃ xs, SqL K H p xs ∧ ∀ q, H q = none → Q (.ref q) (upd H q (.lst (cutV xs lo hi)))
  | _ => False
theorem s_sl {K : PySem.W.Frag} (hK : X.K = K := by rfl) : SlR X (rSlU K) := by
  subst hK
  intro pins s σ H x v vl vu lo hi sl Q I rx hs pl pu h
  unfold rSlU at h
  split at h
  · exact sl_str pins s σ H _ v vl vu lo hi sl Q I rx hs pl pu ⟨_, rfl, by rw [sl16]; exact h.1, h.2⟩
  · obtain ⟨xs, h1, h2⟩ := h
    exact sl_list pins s σ H _ v vl vu lo hi sl Q I rx hs pl pu ⟨_, _, rfl, h1, h2⟩
  · exact h.elim
def rLen (K : PySem.W.Frag) : List V → Hp → VK → Prop := fun vs H Q => match vs with
  | [.str z] => z.length ≤ 16777216 ∧ Q (.int z.length) H
  | [.ref p] => (∃ xs, (SqL K H p xs ∨ SqT K H p xs) ∧ Q (.int xs.length) H)
  | _ => False
theorem c_len {K : PySem.W.Frag} (hK : X.K = K := by rfl) : CallR X (.builtin "len") (rLen K) := by
  subst hK
  intro pins s σ H xs us Q I r h
  unfold rLen at h
  split at h
  · exact call_len pins s σ H _ us Q I r ⟨_, _, rfl, ⟨by rw [sl16]; exact h.1, rfl⟩, h.2⟩
  · obtain ⟨ys, h1, h2⟩ := h
    rcases h1 with h1 | h1
    · exact call_len pins s σ H _ us Q I r ⟨_, _, rfl, .inl ⟨_, h1, rfl⟩, h2⟩
    · exact call_len pins s σ H _ us Q I r ⟨_, _, rfl, .inr ⟨_, h1, rfl⟩, h2⟩
  · exact h.elim
def rInU (neg : Bool) : R2 := fun x y H Q => match y with
  | .str b => ∃ a, x = .str a ∧ Q (.bl (if neg then !(!(Builtin.Str.occurrences b a 0 b.length 1).isEmpty) else !(Builtin.Str.occurrences b a 0 b.length 1).isEmpty)) H
  | .ref p => ∃ xs ds d, seqAt H p = some xs ∧ RpA H xs ds ∧ Rp H x d ∧ min (PyData.depthAll ds) d.depth ≤ 60 ∧ Q (.bl (if neg then !(ds.any fun y => PyData.eqv y d) else ds.any fun y => PyData.eqv y d)) H
  | _ => False
theorem seqAt_cases {H : Hp} {p : Addr} {xs : List V} (h : seqAt H p = some xs) : lstAt H p = some xs ∨ tupAt H p = some xs := by
  unfold seqAt at h
  unfold lstAt tupAt
  split at h <;> rename_i e <;> first | (cases h; rw [e]; first | exact .inl rfl | exact .inr rfl) | cases h
def tyO : Option HO → Option String
  | some (.lst _) => some "list"
  | some (.tup _) => some "tuple"
  | some (.dK _) => some "dict"
  | some (.dT _) => some "dict"
  | some (.frz _ (.lst _)) => some "list"
  | some (.frz _ (.tup _)) => some "tuple"
  | some (.frz _ (.dK _)) => some "dict"
  | _ => none
def tyN (H : Hp) : V → Option String
  | .non => some "NoneType"
  | .bl _ => some "bool"
  | .int _ => some "int"
  | .str _ => some "str"
  | .ref p => tyO (H p)
  | _ => none
theorem tyN_ok {K : PySem.W.Frag} {H : Hp} {v : V} {n : String} (h : tyN H v = some n) : TyX K H v (.type n) := by
  cases v with
  | non => cases h; exact .base .non
  | bl b => cases h; exact .base (.bl _)
  | int i => cases h; exact .base (.int _)
  | str x => cases h; exact .base (.str _)
  | ref p =>
    have h : tyO (H p) = some n := h
    unfold tyO at h
    split at h <;> rename_i e
    · cases h; exact .base (.lst e)
    · cases h; exact .base (.tup e)
    · cases h; exact .base (.dK e)
    · cases h; exact .base (.dT e)
    · cases h; exact .base (.frz e)
    · cases h; exact .fTuple e
    · cases h; exact .fDict e
    · cases h
  | _ => cases h
def rIs : List V → Hp → VK → Prop := fun vs H Q => match vs with
  | [x, .ty n] => ∃ t, tyN H x = some t ∧ ∃ b, kitB t n = some b ∧ Q (.bl b) H
  | _ => False
theorem c_is : CallR X (.builtin "isinstance") rIs := by
  intro pins s σ H xs us Q I r h
  unfold rIs at h
  split at h
  · obtain ⟨t, h1, b, h2, h3⟩ := h
    exact call_isi pins s σ H _ us Q I r ⟨_, _, _, _, _, rfl, .ty _, tyN_ok h1, kit_ty h2, h3⟩
  · exact h.elim
def rMax2 : List V → Hp → VK → Prop := fun vs H Q => match vs with
  | [.int i, .int j] => Q (.int (if j > i then j else i)) H
  | _ => False
def rMin2 : List V → Hp → VK → Prop := fun vs H Q => match vs with
  | [.int i, .int j] => Q (.int (if j < i then j else i)) H
  | _ => False
theorem c_max (hc : X.calm = true) : CallR X (.builtin "max") rMax2 := by
  intro pins s σ H xs us Q I r h
  unfold rMax2 at h
  split at h
  · exact call_max2 hc pins s σ H _ us Q I r ⟨_, _, rfl, h⟩
  · exact h.elim
theorem c_min (hc : X.calm = true) : CallR X (.builtin "min") rMin2 := by
  intro pins s σ H xs us Q I r h
  unfold rMin2 at h
  split at h
  · exact call_min2 hc pins s σ H _ us Q I r ⟨_, _, rfl, h⟩
  · exact h.elim
def rAllU : List V → Hp → VK → Prop := fun vs H Q => match vs with
  | [.ref p] => ∃ bs : List Bool, lstAt H p = some (bs.map V.bl) ∧ Q (.bl (bs.all id)) H
  | _ => False
theorem c_all (hc : X.calm = true) : CallR X (.builtin "all") rAllU := by
  intro pins s σ H xs us Q I r h
  unfold rAllU at h
  split at h
  · obtain ⟨bs, h1, h2⟩ := h
    exact cr_all hc pins s σ H _ us Q I r ⟨_, _, rfl, lstAt_sq h1, h2⟩
  · exact h.elim
theorem vals_of : ∀ {xs : List V} {us : List Value}, xs.length = us.length → (∀ (j : Nat) x u, xs[j]? = some x → us[j]? = some u → RelV x u) → Vals xs us
  | [], [], _, _ => .nil
  | [], _ :: _, h, _ => by simp at h
  | _ :: _, [], h, _ => by simp at h
  | a :: r, b :: s, h, k => .cons (k 0 a b rfl rfl) (vals_of (by simpa using h) fun j x u h1 h2 => k (j + 1) x u (by simpa using h1) (by simpa using h2))
theorem vals_signs {x : Str} {acc : Array Value} (h : ItemsOf (SignAt x) acc x.cps.size) : Vals (x.cps.toList.map fun c => V.str (tx [c])) acc.toList := by
  refine vals_of (by rw [List.length_map]; simp [h.1]) fun j v u h1 h2 => ?_
  obtain ⟨c, t, hc, rfl⟩ := h.2 j u (by simpa using h2)
  rw [List.getElem?_map, Array.getElem?_toList, hc] at h1
  cases h1
  exact ⟨t, rfl⟩
def rListU (K : PySem.W.Frag) : List V → Hp → VK → Prop := fun vs H Q => match vs with
  | [.str z] => z.length ≤ 16777216 ∧ ∀ p, H p = none → Q (.ref p) (upd H p (.lst (z.cps.toList.map fun c => V.str (tx [c]))))
  | [.ref p] => ∃ ys, (SqL K H p ys ∨ SqT K H p ys) ∧ ∀ l, H l = none → Q (.ref l) (upd H l (.lst ys))
  | _ => False
theorem c_list (hc : X.calm = true) {K : PySem.W.Frag} (hK : X.K = K := by rfl) : CallR X (.type "list") (rListU K) := by
  subst hK
  intro pins s σ H xs us Q I r h
  unfold rListU at h
  split at h
  · rename_i z
    obtain ⟨hz, q⟩ := h
    obtain ⟨u, rfl, t, rfl⟩ := vals1 r
    refine call_list_str (I.ok.hd hc) z t (fun h' tk acc c' kp e hacc => ?_) (by rw [sl16]; exact hz)
    have hl : (z.cps.toList.map fun c => V.str (tx [c])).length ≤ sizeLine := by rw [List.length_map, Array.length_toList, sl16]; exact hz
    exact ⟨.ref s.heap.objs.size, _, I.laid (t' := tk) kp (Nat.le_refl _) (show ObjOk X.prog X.w _ h' _ (.lst _) from ⟨hl, acc.toList, c', vals_signs hacc, by simpa using e⟩), rfl, q _ (I.hok.fresh (Nat.le_refl _))⟩
  · obtain ⟨ys, h1, h2⟩ := h
    exact call_list_of pins s σ H _ us Q I r ⟨_, _, rfl, h1, h2⟩
  · exact h.elim
def rTupU (K : PySem.W.Frag) : List V → Hp → VK → Prop := fun vs H Q => match vs with
  | [.str z] => z.length ≤ 16777216 ∧ ∀ p, H p = none → Q (.ref p) (upd H p (.tup (z.cps.toList.map fun c => V.str (tx [c]))))
  | [.ref p] => ∃ ys, (SqL K H p ys ∧ ∀ l, H l = none → Q (.ref l) (upd H l (.tup ys))) ∨ (SqT K H p ys ∧ Q (.ref p) H)
  | _ => False
theorem c_tuple (hc : X.calm = true) {K : PySem.W.Frag} (hK : X.K = K := by rfl) : CallR X (.type "tuple") (rTupU K) := by
  subst hK
  intro pins s σ H xs us Q I r h
  unfold rTupU at h
  split at h
  · rename_i z
    obtain ⟨hz, q⟩ := h
    obtain ⟨u, rfl, t, rfl⟩ := vals1 r
    refine call_tuple_str (I.ok.hd hc) z t (fun h' tk acc kp hacc => ?_) (by rw [sl16]; exact hz)
    have hl : (z.cps.toList.map fun c => V.str (tx [c])).length ≤ sizeLine := by rw [List.length_map, Array.length_toList, sl16]; exact hz
    have I1 : Inv X pins σ H { s with heap := h' } := I.kept (t' := s.toks) kp
    have ob : ObjOk X.prog X.w (upd H h'.objs.size (.tup (z.cps.toList.map fun c => V.str (tx [c])))) (h'.push { cls := .type "tuple", data := .seq acc }) h'.objs.size (.tup (z.cps.toList.map fun c => V.str (tx [c]))) := by
      have e : acc.toList.toArray = acc := by simp
      exact ⟨hl, acc.toList, vals_signs hacc, by rw [e]; exact IsTup.new _ _⟩
    exact ⟨.ref h'.objs.size, _, I1.laid (t' := tk) (fun b o e => Heap.get?_push_of_some _ e) (Nat.le_refl _) ob, rfl, q _ (I1.hok.fresh (Nat.le_refl _))⟩
  · obtain ⟨ys, h1⟩ := h
    exact call_tuple_of pins s σ H _ us Q I r ⟨_, _, rfl, h1⟩
  · exact h.elim
end
end Zb
namespace Zb
open PySem PySem.Spec PyProof.Rows L2
open Evl (tCut pss_cut)
def Fr (M : Addr → Prop) (H H' : Hp) : Prop := ∀ b o, ¬ M b → H b = some o → H' b = some o
abbrev Ex (H H' : Hp) : Prop := Fr (fun _ => False) H H'
theorem Fr.refl {M : Addr → Prop} (H : Hp) : Fr M H H := fun _ _ _ e => e
theorem Fr.trans {M : Addr → Prop} {H H1 H2 : Hp} (a : Fr M H H1) (b : Fr M H1 H2) : Fr M H H2 := fun x o n e => b x o n (a x o n e)
theorem Fr.new {M : Addr → Prop} {H : Hp} {p : Addr} {o : HO} (h : H p = none) : Fr M H (upd H p o) := fun b u _ e => by
  rw [upd_ne (ne_of_none e h)]
  exact e
theorem Fr.at {M : Addr → Prop} {H : Hp} {p : Addr} {o : HO} (h : M p) : Fr M H (upd H p o) := fun b u n e => by
  rw [upd_ne fun z => n (by rw [z]; exact h)]
  exact e
theorem Fr.up {M M' : Addr → Prop} {H H' : Hp} (e : Fr M' H H') (h : ∀ b, M' b → M b) : Fr M H H' := fun b o n q => e b o (fun m => n (h b m)) q
theorem Fr.ex {M : Addr → Prop} {H H' : Hp} (e : Ex H H') : Fr M H H' := e.up fun _ z => z.elim
/-- an object that was not there at H may change -/
theorem Fr.mut {M : Addr → Prop} {H H' : Hp} {p : Addr} {o : HO} (e : Fr M H H') (h : H p = none) : Fr M H (upd H' p o) := fun b u n q => by
  rw [upd_ne (ne_of_none q h)]
  exact e b u n q
theorem Fr.get {M : Addr → Prop} {H H' : Hp} {a : Addr} {o : HO} (e : Fr M H H') (n : ¬ M a) (h : H a = some o) : H' a = some o := e a o n h
theorem Ex.get {H H' : Hp} {a : Addr} {o : HO} (e : Ex H H') (h : H a = some o) : H' a = some o := e a o (fun z => z) h
theorem Ex.free {H H' : Hp} (e : Ex H H') {p : Addr} (h : H' p = none) : H p = none := by
  cases q : H p with
  | none => rfl
  | some o =>
    rw [e p o (fun z => z) q] at h
    cases h
theorem Fr.free {M : Addr → Prop} {H H' : Hp} (e : Fr M H H') {p : Addr} (n : ¬ M p) (h : H' p = none) : H p = none := by
  cases q : H p with
  | none => rfl
  | some o =>
    rw [e p o n q] at h
    cases h
theorem upd_old {H : Hp} {p a : Addr} {o u : HO} (hp : H p = none) (ha : H a = some u) : upd H p o a = some u := by
  rw [upd_ne (ne_of_none ha hp)]
  exact ha
theorem lst_of {H : Hp} {p : Addr} {xs : List V} (h : H p = some (.lst xs)) : lstAt H p = some xs := by unfold lstAt; rw [h]
theorem tup_of {H : Hp} {p : Addr} {xs : List V} (h : H p = some (.tup xs)) : tupAt H p = some xs := by unfold tupAt; rw [h]
theorem seq_l {H : Hp} {p : Addr} {xs : List V} (h : H p = some (.lst xs)) : seqAt H p = some xs := by unfold seqAt; rw [h]
theorem seq_t {H : Hp} {p : Addr} {xs : List V} (h : H p = some (.tup xs)) : seqAt H p = some xs := by unfold seqAt; rw [h]
section
variable {D : Ends} {σ : L2.St} {H : Hp} {Q : VK} {K : PySem.W.Frag} {R : L2.St → Hp → Prop} {B : Bool → Hp → Prop}
theorem st_seq {t u : TS} (h : t { D with nx := u D } σ H) : tSeq t u D σ H := h
theorem st_next (h : D.nx σ H) : tNext D σ H := h
theorem st_brk (h : D.bk σ H) : tBreak D σ H := h
theorem st_cont (h : D.ct σ H) : tCont D σ H := h
theorem st_drop {te : TE} (h : te σ H (fun _ H1 => D.nx σ H1)) : tDrop te D σ H := h
theorem st_ret {te : TE} (h : te σ H D.rt) : tRet te D σ H := h
theorem st_retN (h : D.rt .non H) : tRetN D σ H := h
theorem st_ifS {c : TT} {t u : TS} (h : c σ H (fun b H1 => if b = true then t D σ H1 else u D σ H1)) : tIfS c t u D σ H := h
theorem st_asg {te : TE} {g : TG} (h : te σ H (fun x H1 => g x σ H1 D.nx)) : tAsg te g D σ H := h
theorem st_name {i : Nat} {v : V} (h : R (σ.set i (some v)) H) : gName i v σ H R := h
theorem st_sub {to ti : TE} {t : TSet} {v : V} (h : to σ H (fun o H1 => ti σ H1 fun i H2 => t o i v H2 fun H3 => R σ H3)) : gSub to ti t v σ H R := h
theorem st_augI {i : Nat} {te : TE} {f : Int → Int → Int} {z : Int} (hx : σ[i]? = some (some (.int z))) (h : te σ H (fun y H1 => ipI f (.int z) y H1 fun z H2 => D.nx (σ.set i (some z)) H2)) : tAug i te (ipI f) D σ H := ⟨_, hx, h⟩
theorem st_ipI {f : Int → Int → Int} {x y : Int} (h : Q (.int (f x y)) H) : ipI f (.int x) (.int y) H Q := ⟨_, _, rfl, rfl, h⟩
theorem st_par {i j : Nat} {ta : TA} (h : ta σ H (fun vs H1 => ∃ v w, vs = [v, w] ∧ D.nx ((σ.set i (some v)).set j (some w)) H1)) : tPar i j ta D σ H := h
theorem st_par2 {v w : V} {P : V → V → Prop} (h : P v w) : ∃ v' w', [v, w] = [v', w'] ∧ P v' w' := ⟨v, w, rfl, h⟩
theorem st_var {i : Nat} {v : V} (hv : σ[i]? = some (some v)) (h : Q v H) : tVar i σ H Q := ⟨v, hv, h⟩
theorem st_c {v : V} (h : Q v H) : tC v σ H Q := h
theorem st_op {r : R2} {ta tb : TE} (h : ta σ H (fun x H1 => tb σ H1 fun y H2 => r x y H2 Q)) : tOp r ta tb σ H Q := h
theorem st_un {r : V → Hp → VK → Prop} {ta : TE} (h : ta σ H (fun x H1 => r x H1 Q)) : tUn r ta σ H Q := h
theorem st_rU {g : Int → V} {i : Int} (h : Q (g i) H) : rU g (.int i) H Q := ⟨i, rfl, h⟩
theorem st_B {t : TE} (h : t σ H (fun x H1 => ∃ c, x = .bl c ∧ B c H1)) : tB t σ H B := h
theorem st_test {t : TE} (h : t σ H (fun x H1 => ∃ c, x = .bl c ∧ B c H1)) : tTest t σ H B := h
theorem st_isb {b : Bool} {P : Bool → Prop} (h : P b) : ∃ c, V.bl b = .bl c ∧ P c := ⟨b, rfl, h⟩
theorem st_and {t u : TT} (h : t σ H (fun c H1 => if c = true then u σ H1 B else B false H1)) : tAnd t u σ H B := h
theorem st_or {t u : TT} (h : t σ H (fun c H1 => if c = true then B true H1 else u σ H1 B)) : tOr t u σ H B := h
theorem st_not {t : TT} (h : t σ H (fun c H1 => B (!c) H1)) : tNot t σ H B := h
theorem st_andV {ta tb : TE} (h : ta σ H (fun x H1 => ∃ c, x = .bl c ∧ if c = true then tb σ H1 Q else Q (.bl false) H1)) : tAndV ta tb σ H Q := h
theorem st_orV {ta tb : TE} (h : ta σ H (fun x H1 => ∃ c, x = .bl c ∧ if c = true then Q (.bl true) H1 else tb σ H1 Q)) : tOrV ta tb σ H Q := h
theorem st_notV {ta : TE} (h : ta σ H (fun x H1 => ∃ c, x = .bl c ∧ Q (.bl (!c)) H1)) : tNotV ta σ H Q := h
theorem st_if {t : TT} {ta tb : TE} (h : t σ H (fun c H1 => if c = true then ta σ H1 Q else tb σ H1 Q)) : tIf t ta tb σ H Q := h
theorem st_nil {P : List V → Hp → Prop} (h : P [] H) : tNil σ H P := h
theorem st_cons {ta : TE} {tr : TA} {P : List V → Hp → Prop} (h : ta σ H (fun x H1 => tr σ H1 fun xs H2 => P (x :: xs) H2)) : tCons ta tr σ H P := h
def NewO (o : List V → HO) (xs : List V) (Q : VK) (H : Hp) : Prop := xs.length ≤ sizeLine ∧ ∀ p, H p = none → Q (.ref p) (upd H p (o xs))
theorem st_tup {t : TA} (h : t σ H (fun xs H1 => NewO .tup xs Q H1)) : tTup t σ H Q := h
theorem st_lst {t : TA} (h : t σ H (fun xs H1 => NewO .lst xs Q H1)) : tLst t σ H Q := h
/-- a new object: from then on the heap is a letter -/
theorem st_new {xs : List V} {o : List V → HO} (hz : xs.length ≤ 16777216) (h : ∀ p H', H p = none → Ex H H' → H' p = some (o xs) → Q (.ref p) H') : NewO o xs Q H :=
  ⟨by rw [sl16]; exact hz, fun p hp => h p _ hp (Fr.new hp) upd_same⟩
theorem st_cb {r : List V → Hp → VK → Prop} {t : TA} (h : t σ H (fun vs H1 => r vs H1 Q)) : tCB r t σ H Q := h
theorem st_call {sp : Sp} {dvs : List V} {E : XK} {t : TA} (h : t σ H (fun vs H1 => sp (vs ++ dvs) H1 Q E)) : tCall sp dvs E t σ H Q := h
theorem st_sl {r : V → Option Int → Option Int → Hp → VK → Prop} {te : TE} {tl th : TO} (h : te σ H (fun x H1 => tl σ H1 fun l H2 => th σ H2 fun u H3 => r x l u H3 Q)) : tSl r te tl th σ H Q := h
theorem st_part {te : TE} {P : Option Int → Hp → Prop} (h : te σ H (fun x H1 => ∃ i, x = .int i ∧ P (some i) H1)) : tPart te σ H P := h
theorem st_isi {i : Int} {P : Int → Prop} (h : P i) : ∃ j, V.int i = .int j ∧ P j := ⟨i, rfl, h⟩
theorem st_nopart {P : Option Int → Hp → Prop} (h : P none H) : tNoPart σ H P := h
theorem st_addI {i j : Int} (h : Q (.int (i + j)) H) : rAdd (.int i) (.int j) H Q := h
theorem st_addS {a b : Str} (hz : a.length + b.length ≤ 16777216) (h : Q (.str (a ++ b)) H) : rAdd (.str a) (.str b) H Q := ⟨hz, h⟩
theorem st_addL {p q : Addr} {xs ys : List V} (h1 : H p = some (.lst xs)) (h2 : H q = some (.lst ys)) (hz : xs.length + ys.length ≤ 16777216) (h : ∀ r H', H r = none → Ex H H' → H' r = some (.lst (xs ++ ys)) → Q (.ref r) H') : rAdd (.ref p) (.ref q) H Q :=
  ⟨xs, ys, h1, h2, hz, fun r hr => h r _ hr (Fr.new hr) upd_same⟩
theorem st_subI {i j : Int} (h : Q (.int (i - j)) H) : rSub (.int i) (.int j) H Q := h
theorem st_mulI {i j : Int} (hc : (-(2 ^ 64) < i ∧ i < 2 ^ 64) ∨ (-(2 ^ 64) < j ∧ j < 2 ^ 64)) (h : Q (.int (i * j)) H) : rMul (.int i) (.int j) H Q := ⟨hc, h⟩
theorem st_mulL {p : Addr} {k : Int} {xs : List V} (h1 : H p = some (.lst xs)) (h2 : -1000000 ≤ k) (h3 : k ≤ 1000000) (hz : xs.length * k.toNat ≤ 16777216) (h : ∀ r H', H r = none → Ex H H' → H' r = some (.lst (List.replicate k.toNat xs).flatten) → Q (.ref r) H') : rMul (.ref p) (.int k) H Q :=
  ⟨xs, h1, h2, h3, hz, fun r hr => h r _ hr (Fr.new hr) upd_same⟩
theorem st_modI {i j : Int} (hc : 0 < j) (h : Q (.int (i % j)) H) : rMod (.int i) (.int j) H Q := ⟨hc, h⟩
theorem st_divI {i j : Int} (hc : 0 < j ∧ j < 1073741824) (h : Q (.int (i / j)) H) : rDiv (.int i) (.int j) H Q := ⟨hc.1, hc.2, h⟩
theorem st_powI {i j : Int} (hc : 0 ≤ j ∧ j ≤ 1000000 ∧ i.natAbs < 2 ^ 64) (h : Q (.int (i ^ j.toNat)) H) : rPow (.int i) (.int j) H Q := ⟨hc.1, hc.2.1, hc.2.2, h⟩
theorem st_cmpI {f : Int → Int → Bool} {i j : Int} (h : Q (.bl (f i j)) H) : rCmpI f (.int i) (.int j) H Q := h
theorem st_eqI {i j : Int} (h : Q (.bl (decide (i = j))) H) : rEqU (.int i) (.int j) H Q := ⟨_, _, .int i, .int j, by simp [PyData.depth], by
  have e : PyData.eqv (.int i) (.int j) = decide (i = j) := by simp only [PyData.eqv]; rfl
  rw [e]; exact h⟩
theorem st_neI {i j : Int} (h : Q (.bl (!decide (i = j))) H) : rNeU (.int i) (.int j) H Q := ⟨_, _, .int i, .int j, by simp [PyData.depth], by
  have e : PyData.eqv (.int i) (.int j) = decide (i = j) := by simp only [PyData.eqv]; rfl
  rw [e]; exact h⟩
theorem st_eqS {i j : Str} (h : Q (.bl (decide (i = j))) H) : rEqU (.str i) (.str j) H Q := ⟨_, _, .str i, .str j, by simp [PyData.depth], by
  have e : PyData.eqv (.str i) (.str j) = decide (i = j) := by simp only [PyData.eqv]; rfl
  rw [e]; exact h⟩
theorem st_neS {i j : Str} (h : Q (.bl (!decide (i = j))) H) : rNeU (.str i) (.str j) H Q := ⟨_, _, .str i, .str j, by simp [PyData.depth], by
  have e : PyData.eqv (.str i) (.str j) = decide (i = j) := by simp only [PyData.eqv]; rfl
  rw [e]; exact h⟩
theorem st_eqB {i j : Bool} (h : Q (.bl (i == j)) H) : rEqU (.bl i) (.bl j) H Q := ⟨_, _, .bl i, .bl j, by simp [PyData.depth], by
  have e : PyData.eqv (.bool i) (.bool j) = (i == j) := by simp only [PyData.eqv]
  rw [e]; exact h⟩
theorem st_neB {i j : Bool} (h : Q (.bl (!(i == j))) H) : rNeU (.bl i) (.bl j) H Q := ⟨_, _, .bl i, .bl j, by simp [PyData.depth], by
  have e : PyData.eqv (.bool i) (.bool j) = (i == j) := by simp only [PyData.eqv]
  rw [e]; exact h⟩
theorem st_eqD {x y : V} {d e : PyData} (h1 : Rp H x d) (h2 : Rp H y e) (hd : min d.depth e.depth ≤ 64) (h : Q (.bl (PyData.eqv d e)) H) : rEqU x y H Q := ⟨d, e, h1, h2, hd, h⟩
theorem st_neD {x y : V} {d e : PyData} (h1 : Rp H x d) (h2 : Rp H y e) (hd : min d.depth e.depth ≤ 64) (h : Q (.bl (!PyData.eqv d e)) H) : rNeU x y H Q := ⟨d, e, h1, h2, hd, h⟩
theorem st_ixL {p : Addr} {i : Int} {v : V} {xs : List V} (h1 : H p = some (.lst xs)) (h2 : atI xs i = some v) (h : Q v H) : rIxU K (.ref p) (.int i) H Q := ⟨xs, seqAt_sq (seq_l h1), v, h2, h⟩
theorem st_ixT {p : Addr} {i : Int} {v : V} {xs : List V} (h1 : H p = some (.tup xs)) (h2 : atI xs i = some v) (h : Q v H) : rIxU K (.ref p) (.int i) H Q := ⟨xs, seqAt_sq (seq_t h1), v, h2, h⟩
theorem st_ixQ {p : Addr} {i : Int} {v : V} {xs : List V} (h1 : seqAt H p = some xs) (h2 : atI xs i = some v) (h : Q v H) : rIxU K (.ref p) (.int i) H Q := ⟨xs, seqAt_sq h1, v, h2, h⟩
theorem st_ixK {p : Addr} {i : Int} {v : V} {xs : List V} (h1 : SqL K H p xs) (h2 : atI xs i = some v) (h : Q v H) : rIxU K (.ref p) (.int i) H Q := ⟨xs, .inl h1, v, h2, h⟩
theorem at_in {α : Type} {xs : List α} {i : Int} (h0 : 0 ≤ i) (h1 : i < xs.length) : ∃ v, atI xs i = some v ∧ xs[i.toNat]? = some v := by
  have hj : i.toNat < xs.length := by omega
  refine ⟨xs[i.toNat], ?_, List.getElem?_eq_getElem hj⟩
  unfold atI ixN
  rw [if_pos h0, if_pos h1]
  exact List.getElem?_eq_getElem hj
theorem st_slS {z : Str} {lo hi : Option Int} (hz : z.length ≤ 16777216) (h : Q (.str (cutS z lo hi)) H) : rSlU K (.str z) lo hi H Q := ⟨hz, h⟩
theorem st_slL {p : Addr} {xs : List V} {lo hi : Option Int} (h1 : lstAt H p = some xs) (h : ∀ q H', H q = none → Ex H H' → H' q = some (.lst (cutV xs lo hi)) → Q (.ref q) H') : rSlU K (.ref p) lo hi H Q := ⟨xs, lstAt_sq h1, fun q hq => h q _ hq (Fr.new hq) upd_same⟩
theorem st_lenS {z : Str} (hz : z.length ≤ 16777216) (h : Q (.int z.length) H) : rLen K [.str z] H Q := ⟨hz, h⟩
theorem st_lenL {p : Addr} {xs : List V} (h1 : H p = some (.lst xs)) (h : Q (.int xs.length) H) : rLen K [.ref p] H Q := ⟨xs, seqAt_sq (seq_l h1), h⟩
theorem st_lenT {p : Addr} {xs : List V} (h1 : H p = some (.tup xs)) (h : Q (.int xs.length) H) : rLen K [.ref p] H Q := ⟨xs, seqAt_sq (seq_t h1), h⟩
theorem st_lenQ {p : Addr} {xs : List V} (h1 : seqAt H p = some xs) (h : Q (.int xs.length) H) : rLen K [.ref p] H Q := ⟨xs, seqAt_sq h1, h⟩
theorem st_lenK {p : Addr} {xs : List V} (h1 : SqL K H p xs) (h : Q (.int xs.length) H) : rLen K [.ref p] H Q := ⟨xs, .inl h1, h⟩
theorem st_max2 {i j : Int} (h : Q (.int (if j > i then j else i)) H) : Zb.rMax2 [.int i, .int j] H Q := h
theorem st_min2 {i j : Int} (h : Q (.int (if j < i then j else i)) H) : Zb.rMin2 [.int i, .int j] H Q := h
theorem st_is {x : V} {n t : String} {b : Bool} (h1 : tyN H x = some t) (h2 : kitB t n = some b) (h : Q (.bl b) H) : rIs [x, .ty n] H Q := ⟨t, h1, b, h2, h⟩
/-- xs[i] = e -/
theorem st_setL {p : Addr} {k : Int} {v : V} {xs : List V} {j : Nat} {R : Hp → Prop} (h1 : H p = some (.lst xs)) (h2 : ixN xs.length k = some j) (h : R (upd H p (.lst (xs.set j v)))) : rSetL (.ref p) (.int k) v H R := ⟨p, xs, k, j, rfl, rfl, h1, h2, h⟩
theorem st_T {A B : Prop} {b : Bool} (hb : b = true) (h : A) : if b = true then A else B := by rw [if_pos hb]; exact h
theorem st_F {A B : Prop} {b : Bool} (hb : b = false) (h : B) : if b = true then A else B := by rw [hb, if_neg Bool.false_ne_true]; exact h
theorem st_br2 {A B : Prop} {p : Prop} [Decidable p] (h1 : p → A) (h2 : ¬ p → B) : if decide p = true then A else B := by
  by_cases q : p
  · rw [decide_eq_true q]; exact h1 q
  · rw [decide_eq_false q, if_neg Bool.false_ne_true]; exact h2 q
end
def Purse (H : Hp) (a : Addr) : Prop := ∃ x y z : Int, H a = some (.lst [.int x, .int y, .int z])
abbrev FrP (p : Addr) (H H' : Hp) : Prop := Fr (fun b => b = p) H H'
theorem FrP.at {H : Hp} {p : Addr} {o : HO} : FrP p H (upd H p o) := Fr.at (M := fun b => b = p) rfl
theorem Purse.ne {H : Hp} {p q : Addr} (h : Purse H p) (hq : H q = none) : q ≠ p := fun e => by
  obtain ⟨x, y, z, h⟩ := h
  rw [e, h] at hq
  cases hq
theorem Purse.ex {H H' : Hp} {p : Addr} (h : Purse H p) (e : Ex H H') : Purse H' p := by
  obtain ⟨x, y, z, h⟩ := h
  exact ⟨x, y, z, e.get h⟩
end Zb
namespace Zb
open PySem PySem.Spec PyProof.Rows L2
open Evl (tCut pss_cut)
structure Runs (J : It) (n : Nat) (S : Hp → Prop) (item : Nat → V → Hp → Hp → Prop) : Prop where
  go : ∀ i H, i < n → S H → J.go i H
  stop : ∀ H, S H → J.stop n H
  yld : ∀ i H x H', i < n → S H → J.yld i H x H' → item i x H H'
theorem runs_range (lo : Int) (n : Nat) : Runs (Itr lo n) n (fun _ => True) (fun i x H H' => H' = H ∧ x = .int (lo + i)) :=
  ⟨fun _ _ h _ => h, fun _ _ => Nat.le_refl _, fun _ _ _ _ _ _ y => y⟩
theorem runs_list (K : PySem.W.Frag) (a : Addr) (xs : List V) : Runs (Itl K a) xs.length (fun H => lstAt H a = some xs) (fun i x H H' => H' = H ∧ xs[i]? = some x) :=
  ⟨fun i H h s => ⟨xs, xs[i], lstAt_sq s, by simp [h]⟩, fun _ s => ⟨xs, lstAt_sq s, Nat.le_refl _⟩, fun _ _ _ _ _ s y => ⟨y.1, y.2 xs (lstAt_sq s)⟩⟩
theorem runs_tup (K : PySem.W.Frag) (a : Addr) (xs : List V) : Runs (Itt K a) xs.length (fun H => tupAt H a = some xs) (fun i x H H' => H' = H ∧ xs[i]? = some x) :=
  ⟨fun i H h s => ⟨xs, xs[i], tupAt_sq s, by simp [h]⟩, fun _ s => ⟨xs, tupAt_sq s, Nat.le_refl _⟩, fun _ _ _ _ _ s y => ⟨y.1, y.2 xs (tupAt_sq s)⟩⟩
theorem runs_enum (K : PySem.W.Frag) (a : Addr) (xs : List V) : Runs (Ite K a) xs.length (fun H => lstAt H a = some xs) (fun i x H H' => ∃ T v, x = .ref T ∧ H T = none ∧ Ex H H' ∧ H' T = some (.tup [.int (i : Nat), v]) ∧ xs[i]? = some v) :=
  ⟨fun i H h s => ⟨xs, xs[i], lstAt_sq s, by simp [h]⟩, fun _ s => ⟨xs, lstAt_sq s, Nat.le_refl _⟩, fun i H x H' _ s y => by
    obtain ⟨T, v, e1, e2, e3, e4⟩ := y
    subst e3
    exact ⟨T, v, e1, e2, Fr.new e2, upd_same, e4 xs (lstAt_sq s)⟩⟩
theorem runs_zip (K : PySem.W.Frag) (a b : Addr) (xs ys : List V) : Runs (Itz K a b) (min xs.length ys.length) (fun H => lstAt H a = some xs ∧ lstAt H b = some ys) (fun i x H H' => ∃ T v u, x = .ref T ∧ H T = none ∧ Ex H H' ∧ H' T = some (.tup [v, u]) ∧ xs[i]? = some v ∧ ys[i]? = some u) :=
  ⟨fun i H h s => ⟨xs, ys, xs[i]'(by omega), ys[i]'(by omega), lstAt_sq s.1, lstAt_sq s.2, by rw [List.getElem?_eq_getElem], by rw [List.getElem?_eq_getElem]⟩, fun _ s => ⟨xs, ys, lstAt_sq s.1, lstAt_sq s.2, by omega⟩, fun i H x H' _ s y => by
    obtain ⟨T, v, u, e1, e2, e3, e4, e5⟩ := y
    subst e3
    exact ⟨T, v, u, e1, e2, Fr.new e2, upd_same, e4 xs (lstAt_sq s.1), e5 ys (lstAt_sq s.2)⟩⟩
def LcGoal (J : It) (g : TG) (tt : TT) (te : TE) (vs : List Nat) (σ : L2.St) (Q : VK) (H1 : Hp) : Prop := ∀ D, H1 D = none → ∃ W : Nat → Nat → Hp → Prop, (∃ m, W 0 m (upd H1 D (.lst []))) ∧ ∀ i m H, W i m H →
      (J.stop i H ∧ Q (.ref D) H) ∨ (J.go i H ∧ ∃ Nx : Hp → Prop, (∀ H', Nx H' → ∃ m', m' < m ∧ W (i + 1) m' H') ∧ ∀ x H', J.yld i H x H' → g x (wipe σ vs) H' fun σ2 H2 => wipe σ2 vs = wipe σ vs ∧ tt σ2 H2 fun b H3 =>
        if b = true then te σ2 H3 fun y H4 => ∃ acc, H4 D = some (.lst acc) ∧ acc.length < sizeLine ∧ Nx (upd H4 D (.lst (acc ++ [y]))) else Nx H3)
def ForGoal (J : It) (g : TG) (tb : TS) (D : Ends) (σ : L2.St) (H : Hp) : Prop := ∃ W : Nat → Nat → L2.St → Hp → Prop, (∃ m, W 0 m σ H) ∧ ∀ i m σ H, W i m σ H →
      (J.stop i H ∧ D.nx σ H) ∨ (J.go i H ∧ ∃ N : L2.St → Hp → Prop, (∀ σ' H', N σ' H' → ∃ m', m' < m ∧ W (i + 1) m' σ' H') ∧ ∀ x H', J.yld i H x H' → g x σ H' fun σ2 H2 => tb { D with nx := N, ct := N, bk := D.nx } σ2 H2)
section
variable {J : It} {n : Nat} {S : Hp → Prop} {item : Nat → V → Hp → Hp → Prop} {g : TG} {σ : L2.St} {H H1 : Hp} {K : PySem.W.Frag}
/-- a for loop by its word Pv -/
theorem for_runs {tb : TS} {D : Ends} (hR : Runs J n S item) (Pv : Nat → L2.St → Hp → Prop) (h0 : Pv 0 σ H) (hS : ∀ i σ H, i ≤ n → Pv i σ H → S H)
    (hs : ∀ i x σ H H', i < n → Pv i σ H → item i x H H' → g x σ H' fun σ2 H2 => tb { D with nx := Pv (i + 1), ct := Pv (i + 1), bk := D.nx } σ2 H2) (hd : ∀ σ H, Pv n σ H → D.nx σ H) :
    ForGoal J g tb D σ H := by
  refine ⟨fun i m σ H => m = n - i ∧ i ≤ n ∧ Pv i σ H, ⟨n, by simp, Nat.zero_le _, h0⟩, ?_⟩
  rintro i m σ H ⟨rfl, hi, p⟩
  by_cases hlt : i < n
  · refine .inr ⟨hR.go i H hlt (hS i σ H hi p), Pv (i + 1), fun σ' H' p' => ⟨n - (i + 1), by omega, rfl, hlt, p'⟩, fun x H' y => ?_⟩
    exact hs i x σ H H' hlt p (hR.yld i H x H' hlt (hS i σ H hi p) y)
  · have e : i = n := by omega
    subst e
    exact .inl ⟨hR.stop H (hS i σ H hi p), hd σ H p⟩
/-- the list of a comprehension on its way -/
structure LcAt (M : Addr → Prop) (H1 : Hp) (D : Addr) (acc : List V) (H : Hp) : Prop where
  new : H1 D = none
  non : ¬ M D
  at_ : H D = some (.lst acc)
  fr : Fr M H1 H
def LcW (M : Addr → Prop) (H1 : Hp) (Pv : Nat → List V → Hp → Prop) (D : Addr) (i : Nat) (H : Hp) : Prop := ∃ acc, LcAt M H1 D acc H ∧ Pv i acc H
/-- Pv does not look at the list itself -/
def LcSt (M : Addr → Prop) (H1 : Hp) (Pv : Nat → List V → Hp → Prop) : Prop := ∀ i acc H' D o, H1 D = none → Fr M H1 H' → Pv i acc H' → Pv i acc (upd H' D o)
theorem lc_yes {M : Addr → Prop} {Pv : Nat → List V → Hp → Prop} {D : Addr} {i : Nat} {acc : List V} {H' H4 : Hp} {y : V} (L : LcAt M H1 D acc H') (hst : LcSt M H1 Pv) (e : Fr M H' H4) (hz : acc.length < 1000000) (p : Pv (i + 1) (acc ++ [y]) H4) :
    ∃ acc, H4 D = some (.lst acc) ∧ acc.length < sizeLine ∧ LcW M H1 Pv D (i + 1) (upd H4 D (.lst (acc ++ [y]))) :=
  ⟨acc, e D _ L.non L.at_, by rw [sl16]; omega, acc ++ [y], ⟨L.new, L.non, upd_same, (L.fr.trans e).mut L.new⟩, hst _ _ _ _ _ L.new (L.fr.trans e) p⟩
theorem lc_no {M : Addr → Prop} {Pv : Nat → List V → Hp → Prop} {D : Addr} {i : Nat} {acc : List V} {H' H4 : Hp} (L : LcAt M H1 D acc H') (e : Fr M H' H4) (p : Pv (i + 1) acc H4) : LcW M H1 Pv D (i + 1) H4 :=
  ⟨acc, ⟨L.new, L.non, e D _ L.non L.at_, L.fr.trans e⟩, p⟩
theorem lc_runs {tt : TT} {te : TE} {vs : List Nat} {Q : VK} (hR : Runs J n S item) (M : Addr → Prop) (Pv : Nat → List V → Hp → Prop) (hM : ∀ b, M b → H1 b ≠ none) (h0 : Pv 0 [] H1) (hst : LcSt M H1 Pv) (hS : ∀ i acc H', Fr M H1 H' → Pv i acc H' → S H')
    (hs : ∀ D i acc x H' H'', i < n → LcAt M H1 D acc H' → Pv i acc H' → item i x H' H'' → g x (wipe σ vs) H'' fun σ2 H2 => wipe σ2 vs = wipe σ vs ∧ tt σ2 H2 fun b H3 => if b = true then te σ2 H3 fun y H4 => ∃ acc, H4 D = some (.lst acc) ∧ acc.length < sizeLine ∧ LcW M H1 Pv D (i + 1) (upd H4 D (.lst (acc ++ [y]))) else LcW M H1 Pv D (i + 1) H3)
    (hd : ∀ D acc H', H1 D = none → Fr M H1 H' → H' D = some (.lst acc) → Pv n acc H' → Q (.ref D) H') :
    LcGoal J g tt te vs σ Q H1 := by
  intro D hD
  refine ⟨fun i m H => m = n - i ∧ i ≤ n ∧ LcW M H1 Pv D i H, ⟨n, by simp, Nat.zero_le _, [], ⟨hD, fun m => hM D m hD, upd_same, Fr.new hD⟩, hst _ _ _ _ _ hD (Fr.refl _) h0⟩, ?_⟩
  rintro i m H ⟨rfl, hi, acc, L, p⟩
  by_cases hlt : i < n
  · refine .inr ⟨hR.go i H hlt (hS i acc H L.fr p), LcW M H1 Pv D (i + 1), fun H' p' => ⟨n - (i + 1), by omega, rfl, hlt, p'⟩, fun x H' y => ?_⟩
    exact hs D i acc x H H' hlt L p (hR.yld i H x H' hlt (hS i acc H L.fr p) y)
  · have e : i = n := by omega
    subst e
    exact .inl ⟨hR.stop H (hS i acc H L.fr p), hd D acc H hD L.fr L.at_ p⟩
abbrev RunsV {α : Type} (J : It) (ys : List α) (val : α → V) (S : Hp → Prop) : Prop := Runs J ys.length S (fun i x H H' => H' = H ∧ ∃ y, ys[i]? = some y ∧ x = val y)
theorem rv_list (K : PySem.W.Frag) (a : Addr) {α : Type} (ys : List α) (val : α → V) : RunsV (Itl K a) ys val (fun H => lstAt H a = some (ys.map val)) :=
  ⟨fun i H h s => ⟨ys.map val, val ys[i], lstAt_sq s, by simp [h]⟩, fun _ s => ⟨ys.map val, lstAt_sq s, by simp⟩, fun i H x H' h s y => by
    have e := y.2 _ (lstAt_sq s)
    rw [List.getElem?_map, List.getElem?_eq_getElem h] at e
    exact ⟨y.1, ys[i], List.getElem?_eq_getElem h, (Option.some.inj e).symm⟩⟩
theorem rv_range (lo : Int) (n : Nat) : RunsV (Itr lo n) (List.range n) (fun i => .int (lo + i)) (fun _ => True) :=
  ⟨fun _ _ h _ => by rw [List.length_range] at h; exact h, fun _ _ => by rw [List.length_range]; exact Nat.le_refl _, fun i _ _ _ h _ y => by
    rw [List.length_range] at h
    exact ⟨y.1, i, by rw [List.getElem?_range h], y.2⟩⟩
theorem lc_pure {α : Type} {ys : List α} {val : α → V} {tt : TT} {te : TE} {vs : List Nat} {Q : VK} (hR : RunsV J ys val S) (hS : ∀ H', Ex H1 H' → S H') (hz : ys.length < 1000000) (p : α → Bool) (f : α → V)
    (hs : ∀ y H', y ∈ ys → Ex H1 H' → ∀ (B : V → Hp → Prop) (A : Hp → Prop), (p y = true → ∀ H'', Ex H' H'' → B (f y) H'') → (p y = false → ∀ H'', Ex H' H'' → A H'') → g (val y) (wipe σ vs) H' fun σ2 H2 => wipe σ2 vs = wipe σ vs ∧ tt σ2 H2 fun b H3 => if b = true then te σ2 H3 B else A H3)
    (hd : ∀ D H', H1 D = none → Ex H1 H' → H' D = some (.lst ((ys.filter p).map f)) → Q (.ref D) H') :
    LcGoal J g tt te vs σ Q H1 := by
  have tk : ∀ {i : Nat} {y : α}, ys[i]? = some y → ys.take (i + 1) = ys.take i ++ [y] := fun {i y} e => by
    rw [List.take_succ, e]
    rfl
  refine lc_runs hR (fun _ => False) (fun i acc _ => acc = ((ys.take i).filter p).map f) (fun _ z => z.elim) (by simp) (fun i acc H' D o _ _ e => e) (fun i acc H' e _ => hS H' e) ?_ ?_
  · rintro D i acc x H' H'' hi L rfl ⟨rfl, y, hy, rfl⟩
    have hl : (((ys.take i).filter p).map f).length < 1000000 := by
      rw [List.length_map]
      have := List.length_filter_le p (ys.take i)
      rw [List.length_take] at this
      omega
    refine hs y H'' (List.mem_of_getElem? hy) L.fr _ _ (fun hp H3 e => ?_) (fun hp H3 e => ?_)
    · refine lc_yes L (fun i acc H' D o _ _ e => e) e hl ?_
      rw [tk hy, List.filter_append, List.map_append, List.filter_cons, if_pos hp]
      rfl
    · refine lc_no L e ?_
      rw [tk hy, List.filter_append, List.map_append, List.filter_cons, if_neg (by rw [hp]; decide)]
      simp
  · rintro D acc H' hD e h rfl
    rw [List.take_length] at h
    exact hd D H' hD e h
/-- no test -/
theorem lc_map {α : Type} {ys : List α} {val : α → V} {te : TE} {vs : List Nat} {Q : VK} (hR : RunsV J ys val S) (hS : ∀ H', Ex H1 H' → S H') (hz : ys.length < 1000000) (f : α → V)
    (hs : ∀ y H', y ∈ ys → Ex H1 H' → ∀ (B : V → Hp → Prop), (∀ H'', Ex H' H'' → B (f y) H'') → g (val y) (wipe σ vs) H' fun σ2 H2 => wipe σ2 vs = wipe σ vs ∧ te σ2 H2 B)
    (hd : ∀ D H', H1 D = none → Ex H1 H' → H' D = some (.lst (ys.map f)) → Q (.ref D) H')
    (hg : ∀ v σ H (P P' : L2.St → Hp → Prop), (∀ σ H, P σ H → P' σ H) → g v σ H P → g v σ H P' := by intro _ _ _ _ _ k h; exact k _ _ h) : LcGoal J g tYes te vs σ Q H1 := by
  refine lc_pure hR hS hz (fun _ => true) f (fun y H' hy e B A h1 h2 => ?_) (fun D H' hD e h => hd D H' hD e ?_)
  · exact hg _ _ _ _ _ (fun σ2 H2 h => ⟨h.1, h.2⟩) (hs y H' hy e B (h1 rfl))
  · rwa [List.filter_eq_self.mpr (fun _ _ => rfl)] at h
theorem st_yes {P : Bool → Hp → Prop} (h : P true H) : tYes σ H P := h
/-- isinstance(b, bool) -/
theorem st_isBool {Q : VK} {b : Bool} (h : Q (.bl true) H) : rIs [.bl b, .ty "bool"] H Q := ⟨"bool", rfl, true, by decide +kernel, h⟩
theorem st_iStr {te : TE} {R : It → Hp → Prop} (h : te σ H (fun v H1 => ∃ x, v = .str x ∧ R (Its x) H1)) : iStr te σ H R := h
theorem st_isStr {x : Str} {P : Str → Prop} (h : P x) : ∃ y, V.str x = .str y ∧ P y := ⟨x, rfl, h⟩
theorem st_iList {tl : TE} {R : It → Hp → Prop} (h : tl σ H (fun x H1 => ∃ a, x = .ref a ∧ (∃ xs, SqL K H1 a xs) ∧ R (Itl K a) H1)) : iList K tl σ H R := h
theorem st_isList {a : Addr} {xs : List V} {P : Addr → Prop} (h1 : lstAt H a = some xs) (h : P a) : ∃ b, V.ref a = .ref b ∧ (∃ xs, SqL K H b xs) ∧ P b := ⟨a, rfl, ⟨xs, lstAt_sq h1⟩, h⟩
theorem st_iTup {tl : TE} {R : It → Hp → Prop} (h : tl σ H (fun x H1 => ∃ a, x = .ref a ∧ (∃ xs, SqT K H1 a xs) ∧ R (Itt K a) H1)) : iTup K tl σ H R := h
theorem st_isTup {a : Addr} {xs : List V} {P : Addr → Prop} (h1 : tupAt H a = some xs) (h : P a) : ∃ b, V.ref a = .ref b ∧ (∃ xs, SqT K H b xs) ∧ P b := ⟨a, rfl, ⟨xs, tupAt_sq h1⟩, h⟩
theorem st_iR1 {ta : TA} {R : It → Hp → Prop} (h : ta σ H (fun vs H1 => ∃ j : Int, vs = [.int j] ∧ -(2 ^ 62) ≤ j ∧ j < 2 ^ 62 ∧ R (Itr 0 j.toNat) H1)) : iRng1 ta σ H R := h
theorem st_isR1 {j : Int} {P : Int → Prop} (h1 : -1000000000000 ≤ j ∧ j < 1000000000000) (h : P j) : ∃ i : Int, [V.int j] = [.int i] ∧ -(2 ^ 62) ≤ i ∧ i < 2 ^ 62 ∧ P i := ⟨j, rfl, by omega, by omega, h⟩
theorem st_iR2 {ta : TA} {R : It → Hp → Prop} (h : ta σ H (fun vs H1 => ∃ i j : Int, vs = [.int i, .int j] ∧ (-(2 ^ 62) ≤ i ∧ i < 2 ^ 62 ∧ -(2 ^ 62) ≤ j ∧ j < 2 ^ 62) ∧ R (Itr i (j - i).toNat) H1)) : iRng2 ta σ H R := h
theorem st_isR2 {i j : Int} {P : Int → Int → Prop} (h1 : -1000000000000 ≤ i ∧ i < 1000000000000 ∧ -1000000000000 ≤ j ∧ j < 1000000000000) (h : P i j) : ∃ i' j' : Int, [V.int i, V.int j] = [.int i', .int j'] ∧ (-(2 ^ 62) ≤ i' ∧ i' < 2 ^ 62 ∧ -(2 ^ 62) ≤ j' ∧ j' < 2 ^ 62) ∧ P i' j' := ⟨i, j, rfl, ⟨by omega, by omega, by omega, by omega⟩, h⟩
theorem st_iEn {ta : TA} {R : It → Hp → Prop} (h : ta σ H (fun vs H1 => ∃ a xs, vs = [.ref a] ∧ SqL K H1 a xs ∧ R (Ite K a) H1)) : iEnum K ta σ H R := h
theorem st_isEn {a : Addr} {xs : List V} {P : Addr → Prop} (h1 : lstAt H a = some xs) (h : P a) : ∃ b xs, [V.ref a] = [.ref b] ∧ SqL K H b xs ∧ P b := ⟨a, xs, rfl, lstAt_sq h1, h⟩
theorem st_iZp {ta : TA} {R : It → Hp → Prop} (h : ta σ H (fun vs H1 => ∃ a b xs ys, vs = [.ref a, .ref b] ∧ SqL K H1 a xs ∧ SqL K H1 b ys ∧ R (Itz K a b) H1)) : iZip K ta σ H R := h
theorem st_isZp {a b : Addr} {xs ys : List V} {P : Addr → Addr → Prop} (h1 : lstAt H a = some xs) (h2 : lstAt H b = some ys) (h : P a b) : ∃ a' b' xs ys, [V.ref a, V.ref b] = [.ref a', .ref b'] ∧ SqL K H a' xs ∧ SqL K H b' ys ∧ P a' b' := ⟨a, b, xs, ys, rfl, lstAt_sq h1, lstAt_sq h2, h⟩
theorem st_lc {wi : TI} {tt : TT} {te : TE} {vs : List Nat} {Q : VK} (h : wi σ H fun J H1 => LcGoal J g tt te vs σ Q H1) : tLc wi g tt te vs σ H Q := h
theorem st_for {wi : TI} {tb : TS} {D : Ends} (h : wi σ H fun J H1 => ForGoal J g tb D σ H1) : tFor wi g tb D σ H := h
end
section
variable {H : Hp} {Q : VK} {σ : L2.St}
theorem st_inC {c : Nat} {z : Str} (h : Q (.bl (decide (c ∈ z.cps.toList))) H) : rInU false (.str (tx [c])) (.str z) H Q := by
  refine ⟨_, rfl, ?_⟩
  show Q (.bl (!(Builtin.Str.occurrences z ⟨#[c]⟩ 0 z.length 1).isEmpty)) H
  rw [PySem.StrLaws.found_one]
  exact h
theorem st_ninC {c : Nat} {z : Str} (h : Q (.bl (!decide (c ∈ z.cps.toList))) H) : rInU true (.str (tx [c])) (.str z) H Q := by
  refine ⟨_, rfl, ?_⟩
  show Q (.bl (!(!(Builtin.Str.occurrences z ⟨#[c]⟩ 0 z.length 1).isEmpty))) H
  rw [PySem.StrLaws.found_one]
  exact h
theorem st_all {p : Addr} {bs : List Bool} {xs : List V} (h1 : H p = some (.lst xs)) (e : xs = bs.map V.bl) (h : Q (.bl (bs.all id)) H) : rAllU [.ref p] H Q := ⟨bs, by rw [lst_of h1, e], h⟩
theorem st_gtup {K : PySem.W.Frag} {a : Addr} {xs : List V} {n : Nat} {t : TGs} {R : L2.St → Hp → Prop} (h1 : H a = some (.tup xs)) (hn : xs.length = n) (h : t xs σ H R) : gTup K n t (.ref a) σ H R := ⟨a, xs, rfl, tupAt_sq (tup_of h1), hn, h⟩
theorem st_glst {K : PySem.W.Frag} {a : Addr} {xs : List V} {n : Nat} {t : TGs} {R : L2.St → Hp → Prop} (h1 : H a = some (.lst xs)) (hn : xs.length = n) (h : t xs σ H R) : gLst K n t (.ref a) σ H R := ⟨a, xs, rfl, lstAt_sq (lst_of h1), hn, h⟩
theorem st_gcons {v : V} {r : List V} {t : TG} {u : TGs} {R : L2.St → Hp → Prop} (h : t v σ H fun σ' H' => u r σ' H' R) : gCons t u (v :: r) σ H R := ⟨v, r, rfl, h⟩
theorem st_gnil {R : L2.St → Hp → Prop} (h : R σ H) : gNil [] σ H R := ⟨rfl, h⟩
theorem st_m1 {r : V → List V → Hp → VK → Prop} {to te : TE} (h : to σ H (fun x H1 => (∃ a, x = .str a) ∧ te σ H1 fun y H2 => r x [y] H2 Q)) : tM1 r to te σ H Q := h
theorem st_isS {a : Str} {P : Prop} (h : P) : (∃ b, V.str a = .str b) ∧ P := ⟨⟨a, rfl⟩, h⟩
theorem st_bm {K : PySem.W.Frag} {T : String} {r : V → List V → Hp → VK → Prop} {to : TE} {t : TA} (h : to σ H (fun x H1 => tyV K T x H1 ∧ t σ H1 fun xs H2 => r x xs H2 Q)) : tBM K T r to t σ H Q := h
theorem st_bm0 {K : PySem.W.Frag} {T : String} {r : V → List V → Hp → VK → Prop} {to : TE} (h : to σ H (fun x H1 => tyV K T x H1 ∧ r x [] H1 Q)) : tBM0 K T r to σ H Q := h
theorem st_tyL {K : PySem.W.Frag} {p : Addr} {xs : List V} {P : Prop} (h1 : H p = some (.lst xs)) (h : P) : tyV K "list" (.ref p) H ∧ P := ⟨.inl ⟨rfl, xs, lstAt_sq (lst_of h1)⟩, h⟩
theorem st_app {p : Addr} {xs : List V} {y : V} (h1 : H p = some (.lst xs)) (hz : xs.length < 16777216) (h : Q .non (upd H p (.lst (xs ++ [y])))) : rAppend (.ref p) [y] H Q := ⟨p, xs, y, rfl, rfl, h1, by rw [sl16]; exact hz, h⟩
theorem st_listS {K : PySem.W.Frag} {z : Str} (hz : z.length ≤ 16777216) (h : ∀ p H', H p = none → Ex H H' → H' p = some (.lst (z.cps.toList.map fun c => V.str (tx [c]))) → Q (.ref p) H') : rListU K [.str z] H Q := ⟨hz, fun p hp => h p _ hp (Fr.new hp) upd_same⟩
theorem st_listQ {K : PySem.W.Frag} {a : Addr} {ys : List V} (h1 : seqAt H a = some ys) (h : ∀ p H', H p = none → Ex H H' → H' p = some (.lst ys) → Q (.ref p) H') : rListU K [.ref a] H Q := ⟨ys, seqAt_sq h1, fun p hp => h p _ hp (Fr.new hp) upd_same⟩
theorem st_tupS {K : PySem.W.Frag} {z : Str} (hz : z.length ≤ 16777216) (h : ∀ p H', H p = none → Ex H H' → H' p = some (.tup (z.cps.toList.map fun c => V.str (tx [c]))) → Q (.ref p) H') : rTupU K [.str z] H Q := ⟨hz, fun p hp => h p _ hp (Fr.new hp) upd_same⟩
theorem st_tupL {K : PySem.W.Frag} {a : Addr} {ys : List V} (h1 : lstAt H a = some ys) (h : ∀ p H', H p = none → Ex H H' → H' p = some (.tup ys) → Q (.ref p) H') : rTupU K [.ref a] H Q := ⟨ys, .inl ⟨lstAt_sq h1, fun p hp => h p _ hp (Fr.new hp) upd_same⟩⟩
def DispEnd (p : Addr) (Q : VK) (ps : List (V × V)) (H2 : Hp) : Prop := H2 p = some (.dK []) ∧ ∃ kvs : List (Key × V), ps = kvs.map (fun kv => (kV kv.1, kv.2)) ∧ kvs.length ≤ 15 ∧ Q (.ref p) (upd H2 p (.dK (mergeK [] kvs)))
theorem st_disp {trs : List (TE × TE)} (h : ∀ p H', H p = none → Ex H H' → H' p = some (.dK []) → tPairs trs σ H' (DispEnd p Q)) : tDisp trs σ H Q := fun p hp => h p _ hp (Fr.new hp) upd_same
theorem st_pair {tk tv : TE} {r : List (TE × TE)} {P : List (V × V) → Hp → Prop} (h : tk σ H fun x H1 => tv σ H1 fun y H2 => tPairs r σ H2 fun ps H3 => P ((x, y) :: ps) H3) : tPairs ((tk, tv) :: r) σ H P := h
theorem st_pairs0 {P : List (V × V) → Hp → Prop} (h : P [] H) : tPairs [] σ H P := h
theorem st_ixA {K : PySem.W.Frag} {p : Addr} {i : Int} {xs : List V} (h1 : seqAt H p = some xs) (h0 : 0 ≤ i) (hi : i < xs.length) (h : ∀ v, xs[i.toNat]? = some v → v ∈ xs → Q v H) : rIxU K (.ref p) (.int i) H Q := by
  obtain ⟨v, h2, h3⟩ := at_in h0 hi
  exact st_ixQ h1 h2 (h v h3 (List.mem_of_getElem? h3))
theorem st_clear {p : Addr} {xs : List V} (h1 : H p = some (.lst xs)) (h : Q .non (upd H p (.lst []))) : rClear (.ref p) [] H Q := ⟨p, xs, rfl, rfl, h1, h⟩
theorem st_isL {p : Addr} {xs : List V} {n : String} {b : Bool} (h1 : H p = some (.lst xs)) (h2 : kitB "list" n = some b) (h : Q (.bl b) H) : rIs [.ref p, .ty n] H Q := ⟨"list", by show tyO (H p) = _; rw [h1]; rfl, b, h2, h⟩
theorem st_isT {p : Addr} {xs : List V} {n : String} {b : Bool} (h1 : H p = some (.tup xs)) (h2 : kitB "tuple" n = some b) (h : Q (.bl b) H) : rIs [.ref p, .ty n] H Q := ⟨"tuple", by show tyO (H p) = _; rw [h1]; rfl, b, h2, h⟩
theorem st_isI {i : Int} {n : String} {b : Bool} (h2 : kitB "int" n = some b) (h : Q (.bl b) H) : rIs [.int i, .ty n] H Q := ⟨"int", rfl, b, h2, h⟩
theorem st_isB {i : Bool} {n : String} {b : Bool} (h2 : kitB "bool" n = some b) (h : Q (.bl b) H) : rIs [.bl i, .ty n] H Q := ⟨"bool", rfl, b, h2, h⟩
theorem st_isS' {i : Str} {n : String} {b : Bool} (h2 : kitB "str" n = some b) (h : Q (.bl b) H) : rIs [.str i, .ty n] H Q := ⟨"str", rfl, b, h2, h⟩
theorem kit_ii : kitB "int" "int" = some true := by decide +kernel
theorem kit_ib : kitB "int" "bool" = some false := by decide +kernel
theorem kit_il : kitB "int" "list" = some false := by decide +kernel
theorem kit_is : kitB "int" "str" = some false := by decide +kernel
theorem kit_it : kitB "int" "tuple" = some false := by decide +kernel
theorem kit_ll : kitB "list" "list" = some true := by decide +kernel
theorem kit_lt : kitB "list" "tuple" = some false := by decide +kernel
theorem kit_tt : kitB "tuple" "tuple" = some true := by decide +kernel
theorem kit_tl : kitB "tuple" "list" = some false := by decide +kernel
theorem kit_ss : kitB "str" "str" = some true := by decide +kernel
theorem kit_bb : kitB "bool" "bool" = some true := by decide +kernel
theorem kit_bi : kitB "bool" "int" = some true := by decide +kernel
theorem cutV_from (xs : List V) (k : Nat) : cutV xs (some (k : Int)) none = xs.drop k := by
  unfold cutV
  rw [HT.sIx_nat, HT.sIx_none]
  by_cases h : k ≤ xs.length
  · rw [Nat.min_eq_left h, List.take_of_length_le (by rw [List.length_drop]; exact Nat.le_refl _)]
  · rw [Nat.min_eq_right (by omega), List.drop_of_length_le (Nat.le_refl _), List.drop_of_length_le (by omega)]
    simp
/-- a table that is read -/
structure TabR (H : Hp) (p : Addr) (rs : List Addr) (row : Nat → List V) : Prop where
  at_ : H p = some (.lst (rs.map V.ref))
  rows : ∀ k r, rs[k]? = some r → H r = some (.lst (row k))
theorem TabR.ex {H H' : Hp} {p : Addr} {rs : List Addr} {row : Nat → List V} (T : TabR H p rs row) (e : Ex H H') : TabR H' p rs row := ⟨e.get T.at_, fun k r h => e.get (T.rows k r h)⟩
theorem at_last {xs : List V} {n : Nat} {v : V} (hl : xs.length = n + 1) (h : xs[n]? = some v) : atI xs (-1) = some v := by
  unfold atI ixN
  rw [if_neg (by decide), hl, if_pos (by omega)]
  have e : (-1 + ((n + 1 : Nat) : Int)).toNat = n := by omega
  show xs[(-1 + ((n + 1 : Nat) : Int)).toNat]? = _
  rw [e]
  exact h
/-- x is a thing whose type is known -/
def Ty (H : Hp) (v : V) : Prop := ∃ t, tyN H v = some t
theorem tyN_ex {H' : Hp} {v : V} {t : String} (e : Ex H H') (h : tyN H v = some t) : tyN H' v = some t := by
  cases v with
  | ref p =>
    have h : tyO (H p) = some t := h
    show tyO (H' p) = some t
    cases q : H p with
    | none => rw [q] at h; cases h
    | some o =>
      rw [e p o (fun z => z) q]
      rw [q] at h
      exact h
  | _ => exact h
theorem Ty.ex {H' : Hp} {v : V} (h : Ty H v) (e : Ex H H') : Ty H' v := by
  obtain ⟨t, h⟩ := h
  exact ⟨t, tyN_ex e h⟩
theorem kb_bool : kitB "NoneType" "bool" = some false ∧ kitB "bool" "bool" = some true ∧ kitB "int" "bool" = some false ∧ kitB "str" "bool" = some false ∧ kitB "list" "bool" = some false ∧ kitB "tuple" "bool" = some false ∧ kitB "dict" "bool" = some false := by decide +kernel
end
theorem lstAt_ex {H H' : Hp} {a : Addr} {xs : List V} (e : Ex H H') (h : lstAt H a = some xs) : lstAt H' a = some xs := by
  unfold lstAt at h ⊢
  cases q : H a with
  | none => rw [q] at h; cases h
  | some o => rw [e a o (fun z => z) q]; rw [q] at h; exact h
theorem tupAt_ex {H H' : Hp} {a : Addr} {xs : List V} (e : Ex H H') (h : tupAt H a = some xs) : tupAt H' a = some xs := by
  unfold tupAt at h ⊢
  cases q : H a with
  | none => rw [q] at h; cases h
  | some o => rw [e a o (fun z => z) q]; rw [q] at h; exact h
mutual
theorem Rp.ex {H H' : Hp} (e : Ex H H') : ∀ {v : V} {d : PyData}, Rp H v d → Rp H' v d
  | _, _, .non => .non
  | _, _, .bl b => .bl b
  | _, _, .int i => .int i
  | _, _, .str x => .str x
  | _, _, .lst h k => .lst (lstAt_ex e h) (RpA.ex e k)
  | _, _, .tup h k => .tup (tupAt_ex e h) (RpA.ex e k)
theorem RpA.ex {H H' : Hp} (e : Ex H H') : ∀ {vs : List V} {ds : List PyData}, RpA H vs ds → RpA H' vs ds
  | _, _, .nil => .nil
  | _, _, .cons h k => .cons (Rp.ex e h) (RpA.ex e k)
end
theorem rpA_map {H : Hp} {α : Type} {val : α → V} {enc : α → PyData} : ∀ {xs : List α}, (∀ x ∈ xs, Rp H (val x) (enc x)) → RpA H (xs.map val) (xs.map enc)
  | [], _ => .nil
  | a :: r, h => .cons (h a List.mem_cons_self) (rpA_map fun x hx => h x (List.mem_cons_of_mem _ hx))
theorem rpA_ints {H : Hp} (ns : List Int) : RpA H (ns.map V.int) (ns.map PyData.int) := rpA_map fun _ _ => .int _
theorem eqvAll_map {α : Type} [DecidableEq α] {enc : α → PyData} (h : ∀ a b, PyData.eqv (enc a) (enc b) = decide (a = b)) : ∀ xs ys : List α, PyData.eqvAll (xs.map enc) (ys.map enc) = decide (xs = ys)
  | [], [] => by simp [PyData.eqvAll]
  | [], _ :: _ => by simp [PyData.eqvAll]
  | _ :: _, [] => by simp [PyData.eqvAll]
  | a :: r, b :: s => by
    have ih := eqvAll_map h r s
    simp only [List.map_cons, PyData.eqvAll, h, ih]
    rw [Bool.eq_iff_iff]
    simp
theorem eqv_int (a b : Int) : PyData.eqv (.int a) (.int b) = decide (a = b) := by simp only [PyData.eqv]; rfl
theorem eqv_str (a b : Str) : PyData.eqv (.str a) (.str b) = decide (a = b) := by simp only [PyData.eqv]; rfl
theorem eqv_list {α : Type} [DecidableEq α] {enc : α → PyData} (h : ∀ a b, PyData.eqv (enc a) (enc b) = decide (a = b)) (xs ys : List α) : PyData.eqv (.list (xs.map enc)) (.list (ys.map enc)) = decide (xs = ys) := by
  simp only [PyData.eqv]
  exact eqvAll_map h xs ys
theorem depth_map {α : Type} {enc : α → PyData} {n : Nat} : ∀ {xs : List α}, (∀ x ∈ xs, (enc x).depth ≤ n) → PyData.depthAll (xs.map enc) ≤ n
  | [], _ => by simp [PyData.depthAll]
  | a :: r, h => by
    simp only [List.map_cons, PyData.depthAll]
    exact Nat.max_le.mpr ⟨h a List.mem_cons_self, depth_map fun x hx => h x (List.mem_cons_of_mem _ hx)⟩
structure Df (K : PySem.W.Frag) (mg : Str → Option Value) (x : Str) (st : Stmt) (ps : List Str) (f : Addr) (fd : FuncData) : Prop where
  g : mg x = some (.ref f)
  F : Fun K x x st f fd
  b : Binds K fd ps []
theorem df_mk {K : PySem.W.Frag} {h : Heap} {mg : Str → Option Value} {x : Str} {st : Stmt} {ps : List Str} {f : Addr} {oc : Value} {od an : Option Addr} {osl : Array (Option Value)} {kV dc pm cd ct : Value} (X : K.In h) (G : h.Ns mainGlobals mg)
    (a : PySem.W.nsIn K mainGlobals x = some (some (.ref f))) (l : K.lookup f = some ⟨oc, od, .func (PySem.W.fnOf x x (defArgs st) (defBody st) (defScope st) .none kV dc pm an cd ct), osl⟩) (c : PySem.W.codeIn K cd x = true) (k : PySem.W.keepIn K (.ref f) = true)
    (hb : ∀ (kV doc pm : Value) (an : Option Addr) (cdv ct : Value) (us : List Value), us.length = ps.length → bindArgs (PySem.W.fnOf x x (defArgs st) (defBody st) (defScope st) .none kV doc pm an cdv ct) ⟨us, []⟩ = pure (ps.zip us)) :
    Df K mg x st ps f (PySem.W.fnOf x x (defArgs st) (defBody st) (defScope st) .none kV dc pm an cd ct) :=
  have F := fun_mk (st := st) l c k
  ⟨PySem.W.mg_of X G a, F, F.binds hb⟩
/-- the script: a list of ints that is read, never written -/
def Scr (K : PySem.W.Frag) (H : Hp) (a : Addr) (ns : List Int) : Prop :=
  (∃ o, H a = some (.frz o (.lst (ns.map V.int)))) ∨ ∃ (o : Obj) (its : Array Value) (n : Nat), K.lookup a = some o ∧ o.cls = .type "list" ∧ o.dict = none ∧ o.data = .seq its n ∧ its.size ≤ sizeLine ∧ Vals (ns.map V.int) its.toList
theorem FrP.fresh {H0 H1 H2 : Hp} {p : Addr} (e : Ex H0 H1) (h : H0 p = none) (f : FrP p H1 H2) : Ex H0 H2 := fun b o _ q => f b o (ne_of_none q h) (e b o (fun z => z) q)
theorem lst_only {K : PySem.W.Frag} {H : Hp} {a : Addr} {ns : List Int} (hO : Only H) (h : SqL K H a (ns.map V.int)) : Scr K H a ns := by
  rcases h with (h | ⟨o, h⟩) | h
  · rcases hO a with e | ⟨o, xs, e⟩
    · rw [e] at h; cases h
    · rw [e] at h; cases h
  · exact .inl ⟨o, h⟩
  · exact .inr h
theorem Scr.sq {K : PySem.W.Frag} {H : Hp} {a : Addr} {ns : List Int} (h : Scr K H a ns) : SqL K H a (ns.map V.int) := by
  rcases h with ⟨o, h⟩ | h
  · exact .inl (.inr ⟨o, h⟩)
  · exact .inr h
theorem Scr.ex {K : PySem.W.Frag} {H H' : Hp} {a : Addr} {ns : List Int} (h : Scr K H a ns) (e : Ex H H') : Scr K H' a ns := by
  rcases h with ⟨o, h⟩ | h
  · exact .inl ⟨o, e.get h⟩
  · exact .inr h
end Zb
namespace Zb
open PySem PySem.Spec PyProof.Rows L2
def Ites (x : Str) : It := ⟨fun i _ => i < x.cps.size, fun i H v H' => ∃ T c, v = .ref T ∧ H T = none ∧ H' = upd H T (.tup [.int (i : Nat), .str (tx [c])]) ∧ x.cps[i]? = some c, fun i _ => i = x.cps.size⟩
def iEnS (ta : TA) : TI := fun σ H R => ta σ H fun vs H1 => ∃ x, vs = [.str x] ∧ R (Ites x) H1
theorem st_iEnS {ta : TA} {σ : L2.St} {H : Hp} {R : It → Hp → Prop} (h : ta σ H (fun vs H1 => ∃ x, vs = [.str x] ∧ R (Ites x) H1)) : iEnS ta σ H R := h
theorem st_isEnS {x : Str} {P : Str → Prop} (h : P x) : ∃ y, [V.str x] = [.str y] ∧ P y := ⟨x, rfl, h⟩
end Zb
namespace Zb
open PySem PySem.Spec PyProof.Rows L2
def clsA (K : PySem.W.Frag) (nm : Str) : Addr := match PySem.W.nsIn K mainGlobals nm with
  | some (some (.ref C)) => C
  | _ => 0
theorem clsA_of {K : PySem.W.Frag} {nm : Str} {C : Addr} (h : PySem.W.nsIn K mainGlobals nm = some (some (.ref C))) : clsA K nm = C := by unfold clsA; rw [h]
/-- a class that is named in an except clause -/
structure EC (K : PySem.W.Frag) (mg : Str → Option Value) (nm : Str) : Prop where
  g : mg nm = some (.ref (clsA K nm))
  sb : PySem.W.subIn K (.ref (clsA K nm)) (.type "BaseException") = some true
  hd : PySem.W.hasDictIn K (clsA K nm) = true
  ty : PySem.W.typeIn K (.ref (clsA K nm)) = some (.type "type")
/-- what an isinstance, a field, of an exception in hand wants -/
structure XI (K : PySem.W.Frag) (C : Addr) : Prop where
  hc : (PySem.W.clsIn K C).isSome = true
  ga : PySem.W.findIn K (.ref C) "__getattribute__" = some (some (.builtin "BaseException.__getattribute__"))
  gg : PySem.W.findIn K (.ref C) "__getattr__" = some none
  sb : PySem.W.subIn K (.ref C) (.type "BaseException") = some true
  hd : PySem.W.hasDictIn K C = true
  ca : PySem.W.findIn K (.ref C) "__class__" = some (some (.builtin "object.__class__"))
  cn : PySem.W.specialIn K (.builtin "object.__class__") "__get__" = some (some (.builtin "getset_descriptor.__get__"))
  ct : PySem.W.takesIn K (.builtin "object.__class__") = some true
  cm : PySem.W.mroIn K C (.type "object") = some true
theorem EC.xm {K : PySem.W.Frag} {mg : Str → Option Value} {nm : Str} {cls : Value} {b : Bool} (e : EC K mg nm) (h : PySem.W.subIn K cls (.ref (clsA K nm)) = some b) : PySem.W.exmOne K cls (.ref (clsA K nm)) = some b := PySem.W.exm_ref e.sb e.hd e.ty h
theorem EC.kit {K : PySem.W.Frag} {mg : Str → Option Value} {nm : Str} {D : Addr} {b : Bool} (e : EC K mg nm) (h : PySem.W.subIn K (.ref D) (.ref (clsA K nm)) = some b) (hs : PySem.W.subIn K (.ref (clsA K nm)) (.ref (clsA K nm)) = some true) : PySem.W.kitOne K (.ref D) (.ref (clsA K nm)) = some b := by
  unfold PySem.W.kitOne
  by_cases q : D = clsA K nm
  · subst q
    rw [hs] at h
    cases h
    rw [if_pos (beq_self_eq_true _)]
  · have hq : ((Value.ref D) == (Value.ref (clsA K nm))) = false := beq_eq_false_iff_ne.mpr fun z => q (Value.ref.inj z)
    rw [hq, if_neg Bool.false_ne_true]
    show (if ((PySem.W.clsIn K (clsA K nm)).isSome && PySem.W.typeIn K (.ref (clsA K nm)) == some (.type "type")) = true then PySem.W.subIn K (.ref D) (.ref (clsA K nm)) else none) = some b
    obtain ⟨cd, hc, _⟩ := PySem.W.any_some e.hd
    rw [hc, e.ty]
    exact h
abbrev Cl := Value × Option Nat × (Addr → Value → Option Addr → TS)
def goneD (i : Nat) (D : Ends) : Ends := { nx := fun σ' H' => D.nx (σ'.set i none) H', rt := D.rt, bk := fun σ' H' => D.bk (σ'.set i none) H', ct := fun σ' H' => D.ct (σ'.set i none) H' }
def clD : Option Nat → Ends → Ends
  | none, D => D
  | some i, D => goneD i D
def clS : Option Nat → Addr → L2.St → L2.St
  | none, _, σ => σ
  | some i, a, σ => σ.set i (some (.ref a))
def wG (K : PySem.W.Frag) (Wout : WX) (D : Ends) : List Cl → WX
  | [] => Wout
  | (c, i, ts) :: r => fun cls d σ H => ∃ b, PySem.W.exmOne K cls c = some b ∧ (b = true → ∀ a, H a = none → ts a cls d (clD i D) (clS i a σ) H) ∧ (b = false → wG K Wout D r cls d σ H)
inductive HdG (X : Cx) : List ExceptHandler → List Cl → Prop
  | nil : HdG X [] []
  | one {x : Str} {c : Value} {ts : Addr → Value → Option Addr → TS} {b₀ : Stmt} {suite : List Stmt} {np pos' : Pos} {hds : List ExceptHandler} {l : List Cl} (hc : Names X x c)
      (hsu : ∀ (a : Addr) (oe : Obj) (cls : Value) (d : Option Addr) (pn : List (Addr × Obj)), Zc cls d oe → (∃ vs, oe.data = .fields vs) → PSs (X.suite a ((a, oe) :: pn)) (b₀ :: suite) (ts a cls d)) (r : HdG X hds l) :
      HdG X (.ExceptHandler (some (.Name x np)) none (b₀ :: suite) pos' :: hds) ((c, none, ts) :: l)
  | named {x n : Str} {c : Value} {i : Nat} {ts : Addr → Value → Option Addr → TS} {b₀ : Stmt} {suite : List Stmt} {np pos' : Pos} {hds : List ExceptHandler} {l : List Cl} (hN : X.N.Nodup) (hi : X.N[i]? = some n) (hln : X.env.kindOf n = some .local) (hc : Names X x c)
      (hsu : ∀ (a : Addr) (oe : Obj) (cls : Value) (d : Option Addr) (pn : List (Addr × Obj)), Zc cls d oe → (∃ vs, oe.data = .fields vs) → PSs (X.suite a ((a, oe) :: pn)) (b₀ :: suite) (ts a cls d)) (r : HdG X hds l) :
      HdG X (.ExceptHandler (some (.Name x np)) (some n) (b₀ :: suite) pos' :: hds) ((c, some i, ts) :: l)
section
variable {X : Cx} {body orelse : List Stmt} {h₀ : ExceptHandler} {hds : List ExceptHandler} {l : List Cl} {pos : Pos} {tb : WX → TS} {u : TS} {Wout : WX}
def tTry (K : PySem.W.Frag) (Wout : WX) (tb : WX → TS) (u : TS) (l : List Cl) : TS := fun D σ H => tb (wG K Wout D l) { D with nx := u D } σ H
theorem ps_tryG (hs : X.stack = X.env :: X.outer) (hf : X.env.frame = some X.env.locals) (tk : Takes X Wout)
    (hb : ∀ (W : WX) (pn : List (Addr × Obj)) (xe : Value → Shared → Prop), Takes (X.tr pn xe) W → PassesOwn (model X.prog X.w) X.A X.env xe → PSs (X.tr pn xe) body (tb W))
    (hh : HdG X (h₀ :: hds) l) (ho : PSs X orelse u) : PS X (.Try body (h₀ :: hds) orelse [] pos) (tTry X.K Wout tb u l) := by
  refine ⟨fun pins s σ H D I h => ?_⟩
  have ok := I.ok
  have hfr : X.A.frames = some (X.env :: X.outer) := by rw [ok.frames, hs]
  refine wpAny_Try_except ?_
  refine wpAny_mono ((hb (wG X.K Wout D l) (X.pn ++ pins) (fun e s₁ => wpAny (model X.prog X.w) X.A (noteFrame e X.env) (fun _ s₂ => wpAny (model X.prog X.w) X.A (setFlight e none) (fun _ s₃ =>
    wpAny (model X.prog X.w) X.A (handleBy e X.env (h₀ :: hds)) (SP X pins D) X.xe s₃) X.xe s₂) X.xe s₁) (fun u s' xx => ?_) PassesOwn.looking).run [] s σ H { D with nx := u D } (I.toTry _) h) (fun f s1 hsp => ?_) (fun e s1 he => he)
  · obtain ⟨a, B, sI, pins', σ', H', cls, d, rfl, J', nb, up, sky, na, os, ag, w⟩ := xx
    have J : Inv X pins σ' H' sI := J'.ofTry ok
    have sky' : Sky B (X.env :: X.outer) a (Zc cls d) X.env.locals s'.heap := by rw [← hs]; exact sky
    show wpAny (model X.prog X.w) X.A (noteFrame (.ref a) X.env) _ _ _
    refine Sky.land Zc.steady hfr hf sky' fun h3 fl3 up3 => ?_
    have J3 : Inv X pins σ' H' { s' with heap := h3 } := J.landed nb fl3.1 (up.trans up3) os ag
    obtain ⟨oe3, vs3, he3, hz3, hd3⟩ := fl3.there
    have notFr : ∀ {h : Heap} {o : Obj} {vs : Array Value}, h.FunFrames B (X.env :: X.outer) → h.get? a = some o → o.data = .fields vs → a ∉ frs (X.env :: X.outer) := fun {h o vs} ff e dd hm => by
      obtain ⟨_, o', e', hnf⟩ := ff.mem hm
      rw [e] at e'; cases e'
      exact hnf _ dd
    have nfr := notFr fl3.2.2.1 he3 hd3
    have nL : a ≠ X.env.locals := fun z => nfr (List.mem_filterMap.mpr ⟨X.env, List.mem_cons_self, by rw [hf, z]⟩)
    have nF : a ∉ X.fs := fun hm => by
      obtain ⟨e, he, q⟩ := List.mem_filterMap.mp hm
      exact nfr (List.mem_filterMap.mpr ⟨e, List.mem_cons_of_mem _ he, q⟩)
    have S3 := J3.suite he3 hd3 na nL nF
    have LT : PySem.W.Looks (model X.prog X.w) h3 (typeOf (.ref a)) cls := fun A Q E s k q => wpAny_typeOf_ref (k _ _ he3) (by rw [hz3.1]; exact q)
    have test : ∀ {x : Str} {c : Value} {np : Pos} {Q : Value → Shared → Prop} {E : Value → Shared → Prop}, Names X x c → Q c { s' with heap := h3 } → wpAny (model X.prog X.w) (X.A.mark (some (.ref a))) (eval (.Name x np) X.env) Q E { s' with heap := h3 } := fun {x c np Q E} hc q => by
      obtain ⟨hg, hdbg, hm | ⟨hm, hv, hnn⟩⟩ := hc
      · exact ld_glob (X := X.suite a ((a, oe3) :: (X.pn ++ pins))) S3 hg hm q hdbg
      · exact ld_blt (X := X.suite a ((a, oe3) :: (X.pn ++ pins))) S3 hg hm hv q hnn hdbg
    have go : ∀ {hds' : List ExceptHandler} {l' : List Cl}, HdG X hds' l' → wG X.K Wout D l' cls d σ' H' →
        wpAny (model X.prog X.w) X.A (handleBy (.ref a) X.env hds') (SP X pins D) X.xe { s' with heap := h3 } := by
      intro hds' l' hk
      induction hk with
      | nil =>
        intro w
        refine wpAny_handleBy_nil ?_
        obtain ⟨k1, k2, k3, oe, vs, T, oT, ts', he, hz, hd, h1, hr⟩ := id fl3
        unfold PySem.passOn
        refine wpAny_bind (wpAny_field he hd h1 ?_)
        rw [if_neg (show ¬ ((Value.ref T == Value.none) = true) from by simp)]
        have fin : wpAny (model X.prog X.w) X.A (setFlight (.ref a) X.env.frame) (fun _ s4 => wpAny (model X.prog X.w) X.A (throw (.ref a) : Sem Flow) (SP X pins D) X.xe s4) X.xe { s' with heap := h3 } := by
          rw [hf]
          refine HandSPX.setFlight_upZ fl3 fun h4 hh4 up4 => wpAny_throw (tk _ _ ?_)
          exact ⟨a, B, sI, pins, σ', H', cls, d, rfl, J, nb, (up.trans up3).trans up4, .inr (.inr (by rw [hs]; exact hh4)), na, os, ag, w⟩
        first
          | exact wpAny_bind (wpAny_pure (wpAny_bind fin))
          | exact wpAny_bind fin
      | @one x c ts b₀ suite np pos' hds2 l2 hc hsu r ih =>
        intro w
        obtain ⟨b, hb1, hyes, hno⟩ := w
        refine wpAny_handleBy_cons (codeAny_handlers_test ?_) (by intro q; cases q)
        have LM := PySem.W.exm_one (M := model X.prog X.w) (J3.kIn) LT hb1
        refine test hc (LM.here ?_)
        cases b with
        | true =>
          refine codeAny_handlers_suite ?_
          refine HandSPX.lands_againZ fl3 fun h4 fl4 up4 => ?_
          have J4 : Inv X pins σ' H' { s' with heap := h4 } := J.landed nb fl4.1 ((up.trans up3).trans up4) os ag
          obtain ⟨oe4, vs4, he4, hz4, hd4⟩ := fl4.there
          have S4 := J4.suite he4 hd4 na nL nF
          refine wpAny_mono ((hsu a oe4 cls d (X.pn ++ pins) hz4 ⟨_, hd4⟩).run [] _ _ H' _ S4 (hyes rfl a na)) (fun f s6 hsp => ?_) (fun _ _ z => False.elim z)
          cases f with
          | next =>
            obtain ⟨σ6, H6, S6, q6⟩ := hsp
            exact ⟨_, _, S6.unsuite ok, q6⟩
          | brk =>
            obtain ⟨σ6, H6, S6, q6⟩ := hsp
            exact ⟨_, _, S6.unsuite ok, q6⟩
          | cont =>
            obtain ⟨σ6, H6, S6, q6⟩ := hsp
            exact ⟨_, _, S6.unsuite ok, q6⟩
          | ret u =>
            obtain ⟨v6, σ6, H6, S6, r6, q6⟩ := hsp
            exact ⟨_, _, _, S6.unsuite ok, r6, q6⟩
        | false =>
          show wpAny _ X.A (handleBy (.ref a) X.env hds2) _ _ _
          exact ih (hno rfl)
      | @named x n c i ts b₀ suite np pos' hds2 l2 hN hi hln hc hsu r ih =>
        intro w
        obtain ⟨b, hb1, hyes, hno⟩ := w
        refine wpAny_handleBy_cons (codeAny_handlers_test ?_) (by intro q; cases q)
        have LM := PySem.W.exm_one (M := model X.prog X.w) (J3.kIn) LT hb1
        refine test hc (LM.here ?_)
        have hloc : Loc X.env.scope n := .inl hln
        cases b with
        | true =>
          refine codeAny_handlers_suite_as ?_
          refine HandSPX.lands_againZ fl3 fun h4 fl4 up4 => ?_
          have J4 : Inv X pins σ' H' { s' with heap := h4 } := J.landed nb fl4.1 ((up.trans up3).trans up4) os ag
          obtain ⟨oe4, vs4, he4, hz4, hd4⟩ := fl4.there
          have S4 := J4.suite he4 hd4 na nL nF
          refine store_ok (X := X.suite a ((a, oe4) :: (X.pn ++ pins))) (v := .ref a) S4 hN hi hloc rfl (fun s5 S5 => ?_) (.inr hln)
          refine wpAny_mono ((hsu a oe4 cls d (X.pn ++ pins) hz4 ⟨_, hd4⟩).run [] s5 _ H' _ S5 (hyes rfl a na)) (fun f s6 hsp => ?_) (fun _ _ z => False.elim z)
          have end_ : ∀ {σ6 : L2.St} {H6 : Hp} {Q : Shared → Prop}, Inv (X.suite a ((a, oe4) :: (X.pn ++ pins))) [] σ6 H6 s6 → (∀ s7, Inv X pins (σ6.set i none) H6 s7 → Q s7) →
              wpAny (model X.prog X.w) X.A (do bindName X.env n .none; unbindBehindTheSuite X.env n pos') (fun _ s7 => Q s7) X.xe s6 := fun {σ6 H6 Q} S6 hq => gone_ok (S6.unsuite ok) hN hi hln hq
          cases f with
          | next =>
            obtain ⟨σ6, H6, S6, q6⟩ := hsp
            exact end_ S6 fun s7 J7 => ⟨_, _, J7, q6⟩
          | brk =>
            obtain ⟨σ6, H6, S6, q6⟩ := hsp
            exact end_ S6 fun s7 J7 => ⟨_, _, J7, q6⟩
          | cont =>
            obtain ⟨σ6, H6, S6, q6⟩ := hsp
            exact end_ S6 fun s7 J7 => ⟨_, _, J7, q6⟩
          | ret u =>
            obtain ⟨v6, σ6, H6, S6, r6, q6⟩ := hsp
            exact end_ S6 fun s7 J7 => ⟨_, _, _, J7, r6, q6⟩
        | false =>
          show wpAny _ X.A (handleBy (.ref a) X.env hds2) _ _ _
          exact ih (hno rfl)
    exact go hh w
  · cases f with
    | next =>
      obtain ⟨σ', H', J', q⟩ := hsp
      exact ho.run pins s1 σ' H' D (J'.ofTry ok) q
    | brk =>
      obtain ⟨σ', H', J', q⟩ := hsp
      exact ⟨σ', H', J'.ofTry ok, q⟩
    | cont =>
      obtain ⟨σ', H', J', q⟩ := hsp
      exact ⟨σ', H', J'.ofTry ok, q⟩
    | ret u =>
      obtain ⟨v, σ', H', J', r, q⟩ := hsp
      exact ⟨v, σ', H', J'.ofTry ok, r, q⟩
end
def XeP (K : PySem.W.Frag) (a : Addr) (cls : Value) (d : Option Addr) (n : Str) (Q : VK) : VK := fun x H1 => x = .ref a ∧ ∃ C, cls = .ref C ∧ XI K C ∧ PySem.W.findIn K (.ref C) n = some none ∧ ∃ (dd : Addr) (fs : List (Str × V)) (v : V), d = some dd ∧ H1 dd = some (.xd fs) ∧ fs.lookup n = some v ∧ Q v H1
def tXe (K : PySem.W.Frag) (a : Addr) (cls : Value) (d : Option Addr) (n : Str) (te : TE) : TE := fun σ H Q => te σ H (XeP K a cls d n Q)
theorem pe_xe {X : Cx} {a : Addr} {oe : Obj} {cls : Value} {d : Option Addr} {pn : List (Addr × Obj)} {e : Expr} {te : TE} {pos : Pos} {n : Str}
    (hz : Zc cls d oe) (hf : ∃ vs, oe.data = .fields vs) (he : PE (X.suite a ((a, oe) :: pn)) e te) (hb : attributeBase e n X.env (eval e X.env) = eval e X.env := by rfl) :
    PE (X.suite a ((a, oe) :: pn)) (.Attribute e n pos) (tXe X.K a cls d n te) := by
  refine ⟨fun pins s σ H Q I h => ?_⟩
  refine attr_of hb (thn (he.run pins s σ H _ I h) fun u s1 hh => ?_)
  obtain ⟨x, H1, I1, rx, ex, C, ec, T, hno, dd, fs, v, ed, ea, l, q⟩ := hh
  subst ex
  obtain rfl : u = Value.ref a := rx
  subst ec
  subst ed
  obtain ⟨ha, _⟩ := I1.pin (a, oe) (List.mem_append_left _ List.mem_cons_self)
  obtain ⟨vs, hd⟩ := hf
  have hx : ObjOk X.prog X.w H1 s1.heap dd (.xd fs) := I1.hok dd _ ea
  obtain ⟨mA, hns, hr⟩ := hx
  obtain ⟨od, ho, hl⟩ := lookIn_ns hns
  obtain ⟨u, hu, ru⟩ := RelO.some_of (v := v) (o := mA n) (by rw [← l]; exact hr n)
  have J : PySem.W.InstAt s1.heap a oe C (some od) := ⟨ha, hz.1, by unfold PySem.W.notCls; rw [hd] <;> rfl, by rw [hz.2]; exact ho⟩
  exact HandSPX.exc_get I1.kIn J T.ga T.gg T.sb (PySem.W.findObj_own T.hd hno rfl (by rw [hl, hu])) (handed_of ru) ⟨v, H1, I1.tok _, ru, q⟩
def rIsX (K : PySem.W.Frag) (a : Addr) (cls : Value) (d : Option Addr) : List V → Hp → VK → Prop := fun xs H Q => ∃ (c : V) (cv : Value) (b : Bool) (C dd : Addr) (fs : List (Str × V)), xs = [.ref a, c] ∧ (∀ u, RelV c u → u = cv) ∧ cls = .ref C ∧ XI K C ∧ d = some dd ∧ H dd = some (.xd fs) ∧ PySem.W.kitOne K (.ref C) cv = some b ∧ Q (.bl b) H
structure BI (K : PySem.W.Frag) (mg : Str → Option Value) (nm : Str) : Prop where
  g : mg nm = some (.ref (clsA K nm))
  ga : PySem.W.specialIn K (.ref (clsA K nm)) "__getattribute__" = some (some (.builtin "type.__getattribute__"))
  rd : PySem.W.readsIn K (clsA K nm) (.type "type") = true
  fi : PySem.W.findCls K (.ref (clsA K nm)) (.type "type") "__init__" = some (.val (.builtin "ValueError.__init__"))
section
variable {X : Cx} {e : Expr} {es : List Expr} {ta : TA} {p1 p2 pos : Pos} {nm : Str}
theorem pe_oinit {pl : Sem Bool} (B : BI X.K X.mg nm) (hg : Gl X nm) (ha : PA X (e :: es) ta) (hdb : (nm == ("__debug__" : Str)) = false := by decide)
    (hc : eval (.Call (.Attribute (.Name nm p1) "__init__" p2) (e :: es) [] pos) X.env = (do
      let ov ← eval (.Name nm p1) X.env
      standAt p2.atName
      let (f, first) ← holding [ov] (getMethod ov "__init__" pl)
      callWith pos f first (backTo pos (starEach (e :: es) X.env)) (backToKw pos (keywordEach [] X.env))) := by rfl)
    (he : starEach (e :: es) X.env = (false, eval e X.env) :: starEach es X.env := by rfl) (hpl : (backTo pos (starEach es X.env)).any (·.1) = false := by rfl) :
    PE X (.Call (.Attribute (.Name nm p1) "__init__" p2) (e :: es) [] pos) (tVeI X.K ta) := by
  refine ⟨fun pins s σ H Q I h => ?_⟩
  refine PySem.W.methodCall_KW (ld_glob I hg B.g ?_ hdb) hc
  refine PySem.W.method_cls I.kIn B.ga (PySem.W.cls_value I.kIn B.rd B.fi (by decide +kernel) ?_)
  show wpAny _ _ (callWith pos (Value.builtin "ValueError.__init__") [] (backTo pos (starEach (e :: es) X.env)) []) _ _ _
  refine PyProof.Rows.callWith_method1 (thn (ha.run pos pins _ σ H _ (I.tok _) h) fun us s1 ⟨vs, H1, I1, r1, a, C, ws, ev, hl, T, ea, q⟩ => ?_) he hpl
  subst ev
  cases r1 with
  | @cons _ u0 _ ur ra rw' =>
    obtain rfl : u0 = Value.ref a := ra
    have hlen : ur.length ≤ sizeLine := by
      rw [← Paired.length rw', sizeLine_eq]
      omega
    exact oinit_ok T I1 ea hlen fun s' J => ⟨.non, H1, J, rfl, q⟩
end
/-- its __init__ of one field, of two -/
def spI1 (K : PySem.W.Frag) (f : Str) : Sp := fun vs H Q _ => ∃ (a C : Addr) (y : V), vs = [.ref a, y] ∧ OexC K C ∧ PySem.W.findIn K (.ref C) f = some none ∧ H a = some (exo a C none) ∧
  ∀ dx, H dx = none → dx ≠ a → Q .non (upd (upd H dx (exd dx [(f, y)])) a (exo a C (some dx)))
def spI2 (K : PySem.W.Frag) (f g : Str) : Sp := fun vs H Q _ => ∃ (a C : Addr) (y z : V), vs = [.ref a, y, z] ∧ OexC K C ∧ PySem.W.findIn K (.ref C) f = some none ∧ PySem.W.findIn K (.ref C) g = some none ∧ H a = some (exo a C none) ∧
  ∀ dx, H dx = none → dx ≠ a → Q .non (upd (upd (upd H dx (exd dx [(f, y)])) a (exo a C (some dx))) dx (exd dx [(g, z), (f, y)]))
structure EX (P : Program) (w : World) (K : PySem.W.Frag) (mg : Str → Option Value) (base : Heap) (nm : Str) (ps : List Str) (sp : Sp) : Prop where
  g : mg nm = some (.ref (clsA K nm))
  o : OexC K (clsA K nm)
  i : ∃ (fI : Addr) (fd : FuncData), PySem.W.findIn K (.ref (clsA K nm)) "__init__" = some (some (.ref fI)) ∧ PySem.W.typeIn K (.ref fI) = some (.type "function") ∧ FnOk P w K mg base CX0 1 fI fd ps sp ∧ Binds K fd ps []
def MkG (C : Addr) (sp : Sp) (vs : List V) (Q : XK) (H1 : Hp) : Prop := vs.length ≤ 1000 ∧ ∀ a, H1 a = none → sp (.ref a :: (vs ++ [])) (upd H1 a (exo a C none))
  (fun v H2 => v = .non ∧ ∃ (d : Addr) (fs : List (Str × V)), H2 a = some (exo a C (some d)) ∧ H2 d = some (exd d fs) ∧ H1 d = none ∧ Q (.ref C) (some d) (upd (del H2 a) d (.xd fs))) (fun _ _ _ => False)
def tRaise (C : Addr) (sp : Sp) (W : WX) (ta : TA) : TS := fun _ σ H => ta σ H fun vs H1 => MkG C sp vs (fun cls d H' => W cls d σ H') H1
section
variable {X : Cx} {e : Expr} {es : List Expr} {ta : TA} {p pos pos2 : Pos} {nm : Str} {ps : List Str} {sp : Sp} {W : WX}
theorem ps_raiseG (hc : X.calm = true) (T : EX X.prog X.w X.K X.mg X.base nm ps sp) (hr : Room 2 X.A) (tk : Takes X W) (hg : Gl X nm) (ha : PA X (e :: es) ta)
    (hdb : (nm == ("__debug__" : Str)) = false := by decide) (he : starEach (e :: es) X.env = (false, eval e X.env) :: starEach es X.env := by rfl) (hpl : (backTo pos (starEach es X.env)).any (·.1) = false := by rfl) :
    PS X (.Raise (some (.Call (.Name nm p) (e :: es) [] pos)) none pos2) (tRaise (clsA X.K nm) sp W ta) := by
  obtain ⟨fI, fd, i1, i2, i3, i4⟩ := T.i
  exact ps_raise hc tk (pmk_oex (dvs := []) T.o i1 i2 i3 hr i4 .nil pass0 hg T.g ha hdb he hpl)
end
theorem mk_heap {H1 : Hp} {a dx : Addr} {o1 o2 o3 u : HO} (hn : H1 a = none) (ne : dx ≠ a) : upd (del (upd (upd (upd H1 a o1) dx o2) a o3) a) dx u = upd H1 dx u := by
  funext b
  by_cases h1 : b = dx
  · rw [h1, upd_same, upd_same]
  · rw [upd_ne h1, upd_ne h1]
    by_cases h2 : b = a
    · rw [h2, del_same, hn]
    · rw [del_ne h2, upd_ne h2, upd_ne h1, upd_ne h2]
theorem mk_heap2 {H1 : Hp} {a dx : Addr} {o1 o2 o3 o4 u : HO} (hn : H1 a = none) (ne : dx ≠ a) : upd (del (upd (upd (upd (upd H1 a o1) dx o2) a o3) dx o4) a) dx u = upd H1 dx u := by
  funext b
  by_cases h1 : b = dx
  · rw [h1, upd_same, upd_same]
  · rw [upd_ne h1, upd_ne h1]
    by_cases h2 : b = a
    · rw [h2, del_same, hn]
    · rw [del_ne h2, upd_ne h1, upd_ne h2, upd_ne h1, upd_ne h2]
section
variable {K : PySem.W.Frag} {C : Addr} {Q : XK} {H : Hp} {f g : Str}
theorem st_mk1 {v : V} (T : OexC K C) (hf : PySem.W.findIn K (.ref C) f = some none) (h : ∀ d H', H d = none → Ex H H' → H' d = some (.xd [(f, v)]) → Q (.ref C) (some d) H') : MkG C (spI1 K f) [v] Q H := by
  refine ⟨(by decide : 1 ≤ 1000), fun a ha => ⟨a, C, v, rfl, T, hf, upd_same, fun dx hdx ne => ⟨rfl, dx, [(f, v)], upd_same, ?_, ?_, ?_⟩⟩⟩
  · rw [upd_ne ne]; exact upd_same
  · rw [upd_ne ne] at hdx; exact hdx
  · rw [upd_ne ne] at hdx
    rw [mk_heap ha ne]
    exact h dx _ hdx (Fr.new hdx) upd_same
theorem st_mk2 {v z : V} (T : OexC K C) (hf : PySem.W.findIn K (.ref C) f = some none) (hg : PySem.W.findIn K (.ref C) g = some none) (h : ∀ d H', H d = none → Ex H H' → H' d = some (.xd [(g, z), (f, v)]) → Q (.ref C) (some d) H') : MkG C (spI2 K f g) [v, z] Q H := by
  refine ⟨(by decide : 2 ≤ 1000), fun a ha => ⟨a, C, v, z, rfl, T, hf, hg, upd_same, fun dx hdx ne => ⟨rfl, dx, [(g, z), (f, v)], ?_, upd_same, ?_, ?_⟩⟩⟩
  · rw [upd_ne (Ne.symm ne)]; exact upd_same
  · rw [upd_ne ne] at hdx; exact hdx
  · rw [upd_ne ne] at hdx
    rw [mk_heap2 ha ne]
    exact h dx _ hdx (Fr.new hdx) upd_same
end
structure IniF (K : PySem.W.Frag) (nm qual : Str) (st : Stmt) (ps : List Str) : Prop where
  ex : ∃ (fI : Addr) (fd : FuncData), PySem.W.findIn K (.ref (clsA K nm)) "__init__" = some (some (.ref fI)) ∧ PySem.W.typeIn K (.ref fI) = some (.type "function") ∧ Fun K "__init__" qual st fI fd ∧ Binds K fd ps []
theorem ini_mk {K : PySem.W.Frag} {nm qual : Str} {st : Stmt} {ps : List Str} {f : Addr} {oc : Value} {od an : Option Addr} {osl : Array (Option Value)} {kV dc pm cd ct : Value} (i : PySem.W.findIn K (.ref (clsA K nm)) "__init__" = some (some (.ref f))) (t : PySem.W.typeIn K (.ref f) = some (.type "function"))
    (l : K.lookup f = some ⟨oc, od, .func (PySem.W.fnOf "__init__" qual (defArgs st) (defBody st) (defScope st) .none kV dc pm an cd ct), osl⟩) (c : PySem.W.codeIn K cd qual = true) (k : PySem.W.keepIn K (.ref f) = true)
    (hb : ∀ (kV doc pm : Value) (an : Option Addr) (cdv ct : Value) (us : List Value), us.length = ps.length → bindArgs (PySem.W.fnOf "__init__" qual (defArgs st) (defBody st) (defScope st) .none kV doc pm an cdv ct) ⟨us, []⟩ = pure (ps.zip us)) : IniF K nm qual st ps :=
  have F := fun_mk (st := st) l c k
  ⟨f, _, i, t, F, F.binds hb⟩
theorem xi_mk {K : PySem.W.Frag} {C : Addr} (ga : PySem.W.findIn K (.ref C) "__getattribute__" = some (some (.builtin "BaseException.__getattribute__"))) (gg : PySem.W.findIn K (.ref C) "__getattr__" = some none) (sb : PySem.W.subIn K (.ref C) (.type "BaseException") = some true) (hd : PySem.W.hasDictIn K C = true)
    (ca : PySem.W.findIn K (.ref C) "__class__" = some (some (.builtin "object.__class__"))) (cn : PySem.W.specialIn K (.builtin "object.__class__") "__get__" = some (some (.builtin "getset_descriptor.__get__"))) (ct : PySem.W.takesIn K (.builtin "object.__class__") = some true) (cm : PySem.W.mroIn K C (.type "object") = some true) : XI K C :=
  ⟨by obtain ⟨cd, hc, _⟩ := PySem.W.any_some hd; rw [hc]; rfl, ga, gg, sb, hd, ca, cn, ct, cm⟩
theorem ini1_go {K : PySem.W.Frag} {f tx : Str} {a C : Addr} {y : V} {H : Hp} {Q : VK} (hO : OexC K C) (hn : PySem.W.findIn K (.ref C) f = some none) (ha : H a = some (exo a C none))
    (k : ∀ dx, H dx = none → dx ≠ a → Q .non (upd (upd H dx (exd dx [(f, y)])) a (exo a C (some dx)))) :
    tSeq (tDrop (tVeI K (tCons (tVar 0) (tCons (tC (.str tx)) tNil)))) (tOst K f (tVar 0) (tVar 1)) { nx := fun _ H' => Q .non H', rt := Q } [some (.ref a), some y] H :=
  ⟨.ref a, rfl, a, C, [.str tx], rfl, Nat.le_of_ble_eq_true rfl, hO, ha, y, rfl, .ref a, rfl, a, C, rfl, hO, hn, .inl ⟨ha, k⟩⟩
/-- a thing of a kind that is known; a text not too long -/
def Thg (H : Hp) (v : V) : Prop := Ty H v ∧ ∀ z, v = .str z → z.length ≤ 16777216
theorem Thg.ex {H H' : Hp} {v : V} (h : Thg H v) (e : Ex H H') : Thg H' v := ⟨h.1.ex e, h.2⟩
/-- an error of the class nm that holds these fields is let out -/
def RaF (K : PySem.W.Frag) (E : XK) (H : Hp) (nm : Str) (fs : List (Str × V)) : Prop := ∀ d H', H d = none → Ex H H' → H' d = some (.xd fs) → E (.ref (clsA K nm)) (some d) H'
theorem RaF.ex {K : PySem.W.Frag} {E : XK} {H H1 : Hp} {nm : Str} {fs : List (Str × V)} (h : RaF K E H nm fs) (e : Ex H H1) : RaF K E H1 nm fs := fun d H' h1 h2 h3 => h d H' (Ex.free e h1) (e.trans h2) h3
section
variable {D : Ends} {σ : L2.St} {H : Hp} {Q : VK} {K : PySem.W.Frag}
theorem st_raise {C : Addr} {sp : Sp} {W : WX} {ta : TA} (h : ta σ H fun vs H1 => MkG C sp vs (fun cls d H' => W cls d σ H') H1) : tRaise C sp W ta D σ H := h
theorem st_try {Wout : WX} {tb : WX → TS} {u : TS} {l : List Cl} (h : tb (wG K Wout D l) { D with nx := u D } σ H) : tTry K Wout tb u l D σ H := h
theorem st_callS {sp : Sp} {W : WX} {t : TA} (h : t σ H fun vs H1 => sp vs H1 Q (WE W σ)) : tCallS sp (WE W) t σ H Q := h
theorem st_hYn {Wout : WX} {c : Value} {i : Nat} {ts : Addr → Value → Option Addr → TS} {r : List Cl} {cls : Value} {d : Option Addr} (e : PySem.W.exmOne K cls c = some true) (h : ∀ a, H a = none → ts a cls d { nx := fun σ' H' => D.nx (σ'.set i none) H', rt := D.rt, bk := fun σ' H' => D.bk (σ'.set i none) H', ct := fun σ' H' => D.ct (σ'.set i none) H' } (σ.set i (some (.ref a))) H) : wG K Wout D ((c, some i, ts) :: r) cls d σ H := ⟨true, e, fun _ => h, fun z => nomatch z⟩
theorem st_hY0 {Wout : WX} {c : Value} {ts : Addr → Value → Option Addr → TS} {r : List Cl} {cls : Value} {d : Option Addr} (e : PySem.W.exmOne K cls c = some true) (h : ∀ a, H a = none → ts a cls d D σ H) : wG K Wout D ((c, none, ts) :: r) cls d σ H := ⟨true, e, fun _ => h, fun z => nomatch z⟩
theorem st_hN {Wout : WX} {c : Value} {i : Option Nat} {ts : Addr → Value → Option Addr → TS} {r : List Cl} {cls : Value} {d : Option Addr} (e : PySem.W.exmOne K cls c = some false) (h : wG K Wout D r cls d σ H) : wG K Wout D ((c, i, ts) :: r) cls d σ H := ⟨false, e, (fun z => by cases z), fun _ => h⟩
theorem st_xe {a : Addr} {cls : Value} {d : Option Addr} {n : Str} {te : TE} (h : te σ H (XeP K a cls d n Q)) : tXe K a cls d n te σ H Q := h
theorem st_xeP {a C dd : Addr} {n : Str} {fs : List (Str × V)} {v : V} (T : XI K C) (hno : PySem.W.findIn K (.ref C) n = some none) (h1 : H dd = some (.xd fs)) (h2 : fs.lookup n = some v) (h : Q v H) : XeP K a (.ref C) (some dd) n Q (.ref a) H := ⟨rfl, C, rfl, T, hno, dd, fs, v, rfl, h1, h2, h⟩
theorem st_isX {a C C' dd : Addr} {fs : List (Str × V)} {b : Bool} (T : XI K C) (h1 : H dd = some (.xd fs)) (e : PySem.W.kitOne K (.ref C) (.ref C') = some b) (h : Q (.bl b) H) : rIsX K a (.ref C) (some dd) [.ref a, .ref C'] H Q := ⟨.ref C', .ref C', b, C, dd, fs, rfl, fun _ r => r, rfl, T, rfl, h1, e, h⟩
theorem st_isXT {a C dd : Addr} {fs : List (Str × V)} {n : String} {b : Bool} (T : XI K C) (h1 : H dd = some (.xd fs)) (e : PySem.W.kitOne K (.ref C) (.type n) = some b) (h : Q (.bl b) H) : rIsX K a (.ref C) (some dd) [.ref a, .ty n] H Q := ⟨.ty n, .type n, b, C, dd, fs, rfl, fun _ r => r, rfl, T, rfl, h1, e, h⟩
end
end Zb
namespace Zb
open PySem PySem.Spec PyProof.Rows L2
abbrev ixSt (lo hi : Option Int) (k : Int) (n : Nat) : List Nat := Builtin.Str.strSliceIndices lo hi k n
def pick {α : Type} (is : List Nat) (xs : List α) : List α := is.filterMap (xs[·]?)
theorem vals_pick {xs : List V} {its : List Value} (r : Vals xs its) : ∀ is : List Nat, Vals (pick is xs) (pick is its)
  | [] => .nil
  | i :: is => by
    have ih := vals_pick r is
    unfold pick at ih ⊢
    rw [List.filterMap_cons, List.filterMap_cons]
    cases e : xs[i]? with
    | some v =>
      obtain ⟨u, hu, ru⟩ := r.get e
      rw [hu]
      exact .cons ru ih
    | none =>
      have hl := r.length
      rw [List.getElem?_eq_none (by rw [List.getElem?_eq_none_iff] at e; omega)]
      exact ih
theorem pick_get {α : Type} {xs : List α} : ∀ {is : List Nat}, (∀ j ∈ is, j < xs.length) → ∀ i : Nat, (pick is xs)[i]? = is[i]?.bind (xs[·]?)
  | [], _, i => by simp [pick]
  | j :: is, h, i => by
    have hj := h j List.mem_cons_self
    have ih := pick_get (xs := xs) (is := is) fun k hk => h k (List.mem_cons_of_mem _ hk)
    unfold pick at ih ⊢
    rw [List.filterMap_cons, List.getElem?_eq_getElem hj]
    cases i with
    | zero => simp [hj]
    | succ i => simpa using ih i
theorem pick_rev {α : Type} (xs : List α) : pick (ixSt none none (-1) xs.length) xs = xs.reverse := by
  have e : ixSt none none (-1) xs.length = (List.range xs.length).map fun (i : Nat) => ((xs.length : Int) - 1 + (-1) * (i : Int)).toNat := by
    show sliceRange _ _ _ = _
    unfold sliceRange
    have h0 : ¬ ((-1 : Int) > 0) := by decide
    simp only [h0, if_false]
    by_cases h : xs.length = 0
    · rw [h]; rfl
    · have h1 : ((xs.length : Int) - 1) > -1 := by omega
      simp only [h1, if_true]
      have h2 : (((xs.length : Int) - 1 - -1 - -1 - 1) / - -1).toNat = xs.length := by rw [Int.neg_neg, Int.ediv_one]; omega
      rw [h2]
  apply List.ext_getElem?
  intro i
  rw [pick_get (fun j hj => by
    rw [e, List.mem_map] at hj
    obtain ⟨i, hi, rfl⟩ := hj
    rw [List.mem_range] at hi
    show ((xs.length : Int) - 1 + (-1) * (i : Int)).toNat < xs.length
    omega), e, List.getElem?_map]
  by_cases hi : i < xs.length
  · rw [List.getElem?_range hi, List.getElem?_reverse hi]
    show xs[((xs.length : Int) - 1 + (-1) * (i : Int)).toNat]? = _
    congr 1
    omega
  · rw [List.getElem?_eq_none (l := List.range _) (by rw [List.length_range]; omega), List.getElem?_eq_none (l := xs.reverse) (by rw [List.length_reverse]; omega)]
    rfl
/-- the items at 0, 2, .. ; at 1, 3, .. -/
def evL {α : Type} : List α → List α
  | [] => []
  | [a] => [a]
  | a :: _ :: r => a :: evL r
def odL {α : Type} : List α → List α
  | [] => []
  | [_] => []
  | _ :: b :: r => b :: odL r
theorem evL_get {α : Type} : ∀ (xs : List α) (i : Nat), (evL xs)[i]? = xs[2 * i]?
  | [], i => by simp [evL]
  | [a], i => by cases i <;> simp [evL]
  | a :: b :: r, i => by
    cases i with
    | zero => simp [evL]
    | succ i =>
      have ih := evL_get r i
      show (a :: evL r)[i + 1]? = (a :: b :: r)[2 * (i + 1)]?
      rw [List.getElem?_cons_succ, ih, show 2 * (i + 1) = 2 * i + 1 + 1 from rfl, List.getElem?_cons_succ, List.getElem?_cons_succ]
theorem odL_get {α : Type} : ∀ (xs : List α) (i : Nat), (odL xs)[i]? = xs[2 * i + 1]?
  | [], i => by simp [odL]
  | [a], i => by simp [odL]
  | a :: b :: r, i => by
    cases i with
    | zero => simp [odL]
    | succ i =>
      have ih := odL_get r i
      show (b :: odL r)[i + 1]? = (a :: b :: r)[2 * (i + 1) + 1]?
      rw [List.getElem?_cons_succ, ih, show 2 * (i + 1) + 1 = 2 * i + 1 + 1 + 1 from rfl, List.getElem?_cons_succ, List.getElem?_cons_succ]
theorem pick_ev {α : Type} (xs : List α) : pick (ixSt none none 2 xs.length) xs = evL xs := by
  have e : ixSt none none 2 xs.length = (List.range ((xs.length + 1) / 2)).map fun (i : Nat) => ((0 : Int) + 2 * (i : Int)).toNat := by
    show sliceRange _ _ _ = _
    unfold sliceRange
    have h0 : ((2 : Int) > 0) := by decide
    simp only [h0, if_true]
    by_cases h : xs.length = 0
    · rw [h]; rfl
    · have h1 : (0 : Int) < (xs.length : Int) := by omega
      simp only [h1, if_true]
      have h2 : (((xs.length : Int) - 0 + 2 - 1) / 2).toNat = (xs.length + 1) / 2 := by omega
      rw [h2]
  apply List.ext_getElem?
  intro i
  rw [pick_get (fun j hj => by
    rw [e, List.mem_map] at hj
    obtain ⟨i, hi, rfl⟩ := hj
    rw [List.mem_range] at hi
    show ((0 : Int) + 2 * (i : Int)).toNat < xs.length
    omega), e, List.getElem?_map, evL_get]
  by_cases hi : i < (xs.length + 1) / 2
  · rw [List.getElem?_range hi]
    show xs[((0 : Int) + 2 * (i : Int)).toNat]? = _
    congr 1
    omega
  · rw [List.getElem?_eq_none (l := List.range _) (by rw [List.length_range]; omega), List.getElem?_eq_none (l := xs) (by omega)]
    rfl
theorem pick_od {α : Type} (xs : List α) : pick (ixSt (some 1) none 2 xs.length) xs = odL xs := by
  have e : ixSt (some 1) none 2 xs.length = (List.range (xs.length / 2)).map fun (i : Nat) => ((1 : Int) + 2 * (i : Int)).toNat := by
    show sliceRange _ _ _ = _
    unfold sliceRange
    have h0 : ((2 : Int) > 0) := by decide
    have h9 : ¬ ((1 : Int) < 0) := by decide
    simp only [h0, h9, if_true, if_false]
    by_cases h : xs.length = 0
    · rw [h]; rfl
    · have h3 : (max 0 (min 1 (xs.length : Int))) = 1 := by omega
      rw [h3]
      by_cases h1 : (1 : Int) < (xs.length : Int)
      · simp only [h1, if_true]
        have h2 : (((xs.length : Int) - 1 + 2 - 1) / 2).toNat = xs.length / 2 := by omega
        rw [h2]
      · simp only [h1, if_false]
        have h2 : xs.length / 2 = 0 := by omega
        rw [h2]
        rfl
  apply List.ext_getElem?
  intro i
  rw [pick_get (fun j hj => by
    rw [e, List.mem_map] at hj
    obtain ⟨i, hi, rfl⟩ := hj
    rw [List.mem_range] at hi
    show ((1 : Int) + 2 * (i : Int)).toNat < xs.length
    omega), e, List.getElem?_map, odL_get]
  by_cases hi : i < xs.length / 2
  · rw [List.getElem?_range hi]
    show xs[((1 : Int) + 2 * (i : Int)).toNat]? = _
    congr 1
    omega
  · rw [List.getElem?_eq_none (l := List.range _) (by rw [List.length_range]; omega), List.getElem?_eq_none (l := xs) (by omega)]
    rfl
theorem pick_len {α : Type} (is : List Nat) (xs : List α) : (pick is xs).length ≤ is.length := List.length_filterMap_le _ _
theorem ixSt_len (lo hi : Option Int) (k : Int) (n : Nat) : (ixSt lo hi k n).length ≤ n := by
  have h := PySem.sliceRange_length_le (sliceBounds lo hi (some k) n).1 (sliceBounds lo hi (some k) n).2.1 (sliceBounds lo hi (some k) n).2.2 n (fun hc => ?_) (fun hc => ?_)
  · exact h
  · simp only [sliceBounds, Option.getD_some] at hc ⊢
    simp only [hc, if_true]
    constructor
    · cases lo with
      | none => simp
      | some i => dsimp only; omega
    · cases hi with
      | none => simp
      | some i => dsimp only; omega
  · simp only [sliceBounds, Option.getD_some] at hc ⊢
    simp only [hc, if_false]
    constructor
    · cases lo with
      | none => simp
      | some i => dsimp only; omega
    · cases hi with
      | none => simp
      | some i => dsimp only; omega
def rSt (K : PySem.W.Frag) : V → Option Int → Option Int → Int → Hp → VK → Prop := fun x lo hi k H Q => match x with
  | .str z => z.length ≤ 16777216 ∧ k ≠ 0 ∧ k ≠ 1 ∧ Q (.str (tx (pick (ixSt lo hi k z.length) z.cps.toList))) H
  | .ref p => ∃ xs, SqL K H p xs ∧ k ≠ 0 ∧ ∀ q, H q = none → Q (.ref q) (upd H q (.lst (pick (ixSt lo hi k xs.length) xs)))
  | _ => False
def tSt (r : V → Option Int → Option Int → Int → Hp → VK → Prop) (te : TE) (tl th : TO) (ts : TE) : TE := fun σ H Q => te σ H fun x H1 => tl σ H1 fun l H2 => th σ H2 fun u H3 => ts σ H3 fun s H4 => ∃ k, s = .int k ∧ r x l u k H4 Q
section
variable {X : Cx} {e st : Expr} {te ts : TE} {lo hi : Option Expr} {tl th : TO} {pos p2 : Pos} {K : PySem.W.Frag}
theorem pe_slice3 (he : PE X e te) (hl : PO X lo tl) (hu : PO X hi th) (hs : PE X st ts) (hK : X.K = K := by rfl) : PE X (.Subscript e (.Slice lo hi (some st) p2) pos) (tSt (rSt K) te tl th ts) := by
  subst hK
  refine ⟨fun pins s σ H Q I h => ?_⟩
  rw [eval_Subscript]
  refine wpAny_bind (thn (he.run pins s σ H _ I h) fun v s1 ⟨x, H1, I1, r1, q1⟩ => wpAny_bind (wpAny_holding (wpAny_Slice (thn (hl.run pins s1 σ H1 _ I1 q1) fun vl s2 ⟨l, H2, I2, pl, q2⟩ => thn (hu.run pins s2 σ H2 _ I2 q2) fun vu s3 ⟨u, H3, I3, pu, q3⟩ => ?_))))
  rw [evalPart_some]
  refine thn (hs.run pins s3 σ H3 _ I3 q3) fun vk s4 ⟨xk, H4, I4, rk, q4⟩ => ?_
  obtain ⟨k, ek, q⟩ := q4
  subst ek
  obtain ⟨tk, rfl⟩ := rk
  refine wpAny_bind (wpAny_standAt ?_)
  have I5 : Inv X pins σ H4 { s4 with heap := s4.heap.push { cls := .type "slice", data := .fields #[vl, vu, .int k tk] } } := I4.kept (t' := s4.toks) fun b ob q => Heap.get?_push_of_some _ q
  have go : ∀ {T id : String}, typeLookup (.type T) "__getitem__" = pure (some (.builtin id)) → ({ s4 with heap := s4.heap.push { cls := .type "slice", data := .fields #[vl, vu, .int k tk] } } : Shared).TypeIs v T → wpAny (model X.prog X.w) X.A (getItem v (.ref s4.heap.objs.size)) (EP X pins σ Q) X.xe { s4 with heap := s4.heap.push { cls := .type "slice", data := .fields #[vl, vu, .int k tk] } } →
      wpAny (model X.prog X.w) X.A (subscriptTail e (.Slice lo hi (some st) p2) v (.ref s4.heap.objs.size)) (EP X pins σ Q) X.xe { s4 with heap := s4.heap.push { cls := .type "slice", data := .fields #[vl, vu, .int k tk] } } := by
    intro T id hT ht hg
    exact tail_any (ops := [v, .ref s4.heap.objs.size]) ht hT hg (by with_unfolding_all rfl)
  have hsl : ({ s4 with heap := s4.heap.push { cls := .type "slice", data := .fields #[vl, vu, .int k tk] } } : Shared).heap.IsSliceOf s4.heap.objs.size vl vu (.int k tk) := Heap.IsSliceOf.new ..
  cases x with
  | str z =>
    obtain ⟨hz, hk0, hk1, q⟩ := q
    obtain ⟨tz, rfl⟩ := r1
    obtain ⟨l', rfl, rfl⟩ := IsPart.raw pl
    obtain ⟨u', rfl, rfl⟩ := IsPart.raw pu
    refine go F.slot_str_getitem.lookup (typeIs_str _ _ _) ?_
    refine wpAny_getItem_str_slice (l := l') (u := u') (st := some (k, tk)) hsl (by simpa using hk0) ?_
    have c : ¬ ((k == 1 && (ixSt (l'.map (·.1)) (u'.map (·.1)) k z.length).length == z.length) = true) := by
      intro z
      rw [Bool.and_eq_true] at z
      exact hk1 (by simpa using z.1)
    show Made.post (if (k == 1 && (ixSt (l'.map (·.1)) (u'.map (·.1)) k z.length).length == z.length) = true then Made.val (.str z tz)
      else Made.str ⟨((ixSt (l'.map (·.1)) (u'.map (·.1)) k z.length).filterMap (z.cps[·]?)).toArray⟩) (EP X pins σ Q) _
    rw [if_neg c]
    have e1 : (ixSt (l'.map (·.1)) (u'.map (·.1)) k z.length).filterMap (z.cps[·]?) = pick (ixSt (l'.map (·.1)) (u'.map (·.1)) k z.length) z.cps.toList := by
      unfold pick
      congr 1
      funext j
      rw [Array.getElem?_toList]
    rw [e1]
    refine ⟨?_, .str _, H4, I5.tok _, ⟨_, rfl⟩, q⟩
    show (tx (pick _ _)).length ≤ sizeLine
    rw [tx_length, sl16]
    exact Nat.le_trans (pick_len _ _) (Nat.le_trans (ixSt_len _ _ _ _) hz)
  | ref p =>
    obtain ⟨xs, hx, hk0, q⟩ := q
    obtain rfl : v = Value.ref p := r1
    obtain ⟨its, r, ht, hz⟩ := I5.list hx
    have hlen := r.length
    refine go slot_list_getitem.lookup ht.isList.typeIs ?_
    refine wpAny_getItem_list_slice ht.isList hsl pl pu (.int k tk) (by simpa using hk0) ?_ (by rw [List.size_toArray] <;> omega)
    have e1 : slicePick its.toArray l u (some k) = (pick (ixSt l u k xs.length) its).toArray := by
      unfold slicePick pick
      congr 1
      rw [hlen]
      show (ixSt l u k its.toArray.size).filterMap _ = _
      rw [List.size_toArray]
      congr 1
      funext j
      rw [List.getElem?_toArray]
    rw [e1]
    refine ⟨.ref _, _, I5.laid (t' := s4.toks) (o := .lst (pick (ixSt l u k xs.length) xs)) (fun b ob q => Heap.get?_push_of_some _ q) (Nat.le_refl _) ?_, rfl, q _ (I5.hok.fresh (Nat.le_refl _))⟩
    exact ⟨Nat.le_trans (pick_len _ _) (Nat.le_trans (ixSt_len _ _ _ _) hz), _, 0, vals_pick r _, Heap.get?_push_size _ rfl⟩
  | _ => exact q.elim
end
section
variable {K : PySem.W.Frag} {H : Hp} {σ : L2.St} {Q : VK}
theorem st_st3 {r : V → Option Int → Option Int → Int → Hp → VK → Prop} {te ts : TE} {tl th : TO} (h : te σ H fun x H1 => tl σ H1 fun l H2 => th σ H2 fun u H3 => ts σ H3 fun s H4 => ∃ k, s = .int k ∧ r x l u k H4 Q) : tSt r te tl th ts σ H Q := h
theorem st_revS {z : Str} (hz : z.length ≤ 16777216) (h : Q (.str (tx z.cps.toList.reverse)) H) : rSt K (.str z) none none (-1) H Q := ⟨hz, by decide, by decide, by
  have e : z.length = z.cps.toList.length := Array.length_toList.symm
  rw [e, pick_rev]; exact h⟩
theorem st_evS {z : Str} (hz : z.length ≤ 16777216) (h : Q (.str (tx (evL z.cps.toList))) H) : rSt K (.str z) none none 2 H Q := ⟨hz, by decide, by decide, by
  have e : z.length = z.cps.toList.length := Array.length_toList.symm
  rw [e, pick_ev]; exact h⟩
theorem st_odS {z : Str} (hz : z.length ≤ 16777216) (h : Q (.str (tx (odL z.cps.toList))) H) : rSt K (.str z) (some 1) none 2 H Q := ⟨hz, by decide, by decide, by
  have e : z.length = z.cps.toList.length := Array.length_toList.symm
  rw [e, pick_od]; exact h⟩
theorem st_revL {p : Addr} {xs : List V} (hx : SqL K H p xs) (h : ∀ q H', H q = none → Ex H H' → H' q = some (.lst xs.reverse) → Q (.ref q) H') : rSt K (.ref p) none none (-1) H Q := ⟨xs, hx, by decide, fun q hq => by
  rw [pick_rev]; exact h q _ hq (Fr.new hq) upd_same⟩
end
end Zb
namespace Zb
open PySem PySem.Spec PyProof.Rows L2 PySem.SeqAt
inductive PEq (H : Hp) : V → V → Bool → Prop
  | same (a : Addr) : PEq H (.ref a) (.ref a) true
  | dat {x y : V} {d e : PyData} : Rp H x d → Rp H y e → min d.depth e.depth ≤ 60 → PEq H x y (PyData.eqv d e)
inductive PEqs (H : Hp) : List V → List V → List Bool → Prop
  | nil : PEqs H [] [] []
  | cons {x y : V} {b : Bool} {xs ys : List V} {bs : List Bool} : PEq H x y b → PEqs H xs ys bs → PEqs H (x :: xs) (y :: ys) (b :: bs)
theorem PEqs.len {H : Hp} : ∀ {xs ys : List V} {bs : List Bool}, PEqs H xs ys bs → ys.length = xs.length ∧ bs.length = xs.length
  | _, _, _, .nil => ⟨rfl, rfl⟩
  | _, _, _, .cons _ r => ⟨congrArg (· + 1) r.len.1, congrArg (· + 1) r.len.2⟩
theorem PEqs.at {H : Hp} : ∀ {xs ys : List V} {bs : List Bool}, PEqs H xs ys bs → ∀ j (x y : V), xs[j]? = some x → ys[j]? = some y → PEq H x y (bs.getD j true)
  | _, _, _, .nil, j, x, y, h, _ => by simp at h
  | _, _, _, .cons a r, 0, x, y, h, k => by
    have e1 : _ = x := Option.some.inj h
    have e2 : _ = y := Option.some.inj k
    rw [← e1, ← e2]
    exact a
  | _, _, _, .cons a r, j + 1, x, y, h, k => by
    have h : _ = some x := h
    have := r.at j x y (by simpa using h) (by simpa using k)
    simpa using this
section
variable {X : Cx} {H : Hp} {Q : VK} {σ : L2.St}
def rIsN : R2 := fun x y H Q => y = .non ∧ Q (.bl (decide (x = .non))) H
def rNotN : R2 := fun x y H Q => y = .non ∧ Q (.bl (!decide (x = .non))) H
theorem o_isN : OpR X (compareOp .Is) Zb.rIsN := op_isN
theorem o_notN : OpR X (compareOp .IsNot) Zb.rNotN := op_notN
theorem st_isN {x : V} (h : Q (.bl (decide (x = .non))) H) : Zb.rIsN x .non H Q := ⟨rfl, h⟩
theorem st_notN {x : V} (h : Q (.bl (!decide (x = .non))) H) : Zb.rNotN x .non H Q := ⟨rfl, h⟩
def rInt1 : List V → Hp → VK → Prop := fun vs H Q => match vs with
  | [.int i] => Q (.int i) H
  | [.bl k] => Q (.int (if k then 1 else 0)) H
  | _ => False
theorem c_int : CallR X (.type "int") rInt1 := by
  intro pins s σ H xs us Q I r h
  unfold rInt1 at h
  split at h
  · exact call_int1 pins s σ H _ us Q I r (.inl ⟨_, rfl, h⟩)
  · exact call_int1 pins s σ H _ us Q I r (.inr ⟨_, rfl, h⟩)
  · exact h.elim
theorem st_intI {i : Int} (h : Q (.int i) H) : rInt1 [.int i] H Q := h
theorem st_intB {k : Bool} (h : Q (.int (if k then 1 else 0)) H) : rInt1 [.bl k] H Q := h
theorem runs_rangeC (lo c : Int) (n : Nat) : Runs (Itc lo c n) n (fun _ => True) (fun i x H H' => H' = H ∧ x = .int (lo + (i : Nat) * c)) :=
  ⟨fun _ _ h _ => h, fun _ _ => Nat.le_refl _, fun _ _ _ _ _ _ y => y⟩
theorem st_iR3 {ta : TA} {R : It → Hp → Prop} (h : ta σ H (fun vs H1 => ∃ (i j c : Int) (n : Nat), vs = [.int i, .int j, .int c] ∧ RgC i j c n ∧ R (Itc i c n) H1)) : iRng3 ta σ H R := h
theorem st_isR3 {i j c : Int} (n : Nat) {P : Int → Int → Int → Nat → Prop} (h1 : RgC i j c n) (h : P i j c n) : ∃ (i' j' c' : Int) (n : Nat), [V.int i, .int j, .int c] = [.int i', .int j', .int c'] ∧ RgC i' j' c' n ∧ P i' j' c' n := ⟨i, j, c, n, rfl, h1, h⟩
end
theorem rgc_pos {i j c : Int} {n : Nat} (h0 : 0 < c) (h1 : c < 1048576) (hi : -1099511627776 ≤ i) (hi' : i < 1099511627776) (hj : -1099511627776 ≤ j) (hj' : j < 1099511627776) (hn : (n = 0 ∧ j ≤ i) ∨ (0 < n ∧ ((n : Int) - 1) * c < j - i ∧ j - i ≤ (n : Int) * c)) : RgC i j c n := by
  have hr : Builtin.Range.rangeSize i j c = n := by
    unfold Builtin.Range.rangeSize
    rw [if_pos h0]
    rcases hn with ⟨rfl, h⟩ | ⟨hp, ha, hb⟩
    · rw [if_neg (by omega)]; rfl
    · have hm : 0 ≤ ((n : Int) - 1) * c := Int.mul_nonneg (by omega) (by omega)
      rw [if_pos (by omega)]
      have e1 : (n : Int) - 1 ≤ (j - i - 1) / c := (Int.le_ediv_iff_mul_le h0).mpr (by omega)
      have e2 : (j - i - 1) / c < n := (Int.ediv_lt_iff_lt_mul h0).mpr (by omega)
      omega
  refine ⟨by omega, by omega, ?_, hr⟩
  unfold Builtin.Range.small
  rw [hr]
  simp only [Builtin.Range.rangeFitsLong, Bool.and_eq_true, Bool.or_eq_true, decide_eq_true_eq, beq_iff_eq, h0, if_true]
  have hb : (n : Int) ≤ 2199023255552 := by
    rcases hn with ⟨rfl, h⟩ | ⟨hp, ha, hb⟩
    · decide
    · have : ((n : Int) - 1) * 1 ≤ ((n : Int) - 1) * c := Int.mul_le_mul_of_nonneg_left (by omega) (by omega)
      omega
  omega
end Zb
namespace Zb
open PySem PySem.Spec PyProof.Rows L2
/-- at these addresses these objects -/
inductive ObjsAt (H : Hp) : List Addr → List HO → Prop
  | nil : ObjsAt H [] []
  | cons {a : Addr} {o : HO} {ts : List Addr} {os : List HO} : H a = some o → ObjsAt H ts os → ObjsAt H (a :: ts) (o :: os)
section
variable {H H' : Hp}
theorem ObjsAt.len : ∀ {ts : List Addr} {os : List HO}, ObjsAt H ts os → ts.length = os.length
  | _, _, .nil => rfl
  | _, _, .cons _ r => congrArg (· + 1) r.len
theorem ObjsAt.ex (e : Ex H H') : ∀ {ts : List Addr} {os : List HO}, ObjsAt H ts os → ObjsAt H' ts os
  | _, _, .nil => .nil
  | _, _, .cons h r => .cons (e.get h) (r.ex e)
theorem ObjsAt.fr {M : Addr → Prop} (e : Fr M H H') : ∀ {ts : List Addr} {os : List HO}, (∀ a ∈ ts, ¬ M a) → ObjsAt H ts os → ObjsAt H' ts os
  | _, _, _, .nil => .nil
  | _, _, hm, .cons h r => .cons (e _ _ (hm _ List.mem_cons_self) h) (r.fr e fun a ha => hm a (List.mem_cons_of_mem _ ha))
theorem ObjsAt.up {D : Addr} {u : HO} : ∀ {ts : List Addr} {os : List HO}, D ∉ ts → ObjsAt H ts os → ObjsAt (upd H D u) ts os
  | _, _, _, .nil => .nil
  | _, _, hn, .cons h r => .cons (by rw [upd_ne (fun z => hn (by rw [← z]; exact List.mem_cons_self))]; exact h) (r.up fun z => hn (List.mem_cons_of_mem _ z))
theorem ObjsAt.app : ∀ {ts us : List Addr} {os ps : List HO}, ObjsAt H ts os → ObjsAt H us ps → ObjsAt H (ts ++ us) (os ++ ps)
  | _, _, _, _, .nil, k => k
  | _, _, _, _, .cons h r, k => .cons h (r.app k)
theorem ObjsAt.one {a : Addr} {o : HO} (h : H a = some o) : ObjsAt H [a] [o] := .cons h .nil
theorem ObjsAt.at : ∀ {ts : List Addr} {os : List HO}, ObjsAt H ts os → ∀ (k : Nat) a o, ts[k]? = some a → os[k]? = some o → H a = some o
  | _, _, .nil, k, a, o, h, _ => by simp at h
  | _, _, .cons h r, 0, a, o, h1, h2 => by
    have e1 : _ = a := Option.some.inj h1
    have e2 : _ = o := Option.some.inj h2
    rw [← e1, ← e2]; exact h
  | _, _, .cons h r, k + 1, a, o, h1, h2 => r.at k a o (by simpa using h1) (by simpa using h2)
theorem ObjsAt.of : ∀ {ts : List Addr} {os : List HO}, ts.length = os.length → (∀ (k : Nat) a o, ts[k]? = some a → os[k]? = some o → H a = some o) → ObjsAt H ts os
  | [], [], _, _ => .nil
  | [], _ :: _, h, _ => by simp at h
  | _ :: _, [], h, _ => by simp at h
  | a :: ts, o :: os, h, k => .cons (k 0 a o rfl rfl) (ObjsAt.of (by simpa using h) fun j x y h1 h2 => k (j + 1) x y (by simpa using h1) (by simpa using h2))
/-- one of them changes -/
theorem ObjsAt.set {a : Addr} {u : HO} {ts : List Addr} {os : List HO} {k : Nat} (h : ObjsAt H ts os) (nd : ts.Nodup) (hk : ts[k]? = some a) : ObjsAt (upd H a u) ts (os.set k u) := by
  refine .of (by rw [List.length_set, h.len]) fun j b o h1 h2 => ?_
  by_cases e : j = k
  · subst e
    rw [hk] at h1
    cases h1
    have hl : j < os.length := by
      rw [← h.len]
      exact (List.getElem?_eq_some_iff.mp hk).1
    rw [List.getElem?_set_self hl] at h2
    cases h2
    exact upd_same
  · rw [List.getElem?_set_ne (Ne.symm e)] at h2
    rw [upd_ne (fun z : b = a => e (nd_ix nd h1 (by rw [z]; exact hk)))]
    exact h.at j b o h1 h2
end
section
variable {J : It} {S : Hp → Prop} {g : TG} {σ : L2.St} {H1 : Hp}
theorem lc_objs {α : Type} {ys : List α} {val : α → V} {tt : TT} {te : TE} {vs : List Nat} {Q : VK} (hR : RunsV J ys val S) (hS : ∀ H', Ex H1 H' → S H') (hz : ys.length < 1000000) (p : α → Bool) (o : α → HO)
    (hs : ∀ y H', y ∈ ys → Ex H1 H' → ∀ (B : V → Hp → Prop) (A : Hp → Prop), (p y = true → ∀ a H'', H' a = none → Ex H' H'' → H'' a = some (o y) → B (.ref a) H'') → (p y = false → ∀ H'', Ex H' H'' → A H'') → g (val y) (wipe σ vs) H' fun σ2 H2 => wipe σ2 vs = wipe σ vs ∧ tt σ2 H2 fun b H3 => if b = true then te σ2 H3 B else A H3)
    (hd : ∀ D H' ts, H1 D = none → Ex H1 H' → H' D = some (.lst (ts.map V.ref)) → ObjsAt H' ts ((ys.filter p).map o) → ts.Nodup → D ∉ ts → (∀ a ∈ ts, H1 a = none) → Q (.ref D) H') : LcGoal J g tt te vs σ Q H1 := by
  intro D hD
  obtain ⟨W, hW⟩ : ∃ W : Nat → Hp → Prop, W = fun i H => ∃ ts : List Addr, H D = some (.lst (ts.map V.ref)) ∧ Ex H1 H ∧ ObjsAt H ts (((ys.take i).filter p).map o) ∧ ts.Nodup ∧ D ∉ ts ∧ ∀ a ∈ ts, H1 a = none := ⟨_, rfl⟩
  have hWi : ∀ i H, W i H ↔ ∃ ts : List Addr, H D = some (.lst (ts.map V.ref)) ∧ Ex H1 H ∧ ObjsAt H ts (((ys.take i).filter p).map o) ∧ ts.Nodup ∧ D ∉ ts ∧ ∀ a ∈ ts, H1 a = none := fun i H => by rw [hW]
  refine ⟨fun i m H => m = ys.length - i ∧ i ≤ ys.length ∧ W i H, ⟨ys.length, by simp, Nat.zero_le _, (hWi _ _).mpr ⟨[], upd_same, Fr.new hD, by rw [List.take_zero]; exact .nil, List.nodup_nil, by simp, by simp⟩⟩, ?_⟩
  rintro i m H ⟨rfl, hi, hw⟩
  obtain ⟨ts, h1, h2, h3, h4, h5, h6⟩ := (hWi _ _).mp hw
  by_cases hlt : i < ys.length
  · refine .inr ⟨hR.go i H hlt (hS H h2), W (i + 1), fun H' p' => ⟨ys.length - (i + 1), by omega, rfl, hlt, p'⟩, fun x H' y => ?_⟩
    obtain ⟨rfl, y0, hy, rfl⟩ := hR.yld i H x H' hlt (hS H h2) y
    have ht : ys.take (i + 1) = ys.take i ++ [y0] := by rw [List.take_add_one, hy]; rfl
    refine hs y0 H' (List.mem_of_getElem? hy) h2 (fun v H4 => ∃ acc, H4 D = some (.lst acc) ∧ acc.length < sizeLine ∧ W (i + 1) (upd H4 D (.lst (acc ++ [v])))) (W (i + 1)) ?_ ?_
    · intro hp a H4 ha e hv
      have hDa : a ≠ D := fun z => by rw [z, h1] at ha; cases ha
      have haN : a ∉ ts := fun z => by
        obtain ⟨k, hk⟩ := List.getElem?_of_mem z
        have hk2 : k < (((ys.take i).filter p).map o).length := by
          rw [← h3.len]; exact (List.getElem?_eq_some_iff.mp hk).1
        have := h3.at k a _ hk (List.getElem?_eq_getElem hk2)
        rw [this] at ha
        cases ha
      have hlen : ts.length < 1000000 := by
        rw [h3.len, List.length_map]
        have := List.length_filter_le p (ys.take i)
        rw [List.length_take] at this
        omega
      refine ⟨ts.map V.ref, e.get h1, by rw [List.length_map, sl16]; omega, (hWi _ _).mpr ⟨ts ++ [a], by rw [upd_same, List.map_append]; rfl, (h2.trans e).mut hD, ?_, ?_, ?_, ?_⟩⟩
      · rw [ht, List.filter_append, List.map_append, List.filter_cons_of_pos hp, List.filter_nil]
        refine .up ?_ ((h3.ex e).app (.one hv))
        rw [List.mem_append, List.mem_singleton]
        rintro (z | z)
        · exact h5 z
        · exact hDa z.symm
      · rw [List.nodup_append]
        exact ⟨h4, by simp, fun b hb c hc => by rw [List.mem_singleton.mp hc]; exact fun z => haN (z ▸ hb)⟩
      · rw [List.mem_append, List.mem_singleton]
        rintro (z | z)
        · exact h5 z
        · exact hDa z.symm
      · intro b hb
        rcases List.mem_append.mp hb with h | h
        · exact h6 b h
        · rw [List.mem_singleton.mp h]; exact Ex.free h2 ha
    · intro hp H4 e
      refine (hWi _ _).mpr ⟨ts, e.get h1, h2.trans e, ?_, h4, h5, h6⟩
      rw [ht, List.filter_append, List.filter_cons_of_neg (by rw [hp]; decide), List.filter_nil, List.append_nil]
      exact h3.ex e
  · have e : i = ys.length := by omega
    subst e
    rw [List.take_length] at h3
    exact .inl ⟨hR.stop H (hS H h2), hd D H ts hD h2 h1 h3 h4 h5 h6⟩
/-- no test -/
theorem lc_objs0 {α : Type} {ys : List α} {val : α → V} {te : TE} {vs : List Nat} {Q : VK} (hR : RunsV J ys val S) (hS : ∀ H', Ex H1 H' → S H') (hz : ys.length < 1000000) (o : α → HO)
    (hs : ∀ y H', y ∈ ys → Ex H1 H' → ∀ (B : V → Hp → Prop), (∀ a H'', H' a = none → Ex H' H'' → H'' a = some (o y) → B (.ref a) H'') → g (val y) (wipe σ vs) H' fun σ2 H2 => wipe σ2 vs = wipe σ vs ∧ te σ2 H2 B)
    (hd : ∀ D H' ts, H1 D = none → Ex H1 H' → H' D = some (.lst (ts.map V.ref)) → ObjsAt H' ts (ys.map o) → ts.Nodup → D ∉ ts → (∀ a ∈ ts, H1 a = none) → Q (.ref D) H')
    (hg : ∀ v σ H (P P' : L2.St → Hp → Prop), (∀ σ H, P σ H → P' σ H) → g v σ H P → g v σ H P' := by intro _ _ _ _ _ k h; exact k _ _ h) : LcGoal J g tYes te vs σ Q H1 := by
  refine lc_objs hR hS hz (fun _ => true) o (fun y H' hy e B A h1 h2 => ?_) (fun D H' ts hD e h h3 h4 h5 h6 => hd D H' ts hD e h ?_ h4 h5 h6)
  · exact hg _ _ _ _ _ (fun σ2 H2 h => ⟨h.1, h.2⟩) (hs y H' hy e B (h1 rfl))
  · rwa [List.filter_eq_self.mpr (fun _ _ => rfl)] at h3
end
section
variable {H : Hp} {Q : VK} {σ : L2.St}
def DGet2P (a : Addr) (y z : V) (Q : VK) (H : Hp) : Prop := ∃ o, DGet H a y o ∧ Q (o.getD z) H
theorem st_dget2 {td ty tx : TE} (h : td σ H fun x H1 => ∃ a, x = .ref a ∧ IsD H1 a ∧ ty σ H1 fun y H2 => tx σ H2 fun z H3 => DGet2P a y z Q H3) : tDGet2 td ty tx σ H Q := h
theorem st_isD {a : Addr} {kvs : List (Key × V)} {P : Addr → Prop} (h1 : H a = some (.dK kvs)) (h : P a) : ∃ b, V.ref a = .ref b ∧ IsD H b ∧ P b := ⟨a, rfl, .inl ⟨kvs, .inl h1⟩, h⟩
def DSetP (a : Addr) (y z : V) (Q : VK) (H3 : Hp) : Prop := ∃ (kvs : List (Key × V)) (k : Key), H3 a = some (.dK kvs) ∧ y = kV k ∧ kvs.length < sizeLine ∧ (∀ v, valV kvs k = some v → Q v H3) ∧ (valV kvs k = none → Q z (upd H3 a (.dK (putK kvs k z))))
theorem st_dsetd {td ty tx : TE} (h : td σ H fun x H1 => ∃ a, x = .ref a ∧ IsD H1 a ∧ ty σ H1 fun y H2 => tx σ H2 fun z H3 => DSetP a y z Q H3) : tDSetd td ty tx σ H Q := h
/-- {} -/
def DNew (Q : VK) (H : Hp) : Prop := ∀ p H', H p = none → Ex H H' → H' p = some (.dK []) → Q (.ref p) H'
theorem st_dnew (h : DNew Q H) : tDNewK σ H Q := fun p hp => h p _ hp (Fr.new hp) upd_same
theorem st_dnewP (h : ∀ p H', H p = none → Ex H H' → H' p = some (.dK []) → Q (.ref p) H') : DNew Q H := h
end
theorem at_nat {α : Type} {xs : List α} {i : Nat} {a : α} (h : xs[i]? = some a) : atI xs (i : Int) = some a := by
  unfold atI
  rw [Evl.ixN_nat (List.getElem?_eq_some_iff.mp h).1]
  exact h
theorem at_mapN {α β : Type} {f : α → β} {xs : List α} {i : Nat} {a : α} (h : xs[i]? = some a) : atI (xs.map f) (i : Int) = some (f a) := at_nat (by rw [List.getElem?_map, h]; rfl)
end Zb
namespace Zb
open PySem PySem.Spec PyProof.Rows L2
theorem Ex.trans {H H1 H2 : Hp} (a : Ex H H1) (b : Ex H1 H2) : Ex H H2 := Fr.trans a b
section
variable {X : Cx} {H : Hp} {Q : VK} {σ : L2.St} {K : PySem.W.Frag}
def rIsB : R2 := fun x y H Q => ∃ a b, x = .bl a ∧ y = .bl b ∧ Q (.bl (decide (a = b))) H
def rNotB : R2 := fun x y H Q => ∃ a b, x = .bl a ∧ y = .bl b ∧ Q (.bl (!decide (a = b))) H
theorem st_isB2 {a b : Bool} (h : Q (.bl (decide (a = b))) H) : rIsB (.bl a) (.bl b) H Q := ⟨a, b, rfl, rfl, h⟩
theorem st_notB2 {a b : Bool} (h : Q (.bl (!decide (a = b))) H) : rNotB (.bl a) (.bl b) H Q := ⟨a, b, rfl, rfl, h⟩
theorem st_popAt {l : Addr} {xs : List V} {i : Int} {y : V} (h1 : H l = some (.lst xs)) (h0 : 0 ≤ i) (hi : i < 1000000000) (hy : xs[i.toNat]? = some y) (h : Q y (upd H l (.lst (xs.eraseIdx i.toNat)))) : rPopAt (.ref l) [.int i] H Q := by
  have hl := (List.getElem?_eq_some_iff.mp hy).1
  refine ⟨l, xs, i, i.toNat, y, rfl, rfl, h1, by omega, by omega, ?_, hy, h⟩
  unfold seqIndex?
  have n0 : ¬ i < 0 := by omega
  simp only [n0, if_false]
  rw [if_pos (by simp; omega)]
theorem st_chain {r r' : R2} {ta tb tc : TE} (h : ta σ H fun x H1 => tb σ H1 fun y H2 => r x y H2 fun z H3 => ∃ k, z = .bl k ∧ (if k = true then tc σ H3 fun w' H4 => r' y w' H4 Q else Q (.bl false) H3)) : tChain r r' ta tb tc σ H Q := h
def isIntV : V → Bool
  | .int _ => true
  | .bl _ => true
  | _ => false
def isBoolV : V → Bool
  | .bl _ => true
  | _ => false
theorem kb_int : kitB "NoneType" "int" = some false ∧ kitB "bool" "int" = some true ∧ kitB "int" "int" = some true ∧ kitB "str" "int" = some false ∧ kitB "list" "int" = some false ∧ kitB "tuple" "int" = some false ∧ kitB "dict" "int" = some false := by decide +kernel
theorem st_isIntT {x : V} (h1 : Ty H x) (h : Q (.bl (isIntV x)) H) : rIs [x, .ty "int"] H Q := by
  obtain ⟨t, h1⟩ := h1
  obtain ⟨k1, k2, k3, k4, k5, k6, k7⟩ := kb_int
  refine st_is h1 (b := isIntV x) ?_ h
  cases x with
  | ref p =>
    have h1 : tyO (H p) = some t := h1
    unfold tyO at h1
    split at h1 <;> first | (cases h1; assumption) | cases h1
  | _ => first | (cases h1; assumption) | cases h1
theorem st_isBoolT {x : V} (h1 : Ty H x) (h : Q (.bl (isBoolV x)) H) : rIs [x, .ty "bool"] H Q := by
  obtain ⟨t, h1⟩ := h1
  obtain ⟨k1, k2, k3, k4, k5, k6, k7⟩ := kb_bool
  refine st_is h1 (b := isBoolV x) ?_ h
  cases x with
  | ref p =>
    have h1 : tyO (H p) = some t := h1
    unfold tyO at h1
    split at h1 <;> first | (cases h1; assumption) | cases h1
  | _ => first | (cases h1; assumption) | cases h1
/-- a value as a test -/
def tTru (K : PySem.W.Frag) (ta : TE) : TT := fun σ H B => ta σ H fun x H' => ∃ k, TruV K x H' k ∧ B k H'
theorem pt_tru {a : Expr} {ta : TE} (ha : PE X a ta) (he : ∀ whole, isTrue a X.env whole = (do let v ← whole; standAt a.pos; holding [v] (truthy v))) (hK : X.K = K := by rfl) : PT X a (tTru K ta) := by subst hK; exact pt_truth ha he
theorem st_tru {ta : TE} {B : Bool → Hp → Prop} (h : ta σ H fun x H' => ∃ k, TruV K x H' k ∧ B k H') : tTru K ta σ H B := h
theorem st_truB {b : Bool} {P : Bool → Prop} (h : P b) : ∃ k, TruV K (.bl b) H k ∧ P k := ⟨b, rfl, h⟩
theorem st_truI {i : Int} {P : Bool → Prop} (h : P (i != 0)) : ∃ k, TruV K (.int i) H k ∧ P k := ⟨_, rfl, h⟩
def WhPost (W : Nat → L2.St → Hp → Prop) (m : Nat) (tb : TS) (D : Ends) (σ : L2.St) : Bool → Hp → Prop := fun b H1 => if b = true then ∃ N : L2.St → Hp → Prop, (∀ σ' H', N σ' H' → ∃ m', m' < m ∧ W m' σ' H') ∧ tb { D with nx := N, ct := N, bk := D.nx } σ H1 else D.nx σ H1
def WhGoal (c : TT) (tb : TS) (D : Ends) (σ : L2.St) (H : Hp) : Prop := ∃ W : Nat → L2.St → Hp → Prop, (∃ m, W m σ H) ∧ ∀ m σ H, W m σ H → c σ H (WhPost W m tb D σ)
theorem st_while {c : TT} {tb : TS} {D : Ends} (h : WhGoal c tb D σ H) : tWhile c tb D σ H := h
/-- W: the word of the loop, with a number that falls -/
theorem while_inv {c : TT} {tb : TS} {D : Ends} (W : Nat → L2.St → Hp → Prop) (h0 : ∃ m, W m σ H) (hs : ∀ m σ H, W m σ H → c σ H (WhPost W m tb D σ)) : WhGoal c tb D σ H := ⟨W, h0, hs⟩
theorem wh_T {W : Nat → L2.St → Hp → Prop} {m : Nat} {tb : TS} {D : Ends} {b : Bool} (hb : b = true) (h : tb { D with nx := fun σ' H' => ∃ m', m' < m ∧ W m' σ' H', ct := fun σ' H' => ∃ m', m' < m ∧ W m' σ' H', bk := D.nx } σ H) : WhPost W m tb D σ b H := by
  unfold WhPost
  rw [if_pos hb]
  exact ⟨_, fun _ _ z => z, h⟩
theorem wh_F {W : Nat → L2.St → Hp → Prop} {m : Nat} {tb : TS} {D : Ends} {b : Bool} (hb : b = false) (h : D.nx σ H) : WhPost W m tb D σ b H := by
  unfold WhPost
  rw [hb, if_neg Bool.false_ne_true]
  exact h
end
def tupO (q : Nat × Nat) : HO := .tup [.int (q.1 : Nat), .int (q.2 : Nat)]
abbrev ZP := Addr × (Nat × Nat)
abbrev zV (z : ZP) : V := .ref z.1
/-- each of these stands as its tuple -/
def TP (H : Hp) (zs : List ZP) : Prop := ∀ z ∈ zs, H z.1 = some (tupO z.2)
section
variable {H H' : Hp} {zs ys : List ZP}
theorem TP.ex (h : TP H zs) (e : Ex H H') : TP H' zs := fun z hz => e.get (h z hz)
theorem TP.sub (h : TP H zs) (e : ∀ z ∈ ys, z ∈ zs) : TP H ys := fun z hz => h z (e z hz)
theorem TP.up {D : Addr} {xs : List V} {u : HO} (h : TP H zs) (hD : H D = some (.lst xs)) : TP (upd H D u) zs := fun z hz => by
  rw [upd_ne fun e => ?_]
  · exact h z hz
  · have := h z hz
    rw [e, hD] at this
    cases this
theorem TP.app (h : TP H zs) (k : TP H ys) : TP H (zs ++ ys) := fun z hz => by
  rcases List.mem_append.mp hz with q | q
  · exact h z q
  · exact k z q
theorem TP.cons {z : ZP} (h : H z.1 = some (tupO z.2)) (k : TP H ys) : TP H (z :: ys) := fun y hy => by
  rcases List.mem_cons.mp hy with q | q
  · rw [q]; exact h
  · exact k y q
theorem TP.perm (h : TP H zs) (e : ys.Perm zs) : TP H ys := h.sub fun z hz => e.mem_iff.mp hz
def encQ (q : Nat × Nat) : PyData := .tuple [.int (q.1 : Nat), .int (q.2 : Nat)]
theorem TP.rp1 {z : ZP} (h : H z.1 = some (tupO z.2)) : Rp H (zV z) (encQ z.2) := .tup (tup_of h) (.cons (.int _) (.cons (.int _) .nil))
theorem TP.rp (h : TP H zs) : RpA H (zs.map zV) (zs.map fun z => encQ z.2) := rpA_map fun z hz => TP.rp1 (h z hz)
theorem TP.rpL {a : Addr} (h : TP H zs) (ha : H a = some (.lst (zs.map zV))) : Rp H (.ref a) (.list (zs.map fun z => encQ z.2)) := .lst (lst_of ha) h.rp
theorem encQ_depth (q : Nat × Nat) : (encQ q).depth ≤ 2 := by simp [encQ, PyData.depth, PyData.depthAll]
end
end Zb
namespace Zb
open PySem PySem.Spec PyProof.Rows L2
/-- a def's promise, where no list is being shown -/
structure FnG (P : Program) (w : World) (K : PySem.W.Frag) (mg : Str → Option Value) (base : Heap) (CX : CXT) (k : Nat) (f : Addr) (fd : FuncData) (ps : List Str) (sp : Sp) : Prop where
  len : ∀ vs H Q E, sp vs H Q E → vs.length = ps.length
  go : ∀ (A : Around) (outer : List Env) (s : Shared) (H : Hp) (args : Args) (us : List Value) (vs : List V) (Q : VK) (E : XK), A.guards = some [] → Room k A → Env0 P w K mg base A outer s H → BindsTo s fd args (ps.zip us) → Vals vs us → sp vs H Q E →
    codeAny (model P w) A (.call (.ref f) args) (CR CX outer P w H s Q E) s
section
variable {P : Program} {w : World} {K : PySem.W.Frag} {mg : Str → Option Value} {base : Heap} {k : Nat} {f : Addr} {fd : FuncData} {ps : List Str} {sp : Sp}
theorem FnG.of {CX : CXT} (F : FnOk P w K mg base CX k f fd ps sp) : FnG P w K mg base CX k f fd ps sp := ⟨F.len, fun A outer s H args us vs Q E _ => F.run A outer s H args us vs Q E⟩
end
def keyD : Key → PyData
  | .inl i => .int i
  | .inr x => .str x
mutual
inductive Rq (H : Hp) : V → PyData → Prop
  | non : Rq H .non .none
  | bl (b : Bool) : Rq H (.bl b) (.bool b)
  | int (i : Int) : Rq H (.int i) (.int i)
  | str (x : Str) : Rq H (.str x) (.str x)
  | lst {a : Addr} {xs : List V} {ds : List PyData} : lstAt H a = some xs → RqA H xs ds → Rq H (.ref a) (.list ds)
  | tup {a : Addr} {xs : List V} {ds : List PyData} : tupAt H a = some xs → RqA H xs ds → Rq H (.ref a) (.tuple ds)
  | dk {a : Addr} {kvs : List (Key × V)} {ds : List PyData} : H a = some (.dK kvs) → RqA H (kvs.map (·.2)) ds → Rq H (.ref a) (.dict ((kvs.map fun q => keyD q.1).zip ds))
inductive RqA (H : Hp) : List V → List PyData → Prop
  | nil : RqA H [] []
  | cons {v : V} {vs : List V} {d : PyData} {ds : List PyData} : Rq H v d → RqA H vs ds → RqA H (v :: vs) (d :: ds)
end
theorem RqA.len {H : Hp} : ∀ {vs : List V} {ds : List PyData}, RqA H vs ds → vs.length = ds.length
  | _, _, .nil => rfl
  | _, _, .cons _ k => congrArg (· + 1) k.len
theorem Rq.dk0 {H : Hp} {a : Addr} (h : H a = some (.dK [])) : Rq H (.ref a) (.dict []) := .dk h .nil
mutual
theorem Rp.rq {H : Hp} : ∀ {v : V} {d : PyData}, Rp H v d → Rq H v d
  | _, _, .non => .non
  | _, _, .bl b => .bl b
  | _, _, .int i => .int i
  | _, _, .str x => .str x
  | _, _, .lst h k => .lst h (RpA.rq k)
  | _, _, .tup h k => .tup h (RpA.rq k)
theorem RpA.rq {H : Hp} : ∀ {vs : List V} {ds : List PyData}, RpA H vs ds → RqA H vs ds
  | _, _, .nil => .nil
  | _, _, .cons h k => .cons (Rp.rq h) (RpA.rq k)
theorem noDict {H : Hp} : ∀ {v : V} {d : PyData}, Rp H v d → d.hasDict = false
  | _, _, .non => rfl
  | _, _, .bl b => rfl
  | _, _, .int i => rfl
  | _, _, .str x => rfl
  | _, _, .lst h k => by simp only [PyData.hasDict]; exact noDictA k
  | _, _, .tup h k => by simp only [PyData.hasDict]; exact noDictA k
theorem noDictA {H : Hp} : ∀ {vs : List V} {ds : List PyData}, RpA H vs ds → PyData.hasDictAll ds = false
  | _, _, .nil => rfl
  | _, _, .cons h k => by simp only [PyData.hasDictAll, noDict h, noDictA k, Bool.or_self]
end
section
variable {X : Cx} {pins : List (Addr × Obj)} {σ : L2.St} {H : Hp} {s : Shared}
theorem pairs_keys {h : Heap} {P : Program} {w : World} : ∀ {es : List DictEntry} {kvs : List (Key × V)} {vs : List (Key × Value)}, Pairs (mixKind P w) es vs → KV kvs vs → ∃ as, ReadsAll h (es.map (·.key)) (kvs.map fun q => keyD q.1) as
  | _, _, _, .nil, .nil => ⟨_, .nil⟩
  | _, _, _, .cons (e := e) (kv := kv) h1 h2 h3, .cons (a := p) q r => by
    obtain ⟨as, k⟩ := pairs_keys (h := h) h3 r
    have hk : (mixKind P w).is kv.1 e.key = true := h1
    rcases keyIs_shape hk with ⟨i, t, e1, e2⟩ | ⟨x, t, e1, e2⟩
    · refine ⟨_, .cons (as := []) ?_ k⟩
      show Reads h e.key (keyD p.1) []
      rw [q.1, e1, e2]
      exact .int i t
    · refine ⟨_, .cons (as := []) ?_ k⟩
      show Reads h e.key (keyD p.1) []
      rw [q.1, e1, e2]
      exact .str x t
theorem pairs_vals {P : Program} {w : World} : ∀ {es : List DictEntry} {kvs : List (Key × V)} {vs : List (Key × Value)}, Pairs (mixKind P w) es vs → KV kvs vs → Vals (kvs.map (·.2)) (es.map (·.val))
  | _, _, _, .nil, .nil => .nil
  | _, _, _, .cons (e := e) (kv := kv) h1 h2 h3, .cons (a := p) q r => .cons (by show RelV p.2 e.val; rw [h2]; exact q.2) (pairs_vals h3 r)
theorem zip_fst {α β : Type} : ∀ {xs : List α} {ys : List β}, xs.length = ys.length → (xs.zip ys).map (·.1) = xs := fun h => List.map_fst_zip (Nat.le_of_eq h)
theorem zip_snd {α β : Type} : ∀ {xs : List α} {ys : List β}, xs.length = ys.length → (xs.zip ys).map (·.2) = ys := fun h => List.map_snd_zip (Nat.le_of_eq h.symm)
/-- a tracked dict, as an object -/
theorem dk_obj (I : Inv X pins σ H s) {a : Addr} {kvs : List (Key × V)} (h : H a = some (.dK kvs)) : (a == sysModules) = false ∧ ∃ (o : Obj) (es : Array DictEntry) (n : Nat), s.heap.get? a = some o ∧ o.cls = .type "dict" ∧ o.data = .dict es n ∧ (∃ as, ReadsAll s.heap (es.toList.map (·.key)) (kvs.map fun q => keyD q.1) as) ∧ Vals (kvs.map (·.2)) (es.toList.map (·.val)) := by
  obtain ⟨_, hs, vs, rv, o, es, ep, e1, e2, e3, _, e5, _⟩ := dk_of I.hok h
  exact ⟨hs, o, es, ep, e1, e2.1, e3, pairs_keys e5 rv, pairs_vals e5 rv⟩
mutual
theorem Rq.reads (I : Inv X pins σ H s) : ∀ {v : V} {d : PyData} {u : Value}, Rq H v d → RelV v u → ∃ as, Reads s.heap u d as
  | _, _, u, .non, r => by cases r; exact ⟨_, .none⟩
  | _, _, u, .bl b, r => by cases r; exact ⟨_, .bool b⟩
  | _, _, u, .int i, r => by obtain ⟨t, rfl⟩ := r; exact ⟨_, .int i t⟩
  | _, _, u, .str x, r => by obtain ⟨t, rfl⟩ := r; exact ⟨_, .str x t⟩
  | _, _, u, @Rq.lst _ a xs ds h k, r => by
    obtain rfl : u = Value.ref a := r
    obtain ⟨its, rv, p, _⟩ := I.list (lstAt_sq h)
    obtain ⟨as, q1⟩ := RqA.reads I k rv
    obtain ⟨o, n, e1, e2, e3, e4⟩ := p
    exact ⟨_, .list e1 e2 e4 q1⟩
  | _, _, u, @Rq.tup _ a xs ds h k, r => by
    obtain rfl : u = Value.ref a := r
    obtain ⟨its, rv, p, _⟩ := I.tuple (tupAt_sq h)
    obtain ⟨as, q1⟩ := RqA.reads I k rv
    obtain ⟨o, e1, e2, n, e3⟩ := p
    exact ⟨_, .tuple e1 e2 e3 q1⟩
  | _, _, u, @Rq.dk _ a kvs ds h k, r => by
    obtain rfl : u = Value.ref a := r
    obtain ⟨_, o, es, n, e1, e2, e3, ⟨as, kr⟩, rv⟩ := dk_obj I h
    obtain ⟨bs, vr⟩ := RqA.reads I k rv
    have hl : (kvs.map fun q => keyD q.1).length = ds.length := by rw [List.length_map, ← k.len, List.length_map]
    exact ⟨_, .dict e1 e2 e3 (by rw [zip_fst hl]; exact kr) (by rw [zip_snd hl]; exact vr)⟩
theorem RqA.reads (I : Inv X pins σ H s) : ∀ {vs : List V} {ds : List PyData} {us : List Value}, RqA H vs ds → Vals vs us → ∃ as, ReadsAll s.heap us ds as
  | _, _, us, .nil, r => by cases r; exact ⟨_, .nil⟩
  | _, _, us, .cons h k, r => by
    cases r with
    | cons r1 r2 =>
      obtain ⟨as, a1⟩ := Rq.reads I h r1
      obtain ⟨bs, b1⟩ := RqA.reads I k r2
      exact ⟨_, .cons a1 b1⟩
end
end
end Zb
namespace Zb
open PySem PySem.Spec PyProof.Rows L2
def tyD : PyData → String
  | .none => "NoneType"
  | .bool _ => "bool"
  | .int _ => "int"
  | .str _ => "str"
  | .list _ => "list"
  | .tuple _ => "tuple"
  | .dict _ => "dict"
theorem Rq.tyn {H : Hp} {x : V} {d : PyData} (h : Rq H x d) : tyN H x = some (tyD d) := by
  cases h with
  | non => rfl
  | bl b => rfl
  | int i => rfl
  | str y => rfl
  | @lst a xs ds h _ =>
    show tyO (H a) = _
    unfold lstAt at h
    unfold tyO
    split at h <;> first | (rename_i e; rw [e]; rfl) | cases h
  | @tup a xs ds h _ =>
    show tyO (H a) = _
    unfold tupAt at h
    unfold tyO
    split at h <;> first | (rename_i e; rw [e]; rfl) | cases h
  | @dk a kvs ds h _ =>
    show tyO (H a) = _
    rw [h]
    rfl
theorem Rq.ty {H : Hp} {x : V} {d : PyData} (h : Rq H x d) : Ty H x := ⟨_, h.tyn⟩
theorem Rp.ty {H : Hp} {x : V} {d : PyData} (h : Rp H x d) : Ty H x := h.rq.ty
section
variable {H : Hp} {Q : VK} {K : PySem.W.Frag}
theorem st_isQ {x : V} {d : PyData} {n : String} {b : Bool} (h1 : Rq H x d) (h2 : kitB (tyD d) n = some b) (h : Q (.bl b) H) : rIs [x, .ty n] H Q := st_is h1.tyn h2 h
def isListD : PyData → Bool
  | .list _ => true
  | _ => false
def isTupD : PyData → Bool
  | .tuple _ => true
  | _ => false
theorem kb_list : kitB "NoneType" "list" = some false ∧ kitB "bool" "list" = some false ∧ kitB "int" "list" = some false ∧ kitB "str" "list" = some false ∧ kitB "list" "list" = some true ∧ kitB "tuple" "list" = some false ∧ kitB "dict" "list" = some false := by decide +kernel
theorem kb_tup : kitB "NoneType" "tuple" = some false ∧ kitB "bool" "tuple" = some false ∧ kitB "int" "tuple" = some false ∧ kitB "str" "tuple" = some false ∧ kitB "list" "tuple" = some false ∧ kitB "tuple" "tuple" = some true ∧ kitB "dict" "tuple" = some false := by decide +kernel
theorem st_isListD {x : V} {d : PyData} (h1 : Rq H x d) (h : Q (.bl (isListD d)) H) : rIs [x, .ty "list"] H Q := by
  obtain ⟨k1, k2, k3, k4, k5, k6, k7⟩ := kb_list
  refine st_isQ h1 (b := isListD d) ?_ h
  cases d <;> assumption
/-- the items of data -/
theorem Rp.listAt {x : V} {ds : List PyData} (h : Rp H x (.list ds)) : ∃ a xs, x = .ref a ∧ lstAt H a = some xs ∧ RpA H xs ds := by
  cases h with
  | lst h k => exact ⟨_, _, rfl, h, k⟩
theorem RpA.len : ∀ {xs : List V} {ds : List PyData}, RpA H xs ds → xs.length = ds.length
  | _, _, .nil => rfl
  | _, _, .cons _ k => congrArg (· + 1) k.len
theorem RpA.at : ∀ {xs : List V} {ds : List PyData}, RpA H xs ds → ∀ (i : Nat) x, xs[i]? = some x → ∃ d, ds[i]? = some d ∧ Rp H x d
  | _, _, .nil, i, x, h => by simp at h
  | _, _, .cons a k, 0, x, h => by
    have e : _ = x := Option.some.inj h
    exact ⟨_, rfl, e ▸ a⟩
  | _, _, .cons a k, i + 1, x, h => k.at i x (by simpa using h)
end
end Zb
namespace Zb
open PySem PySem.Spec PyProof.Rows L2
mutual
/-- v is d, by things that are not frozen; empty dicts may be among them -/
inductive Rn (H : Hp) : V → PyData → Prop
  | non : Rn H .non .none
  | bl (b : Bool) : Rn H (.bl b) (.bool b)
  | int (i : Int) : Rn H (.int i) (.int i)
  | str (x : Str) : Rn H (.str x) (.str x)
  | lst {a : Addr} {xs : List V} {ds : List PyData} : H a = some (.lst xs) → RnA H xs ds → Rn H (.ref a) (.list ds)
  | tup {a : Addr} {xs : List V} {ds : List PyData} : H a = some (.tup xs) → RnA H xs ds → Rn H (.ref a) (.tuple ds)
  | dk {a : Addr} : H a = some (.dK []) → Rn H (.ref a) (.dict [])
inductive RnA (H : Hp) : List V → List PyData → Prop
  | nil : RnA H [] []
  | cons {v : V} {vs : List V} {d : PyData} {ds : List PyData} : Rn H v d → RnA H vs ds → RnA H (v :: vs) (d :: ds)
end
section
variable {H H' : Hp}
mutual
theorem Rn.rq : ∀ {v : V} {d : PyData}, Rn H v d → Rq H v d
  | _, _, .non => .non
  | _, _, .bl b => .bl b
  | _, _, .int i => .int i
  | _, _, .str x => .str x
  | _, _, .lst h k => .lst (lst_of h) (RnA.rq k)
  | _, _, .tup h k => .tup (tup_of h) (RnA.rq k)
  | _, _, .dk h => .dk0 h
theorem RnA.rq : ∀ {vs : List V} {ds : List PyData}, RnA H vs ds → RqA H vs ds
  | _, _, .nil => .nil
  | _, _, .cons h k => .cons (Rn.rq h) (RnA.rq k)
end
mutual
theorem Rn.rp : ∀ {v : V} {d : PyData}, Rn H v d → d.hasDict = false → Rp H v d
  | _, _, .non, _ => .non
  | _, _, .bl b, _ => .bl b
  | _, _, .int i, _ => .int i
  | _, _, .str x, _ => .str x
  | _, _, .lst h k, n => .lst (lst_of h) (RnA.rp k (by simpa only [PyData.hasDict] using n))
  | _, _, .tup h k, n => .tup (tup_of h) (RnA.rp k (by simpa only [PyData.hasDict] using n))
  | _, _, .dk h, n => by simp [PyData.hasDict] at n
theorem RnA.rp : ∀ {vs : List V} {ds : List PyData}, RnA H vs ds → PyData.hasDictAll ds = false → RpA H vs ds
  | _, _, .nil, _ => .nil
  | _, _, .cons h k, n => by
    simp only [PyData.hasDictAll, Bool.or_eq_false_iff] at n
    exact .cons (Rn.rp h n.1) (RnA.rp k n.2)
end
mutual
theorem Rn.ex (e : Ex H H') : ∀ {v : V} {d : PyData}, Rn H v d → Rn H' v d
  | _, _, .non => .non
  | _, _, .bl b => .bl b
  | _, _, .int i => .int i
  | _, _, .str x => .str x
  | _, _, .lst h k => .lst (e.get h) (RnA.ex e k)
  | _, _, .tup h k => .tup (e.get h) (RnA.ex e k)
  | _, _, .dk h => .dk (e.get h)
theorem RnA.ex (e : Ex H H') : ∀ {vs : List V} {ds : List PyData}, RnA H vs ds → RnA H' vs ds
  | _, _, .nil => .nil
  | _, _, .cons h k => .cons (Rn.ex e h) (RnA.ex e k)
end
theorem Rn.listAt {x : V} {ds : List PyData} (h : Rn H x (.list ds)) : ∃ a xs, x = .ref a ∧ H a = some (.lst xs) ∧ RnA H xs ds := by
  cases h with
  | lst h k => exact ⟨_, _, rfl, h, k⟩
theorem Rn.tupAt {x : V} {ds : List PyData} (h : Rn H x (.tuple ds)) : ∃ a xs, x = .ref a ∧ H a = some (.tup xs) ∧ RnA H xs ds := by
  cases h with
  | tup h k => exact ⟨_, _, rfl, h, k⟩
theorem RnA.len : ∀ {xs : List V} {ds : List PyData}, RnA H xs ds → xs.length = ds.length
  | _, _, .nil => rfl
  | _, _, .cons _ k => congrArg (· + 1) k.len
theorem RnA.zipped : ∀ {xs : List V} {ds : List PyData}, RnA H xs ds → ∃ zs : List (V × PyData), xs = zs.map (·.1) ∧ ds = zs.map (·.2) ∧ ∀ z ∈ zs, Rn H z.1 z.2
  | _, _, .nil => ⟨[], rfl, rfl, fun _ h => nomatch h⟩
  | _, _, .cons (v := v) (d := d) a k => by
    obtain ⟨zs, rfl, rfl, h⟩ := RnA.zipped k
    refine ⟨(v, d) :: zs, rfl, rfl, fun z hz => ?_⟩
    rcases List.mem_cons.mp hz with e | e
    · rw [e]; exact a
    · exact h z e
theorem rnA_map {α : Type} {val : α → V} {enc : α → PyData} : ∀ {xs : List α}, (∀ x ∈ xs, Rn H (val x) (enc x)) → RnA H (xs.map val) (xs.map enc)
  | [], _ => .nil
  | x :: xs, h => .cons (h x List.mem_cons_self) (rnA_map fun y hy => h y (List.mem_cons_of_mem _ hy))
theorem TP.rn1 {z : ZP} (h : H z.1 = some (tupO z.2)) : Rn H (zV z) (encQ z.2) := .tup h (.cons (.int _) (.cons (.int _) .nil))
theorem TP.rn {zs : List ZP} (h : TP H zs) : RnA H (zs.map zV) (zs.map fun z => encQ z.2) := rnA_map fun z hz => TP.rn1 (h z hz)
theorem TP.rnL {zs : List ZP} {a : Addr} (h : TP H zs) (ha : H a = some (.lst (zs.map zV))) : Rn H (.ref a) (.list (zs.map fun z => encQ z.2)) := .lst ha h.rn
end
mutual
/-- how many things data holds -/
def szD : PyData → Nat
  | .list ds => 1 + szA ds
  | .tuple ds => 1 + szA ds
  | .dict _ => 1
  | _ => 1
def szA : List PyData → Nat
  | [] => 0
  | d :: ds => szD d + szA ds
end
end Zb
namespace Zb
open PySem PySem.Spec PyProof.Rows L2
mutual
/-- numbers of few figures, texts that are shown by few signs, no dict but the empty one -/
def okD : PyData → Bool
  | .none => true
  | .bool _ => true
  | .int i => decide (i.natAbs < 1000000)
  | .str x => decide ((reprText x).length ≤ 14)
  | .list ds => okA ds
  | .tuple ds => okA ds
  | .dict kvs => kvs.isEmpty
def okA : List PyData → Bool
  | [] => true
  | d :: ds => okD d && okA ds
end
/-- data that may be handed round: d is v, small, with no dict but itself -/
structure Sd (H : Hp) (v : V) (d : PyData) : Prop where
  rn : Rn H v d
  hd : d.hasDict = true → d = .dict []
  ok : okD d = true
  sz : szD d ≤ 999999
  dp : d.depth ≤ 59
theorem Sd.ex {H H' : Hp} {v : V} {d : PyData} (h : Sd H v d) (e : Ex H H') : Sd H' v d := ⟨h.rn.ex e, h.hd, h.ok, h.sz, h.dp⟩
/-- v is small data of n things, k deep -/
def Sm (H : Hp) (v : V) (n k : Nat) : Prop := ∃ d, Rn H v d ∧ d.hasDict = false ∧ okD d = true ∧ szD d ≤ n ∧ d.depth ≤ k
section
variable {H H' : Hp} {v : V} {n k m : Nat}
theorem Sm.up {n' k' : Nat} (h : Sm H v n k) (h1 : n ≤ n') (h2 : k ≤ k') : Sm H v n' k' := by
  obtain ⟨d, a, b, c, e, f⟩ := h
  exact ⟨d, a, b, c, by omega, by omega⟩
theorem Sm.ex (h : Sm H v n k) (e : Ex H H') : Sm H' v n k := by
  obtain ⟨d, a, b⟩ := h
  exact ⟨d, a.ex e, b⟩
theorem Sm.sd (h : Sm H v n k) (h1 : n ≤ 999999) (h2 : k ≤ 59) : ∃ d, Sd H v d := by
  obtain ⟨d, a, b, c, e, f⟩ := h
  exact ⟨d, a, (fun z => by rw [b] at z; cases z), c, by omega, by omega⟩
theorem Sm.non : Sm H .non 1 0 := ⟨_, .non, rfl, rfl, by simp [szD], by simp [PyData.depth]⟩
theorem Sm.bl (b : Bool) : Sm H (.bl b) 1 0 := ⟨_, .bl b, rfl, rfl, by simp [szD], by simp [PyData.depth]⟩
theorem Sm.int {i : Int} (h : i.natAbs < 1000000) : Sm H (.int i) 1 0 := ⟨_, .int i, rfl, by simpa only [okD, decide_eq_true_eq] using h, by simp [szD], by simp [PyData.depth]⟩
theorem Sm.str {x : Str} (h : (reprText x).length ≤ 14) : Sm H (.str x) 1 0 := ⟨_, .str x, rfl, by simpa only [okD, decide_eq_true_eq] using h, by simp [szD], by simp [PyData.depth]⟩
theorem Sm.all : ∀ {xs : List V}, (∀ x ∈ xs, Sm H x n k) → ∃ ds, RnA H xs ds ∧ PyData.hasDictAll ds = false ∧ okA ds = true ∧ szA ds ≤ xs.length * n ∧ PyData.depthAll ds ≤ k
  | [], _ => ⟨[], .nil, rfl, rfl, by simp [szA], by simp [PyData.depthAll]⟩
  | x :: xs, h => by
    obtain ⟨ds, a, b, c, e, f⟩ := Sm.all (xs := xs) fun y hy => h y (List.mem_cons_of_mem _ hy)
    obtain ⟨d, a1, b1, c1, e1, f1⟩ := h x List.mem_cons_self
    refine ⟨d :: ds, .cons a1 a, by simp [PyData.hasDictAll, b, b1], by simp [okA, c, c1], ?_, ?_⟩
    · simp only [szA, List.length_cons, Nat.succ_mul]; omega
    · simp only [PyData.depthAll]; omega
theorem Sm.lst {a : Addr} {xs : List V} (h : H a = some (.lst xs)) (hx : ∀ x ∈ xs, Sm H x n k) (hm : xs.length ≤ m) : Sm H (.ref a) (1 + m * n) (k + 1) := by
  obtain ⟨ds, h1, h2, h3, h4, h5⟩ := Sm.all hx
  refine ⟨.list ds, .lst h h1, by simpa only [PyData.hasDict] using h2, by simpa only [okD] using h3, ?_, by simp only [PyData.depth]; omega⟩
  have := Nat.mul_le_mul_right n hm
  simp only [szD]; omega
theorem Sm.tup {a : Addr} {xs : List V} (h : H a = some (.tup xs)) (hx : ∀ x ∈ xs, Sm H x n k) (hm : xs.length ≤ m) : Sm H (.ref a) (1 + m * n) (k + 1) := by
  obtain ⟨ds, h1, h2, h3, h4, h5⟩ := Sm.all hx
  refine ⟨.tuple ds, .tup h h1, by simpa only [PyData.hasDict] using h2, by simpa only [okD] using h3, ?_, by simp only [PyData.depth]; omega⟩
  have := Nat.mul_le_mul_right n hm
  simp only [szD]; omega
theorem Sd.dk {a : Addr} (h : H a = some (.dK [])) : Sd H (.ref a) (.dict []) := ⟨.dk h, fun _ => rfl, rfl, by simp [szD], by simp [PyData.depth, PyData.depthKv]⟩
theorem Sm.mem {xs : List V} (h : ∀ x ∈ xs, Sm H x n k) (hv : v ∈ xs) : Sm H v n k := h v hv
theorem Sm.cons {xs : List V} (h : Sm H v n k) (t : ∀ x ∈ xs, Sm H x n k) : ∀ x ∈ v :: xs, Sm H x n k := fun x hx => by
  rcases List.mem_cons.mp hx with e | e
  · rw [e]; exact h
  · exact t x e
theorem Sm.nil : ∀ x ∈ ([] : List V), Sm H x n k := fun _ h => nomatch h
theorem Sm.app {xs ys : List V} (h : ∀ x ∈ xs, Sm H x n k) (t : ∀ x ∈ ys, Sm H x n k) : ∀ x ∈ xs ++ ys, Sm H x n k := fun x hx => by
  rcases List.mem_append.mp hx with e | e
  · exact h x e
  · exact t x e
theorem Sm.upA {xs : List V} {n' k' : Nat} (h : ∀ x ∈ xs, Sm H x n k) (h1 : n ≤ n') (h2 : k ≤ k') : ∀ x ∈ xs, Sm H x n' k' := fun x hx => (h x hx).up h1 h2
variable {K : PySem.W.Frag} {Q : VK}
end
def cutL {α : Type} (xs : List α) (lo hi : Option Int) : List α := (xs.drop (HT.sIx xs.length 0 lo)).take (HT.sIx xs.length xs.length hi - HT.sIx xs.length 0 lo)
theorem cutV_map {α : Type} (f : α → V) (xs : List α) (lo hi : Option Int) : cutV (xs.map f) lo hi = (cutL xs lo hi).map f := by
  unfold cutV cutL
  rw [List.map_take, List.map_drop, List.length_map]
theorem cutL_sub {α : Type} (xs : List α) (lo hi : Option Int) : (cutL xs lo hi).Sublist xs := (List.take_sublist _ _).trans (List.drop_sublist _ _)
theorem cutV_mem {xs : List V} {lo hi : Option Int} {x : V} (h : x ∈ cutV xs lo hi) : x ∈ xs := by
  have h2 := cutV_map id xs lo hi
  rw [List.map_id, List.map_id] at h2
  rw [h2] at h
  exact (cutL_sub xs lo hi).subset h
abbrev HZ := Addr × List ZP
abbrev hV (g : HZ) : V := .ref g.1
/-- a few small pairs, each as its tuple -/
structure SP (H : Hp) (zs : List ZP) : Prop where
  tp : TP H zs
  few : zs.length ≤ 2305
  small : ∀ z ∈ zs, z.2.1 ≤ 1000 ∧ z.2.2 ≤ 1000
def HP (H : Hp) (gs : List HZ) : Prop := ∀ g ∈ gs, H g.1 = some (.lst (g.2.map zV)) ∧ SP H g.2
section
variable {H H' : Hp} {gs : List HZ} {zs ys : List ZP}
theorem SP.ex (h : SP H zs) (e : Ex H H') : SP H' zs := ⟨h.tp.ex e, h.few, h.small⟩
theorem SP.sub (h : SP H zs) (e : ys.Sublist zs) : SP H ys := ⟨h.tp.sub fun z hz => e.subset hz, Nat.le_trans e.length_le h.few, fun z hz => h.small z (e.subset hz)⟩
theorem SP.perm (h : SP H zs) (e : ys.Perm zs) : SP H ys := ⟨h.tp.perm e, by rw [e.length_eq]; exact h.few, fun z hz => h.small z (e.mem_iff.mp hz)⟩
theorem SP.up {D : Addr} {xs : List V} {u : HO} (h : SP H zs) (hD : H D = some (.lst xs)) : SP (upd H D u) zs := ⟨h.tp.up hD, h.few, h.small⟩
theorem HP.ex (h : HP H gs) (e : Ex H H') : HP H' gs := fun g hg => ⟨e.get (h g hg).1, (h g hg).2.ex e⟩
theorem HP.sub {fs : List HZ} (h : HP H gs) (e : ∀ g ∈ fs, g ∈ gs) : HP H fs := fun g hg => h g (e g hg)
/-- one of the lists changes -/
theorem HP.set {g : HZ} {i : Nat} (h : HP H gs) (nd : (gs.map (·.1)).Nodup) (hg : gs[i]? = some g) (hz : SP H zs) : HP (upd H g.1 (.lst (zs.map zV))) (gs.set i (g.1, zs)) := by
  have hgm := List.mem_of_getElem? hg
  have h1 := (h g hgm).1
  intro f hf
  obtain ⟨j, hj⟩ := List.getElem?_of_mem hf
  have hi : i < gs.length := (List.getElem?_eq_some_iff.mp hg).1
  by_cases e : j = i
  · subst e
    rw [List.getElem?_set_self hi] at hj
    cases hj
    exact ⟨upd_same, hz.up h1⟩
  · rw [List.getElem?_set_ne (Ne.symm e)] at hj
    have hfm := List.mem_of_getElem? hj
    have ne : f.1 ≠ g.1 := fun z => e (nd_ix (x := f.1) nd (by rw [List.getElem?_map, hj]; rfl) (by rw [List.getElem?_map, hg]; exact congrArg some z.symm))
    exact ⟨by rw [upd_ne ne]; exact (h f hfm).1, (h f hfm).2.up h1⟩
def encH (g : HZ) : PyData := .list (g.2.map fun z => encQ z.2)
theorem HP.rn {a : Addr} (h : HP H gs) (ha : H a = some (.lst (gs.map hV))) : Rn H (.ref a) (.list (gs.map encH)) := .lst ha (rnA_map fun g hg => (h g hg).2.tp.rnL (h g hg).1)
theorem HP.rp {a : Addr} (h : HP H gs) (ha : H a = some (.lst (gs.map hV))) : Rp H (.ref a) (.list (gs.map encH)) := .lst (lst_of ha) (rpA_map fun g hg => (h g hg).2.tp.rpL (h g hg).1)
theorem encH_depth (g : HZ) : (encH g).depth ≤ 3 := by
  have : PyData.depthAll (g.2.map fun z => encQ z.2) ≤ 2 := depth_map fun z _ => encQ_depth z.2
  simp only [encH, PyData.depth]
  omega
theorem gs_depth (gs : List HZ) : (PyData.list (gs.map encH)).depth ≤ 4 := by
  have : PyData.depthAll (gs.map encH) ≤ 3 := depth_map fun g _ => encH_depth g
  simp only [PyData.depth]
  omega
theorem okA_of {ds : List PyData} (h : ∀ d ∈ ds, okD d = true) : okA ds = true := by
  induction ds with
  | nil => rfl
  | cons d ds ih => simp only [okA, h d List.mem_cons_self, ih fun x hx => h x (List.mem_cons_of_mem _ hx), Bool.and_self]
theorem szA_le {ds : List PyData} {n : Nat} (h : ∀ d ∈ ds, szD d ≤ n) : szA ds ≤ ds.length * n := by
  induction ds with
  | nil => simp [szA]
  | cons d ds ih =>
    have h1 := h d List.mem_cons_self
    have h2 := ih fun x hx => h x (List.mem_cons_of_mem _ hx)
    simp only [szA, List.length_cons, Nat.succ_mul]
    omega
theorem hasDictA_of {ds : List PyData} (h : ∀ d ∈ ds, d.hasDict = false) : PyData.hasDictAll ds = false := by
  induction ds with
  | nil => rfl
  | cons d ds ih => simp only [PyData.hasDictAll, h d List.mem_cons_self, ih fun x hx => h x (List.mem_cons_of_mem _ hx), Bool.or_self]
theorem HP.sd {a : Addr} (h : HP H gs) (ha : H a = some (.lst (gs.map hV))) (hl : gs.length ≤ 100) : Sd H (.ref a) (.list (gs.map encH)) := by
  refine ⟨h.rn ha, fun z => ?_, ?_, ?_, Nat.le_trans (gs_depth gs) (by decide)⟩
  · have : PyData.hasDictAll (gs.map encH) = false := hasDictA_of fun d hd => by
      obtain ⟨g, hg, rfl⟩ := List.mem_map.mp hd
      exact hasDictA_of fun d hd => by
        obtain ⟨z, hz, rfl⟩ := List.mem_map.mp hd
        rfl
    simp only [PyData.hasDict, this] at z
    cases z
  · refine okA_of fun d hd => ?_
    obtain ⟨g, hg, rfl⟩ := List.mem_map.mp hd
    refine okA_of fun d hd => ?_
    obtain ⟨z, hz, rfl⟩ := List.mem_map.mp hd
    have := (h g hg).2.small z hz
    simp only [encQ, okD, okA, Bool.and_true, Bool.and_eq_true, decide_eq_true_eq]
    omega
  · have h1 : szA (gs.map encH) ≤ (gs.map encH).length * 6916 := szA_le fun d hd => by
      obtain ⟨g, hg, rfl⟩ := List.mem_map.mp hd
      have h2 : szA (g.2.map fun z => encQ z.2) ≤ (g.2.map fun z => encQ z.2).length * 3 := szA_le fun d hd => by
        obtain ⟨z, hz, rfl⟩ := List.mem_map.mp hd
        simp [encQ, szD, szA]
      have h3 := (h g hg).2.few
      rw [List.length_map] at h2
      simp only [encH, szD]
      omega
    rw [List.length_map] at h1
    simp only [szD]
    omega
variable {K : PySem.W.Frag} {Q : VK}
end
theorem Sm.cut {H : Hp} {xs : List V} {n k : Nat} {lo hi : Option Int} (h : ∀ x ∈ xs, Sm H x n k) : ∀ x ∈ cutV xs lo hi, Sm H x n k := fun x hx => h x (cutV_mem hx)
/-- any small data -/
def SdE (H : Hp) (v : V) : Prop := ∃ d, Sd H v d
theorem SdE.of {H : Hp} {v : V} {n k : Nat} (h : Sm H v n k) (h1 : n ≤ 999999) (h2 : k ≤ 59) : SdE H v := h.sd h1 h2
theorem SdE.ex {H H' : Hp} {v : V} (h : SdE H v) (e : Ex H H') : SdE H' v := by
  obtain ⟨d, h⟩ := h
  exact ⟨d, h.ex e⟩
theorem allE_nil {P : V → Prop} : ∀ x ∈ ([] : List V), P x := fun _ h => nomatch h
theorem allE_cons {P : V → Prop} {y : V} {ys : List V} (h : P y) (k : ∀ x ∈ ys, P x) : ∀ x ∈ y :: ys, P x := fun x hx => by
  rcases List.mem_cons.mp hx with e | e
  · rw [e]; exact h
  · exact k x e
mutual
/-- a thing is one data -/
theorem Rn.det {H : Hp} : ∀ {v : V} {d d' : PyData}, Rn H v d → Rn H v d' → d = d'
  | _, _, _, .non, .non => rfl
  | _, _, _, .bl _, .bl _ => rfl
  | _, _, _, .int _, .int _ => rfl
  | _, _, _, .str _, .str _ => rfl
  | _, _, _, .lst h k, .lst h' k' => by
    rw [h] at h'
    cases h'
    rw [RnA.det k k']
  | _, _, _, .tup h k, .tup h' k' => by
    rw [h] at h'
    cases h'
    rw [RnA.det k k']
  | _, _, _, .dk _, .dk _ => rfl
  | _, _, _, .lst h _, .tup h' _ => by rw [h] at h'; cases h'
  | _, _, _, .lst h _, .dk h' => by rw [h] at h'; cases h'
  | _, _, _, .tup h _, .lst h' _ => by rw [h] at h'; cases h'
  | _, _, _, .tup h _, .dk h' => by rw [h] at h'; cases h'
  | _, _, _, .dk h, .lst h' _ => by rw [h] at h'; cases h'
  | _, _, _, .dk h, .tup h' _ => by rw [h] at h'; cases h'
theorem RnA.det {H : Hp} : ∀ {vs : List V} {ds ds' : List PyData}, RnA H vs ds → RnA H vs ds' → ds = ds'
  | _, _, _, .nil, .nil => rfl
  | _, _, _, .cons h k, .cons h' k' => by rw [Rn.det h h', RnA.det k k']
end
theorem SdE.sd {H : Hp} {v : V} {d : PyData} (h : SdE H v) (r : Rn H v d) : Sd H v d := by
  obtain ⟨d', h⟩ := h
  rw [r.det h.rn]
  exact h
def SmA (H : Hp) (xs : List V) (n k : Nat) : Prop := ∃ ds, RnA H xs ds ∧ PyData.hasDictAll ds = false ∧ okA ds = true ∧ szA ds ≤ n ∧ PyData.depthAll ds ≤ k
section
variable {H : Hp} {v : V} {xs ys : List V} {n m k : Nat}
theorem SmA.of (h : ∀ x ∈ xs, Sm H x n k) (hm : xs.length ≤ m) : SmA H xs (m * n) k := by
  obtain ⟨ds, a, b, c, d, e⟩ := Sm.all h
  exact ⟨ds, a, b, c, Nat.le_trans d (Nat.mul_le_mul_right n hm), e⟩
theorem SmA.up {n' k' : Nat} (h : SmA H xs n k) (h1 : n ≤ n') (h2 : k ≤ k') : SmA H xs n' k' := by
  obtain ⟨ds, a, b, c, d, e⟩ := h
  exact ⟨ds, a, b, c, by omega, by omega⟩
theorem SmA.nil : SmA H [] 0 k := ⟨[], .nil, rfl, rfl, by simp [szA], by simp [PyData.depthAll]⟩
theorem SmA.cons (h : Sm H v n k) (t : SmA H xs m k) : SmA H (v :: xs) (n + m) k := by
  obtain ⟨ds, a, b, c, d, e⟩ := t
  obtain ⟨x, a1, b1, c1, d1, e1⟩ := h
  refine ⟨x :: ds, .cons a1 a, by simp [PyData.hasDictAll, b, b1], by simp [okA, c, c1], ?_, ?_⟩
  · simp only [szA]; omega
  · simp only [PyData.depthAll]; omega
theorem SmA.app : ∀ {xs : List V} {n : Nat}, SmA H xs n k → SmA H ys m k → SmA H (xs ++ ys) (n + m) k
  | [], n, _, t => t.up (by omega) (Nat.le_refl _)
  | x :: xs, n, ⟨ds, a, b, c, d, e⟩, t => by
    cases a with
    | @cons _ _ d0 ds0 a1 a2 =>
      simp only [PyData.hasDictAll, Bool.or_eq_false_iff] at b
      simp only [okA, Bool.and_eq_true] at c
      simp only [szA] at d
      simp only [PyData.depthAll] at e
      have h := SmA.app (xs := xs) ⟨ds0, a2, b.2, c.2, Nat.le_refl _, by omega⟩ t
      exact (SmA.cons (n := szD d0) ⟨d0, a1, b.1, c.1, Nat.le_refl _, by omega⟩ h).up (by omega) (Nat.le_refl _)
theorem SmA.lst {a : Addr} (h : H a = some (.lst xs)) (t : SmA H xs n k) : Sm H (.ref a) (1 + n) (k + 1) := by
  obtain ⟨ds, h1, h2, h3, h4, h5⟩ := t
  exact ⟨.list ds, .lst h h1, by simpa only [PyData.hasDict] using h2, by simpa only [okD] using h3, by simp only [szD]; omega, by simp only [PyData.depth]; omega⟩
theorem SmA.tup {a : Addr} (h : H a = some (.tup xs)) (t : SmA H xs n k) : Sm H (.ref a) (1 + n) (k + 1) := by
  obtain ⟨ds, h1, h2, h3, h4, h5⟩ := t
  exact ⟨.tuple ds, .tup h h1, by simpa only [PyData.hasDict] using h2, by simpa only [okD] using h3, by simp only [szD]; omega, by simp only [PyData.depth]; omega⟩
theorem ObjsAt.mem {ts : List Addr} {os : List HO} (h : ObjsAt H ts os) {a : Addr} (ha : a ∈ ts) : ∃ o ∈ os, H a = some o := by
  obtain ⟨j, hj⟩ := List.getElem?_of_mem ha
  have hl := h.len
  have hjl := (List.getElem?_eq_some_iff.mp hj).1
  obtain ⟨o, ho⟩ : ∃ o, os[j]? = some o := ⟨os[j]'(by omega), List.getElem?_eq_getElem _⟩
  exact ⟨o, List.mem_of_getElem? ho, h.at j a o hj ho⟩
end
theorem Ex.comp {M : Addr → Prop} {H0 H H' : Hp} (e0 : Ex H0 H) (e : Fr M H H') (n : ∀ b, M b → H0 b = none) : Ex H0 H' := fun b o _ q => e b o (fun m => by rw [n b m] at q; cases q) (e0 b o (fun z => z) q)
end Zb
namespace Zb
open PySem PySem.Spec PyProof.Rows L2
mutual
theorem Rq.ex {H H' : Hp} (e : Ex H H') : ∀ {v : V} {d : PyData}, Rq H v d → Rq H' v d
  | _, _, .non => .non
  | _, _, .bl b => .bl b
  | _, _, .int i => .int i
  | _, _, .str x => .str x
  | _, _, .lst h k => .lst (lstAt_ex e h) (RqA.ex e k)
  | _, _, .tup h k => .tup (tupAt_ex e h) (RqA.ex e k)
  | _, _, .dk h k => .dk (e.get h) (RqA.ex e k)
theorem RqA.ex {H H' : Hp} (e : Ex H H') : ∀ {vs : List V} {ds : List PyData}, RqA H vs ds → RqA H' vs ds
  | _, _, .nil => .nil
  | _, _, .cons h k => .cons (Rq.ex e h) (RqA.ex e k)
end
/-- v is d, and is shown by n signs at most, k deep -/
structure Sh (H : Hp) (v : V) (d : PyData) (n k : Nat) : Prop where
  rq : Rq H v d
  sw : d.showable = true
  dp : d.depth ≤ k
  sz : d.shown.length ≤ n
section
variable {H H' : Hp} {v : V} {d : PyData} {n k : Nat} {Q : VK}
theorem Sh.ex (h : Sh H v d n k) (e : Ex H H') : Sh H' v d n k := ⟨h.rq.ex e, h.sw, h.dp, h.sz⟩
theorem Sh.up {n' k' : Nat} (h : Sh H v d n k) (h1 : n ≤ n') (h2 : k ≤ k') : Sh H v d n' k' := ⟨h.rq, h.sw, by have := h.dp; omega, by have := h.sz; omega⟩
theorem Sh.non : Sh H .non .none 4 0 := ⟨.non, rfl, by simp [PyData.depth], by decide⟩
theorem Sh.bl (b : Bool) : Sh H (.bl b) (.bool b) 5 0 := ⟨.bl b, rfl, by simp [PyData.depth], by cases b <;> decide⟩
theorem Sh.str {x : Str} (hx : ∀ c ∈ x.cps.toList, c < 16 ^ 8) : Sh H (.str x) (.str x) (10 * x.length + 2) 0 := ⟨.str x, rfl, by simp [PyData.depth], PySem.StrLaws.reprText_len x hx⟩
theorem Sh.int {i : Int} {m : Nat} (hm : 0 < m) (h : i.natAbs < 10 ^ m) (h2 : i.natAbs.log2 < 1920) : Sh H (.int i) (.int i) (m + 1) 0 := ⟨.int i, by simpa only [PyData.showable, decide_eq_true_eq] using h2, by simp [PyData.depth], by
  have e := int_text_length_le10 hm h
  have e2 : (Str.ofString (toString i)).length = (toString i).length := PySem.ofString_length _
  show (Str.ofString (toString i)).length ≤ _
  omega⟩
/-- rows of shown things -/
inductive ShA (H : Hp) (k : Nat) : List V → List PyData → Nat → Prop
  | nil : ShA H k [] [] 0
  | cons {v : V} {d : PyData} {n : Nat} {vs : List V} {ds : List PyData} {m : Nat} : Sh H v d n k → ShA H k vs ds m → ShA H k (v :: vs) (d :: ds) (n + 2 + m)
theorem ShA.all : ∀ {vs : List V} {ds : List PyData} {m : Nat}, ShA H k vs ds m → RqA H vs ds ∧ PyData.showableAll ds = true ∧ PyData.depthAll ds ≤ k ∧ ((PyData.shownAll ds).map (·.length)).sum + 2 * ds.length ≤ m
  | _, _, _, .nil => ⟨.nil, rfl, by simp [PyData.depthAll], by simp [PyData.shownAll]⟩
  | _, _, _, .cons h t => by
    obtain ⟨a, b, c, e⟩ := ShA.all t
    refine ⟨.cons h.rq a, by simp [PyData.showableAll, h.sw, b], ?_, ?_⟩
    · have := h.dp
      simp only [PyData.depthAll]; omega
    · have := h.sz
      simp only [PyData.shownAll, List.map_cons, List.sum_cons, List.length_cons]; omega
theorem ShA.lst {a : Addr} {xs : List V} {ds : List PyData} (h : H a = some (.lst xs)) (t : ShA H k xs ds n) : Sh H (.ref a) (.list ds) (n + 3) (k + 1) := by
  obtain ⟨r, s, dp, sz⟩ := t.all
  have h2 := listText_len_le (PyData.shownAll ds)
  have h3 := PyData.shownAll_length ds
  exact ⟨.lst (lst_of h) r, by simpa only [PyData.showable] using s, by simp only [PyData.depth]; omega, by simp only [PyData.shown]; omega⟩
theorem ShA.tup {a : Addr} {xs : List V} {ds : List PyData} (h : H a = some (.tup xs)) (t : ShA H k xs ds n) : Sh H (.ref a) (.tuple ds) (n + 3) (k + 1) := by
  obtain ⟨r, s, dp, sz⟩ := t.all
  have h2 := tupleText_len_le (PyData.shownAll ds)
  have h3 := PyData.shownAll_length ds
  exact ⟨.tup (tup_of h) r, by simpa only [PyData.showable] using s, by simp only [PyData.depth]; omega, by simp only [PyData.shown]; omega⟩
theorem ShA.map {α : Type} {val : α → V} {enc : α → PyData} {m : Nat} : ∀ {xs : List α}, (∀ x ∈ xs, Sh H (val x) (enc x) m k) → ShA H k (xs.map val) (xs.map enc) (xs.length * (m + 2))
  | [], _ => by rw [List.length_nil, Nat.zero_mul]; exact .nil
  | x :: xs, h => by
    have := ShA.cons (h x List.mem_cons_self) (ShA.map fun y hy => h y (List.mem_cons_of_mem _ hy))
    rw [List.length_cons, Nat.succ_mul]
    rwa [show xs.length * (m + 2) + (m + 2) = m + 2 + xs.length * (m + 2) by omega]
theorem Sh.dk0 {a : Addr} (h : H a = some (.dK [])) : Sh H (.ref a) (.dict []) 2 1 := ⟨.dk0 h, rfl, by simp [PyData.depth, PyData.depthKv], by decide +kernel⟩
end
def rIsXs (K : PySem.W.Frag) (a : Addr) (cls : Value) (d : Option Addr) : List V → Hp → VK → Prop := fun xs H Q => ∃ (tp : Addr) (cs : List V) (cvs : List Value) (b : Bool) (C dd : Addr) (fs : List (Str × V)), xs = [.ref a, .ref tp] ∧ H tp = some (.tup cs) ∧ (∀ us, Vals cs us → us = cvs) ∧ cls = .ref C ∧ XI K C ∧ d = some dd ∧ H dd = some (.xd fs) ∧ PySem.W.kitAny K (.ref C) cvs = some b ∧ Q (.bl b) H
section
variable {K : PySem.W.Frag} {H : Hp} {Q : VK}
theorem st_isXs2 {a C C1 C2 dd tp : Addr} {fs : List (Str × V)} {b1 b2 : Bool} (T : XI K C) (h1 : H dd = some (.xd fs)) (ht : H tp = some (.tup [.ref C1, .ref C2])) (e1 : PySem.W.kitOne K (.ref C) (.ref C1) = some b1) (e2 : PySem.W.kitOne K (.ref C) (.ref C2) = some b2) (h : Q (.bl (b1 || b2)) H) : rIsXs K a (.ref C) (some dd) [.ref a, .ref tp] H Q := by
  refine ⟨tp, _, [.ref C1, .ref C2], b1 || b2, C, dd, fs, rfl, ht, fun us r => ?_, rfl, T, rfl, h1, ?_, h⟩
  · cases r with
    | cons r1 rr =>
      cases rr with
      | cons r2 rr =>
        cases rr
        cases r1
        cases r2
        rfl
  · unfold PySem.W.kitAny
    rw [e1]
    cases b1 with
    | true => rfl
    | false =>
      show PySem.W.kitAny K _ [.ref C2] = _
      unfold PySem.W.kitAny
      rw [e2]
      cases b2 <;> rfl
end
def hid (p : Addr) (H : Hp) : Hp := fun b => if b = p then none else H b
theorem hid_get {p a : Addr} {H : Hp} {o : HO} (h : H a = some o) (n : a ≠ p) : hid p H a = some o := by
  unfold hid
  rw [if_neg n]
  exact h
theorem hid_ex (p : Addr) (H : Hp) : Ex (hid p H) H := fun b o _ h => by
  unfold hid at h
  split at h
  · cases h
  · exact h
theorem hid_frp {p : Addr} {H H' : Hp} (e : FrP p H H') : Ex (hid p H) (hid p H') := fun b o _ h => by
  unfold hid at h ⊢
  by_cases n : b = p
  · rw [if_pos n] at h; cases h
  · rw [if_neg n] at h ⊢
    exact e b o n h
end Zb
namespace Zb
open PySem PySem.Spec PyProof.Rows L2
def rEqA (K : PySem.W.Frag) : R2 := fun x y H Q => rEqU x y H Q ∨ rEqV K x y H Q
theorem o_eqA {X : Cx} {K : PySem.W.Frag} (hu : X.A.units + 64 < cLine) (hK : X.K = K := by rfl) : OpR X (compareOp .Eq) (rEqA K) := by
  subst hK
  intro pins s σ H x y v u Q I rx ry h
  rcases h with h | h
  · exact o_eq hu pins s σ H x y v u Q I rx ry h
  · exact op_eqV hu pins s σ H x y v u Q I rx ry h
section
variable {K : PySem.W.Frag} {H : Hp} {Q : VK}
theorem st_eqA {x y : V} {d e : PyData} (h1 : Rp H x d) (h2 : Rp H y e) (hd : min d.depth e.depth ≤ 64) (h : Q (.bl (PyData.eqv d e)) H) : rEqA K x y H Q := .inl ⟨d, e, h1, h2, hd, h⟩
theorem st_eqA0 {a : Addr} (h1 : H a = some (.dK [])) (h : Q (.bl true) H) : rEqA K (.ref a) (.ref a) H Q :=
  .inr ⟨0, by decide, .inr ⟨a, a, [], [], rfl, rfl, h1, h1, rfl, fun _ h => (List.not_mem_nil h).elim⟩, h⟩
mutual
theorem eqv_self : ∀ d : PyData, d.hasDict = false → PyData.eqv d d = true
  | .none, _ => rfl
  | .bool b, _ => by simp [PyData.eqv]
  | .int i, _ => by simp [PyData.eqv]
  | .str x, _ => by simp [PyData.eqv]
  | .list ds, h => by
    simp only [PyData.eqv]
    exact eqvAll_self ds (by simpa only [PyData.hasDict] using h)
  | .tuple ds, h => by
    simp only [PyData.eqv]
    exact eqvAll_self ds (by simpa only [PyData.hasDict] using h)
  | .dict kvs, h => by simp [PyData.hasDict] at h
theorem eqvAll_self : ∀ ds : List PyData, PyData.hasDictAll ds = false → PyData.eqvAll ds ds = true
  | [], _ => rfl
  | d :: ds, h => by
    simp only [PyData.hasDictAll, Bool.or_eq_false_iff] at h
    simp only [PyData.eqvAll, eqv_self d h.1, eqvAll_self ds h.2, Bool.and_self]
end
/-- a thing is like itself -/
theorem st_eqSelf {x : V} {d : PyData} (h1 : Rn H x d) (hd : d.hasDict = true → d = .dict []) (hp : d.depth ≤ 64) (h : Q (.bl true) H) : rEqA K x x H Q := by
  cases hb : d.hasDict with
  | false => exact st_eqA (h1.rp hb) (h1.rp hb) (by omega) (by rw [eqv_self d hb]; exact h)
  | true =>
    have := hd hb
    subst this
    cases h1 with
    | dk h2 => exact st_eqA0 h2 h
end
end Zb
namespace Zb
open PySem PySem.Spec PyProof.Rows L2
def gSl (to : TE) (tl th : TO) : TG := fun v σ H Q => to σ H fun o H1 => tl σ H1 fun l H2 => th σ H2 fun u H3 => ∃ (p q : Addr) (xs ys : List V) (a c : Int), o = .ref p ∧ v = .ref q ∧ l = some a ∧ u = some c ∧ H3 p = some (.lst xs) ∧ H3 q = some (.lst ys) ∧ p ≠ q ∧ 0 ≤ a ∧ a ≤ c ∧ c ≤ xs.length ∧ xs.length + ys.length ≤ 16777216 ∧ Q σ (upd H3 p (.lst (xs.take a.toNat ++ ys ++ xs.drop c.toNat)))
theorem st_gsl {to : TE} {tl th : TO} {v : V} {σ : L2.St} {H : Hp} {R : L2.St → Hp → Prop} (h : to σ H fun o H1 => tl σ H1 fun l H2 => th σ H2 fun u H3 => ∃ (p q : Addr) (xs ys : List V) (a c : Int), o = .ref p ∧ v = .ref q ∧ l = some a ∧ u = some c ∧ H3 p = some (.lst xs) ∧ H3 q = some (.lst ys) ∧ p ≠ q ∧ 0 ≤ a ∧ a ≤ c ∧ c ≤ xs.length ∧ xs.length + ys.length ≤ 16777216 ∧ R σ (upd H3 p (.lst (xs.take a.toNat ++ ys ++ xs.drop c.toNat)))) : gSl to tl th v σ H R := h
abbrev TRg := L2.St → Hp → (Int → Int → Int → Hp → Prop) → Prop
def PRgC (X : Cx) (e : Expr) (t : TRg) : Prop := ∀ (pins : List (Addr × Obj)) (s : Shared) (σ : L2.St) (H : Hp) (Q : Int → Int → Int → Hp → Prop), Inv X pins σ H s → t σ H Q →
  wpAny (model X.prog X.w) X.A (eval e X.env) (fun x s' => ∃ r a b c t u v H', x = .ref r ∧ IsRange s'.heap r a b c t u v ∧ Inv X pins σ H' s' ∧ Q a b c H') X.xe s
def tRgC (ta : TA) : TRg := fun σ H Q => ta σ H fun vs H1 => match vs with
  | [.int n] => Q 0 n 1 H1
  | [.int i, .int j] => Q i j 1 H1
  | [.int i, .int j, .int c] => c ≠ 0 ∧ c.natAbs < 1073741824 ∧ Q i j c H1
  | _ => False
section
variable {X : Cx}
theorem prgC {es : List Expr} {e : Expr} {ta : TA} {p pos : Pos} (hg : Gl X "range") (hm : X.mg "range" = none) (ha : PA X (e :: es) ta) (hs : starEach (e :: es) X.env = (false, eval e X.env) :: starEach es X.env := by rfl)
    (hpl : (backTo pos (starEach es X.env)).any (·.1) = false := by rfl) : PRgC X (.Call (.Name "range" p) (e :: es) [] pos) (tRgC ta) := by
  intro pins s σ H Q I h
  refine Call_ (ld_blt I hg hm boot_range (PyProof.Rows.callWith_type1 (thn (ha.run pos pins s σ H _ I h) fun us s1 ⟨vs, H1, I1, r1, q1⟩ => ?_) hs hpl))
  dsimp only at q1
  split at q1
  · obtain ⟨u, rfl, t, rfl⟩ := vals1 r1
    exact call_range_1 ⟨_, _, _, _, _, _, _, H1, rfl, IsRange.new _ _ _ _ _ _ _, I1.kept fun _ _ z => Heap.get?_push_of_some _ z, q1⟩
  · obtain ⟨u, w, rfl, ⟨t, rfl⟩, t', rfl⟩ := vals2 r1
    exact call_range_2 ⟨_, _, _, _, _, _, _, H1, rfl, IsRange.new _ _ _ _ _ _ _, I1.kept fun _ _ z => Heap.get?_push_of_some _ z, q1⟩
  · obtain ⟨c0, c1, q1⟩ := q1
    cases r1 with
    | cons r rr =>
      obtain ⟨u, w, rfl, ⟨t1, rfl⟩, t2, rfl⟩ := vals2 rr
      obtain ⟨t, rfl⟩ := r
      exact call_range_3 c0 ⟨_, _, _, _, _, _, _, H1, rfl, IsRange.new _ _ _ _ _ _ _, I1.kept fun _ _ z => Heap.get?_push_of_some _ z, q1⟩ (.inl (PyProof.noPylong_small c1))
  · exact q1.elim
def rgL (a c : Int) (n : Nat) : List Int := (List.range n).map fun i : Nat => a + (i : Int) * c
theorem vals_rgL {a c : Int} {n : Nat} {acc : Array Value} (h : ItemsOf (fun i v => ∃ t, v = .int (a + i * c) t) acc n) : Vals ((rgL a c n).map V.int) acc.toList := by
  have e : acc.toList.length = n := by rw [Array.length_toList]; exact h.1
  unfold rgL
  rw [← e, List.map_map]
  refine vals_of_get acc.toList _ fun j u hj => ?_
  obtain ⟨t, rfl⟩ := h.2 j u (by rw [← hj, Array.getElem?_toList])
  exact ⟨t, rfl⟩
def tListRg (t : TRg) : TE := fun σ H Q => t σ H fun a b c H1 => ∃ n : Nat, Builtin.Range.small a b c = true ∧ Builtin.Range.rangeSize a b c = n ∧ n ≤ 16777216 ∧ ∀ q, H1 q = none → Q (.ref q) (upd H1 q (.lst ((rgL a c n).map V.int)))
theorem pe_listRgC {e : Expr} {t : TRg} {p pos : Pos} (hc : X.calm = true) (hg : Gl X "list") (hm : X.mg "list" = none) (he : PRgC X e t) (na : starEach [e] X.env = (false, eval e X.env) :: starEach [] X.env := by rfl) : PE X (.Call (.Name "list" p) [e] [] pos) (tListRg t) := by
  refine ⟨fun pins s σ H Q I h => ?_⟩
  refine Call_ (ld_blt I hg hm boot_list (PyProof.Rows.callWith_type1 (args_cons (thn (he pins s σ H _ I h) fun x s1 ⟨r, a, b, c, t, u, v, H1, ex, hr, I1, n, o1, o2, o3, q⟩ => args_nil ?_) na) na))
  subst ex
  refine call_list_range (n := n) (I1.ok.hd hc) hr o1 o2 o3 fun h' tk acc c' hk e' hi => ?_
  have hl : ((rgL a c n).map V.int).length ≤ sizeLine := by rw [List.length_map, rgL, List.length_map, List.length_range, sl16]; exact o3
  refine ⟨.ref s1.heap.objs.size, _, I1.laid (t' := tk) hk (Nat.le_refl _) (show ObjOk X.prog X.w _ h' _ (.lst _) from ⟨hl, acc.toList, c', vals_rgL hi, ?_⟩), rfl, q _ (I1.hok.fresh (Nat.le_refl _))⟩
  rw [Array.toArray_toList]
  exact e'
end
section
variable {σ : L2.St} {H : Hp} {Q : VK} {K : PySem.W.Frag}
def RgP (Q : VK) (a b c : Int) (H1 : Hp) : Prop := ∃ n : Nat, Builtin.Range.small a b c = true ∧ Builtin.Range.rangeSize a b c = n ∧ n ≤ 16777216 ∧ ∀ q, H1 q = none → Q (.ref q) (upd H1 q (.lst ((rgL a c n).map V.int)))
theorem st_listRg {t : TRg} (h : t σ H (RgP Q)) : tListRg t σ H Q := h
def RgQ (P : Int → Int → Int → Hp → Prop) (vs : List V) (H1 : Hp) : Prop := match vs with
  | [.int n] => P 0 n 1 H1
  | [.int i, .int j] => P i j 1 H1
  | [.int i, .int j, .int c] => c ≠ 0 ∧ c.natAbs < 1073741824 ∧ P i j c H1
  | _ => False
theorem st_rgC {ta : TA} {P : Int → Int → Int → Hp → Prop} (h : ta σ H (RgQ P)) : tRgC ta σ H P := h
theorem st_rg1 {n : Int} {P : Int → Int → Int → Hp → Prop} (h : P 0 n 1 H) : RgQ P [.int n] H := h
theorem st_rg2 {i j : Int} {P : Int → Int → Int → Hp → Prop} (h : P i j 1 H) : RgQ P [.int i, .int j] H := h
theorem st_rg3 {i j : Int} {P : Int → Int → Int → Hp → Prop} (h : P i j (-1) H) : RgQ P [.int i, .int j, .int (-1)] H := ⟨by decide, by decide, h⟩
theorem st_rgUp {a b : Int} (hz : -1000000 ≤ a ∧ a ≤ 1000000 ∧ -1000000 ≤ b ∧ b ≤ 1000000) (h : ∀ q H', H q = none → Ex H H' → H' q = some (.lst ((rgL a 1 (b - a).toNat).map V.int)) → Q (.ref q) H') : RgP Q a b 1 H :=
  ⟨(b - a).toNat, small_one (by omega) (by omega) (by omega) (by omega), rangeSize_nat a b, by omega, fun q hq => h q _ hq (Fr.new hq) upd_same⟩
theorem st_rgDown {a b : Int} (hz : -1000000 ≤ a ∧ a ≤ 1000000 ∧ -1000000 ≤ b ∧ b ≤ 1000000) (h : ∀ q H', H q = none → Ex H H' → H' q = some (.lst ((rgL a (-1) (a - b).toNat).map V.int)) → Q (.ref q) H') : RgP Q a b (-1) H :=
  ⟨(a - b).toNat, PySem.W.small_down (by omega) (by omega) (by omega) (by omega), PySem.W.rangeSize_downNat a b, by omega, fun q hq => h q _ hq (Fr.new hq) upd_same⟩
theorem rgL_up (n : Nat) : rgL 0 1 n = (List.range n).map fun i : Nat => (i : Int) := by
  unfold rgL
  exact List.map_congr_left fun i _ => by omega
end
def iSeq (K : PySem.W.Frag) (tl : TE) : TI := fun σ H R => tl σ H fun x H1 => ∃ a xs, x = .ref a ∧ seqAt H1 a = some xs ∧ ∀ (J : It) (S : Hp → Prop), Runs J xs.length S (fun i x H H' => H' = H ∧ xs[i]? = some x) → (∀ H', H' a = H1 a → S H') → R J H1
theorem lstAt_eq {H H' : Hp} {a : Addr} {xs : List V} (h : lstAt H a = some xs) (e : H' a = H a) : lstAt H' a = some xs := by
  unfold lstAt at h ⊢
  rw [e]
  exact h
theorem tupAt_eq {H H' : Hp} {a : Addr} {xs : List V} (h : tupAt H a = some xs) (e : H' a = H a) : tupAt H' a = some xs := by
  unfold tupAt at h ⊢
  rw [e]
  exact h
theorem pi_seq {X : Cx} {l tg : Expr} {tl : TE} {K : PySem.W.Frag} (hl : PE X l tl) (hK : X.K = K := by rfl) : PI X tg l (iSeq K tl) := by
  subst hK
  refine ⟨fun pins s σ H R I h => ?_⟩
  refine thn (hl.run pins s σ H _ I h) fun v s1 ⟨x, H1, I1, r1, q1⟩ => ?_
  obtain ⟨a, xs, rfl, hq, q⟩ := q1
  cases r1
  have fp : ∀ b ∈ [s1.heap.objs.size], b = s1.heap.objs.size := fun b hb => by simpa using hb
  rcases seqAt_cases hq with hq | hq
  · obtain ⟨its, rv, p, hz⟩ := I1.list (lstAt_sq hq)
    refine wpAny_pyIter_list p.isList ?_
    refine ⟨s1.heap.objs.size, [s1.heap.objs.size], _, _, H1, rfl, I1.kept (t' := s1.toks) fun _ _ e => Heap.get?_push_of_some _ e, turn_list a _, ⟨_, Heap.get?_push_size _ rfl, rfl, rfl⟩, fun b hb => ?_, q _ _ (runs_list X.K a xs) fun H' e => lstAt_eq hq e⟩
    rw [fp b hb]
    exact I1.fpOk (Nat.le_refl _) (I1.hok.fresh (Nat.le_refl _))
  · obtain ⟨its, rv, p, hz⟩ := I1.tuple (tupAt_sq hq)
    refine wpAny_pyIter_tuple (show s1.heap.IsTuple a its.toArray from p) ?_
    refine ⟨s1.heap.objs.size, [s1.heap.objs.size], _, _, H1, rfl, I1.kept (t' := s1.toks) fun _ _ e => Heap.get?_push_of_some _ e, turn_tuple a _, ⟨_, Heap.get?_push_size _ rfl, rfl, rfl⟩, fun b hb => ?_, q _ _ (runs_tup X.K a xs) fun H' e => tupAt_eq hq e⟩
    rw [fp b hb]
    exact I1.fpOk (Nat.le_refl _) (I1.hok.fresh (Nat.le_refl _))
/-- enumerate of a list or a tuple -/
def iEnQ (K : PySem.W.Frag) (ta : TA) : TI := fun σ H R => ta σ H fun vs H1 => ∃ a xs, vs = [.ref a] ∧ seqAt H1 a = some xs ∧ ∀ (J : It) (S : Hp → Prop), Runs J xs.length S (fun i x H H' => ∃ T v, x = .ref T ∧ H T = none ∧ Ex H H' ∧ H' T = some (.tup [.int (i : Nat), v]) ∧ xs[i]? = some v) → (∀ H', H' a = H1 a → S H') → R J H1
section
variable {σ : L2.St} {H : Hp} {K : PySem.W.Frag}
theorem st_iSeq {tl : TE} {R : It → Hp → Prop} (h : tl σ H fun x H1 => ∃ a xs, x = .ref a ∧ seqAt H1 a = some xs ∧ ∀ (J : It) (S : Hp → Prop), Runs J xs.length S (fun i x H H' => H' = H ∧ xs[i]? = some x) → (∀ H', H' a = H1 a → S H') → R J H1) : iSeq K tl σ H R := h
theorem st_isSeq {a : Addr} {xs : List V} {R : It → Hp → Prop} (h1 : seqAt H a = some xs) (h : ∀ (J : It) (S : Hp → Prop), Runs J xs.length S (fun i x H H' => H' = H ∧ xs[i]? = some x) → (∀ H', H' a = H a → S H') → R J H) : ∃ a' xs', V.ref a = .ref a' ∧ seqAt H a' = some xs' ∧ ∀ (J : It) (S : Hp → Prop), Runs J xs'.length S (fun i x H H' => H' = H ∧ xs'[i]? = some x) → (∀ H', H' a' = H a' → S H') → R J H := ⟨a, xs, rfl, h1, h⟩
theorem st_iEnQ {ta : TA} {R : It → Hp → Prop} (h : ta σ H fun vs H1 => ∃ a xs, vs = [.ref a] ∧ seqAt H1 a = some xs ∧ ∀ (J : It) (S : Hp → Prop), Runs J xs.length S (fun i x H H' => ∃ T v, x = .ref T ∧ H T = none ∧ Ex H H' ∧ H' T = some (.tup [.int (i : Nat), v]) ∧ xs[i]? = some v) → (∀ H', H' a = H1 a → S H') → R J H1) : iEnQ K ta σ H R := h
end
def rIsT2 : List V → Hp → VK → Prop := fun vs H Q => ∃ (x : V) (tp : Addr) (n m t : String) (b c : Bool), vs = [x, .ref tp] ∧ H tp = some (.tup [.ty n, .ty m]) ∧ tyN H x = some t ∧ kitB t n = some b ∧ kitB t m = some c ∧ Q (.bl (b || c)) H
theorem kitAny_two {K : PySem.W.Frag} {t n m : String} {b c : Bool} (h1 : kitB t n = some b) (h2 : kitB t m = some c) : PySem.W.kitAny K (.type t) [.type n, .type m] = some (b || c) := by
  refine kitAny_cons (kit_ty h1) (fun hb => ?_) (fun hb => by rw [hb]; rfl)
  refine kitAny_cons (kit_ty h2) (fun hc => ?_) (fun hc => by rw [hc, Bool.or_true])
  rw [hb, hc]
  rfl
theorem c_isT2 {X : Cx} : CallR X (.builtin "isinstance") rIsT2 := by
  intro pins s σ H xs us Q I r h
  obtain ⟨x, tp, n, m, t, b, c, rfl, hT, ht, h1, h2, q⟩ := h
  exact call_isiT pins s σ H _ us Q I r ⟨x, tp, _, _, [.type n, .type m], b || c, rfl, hT, .cons (.ty _) (.cons (.ty _) .nil), tyN_ok ht, kitAny_two h1 h2, q⟩
theorem st_isT2 {H : Hp} {Q : VK} {x : V} {tp : Addr} {n m t : String} {b c : Bool} (hT : H tp = some (.tup [.ty n, .ty m])) (ht : tyN H x = some t) (h1 : kitB t n = some b) (h2 : kitB t m = some c) (h : Q (.bl (b || c)) H) : rIsT2 [x, .ref tp] H Q := ⟨x, tp, n, m, t, b, c, rfl, hT, ht, h1, h2, h⟩
theorem seqAt_eq {H H' : Hp} {a : Addr} {xs : List V} (h : seqAt H a = some xs) (e : H' a = H a) : seqAt H' a = some xs := by
  unfold seqAt at h ⊢
  rw [e]
  exact h
theorem seqAt_ex {H H' : Hp} {a : Addr} {xs : List V} (e : Ex H H') (h : seqAt H a = some xs) : seqAt H' a = some xs := by
  cases q : H a with
  | none => unfold seqAt at h; rw [q] at h; cases h
  | some o => exact seqAt_eq h (by rw [e a o (fun z => z) q, q])
theorem seqAt_same {H H' : Hp} {a : Addr} {xs : List V} (e : Ex H H') (h : seqAt H a = some xs) : H' a = H a := by
  cases q : H a with
  | none => unfold seqAt at h; rw [q] at h; cases h
  | some o => exact e a o (fun z => z) q
theorem seqAt_same' {M : Addr → Prop} {H H' : Hp} {a : Addr} {xs : List V} (e : Fr M H H') (n : ¬ M a) (h : seqAt H a = some xs) : H' a = H a := by
  cases q : H a with
  | none => unfold seqAt at h; rw [q] at h; cases h
  | some o => exact e a o n q
theorem st_isLT {H : Hp} {Q : VK} {x : V} {d : PyData} {tp : Addr} (h1 : Rq H x d) (hT : H tp = some (.tup [.ty "list", .ty "tuple"])) (h : Q (.bl (isListD d || isTupD d)) H) : rIsT2 [x, .ref tp] H Q := by
  obtain ⟨a1, a2, a3, a4, a5, a6, a7⟩ := kb_list
  obtain ⟨b1, b2, b3, b4, b5, b6, b7⟩ := kb_tup
  refine st_isT2 hT h1.tyn (b := isListD d) (c := isTupD d) ?_ ?_ h
  all_goals (cases d <;> assumption)
theorem Rn.seq {H : Hp} {x : V} {d : PyData} (h : Rn H x d) (hd : (isListD d || isTupD d) = true) : ∃ a xs ds, x = .ref a ∧ seqAt H a = some xs ∧ RnA H xs ds ∧ (d = .list ds ∨ d = .tuple ds) := by
  cases h with
  | lst h k => exact ⟨_, _, _, rfl, seq_l h, k, .inl rfl⟩
  | tup h k => exact ⟨_, _, _, rfl, seq_t h, k, .inr rfl⟩
  | _ => cases hd
def rDivW : R2 := fun x y H Q => match x, y with
  | .int i, .int j => 0 < j ∧ j < 1267650600228229401496703205376 ∧ Q (.int (i / j)) H
  | _, _ => False
theorem o_divW {X : Cx} : OpR X (binaryOp .FloorDiv) rDivW := by
  intro pins s σ H x y v u Q I rx ry h
  unfold rDivW at h
  split at h
  · obtain ⟨h1, h2, q⟩ := h
    exact op_fdivW pins s σ H _ _ v u Q I rx ry ⟨_, _, rfl, rfl, wide_div (b := 100) h1 (by omega) (by decide) (by decide), q⟩
  · exact h.elim
theorem st_divW {H : Hp} {Q : VK} {i j : Int} (hc : 0 < j ∧ j < 1267650600228229401496703205376) (h : Q (.int (i / j)) H) : rDivW (.int i) (.int j) H Q := ⟨hc.1, hc.2, h⟩
def rNeA (K : PySem.W.Frag) : R2 := fun x y H Q => rNeU x y H Q ∨ rNeDA x y H Q
theorem o_neA {X : Cx} {K : PySem.W.Frag} (hu : X.A.units + 64 < cLine) : OpR X (compareOp .NotEq) (rNeA K) := by
  intro pins s σ H x y v u Q I rx ry h
  rcases h with h | h
  · exact o_ne hu pins s σ H x y v u Q I rx ry h
  · exact op_ne_dictA (by omega) pins s σ H x y v u Q I rx ry h
section
variable {K : PySem.W.Frag} {H : Hp} {Q : VK}
theorem st_neA {x y : V} {d e : PyData} (h1 : Rp H x d) (h2 : Rp H y e) (hd : min d.depth e.depth ≤ 64) (h : Q (.bl (!PyData.eqv d e)) H) : rNeA K x y H Q := .inl ⟨d, e, h1, h2, hd, h⟩
theorem st_neA0 {a : Addr} (h1 : H a = some (.dK [])) (h : Q (.bl false) H) : rNeA K (.ref a) (.ref a) H Q := .inr ⟨a, a, [], [], rfl, rfl, h1, h1, rfl, fun _ h => (List.not_mem_nil h).elim, h⟩
/-- a thing is like itself -/
theorem st_neSelf {x : V} {d : PyData} (h1 : Rn H x d) (hd : d.hasDict = true → d = .dict []) (hp : d.depth ≤ 64) (h : Q (.bl false) H) : rNeA K x x H Q := by
  cases hb : d.hasDict with
  | false => exact st_neA (h1.rp hb) (h1.rp hb) (by omega) (by rw [eqv_self d hb]; exact h)
  | true =>
    have := hd hb
    subst this
    cases h1 with
    | dk h2 => exact st_neA0 h2 h
theorem s_slA {X : Cx} (hK : X.K = K := by rfl) : SlR X (rSlA K) := by
  subst hK
  exact sl_tupA
end
end Zb
namespace Zb
open PySem PySem.Spec PyProof.Rows L2
section
variable {X : Cx} {K : PySem.W.Frag} {H : Hp} {Q : VK}
def rSlQ (K : PySem.W.Frag) : V → Option Int → Option Int → Hp → VK → Prop := fun x lo hi H Q => rSlU K x lo hi H Q ∨ rSlA K x lo hi H Q
theorem s_slQ (hK : X.K = K := by rfl) : SlR X (rSlQ K) := by
  intro pins s σ H x v vl vu lo hi sl Q I rx hs pl pu h
  rcases h with h | h
  · exact s_sl hK pins s σ H x v vl vu lo hi sl Q I rx hs pl pu h
  · exact s_slA hK pins s σ H x v vl vu lo hi sl Q I rx hs pl pu h
theorem st_slQ {a : Addr} {xs : List V} {lo hi : Option Int} (h1 : seqAt H a = some xs) (h : ∀ q H', Ex H H' → seqAt H' q = some (cutV xs lo hi) → Q (.ref q) H') : rSlQ K (.ref a) lo hi H Q := by
  rcases seqAt_cases h1 with h2 | h2
  · exact .inl ⟨xs, lstAt_sq h2, fun q hq => h q _ (Fr.new hq) (seq_l upd_same)⟩
  · refine .inr ⟨a, xs, rfl, tupAt_sq h2, fun hw => h a H (Fr.refl _) ?_, fun _ q hq => h q _ (Fr.new hq) (seq_t upd_same)⟩
    rw [h1]
    have e : cutV xs lo hi = xs := by
      unfold cutV
      rw [hw.1, hw.2, List.drop_zero, Nat.sub_zero, List.take_length]
    rw [e]
end
theorem rv_of {α : Type} {J : It} {S : Hp → Prop} {ys : List α} {val : α → V} (h : Runs J (ys.map val).length S (fun i x H H' => H' = H ∧ (ys.map val)[i]? = some x)) : RunsV J ys val S := by
  rw [List.length_map] at h
  refine ⟨h.go, h.stop, fun i H x H' hi s y => ?_⟩
  obtain ⟨e1, e2⟩ := h.yld i H x H' hi s y
  rw [List.getElem?_map] at e2
  cases q : ys[i]? with
  | none => rw [q] at e2; cases e2
  | some z =>
    rw [q] at e2
    exact ⟨e1, z, rfl, (Option.some.inj e2).symm⟩
/-- a comprehension, turn by turn, no test -/
theorem lc_turns {J : It} {S : Hp → Prop} {item : Nat → V → Hp → Hp → Prop} {g : TG} {σ : L2.St} {H1 : Hp} {te : TE} {vs : List Nat} {Q : VK} {n : Nat} (hR : Runs J n S item) (hE : ∀ i x H H', item i x H H' → Ex H H') (hS : ∀ H', Ex H1 H' → S H') (hz : n < 1000000) (f : Nat → V)
    (hs : ∀ i x H' H'', i < n → Ex H1 H' → item i x H' H'' → ∀ (B : V → Hp → Prop), (∀ H3, Ex H'' H3 → B (f i) H3) → g x (wipe σ vs) H'' fun σ2 H2 => wipe σ2 vs = wipe σ vs ∧ te σ2 H2 B)
    (hd : ∀ D H', H1 D = none → Ex H1 H' → H' D = some (.lst ((List.range n).map f)) → Q (.ref D) H')
    (hg : ∀ v σ H (P P' : L2.St → Hp → Prop), (∀ σ H, P σ H → P' σ H) → g v σ H P → g v σ H P' := by intro _ _ _ _ _ k h; exact k _ _ h) : LcGoal J g tYes te vs σ Q H1 := by
  refine lc_runs hR (fun _ => False) (fun i acc _ => acc = (List.range i).map f) (fun _ z => z.elim) rfl (fun i acc H' D o _ _ e => e) (fun i acc H' e _ => hS H' e) ?_ ?_
  · rintro D i acc x H' H'' hi L rfl hx
    have e := hE _ _ _ _ hx
    refine hg _ _ _ _ _ (fun σ2 H2 h => ⟨h.1, h.2⟩) (hs i x H' H'' hi L.fr hx (fun v H4 => ∃ acc, H4 D = some (.lst acc) ∧ acc.length < sizeLine ∧ LcW (fun _ => False) H1 (fun i acc _ => acc = (List.range i).map f) D (i + 1) (upd H4 D (.lst (acc ++ [v])))) fun H3 e3 => ?_)
    refine lc_yes L (fun i acc H' D o _ _ e => e) (e.trans e3) (by rw [List.length_map, List.length_range]; omega) ?_
    rw [List.range_succ, List.map_append]
    rfl
  · rintro D acc H' hD e h rfl
    exact hd D H' hD e h
theorem gTup_mono {K : PySem.W.Frag} {n i j : Nat} : ∀ v σ H (P P' : L2.St → Hp → Prop), (∀ σ H, P σ H → P' σ H) → gTup K n (gCons (gName i) (gCons (gName j) gNil)) v σ H P → gTup K n (gCons (gName i) (gCons (gName j) gNil)) v σ H P' := by
  intro v σ H P P' k h
  obtain ⟨a, xs, h1, h2, h3, v1, r1, e1, v2, r2, e2, e3, h4⟩ := h
  exact ⟨a, xs, h1, h2, h3, v1, r1, e1, v2, r2, e2, e3, k _ _ h4⟩
/-- turns of a range that goes down to nought -/
theorem rgc_down {i : Int} {n : Nat} (h0 : i = (n : Int) - 1) (hn : n ≤ 1000000) : RgC i (-1) (-1) n := by
  subst h0
  have := RgC.neg (i := (n : Int) - 1) (j := -1) (by omega) (by omega) (by omega) (by omega)
  rwa [show ((n : Int) - 1 - -1).toNat = n by omega] at this
theorem relabel_free {env : Env} : ∀ {names : List (Str × NameKind)} {x : Str}, names.lookup x = some .cell ∨ names.lookup x = some .free →
    (names.map fun (n, k) => if (k == NameKind.free && env.scope.kind == .function && env.kindOf n == some .cell) then (n, NameKind.cell) else (n, k)).lookup x = some .cell ∨
    (names.map fun (n, k) => if (k == NameKind.free && env.scope.kind == .function && env.kindOf n == some .cell) then (n, NameKind.cell) else (n, k)).lookup x = some .free
  | [], _, h => by simp at h
  | (n, k) :: r, x, h => by
    have ih := @relabel_free env r x
    show List.lookup x ((if (k == NameKind.free && env.scope.kind == .function && env.kindOf n == some .cell) = true then (n, NameKind.cell) else (n, k)) :: _) = _ ∨ List.lookup x ((if (k == NameKind.free && env.scope.kind == .function && env.kindOf n == some .cell) = true then (n, NameKind.cell) else (n, k)) :: _) = _
    cases hx : x == n with
    | true =>
      simp only [List.lookup_cons, hx] at h
      by_cases hc : (k == NameKind.free && env.scope.kind == .function && env.kindOf n == some .cell) = true
      · rw [if_pos hc]; exact .inl (by simp only [List.lookup_cons, hx])
      · rw [if_neg hc]; simp only [List.lookup_cons, hx]; exact h
    | false =>
      simp only [List.lookup_cons, hx] at h
      by_cases hc : (k == NameKind.free && env.scope.kind == .function && env.kindOf n == some .cell) = true
      · rw [if_pos hc]; simp only [List.lookup_cons, hx]; exact ih h
      · rw [if_neg hc]; simp only [List.lookup_cons, hx]; exact ih h
theorem blkOk_rel {N : List Str} {sc scope : Scope} {env : Env} {own : List (Str × Nat)} (h : BlkOk N sc scope own) : BlkOk N (relabel sc env) scope own :=
  ⟨h.kind, h.uniq, h.ix, fun y hy e => relabel_free (h.free y hy e), h.own⟩
section
variable {X : Cx} {K : PySem.W.Frag}
theorem pi_listK {l tg : Expr} {tl : TE} (hl : PE X l tl) (hK : X.K = K := by rfl) : PI X tg l (iList K tl) := by subst hK; exact pi_list hl
end
/-- tuples of like things: the very same ones, or data that are alike -/
inductive Lk (H : Hp) : V → V → Prop
  | same (a : Addr) : Lk H (.ref a) (.ref a)
  | dat {x y : V} {d e : PyData} : Rp H x d → Rp H y e → min d.depth e.depth ≤ 60 → PyData.eqv d e = true → Lk H x y
section
variable {K : PySem.W.Frag} {H : Hp} {Q : VK}
theorem Lk.str (z : Str) : Lk H (.str z) (.str z) := .dat (.str z) (.str z) (by simp [PyData.depth]) (by rw [eqv_str]; exact decide_eq_true rfl)
theorem Lk.bl (z : Bool) : Lk H (.bl z) (.bl z) := .dat (.bl z) (.bl z) (by simp [PyData.depth]) (by cases z <;> rfl)
theorem Lk.int (z : Int) : Lk H (.int z) (.int z) := .dat (.int z) (.int z) (by simp [PyData.depth]) (by rw [eqv_int]; exact decide_eq_true rfl)
theorem st_dinU {ty td : TE} {σ : L2.St} (h : ty σ H fun y H1 => td σ H1 fun x H2 => ∃ a o, x = .ref a ∧ DGet H2 a y o ∧ Q (.bl o.isSome) H2) : tDIn ty td σ H Q := h
theorem st_dninU {ty td : TE} {σ : L2.St} (h : ty σ H fun y H1 => td σ H1 fun x H2 => ∃ a o, x = .ref a ∧ DGet H2 a y o ∧ Q (.bl (!o.isSome)) H2) : tDNotIn ty td σ H Q := h
theorem st_dputU {td ty tv : TE} {D : Ends} {σ : L2.St} (h : tv σ H fun v H1 => td σ H1 fun x H2 => ty σ H2 fun y H3 => ∃ a H4, x = .ref a ∧ DPut H3 a y v H4 ∧ D.nx σ H4) : sDPut td ty tv D σ H := h
theorem st_dnewT {σ : L2.St} (h : ∀ p H', H p = none → Ex H H' → H' p = some (.dT []) → Q (.ref p) H') : tDNewT σ H Q := fun p hp => h p _ hp (Fr.new hp) upd_same
end
end Zb
namespace Zb
open PySem PySem.Spec PyProof.Rows L2
section
variable {K : PySem.W.Frag} {σ : L2.St} {H : Hp} {Q : VK} {D : Ends} {C : Addr}
def FldP (K : PySem.W.Frag) (f : Str) (Q : VK) (x : V) (H1 : Hp) : Prop := ∃ a C dx fs v, x = .ref a ∧ H1 a = some (.ins C dx fs) ∧ Cls K C ∧ NoAttr K C f ∧ fs.lookup f = some v ∧ Q v H1
theorem st_fld {ta : TE} {f : Str} (h : ta σ H (FldP K f Q)) : tFld K ta f σ H Q := h
theorem st_fldP {f : Str} {a dx : Addr} {fs : List (Str × V)} {v : V} (h1 : H a = some (.ins C dx fs)) (c : Cls K C) (n : NoAttr K C f) (l : fs.lookup f = some v) (h : Q v H) : FldP K f Q (.ref a) H := ⟨a, C, dx, fs, v, rfl, h1, c, n, l, h⟩
def FldS (K : PySem.W.Frag) (f : Str) (y : V) (P : Hp → Prop) (x : V) (H2 : Hp) : Prop := ∃ a C dx fs, x = .ref a ∧ H2 a = some (.ins C dx fs) ∧ Cls K C ∧ NoAttr K C f ∧ fs.length < 1000 ∧ P (upd H2 a (.ins C dx (putF f y fs)))
theorem st_fldS {ta tv : TE} {f : Str} (h : tv σ H fun y H1 => ta σ H1 (FldS K f y (D.nx σ))) : sFld K ta tv f D σ H := h
theorem st_fldSP {f : Str} {y : V} {P : Hp → Prop} {a dx : Addr} {fs : List (Str × V)} (h1 : H a = some (.ins C dx fs)) (c : Cls K C) (n : NoAttr K C f) (l : fs.length < 1000) (h : P (upd H a (.ins C dx (putF f y fs)))) : FldS K f y P (.ref a) H := ⟨a, C, dx, fs, rfl, h1, c, n, l, h⟩
def MethP (C : Addr) (m : Str) (sp : Sp) (dvs : List V) (E : XK) (t : TA) (σ : L2.St) (Q : VK) (x : V) (H1 : Hp) : Prop := ∃ a dx fs, x = .ref a ∧ H1 a = some (.ins C dx fs) ∧ fs.lookup m = none ∧ t σ H1 fun vs H2 => sp (x :: (vs ++ dvs)) H2 Q E
theorem st_meth {m : Str} {sp : Sp} {dvs : List V} {E : XK} {ta : TE} {t : TA} (h : ta σ H (MethP C m sp dvs E t σ Q)) : tMeth C m sp dvs E ta t σ H Q := h
theorem st_methP {m : Str} {sp : Sp} {dvs : List V} {E : XK} {t : TA} {a dx : Addr} {fs : List (Str × V)} (h1 : H a = some (.ins C dx fs)) (l : fs.lookup m = none) (h : t σ H fun vs H2 => sp (.ref a :: (vs ++ dvs)) H2 Q E) : MethP C m sp dvs E t σ Q (.ref a) H := ⟨a, dx, fs, rfl, h1, l, h⟩
def MakeP (C : Addr) (sp : Sp) (dvs : List V) (E : XK) (Q : VK) (vs : List V) (H1 : Hp) : Prop := ∀ x dx, H1 x = none → H1 dx = none → dx ≠ x → sp (.ref x :: (vs ++ dvs)) (upd (upd H1 dx (.own x)) x (.ins C dx [])) (fun v H2 => v = .non ∧ Q (.ref x) H2) E
theorem st_make {sp : Sp} {dvs : List V} {E : XK} {t : TA} (h : t σ H (MakeP C sp dvs E Q)) : tMake C sp dvs E t σ H Q := h
end
/-- a comprehension whose items are new objects of which something is told -/
theorem lc_mk {J : It} {S : Hp → Prop} {item : Nat → V → Hp → Hp → Prop} {g : TG} {σ : L2.St} {H1 : Hp} {te : TE} {vs : List Nat} {Q : VK} {n : Nat} (hR : Runs J n S item) (hE : ∀ i x H H', item i x H H' → Ex H H') (hS : ∀ H', Ex H1 H' → S H') (hz : n < 1000000) (R : Nat → HO → Prop)
    (hs : ∀ i x H' H'', i < n → Ex H1 H' → item i x H' H'' → ∀ (B : V → Hp → Prop), (∀ a H3 o, H'' a = none → Ex H'' H3 → H3 a = some o → R i o → B (.ref a) H3) → g x (wipe σ vs) H'' fun σ2 H2 => wipe σ2 vs = wipe σ vs ∧ te σ2 H2 B)
    (hd : ∀ D H' ts os, H1 D = none → Ex H1 H' → H' D = some (.lst (ts.map V.ref)) → ObjsAt H' ts os → os.length = n → (∀ i o, os[i]? = some o → R i o) → D ∉ ts → (∀ a ∈ ts, H1 a = none) → Q (.ref D) H')
    (hg : ∀ v σ H (P P' : L2.St → Hp → Prop), (∀ σ H, P σ H → P' σ H) → g v σ H P → g v σ H P' := by intro _ _ _ _ _ k h; exact k _ _ h) : LcGoal J g tYes te vs σ Q H1 := by
  intro D hD
  let W : Nat → Hp → Prop := fun i H => ∃ (ts : List Addr) (os : List HO), H D = some (.lst (ts.map V.ref)) ∧ Ex H1 H ∧ ObjsAt H ts os ∧ os.length = i ∧ (∀ j o, os[j]? = some o → R j o) ∧ D ∉ ts ∧ ∀ a ∈ ts, H1 a = none
  refine ⟨fun i m H => m = n - i ∧ i ≤ n ∧ W i H, ⟨n, by simp, Nat.zero_le _, [], [], upd_same, Fr.new hD, .nil, rfl, by simp, by simp, by simp⟩, ?_⟩
  rintro i m H ⟨rfl, hi, ts, os, h1, h2, h3, h4, h5, h6, h7⟩
  by_cases hlt : i < n
  · refine .inr ⟨hR.go i H hlt (hS H h2), W (i + 1), fun H' p' => ⟨n - (i + 1), by omega, rfl, hlt, p'⟩, fun x H' y => ?_⟩
    have hx := hR.yld i H x H' hlt (hS H h2) y
    have e := hE _ _ _ _ hx
    refine hg _ _ _ _ _ (fun σ2 H2 h => ⟨h.1, h.2⟩) (hs i x H H' hlt h2 hx (fun v H4 => ∃ acc, H4 D = some (.lst acc) ∧ acc.length < sizeLine ∧ W (i + 1) (upd H4 D (.lst (acc ++ [v])))) ?_)
    intro a H3 o ha e3 hv hr
    have h1' := e.get h1
    have hDa : a ≠ D := fun z => by rw [z, h1'] at ha; cases ha
    have haN : a ∉ ts := fun z => by
      obtain ⟨k, hk⟩ := List.getElem?_of_mem z
      have hk2 : k < os.length := by
        rw [← h3.len]; exact (List.getElem?_eq_some_iff.mp hk).1
      have := e.get (h3.at k a _ hk (List.getElem?_eq_getElem hk2))
      rw [this] at ha
      cases ha
    refine ⟨ts.map V.ref, e3.get h1', by rw [List.length_map, h3.len, sl16]; omega, ts ++ [a], os ++ [o], by rw [upd_same, List.map_append]; rfl, ((h2.trans e).trans e3).mut hD, ?_, by rw [List.length_append, h4]; rfl, ?_, ?_, ?_⟩
    · refine .up ?_ (((h3.ex e).ex e3).app (.one hv))
      rw [List.mem_append, List.mem_singleton]
      rintro (z | z)
      · exact h6 z
      · exact hDa z.symm
    · intro j o' ho
      by_cases hj : j < os.length
      · rw [List.getElem?_append_left hj] at ho
        exact h5 j o' ho
      · rw [List.getElem?_append_right (by omega)] at ho
        have hj0 : j - os.length = 0 := by
          have := (List.getElem?_eq_some_iff.mp ho).1
          rw [List.length_singleton] at this
          omega
        rw [hj0] at ho
        cases ho
        rw [show j = i by omega]
        exact hr
    · rw [List.mem_append, List.mem_singleton]
      rintro (z | z)
      · exact h6 z
      · exact hDa z.symm
    · intro b hb
      rcases List.mem_append.mp hb with h | h
      · exact h7 b h
      · rw [List.mem_singleton.mp h]; exact Ex.free (h2.trans e) ha
  · have e : i = n := by omega
    subst e
    exact .inl ⟨hR.stop H (hS H h2), hd D H ts os hD h2 h1 h3 h4 h5 h6 h7⟩
end Zb
namespace Zb
open PySem PySem.Spec PyProof.Rows L2
end Zb
namespace Zb
open PySem PySem.Spec PyProof.Rows L2
open Evl (tCut pss_cut)
/-- an exception of the class cls, its dict at d, kept at a -/
def XkO (a : Addr) (cls : Value) (d : Option Addr) : HO := .ext fun h => ∃ (oe : Obj) (vs : Array Value), h.get? a = some oe ∧ Zc cls d oe ∧ oe.data = .fields vs
theorem xkO_ok {P : Program} {w : World} {H : Hp} {h : Heap} {a : Addr} {cls : Value} {d : Option Addr} {oe : Obj} {vs : Array Value} (e : h.get? a = some oe) (z : Zc cls d oe) (hd : oe.data = .fields vs) : ObjOk P w H h a (XkO a cls d) :=
  ⟨⟨oe, vs, e, z, hd⟩, ⟨oe, e⟩, fun _ _ ⟨o, v, q, r⟩ k => ⟨o, v, k o q, r⟩⟩
section
variable {X : Cx} {pins : List (Addr × Obj)} {σ : L2.St} {H : Hp} {s : Shared}
/-- an object that was not there at the entry is tracked from now on -/
theorem Inv.track {a : Addr} {o : HO} (I : Inv X pins σ H s) (n0 : X.s_0.heap.get? a = none) (hn : H a = none) (hp : ∀ p ∈ X.pn ++ pins, p.1 ≠ a) (hL : X.env.locals ≠ a) (hC : ∀ x c, X.env.cells.lookup x = some c → c ≠ a)
    (new : ObjOk X.prog X.w (upd H a o) s.heap a o) : Inv X pins σ (upd H a o) s := by
  have ne0 : ∀ b u, X.s_0.heap.get? b = some u → b ≠ a := fun b u e z => by
    rw [z, n0] at e
    cases e
  have neH : ∀ b u, H b = some u → b ≠ a := fun b u e z => by
    rw [z, hn] at e
    cases e
  refine ⟨I.ok, I.os, I.bare, ⟨I.base.keep, I.base.slot, fun b u e n hx => ?_, I.base.there, fun b xs e => ?_, fun b u y e => ?_, fun b ps e => ?_⟩, I.loc, I.cell, ?_, fun x c e => ?_, fun p hq => ?_, I.hok.laidN (fun _ _ e => e) hn new, I.len⟩
  · rw [upd_ne (ne0 b u e)]
    exact I.base.free b u e n hx
  · have q := I.base.tups b xs e
    rw [upd_ne (neH b _ q)]
    exact q
  · have q := I.base.frzs b u y e
    rw [upd_ne (neH b _ q)]
    exact q
  · obtain ⟨m, q⟩ := I.base.tbls b ps e
    exact ⟨m, by rw [upd_ne (neH b _ q)]; exact q⟩
  · rw [upd_ne hL]
    exact I.free
  · rw [upd_ne (hC x c e)]
    exact I.freeC x c e
  · obtain ⟨e, n, r⟩ := I.pin p hq
    exact ⟨e, by rw [upd_ne (hp p hq)]; exact n, r⟩
end
abbrev keepD (a : Addr) (cls : Value) (d : Option Addr) (D : Ends) : Ends := { nx := fun σ' H' => D.nx σ' (upd H' a (XkO a cls d)), rt := D.rt, bk := fun σ' H' => D.bk σ' (upd H' a (XkO a cls d)), ct := fun σ' H' => D.ct σ' (upd H' a (XkO a cls d)) }
abbrev keepT (ts : Addr → Value → Option Addr → TS) : Addr → Value → Option Addr → TS := fun a cls d D σ H => ts a cls d (keepD a cls d D) σ H
inductive HdK (X : Cx) : List ExceptHandler → List Cl → Prop
  | nil : HdK X [] []
  | one {x : Str} {c : Value} {ts : Addr → Value → Option Addr → TS} {b₀ : Stmt} {suite : List Stmt} {np pos' : Pos} {hds : List ExceptHandler} {l : List Cl} (hc : Names X x c)
      (hsu : ∀ (a : Addr) (oe : Obj) (cls : Value) (d : Option Addr) (pn : List (Addr × Obj)), Zc cls d oe → (∃ vs, oe.data = .fields vs) → PSs (X.suite a ((a, oe) :: pn)) (b₀ :: suite) (ts a cls d)) (r : HdK X hds l) :
      HdK X (.ExceptHandler (some (.Name x np)) none (b₀ :: suite) pos' :: hds) ((c, none, ts) :: l)
  | named {x n : Str} {c : Value} {i : Nat} {ts : Addr → Value → Option Addr → TS} {b₀ : Stmt} {suite : List Stmt} {np pos' : Pos} {hds : List ExceptHandler} {l : List Cl} (hN : X.N.Nodup) (hi : X.N[i]? = some n) (hln : X.env.kindOf n = some .local) (hc : Names X x c)
      (hsu : ∀ (a : Addr) (oe : Obj) (cls : Value) (d : Option Addr) (pn : List (Addr × Obj)), Zc cls d oe → (∃ vs, oe.data = .fields vs) → PSs (X.suite a ((a, oe) :: pn)) (b₀ :: suite) (ts a cls d)) (r : HdK X hds l) :
      HdK X (.ExceptHandler (some (.Name x np)) (some n) (b₀ :: suite) pos' :: hds) ((c, some i, ts) :: l)
  | kept {x n : Str} {c : Value} {i : Nat} {ts : Addr → Value → Option Addr → TS} {b₀ : Stmt} {suite : List Stmt} {np pos' : Pos} {hds : List ExceptHandler} {l : List Cl} (hN : X.N.Nodup) (hi : X.N[i]? = some n) (hln : X.env.kindOf n = some .local) (hc : Names X x c)
      (hsu : ∀ (a : Addr) (oe : Obj) (cls : Value) (d : Option Addr) (pn : List (Addr × Obj)), Zc cls d oe → (∃ vs, oe.data = .fields vs) → PSs (X.suite a ((a, oe) :: pn)) (b₀ :: suite) (ts a cls d)) (r : HdK X hds l) :
      HdK X (.ExceptHandler (some (.Name x np)) (some n) (b₀ :: suite) pos' :: hds) ((c, some i, keepT ts) :: l)
section
variable {X : Cx} {body orelse : List Stmt} {h₀ : ExceptHandler} {hds : List ExceptHandler} {l : List Cl} {pos : Pos} {tb : WX → TS} {u : TS} {Wout : WX}
theorem ps_tryK (hs : X.stack = X.env :: X.outer) (hf : X.env.frame = some X.env.locals) (tk : Takes X Wout)
    (hb : ∀ (W : WX) (pn : List (Addr × Obj)) (xe : Value → Shared → Prop), Takes (X.tr pn xe) W → PassesOwn (model X.prog X.w) X.A X.env xe → PSs (X.tr pn xe) body (tb W))
    (hh : HdK X (h₀ :: hds) l) (ho : PSs X orelse u) (hex : X.ex = [] := by rfl) : PS X (.Try body (h₀ :: hds) orelse [] pos) (tTry X.K Wout tb u l) := by
  refine ⟨fun pins s σ H D I h => ?_⟩
  have ok := I.ok
  have hfr : X.A.frames = some (X.env :: X.outer) := by rw [ok.frames, hs]
  refine wpAny_Try_except ?_
  refine wpAny_mono ((hb (wG X.K Wout D l) (X.pn ++ pins) (fun e s₁ => wpAny (model X.prog X.w) X.A (noteFrame e X.env) (fun _ s₂ => wpAny (model X.prog X.w) X.A (setFlight e none) (fun _ s₃ =>
    wpAny (model X.prog X.w) X.A (handleBy e X.env (h₀ :: hds)) (L2.SP X pins D) X.xe s₃) X.xe s₂) X.xe s₁) (fun u s' xx => ?_) PassesOwn.looking).run [] s σ H { D with nx := u D } (I.toTry _) h) (fun f s1 hsp => ?_) (fun e s1 he => he)
  · obtain ⟨a, B, sI, pins', σ', H', cls, d, rfl, J', nb, up, sky, na, os, ag, w⟩ := xx
    have J : Inv X pins σ' H' sI := J'.ofTry ok
    have sky' : Sky B (X.env :: X.outer) a (Zc cls d) X.env.locals s'.heap := by rw [← hs]; exact sky
    show wpAny (model X.prog X.w) X.A (noteFrame (.ref a) X.env) _ _ _
    refine Sky.land Zc.steady hfr hf sky' fun h3 fl3 up3 => ?_
    have J3 : Inv X pins σ' H' { s' with heap := h3 } := J.landed nb fl3.1 (up.trans up3) os ag
    have hBa : B.get? a = none := fl3.2.1
    obtain ⟨oe3, vs3, he3, hz3, hd3⟩ := fl3.there
    have notFr : ∀ {h : Heap} {o : Obj} {vs : Array Value}, h.FunFrames B (X.env :: X.outer) → h.get? a = some o → o.data = .fields vs → a ∉ frs (X.env :: X.outer) := fun {h o vs} ff e dd hm => by
      obtain ⟨_, o', e', hnf⟩ := ff.mem hm
      rw [e] at e'; cases e'
      exact hnf _ dd
    have nfr := notFr fl3.2.2.1 he3 hd3
    have nL : a ≠ X.env.locals := fun z => nfr (List.mem_filterMap.mpr ⟨X.env, List.mem_cons_self, by rw [hf, z]⟩)
    have nF : a ∉ X.fs := fun hm => by
      obtain ⟨e, he, q⟩ := List.mem_filterMap.mp hm
      exact nfr (List.mem_filterMap.mpr ⟨e, List.mem_cons_of_mem _ he, q⟩)
    have nfr' : a ∉ frs X.stack := by rw [hs]; exact nfr
    have nsI : sI.heap.get? a = none := by
      cases e : sI.heap.get? a with
      | none => rfl
      | some o =>
        have z := nb a o e nfr'
        rw [hBa] at z
        cases z
    have ns0 : X.s_0.heap.get? a = none := by
      cases e : X.s_0.heap.get? a with
      | none => rfl
      | some o =>
        obtain ⟨o', z⟩ := J.base.there a o e (by rw [hex]; exact fun z => nomatch z)
        rw [nsI] at z
        cases z
    have npin : ∀ p ∈ X.pn ++ pins, p.1 ≠ a := fun p hp z => by
      obtain ⟨e, _⟩ := J.pin p hp
      rw [z, nsI] at e
      cases e
    have ncell : ∀ x c, X.env.cells.lookup x = some c → c ≠ a := fun x c e z => by
      obtain ⟨v, o, ho, _⟩ := J.cell x c e
      rw [z, nsI] at ho
      cases ho
    have S3 := J3.suite he3 hd3 na nL nF
    have LT : PySem.W.Looks (model X.prog X.w) h3 (typeOf (.ref a)) cls := fun A Q E s k q => wpAny_typeOf_ref (k _ _ he3) (by rw [hz3.1]; exact q)
    have test : ∀ {x : Str} {c : Value} {np : Pos} {Q : Value → Shared → Prop} {E : Value → Shared → Prop}, Names X x c → Q c { s' with heap := h3 } → wpAny (model X.prog X.w) (X.A.mark (some (.ref a))) (eval (.Name x np) X.env) Q E { s' with heap := h3 } := fun {x c np Q E} hc q => by
      obtain ⟨hg, hdbg, hm | ⟨hm, hv, hnn⟩⟩ := hc
      · exact ld_glob (X := X.suite a ((a, oe3) :: (X.pn ++ pins))) S3 hg hm q hdbg
      · exact ld_blt (X := X.suite a ((a, oe3) :: (X.pn ++ pins))) S3 hg hm hv q hnn hdbg
    have go : ∀ {hds' : List ExceptHandler} {l' : List Cl}, HdK X hds' l' → wG X.K Wout D l' cls d σ' H' →
        wpAny (model X.prog X.w) X.A (handleBy (.ref a) X.env hds') (L2.SP X pins D) X.xe { s' with heap := h3 } := by
      intro hds' l' hk
      induction hk with
      | nil =>
        intro w
        refine wpAny_handleBy_nil ?_
        obtain ⟨k1, k2, k3, oe, vs, T, oT, ts', he, hz, hd, h1, hr⟩ := id fl3
        unfold PySem.passOn
        refine wpAny_bind (wpAny_field he hd h1 ?_)
        rw [if_neg (show ¬ ((Value.ref T == Value.none) = true) from by simp)]
        have fin : wpAny (model X.prog X.w) X.A (setFlight (.ref a) X.env.frame) (fun _ s4 => wpAny (model X.prog X.w) X.A (throw (.ref a) : Sem Flow) (L2.SP X pins D) X.xe s4) X.xe { s' with heap := h3 } := by
          rw [hf]
          refine HandSPX.setFlight_upZ fl3 fun h4 hh4 up4 => wpAny_throw (tk _ _ ?_)
          exact ⟨a, B, sI, pins, σ', H', cls, d, rfl, J, nb, (up.trans up3).trans up4, .inr (.inr (by rw [hs]; exact hh4)), na, os, ag, w⟩
        first
          | exact wpAny_bind (wpAny_pure (wpAny_bind fin))
          | exact wpAny_bind fin
      | @one x c ts b₀ suite np pos' hds2 l2 hc hsu r ih =>
        intro w
        obtain ⟨b, hb1, hyes, hno⟩ := w
        refine wpAny_handleBy_cons (codeAny_handlers_test ?_) (by intro q; cases q)
        have LM := PySem.W.exm_one (M := model X.prog X.w) (J3.kIn) LT hb1
        refine test hc (LM.here ?_)
        cases b with
        | true =>
          refine codeAny_handlers_suite ?_
          refine HandSPX.lands_againZ fl3 fun h4 fl4 up4 => ?_
          have J4 : Inv X pins σ' H' { s' with heap := h4 } := J.landed nb fl4.1 ((up.trans up3).trans up4) os ag
          obtain ⟨oe4, vs4, he4, hz4, hd4⟩ := fl4.there
          have S4 := J4.suite he4 hd4 na nL nF
          refine wpAny_mono ((hsu a oe4 cls d (X.pn ++ pins) hz4 ⟨_, hd4⟩).run [] _ _ H' _ S4 (hyes rfl a na)) (fun f s6 hsp => ?_) (fun _ _ z => False.elim z)
          cases f with
          | next =>
            obtain ⟨σ6, H6, S6, q6⟩ := hsp
            exact ⟨_, _, S6.unsuite ok, q6⟩
          | brk =>
            obtain ⟨σ6, H6, S6, q6⟩ := hsp
            exact ⟨_, _, S6.unsuite ok, q6⟩
          | cont =>
            obtain ⟨σ6, H6, S6, q6⟩ := hsp
            exact ⟨_, _, S6.unsuite ok, q6⟩
          | ret u =>
            obtain ⟨v6, σ6, H6, S6, r6, q6⟩ := hsp
            exact ⟨_, _, _, S6.unsuite ok, r6, q6⟩
        | false =>
          show wpAny _ X.A (handleBy (.ref a) X.env hds2) _ _ _
          exact ih (hno rfl)
      | @named x n c i ts b₀ suite np pos' hds2 l2 hN hi hln hc hsu r ih =>
        intro w
        obtain ⟨b, hb1, hyes, hno⟩ := w
        refine wpAny_handleBy_cons (codeAny_handlers_test ?_) (by intro q; cases q)
        have LM := PySem.W.exm_one (M := model X.prog X.w) (J3.kIn) LT hb1
        refine test hc (LM.here ?_)
        have hloc : Loc X.env.scope n := .inl hln
        cases b with
        | true =>
          refine codeAny_handlers_suite_as ?_
          refine HandSPX.lands_againZ fl3 fun h4 fl4 up4 => ?_
          have J4 : Inv X pins σ' H' { s' with heap := h4 } := J.landed nb fl4.1 ((up.trans up3).trans up4) os ag
          obtain ⟨oe4, vs4, he4, hz4, hd4⟩ := fl4.there
          have S4 := J4.suite he4 hd4 na nL nF
          refine store_ok (X := X.suite a ((a, oe4) :: (X.pn ++ pins))) (v := .ref a) S4 hN hi hloc rfl (fun s5 S5 => ?_) (.inr hln)
          refine wpAny_mono ((hsu a oe4 cls d (X.pn ++ pins) hz4 ⟨_, hd4⟩).run [] s5 _ H' _ S5 (hyes rfl a na)) (fun f s6 hsp => ?_) (fun _ _ z => False.elim z)
          have end_ : ∀ {σ6 : L2.St} {H6 : Hp} {Q : Shared → Prop}, Inv (X.suite a ((a, oe4) :: (X.pn ++ pins))) [] σ6 H6 s6 → (∀ s7, Inv X pins (σ6.set i none) H6 s7 → Q s7) →
              wpAny (model X.prog X.w) X.A (do bindName X.env n .none; unbindBehindTheSuite X.env n pos') (fun _ s7 => Q s7) X.xe s6 := fun {σ6 H6 Q} S6 hq => gone_ok (S6.unsuite ok) hN hi hln hq
          cases f with
          | next =>
            obtain ⟨σ6, H6, S6, q6⟩ := hsp
            exact end_ S6 fun s7 J7 => ⟨_, _, J7, q6⟩
          | brk =>
            obtain ⟨σ6, H6, S6, q6⟩ := hsp
            exact end_ S6 fun s7 J7 => ⟨_, _, J7, q6⟩
          | cont =>
            obtain ⟨σ6, H6, S6, q6⟩ := hsp
            exact end_ S6 fun s7 J7 => ⟨_, _, J7, q6⟩
          | ret u =>
            obtain ⟨v6, σ6, H6, S6, r6, q6⟩ := hsp
            exact end_ S6 fun s7 J7 => ⟨_, _, _, J7, r6, q6⟩
        | false =>
          show wpAny _ X.A (handleBy (.ref a) X.env hds2) _ _ _
          exact ih (hno rfl)
      | @kept x n c i ts b₀ suite np pos' hds2 l2 hN hi hln hc hsu r ih =>
        intro w
        obtain ⟨b, hb1, hyes, hno⟩ := w
        refine wpAny_handleBy_cons (codeAny_handlers_test ?_) (by intro q; cases q)
        have LM := PySem.W.exm_one (M := model X.prog X.w) (J3.kIn) LT hb1
        refine test hc (LM.here ?_)
        have hloc : Loc X.env.scope n := .inl hln
        cases b with
        | true =>
          refine codeAny_handlers_suite_as ?_
          refine HandSPX.lands_againZ fl3 fun h4 fl4 up4 => ?_
          have J4 : Inv X pins σ' H' { s' with heap := h4 } := J.landed nb fl4.1 ((up.trans up3).trans up4) os ag
          obtain ⟨oe4, vs4, he4, hz4, hd4⟩ := fl4.there
          have S4 := J4.suite he4 hd4 na nL nF
          refine store_ok (X := X.suite a ((a, oe4) :: (X.pn ++ pins))) (v := .ref a) S4 hN hi hloc rfl (fun s5 S5 => ?_) (.inr hln)
          refine wpAny_mono ((hsu a oe4 cls d (X.pn ++ pins) hz4 ⟨_, hd4⟩).run [] s5 _ H' _ S5 (hyes rfl a na)) (fun f s6 hsp => ?_) (fun _ _ z => False.elim z)
          have end_ : ∀ {σ6 : L2.St} {H6 : Hp} {Q : Shared → Prop}, Inv (X.suite a ((a, oe4) :: (X.pn ++ pins))) [] σ6 H6 s6 → (∀ s7, Inv X pins (σ6.set i none) (upd H6 a (XkO a cls d)) s7 → Q s7) →
              wpAny (model X.prog X.w) X.A (do bindName X.env n .none; unbindBehindTheSuite X.env n pos') (fun _ s7 => Q s7) X.xe s6 := fun {σ6 H6 Q} S6 hq => by
            have P6 := S6.pin (a, oe4) (List.mem_append_left _ List.mem_cons_self)
            have J6 : Inv X ((a, oe4) :: pins) σ6 H6 s6 := (S6.unsuite ok).pins_of fun p hp => by
              rcases List.mem_cons.mp hp with e | h
              · rw [e]; exact P6
              · exact (S6.unsuite ok).pin p (List.mem_append_right _ h)
            refine gone_ok J6 hN hi hln fun s7 J7 => hq s7 ?_
            obtain ⟨h7, hn7, _⟩ := J7.pin (a, oe4) (List.mem_append_right _ List.mem_cons_self)
            have K7 : Inv X pins (σ6.set i none) H6 s7 := J7.pins_of fun p hp => J7.pin p (List.mem_append_right _ (List.mem_cons_of_mem _ hp))
            exact Inv.track K7 ns0 hn7 npin (fun z => nL z.symm) ncell (xkO_ok h7 hz4 hd4)
          cases f with
          | next =>
            obtain ⟨σ6, H6, S6, q6⟩ := hsp
            exact end_ S6 fun s7 J7 => ⟨_, _, J7, q6⟩
          | brk =>
            obtain ⟨σ6, H6, S6, q6⟩ := hsp
            exact end_ S6 fun s7 J7 => ⟨_, _, J7, q6⟩
          | cont =>
            obtain ⟨σ6, H6, S6, q6⟩ := hsp
            exact end_ S6 fun s7 J7 => ⟨_, _, J7, q6⟩
          | ret u =>
            obtain ⟨v6, σ6, H6, S6, r6, q6⟩ := hsp
            refine gone_ok (S6.unsuite ok) hN hi hln fun s7 J7 => ⟨_, _, _, J7, r6, q6⟩
        | false =>
          show wpAny _ X.A (handleBy (.ref a) X.env hds2) _ _ _
          exact ih (hno rfl)
    exact go hh w
  · cases f with
    | next =>
      obtain ⟨σ', H', J', q⟩ := hsp
      exact ho.run pins s1 σ' H' D (J'.ofTry ok) q
    | brk =>
      obtain ⟨σ', H', J', q⟩ := hsp
      exact ⟨σ', H', J'.ofTry ok, q⟩
    | cont =>
      obtain ⟨σ', H', J', q⟩ := hsp
      exact ⟨σ', H', J'.ofTry ok, q⟩
    | ret u =>
      obtain ⟨v, σ', H', J', r, q⟩ := hsp
      exact ⟨v, σ', H', J'.ofTry ok, r, q⟩
end
def XkP (K : PySem.W.Frag) (n : Str) (Q : VK) : VK := fun x H1 => ∃ (a C dd : Addr) (fs : List (Str × V)) (v : V), x = .ref a ∧ H1 a = some (XkO a (.ref C) (some dd)) ∧ XI K C ∧ PySem.W.findIn K (.ref C) n = some none ∧ H1 dd = some (.xd fs) ∧ fs.lookup n = some v ∧ Q v H1
def tXk (K : PySem.W.Frag) (n : Str) (te : TE) : TE := fun σ H Q => te σ H (XkP K n Q)
section
variable {X : Cx} {K : PySem.W.Frag}
theorem pe_xk {e : Expr} {te : TE} {pos : Pos} {n : Str} (he : PE X e te) (hb : attributeBase e n X.env (eval e X.env) = eval e X.env := by rfl) (hK : X.K = K := by rfl) : PE X (.Attribute e n pos) (tXk K n te) := by
  subst hK
  refine ⟨fun pins s σ H Q I h => ?_⟩
  refine attr_of hb (thn (he.run pins s σ H _ I h) fun u s1 hh => ?_)
  obtain ⟨x, H1, I1, rx, a, C, dd, fs, v, ex, ha0, T, hno, ea, l, q⟩ := hh
  subst ex
  obtain rfl : u = Value.ref a := rx
  obtain ⟨⟨oe, vs, ha, hz, hd⟩, _, _⟩ := I1.hok a _ ha0
  have hx : ObjOk X.prog X.w H1 s1.heap dd (.xd fs) := I1.hok dd _ ea
  obtain ⟨mA, hns, hr⟩ := hx
  obtain ⟨od, ho, hl⟩ := lookIn_ns hns
  obtain ⟨u, hu, ru⟩ := RelO.some_of (v := v) (o := mA n) (by rw [← l]; exact hr n)
  have J : PySem.W.InstAt s1.heap a oe C (some od) := ⟨ha, hz.1, by unfold PySem.W.notCls; rw [hd] <;> rfl, by rw [hz.2]; exact ho⟩
  exact HandSPX.exc_get I1.kIn J T.ga T.gg T.sb (PySem.W.findObj_own T.hd hno rfl (by rw [hl, hu])) (handed_of ru) ⟨v, H1, I1.tok _, ru, q⟩
/-- isinstance(e, C), isinstance(e, (C1, ..)), e a kept exception -/
def rIsK (K : PySem.W.Frag) : List V → Hp → VK → Prop := fun xs H Q => ∃ (a : Addr) (c : V) (cv : Value) (b : Bool) (C dd : Addr) (fs : List (Str × V)), xs = [.ref a, c] ∧ H a = some (XkO a (.ref C) (some dd)) ∧ (∀ u, RelV c u → u = cv) ∧ XI K C ∧ H dd = some (.xd fs) ∧ PySem.W.kitOne K (.ref C) cv = some b ∧ Q (.bl b) H
def rIsKs (K : PySem.W.Frag) : List V → Hp → VK → Prop := fun xs H Q => ∃ (a tp : Addr) (cs : List V) (cvs : List Value) (b : Bool) (C dd : Addr) (fs : List (Str × V)), xs = [.ref a, .ref tp] ∧ H a = some (XkO a (.ref C) (some dd)) ∧ H tp = some (.tup cs) ∧ (∀ us, Vals cs us → us = cvs) ∧ XI K C ∧ H dd = some (.xd fs) ∧ PySem.W.kitAny K (.ref C) cvs = some b ∧ Q (.bl b) H
theorem call_isK (hK : X.K = K := by rfl) : CallR X (.builtin "isinstance") (rIsK K) := by
  subst hK
  intro pins s σ H xs us Q I r h
  obtain ⟨a, c, cv, b, C, dd, fs, rfl, ha0, hcv, T, ea, e, q⟩ := h
  cases r with
  | cons rx rr =>
    cases rr with
    | cons rt rr =>
      cases rr
      cases rx
      have ecv := hcv _ rt
      subst ecv
      obtain ⟨⟨oe, vs, hget, hz, hv⟩, _, _⟩ := I.hok a _ ha0
      have hx : ObjOk X.prog X.w H s.heap dd (.xd fs) := I.hok dd _ ea
      obtain ⟨mA, hns, hr⟩ := hx
      obtain ⟨od, ho, hl⟩ := lookIn_ns hns
      have J : PySem.W.InstAt s.heap a oe C (some od) := ⟨hget, hz.1, by unfold PySem.W.notCls; rw [hv] <;> rfl, by rw [hz.2]; exact ho⟩
      exact PySem.W.kia_one (PySem.W.kitx_exc T.hc T.ga T.gg T.sb T.ca T.cn T.ct T.cm) I.kIn J e (fun z => nomatch z) fun tk => ⟨.bl b, H, I.kept (t' := tk) fun _ _ z => z, rfl, q⟩
theorem call_isKs (hK : X.K = K := by rfl) : CallR X (.builtin "isinstance") (rIsKs K) := by
  subst hK
  intro pins s σ H xs us Q I r h
  obtain ⟨a, tp, cs, cvs, b, C, dd, fs, rfl, ha0, htp, hcv, T, ea, e, q⟩ := h
  cases r with
  | cons rx rr =>
    cases rr with
    | cons rt rr =>
      cases rr
      cases rx
      cases rt
      obtain ⟨its, rv, ⟨o, h1, h2, n, h3⟩, _⟩ := I.tuple (.inl (.inl htp))
      have := hcv its rv
      subst this
      obtain ⟨⟨oe, vs, hget, hz, hv⟩, _, _⟩ := I.hok a _ ha0
      have hx : ObjOk X.prog X.w H s.heap dd (.xd fs) := I.hok dd _ ea
      obtain ⟨mA, hns, hr⟩ := hx
      obtain ⟨od, ho, hl⟩ := lookIn_ns hns
      have J : PySem.W.InstAt s.heap a oe C (some od) := ⟨hget, hz.1, by unfold PySem.W.notCls; rw [hv] <;> rfl, by rw [hz.2]; exact ho⟩
      obtain ⟨oc, odd, oda, osl⟩ := o
      dsimp only at h2 h3
      subst h2 h3
      exact PySem.W.kia_tup (PySem.W.kitx_exc T.hc T.ga T.gg T.sb T.ca T.cn T.ct T.cm) I.kIn J h1 e (fun z => nomatch z) fun tk => ⟨.bl b, H, I.kept (t' := tk) fun _ _ z => z, rfl, q⟩
end
section
variable {K : PySem.W.Frag} {σ : L2.St} {H : Hp} {Q : VK}
theorem st_xk {n : Str} {te : TE} (h : te σ H (XkP K n Q)) : tXk K n te σ H Q := h
theorem st_xkP {a C dd : Addr} {n : Str} {fs : List (Str × V)} {v : V} (h0 : H a = some (XkO a (.ref C) (some dd))) (T : XI K C) (hno : PySem.W.findIn K (.ref C) n = some none) (h1 : H dd = some (.xd fs)) (h2 : fs.lookup n = some v) (h : Q v H) : XkP K n Q (.ref a) H := ⟨a, C, dd, fs, v, rfl, h0, T, hno, h1, h2, h⟩
theorem st_isK {a C C' dd : Addr} {fs : List (Str × V)} {b : Bool} (h0 : H a = some (XkO a (.ref C) (some dd))) (T : XI K C) (h1 : H dd = some (.xd fs)) (e : PySem.W.kitOne K (.ref C) (.ref C') = some b) (h : Q (.bl b) H) : rIsK K [.ref a, .ref C'] H Q :=
  ⟨a, .ref C', .ref C', b, C, dd, fs, rfl, h0, fun u r => by cases r; rfl, T, h1, e, h⟩
theorem st_isKT {a C dd : Addr} {fs : List (Str × V)} {n : String} {b : Bool} (h0 : H a = some (XkO a (.ref C) (some dd))) (T : XI K C) (h1 : H dd = some (.xd fs)) (e : PySem.W.kitOne K (.ref C) (.type n) = some b) (h : Q (.bl b) H) : rIsK K [.ref a, .ty n] H Q :=
  ⟨a, .ty n, .type n, b, C, dd, fs, rfl, h0, fun u r => by cases r; rfl, T, h1, e, h⟩
/-- of no class among these -/
inductive KitN (K : PySem.W.Frag) (C : Addr) : List V → Prop
  | nil : KitN K C []
  | cons {D : Addr} {l : List V} : PySem.W.kitOne K (.ref C) (.ref D) = some false → KitN K C l → KitN K C (.ref D :: l)
theorem KitN.any {C : Addr} : ∀ {l : List V}, KitN K C l → ∃ cvs : List Value, (∀ us, Vals l us → us = cvs) ∧ PySem.W.kitAny K (.ref C) cvs = some false
  | _, .nil => ⟨[], fun us r => by cases r; rfl, rfl⟩
  | _, .cons (D := D) h t => by
    obtain ⟨cvs, h1, h2⟩ := t.any
    refine ⟨.ref D :: cvs, fun us r => ?_, ?_⟩
    · cases r with
      | cons r1 rr =>
        cases r1
        rw [h1 _ rr]
    · unfold PySem.W.kitAny
      rw [h]
      exact h2
theorem st_isKs {a C dd tp : Addr} {cs : List V} {fs : List (Str × V)} (h0 : H a = some (XkO a (.ref C) (some dd))) (T : XI K C) (h1 : H dd = some (.xd fs)) (ht : H tp = some (.tup cs)) (k : KitN K C cs) (h : Q (.bl false) H) : rIsKs K [.ref a, .ref tp] H Q := by
  obtain ⟨cvs, k1, k2⟩ := k.any
  exact ⟨a, tp, cs, cvs, false, C, dd, fs, rfl, h0, ht, k1, T, h1, k2, h⟩
end
end Zb
namespace HT
open PySem PySem.Spec PyProof.Rows L2
section
variable {prog : Program} {w : World} {A : Around} {E : Value → Shared → Prop} {s : Shared}
theorem sliceApplied_rev {sl : Addr} {tk : Tok} {n : Nat} {Q : Int × Int × Nat → Shared → Prop} (hs : s.heap.IsSliceOf sl .none .none (.int (-1) tk))
    (h : Q ((n : Int) - 1, -1, n) s) : wpAny (model prog w) A (Builtin.Slice.sliceApplied (.ref sl) (pure (n : Int))) Q E s := by
  obtain ⟨os, hos, hcs, hds⟩ := id hs
  unfold Builtin.Slice.sliceApplied Builtin.Slice.sliceFields
  refine wpAny_bind (wpAny_bind (wpAny_field hos hds (x := .none) rfl (wpAny_bind (wpAny_field hos hds (x := .none) rfl (wpAny_bind (wpAny_field hos hds (x := .int (-1) tk) rfl (wpAny_pure ?_)))))))
  refine wpAny_bind (slicePart_ (o := some (-1)) (.int (-1) tk) ?_)
  show wpAny _ _ (if ((-1 : Int) == 0) = true then _ else _) _ _ s
  rw [if_neg (by decide)]
  refine wpAny_bind (slicePart_ .none (wpAny_bind (slicePart_ .none (wpAny_bind (wpAny_pure ?_)))))
  show wpAny _ _ (match Builtin.Slice.sliceAdjust none none (-1) (n : Int) with | (lo, hi) => pure (lo, (-1 : Int), Builtin.Slice.slicePlaces lo hi (-1))) _ _ s
  have e1 : Builtin.Slice.sliceAdjust none none (-1) (n : Int) = ((n : Int) - 1, -1) := by
    unfold Builtin.Slice.sliceAdjust
    simp
  have e2 : Builtin.Slice.slicePlaces ((n : Int) - 1) (-1) (-1) = n := by
    unfold Builtin.Slice.slicePlaces
    rw [if_neg (by decide)]
    by_cases h : (n : Int) - 1 > -1
    · rw [if_pos h]
      have : ((n : Int) - 1 - -1 - 1) / (- -1) + 1 = n := by
        rw [Int.neg_neg, Int.ediv_one]
        omega
      rw [this]
      exact Int.toNat_natCast n
    · rw [if_neg h]
      show 0 = n
      omega
  rw [e1]
  show wpAny _ _ (pure ((n : Int) - 1, (-1 : Int), Builtin.Slice.slicePlaces ((n : Int) - 1) (-1) (-1))) _ _ s
  rw [e2]
  exact wpAny_pure h
theorem pick_rev (xs : Array Value) : ((List.range xs.size).filterMap fun (m : Nat) => xs[(((xs.size : Int) - 1) + (m : Int) * (-1)).toNat]?) = xs.toList.reverse := by
  have e : (List.range xs.size).filterMap (fun (m : Nat) => xs[(((xs.size : Int) - 1) + (m : Int) * (-1)).toNat]?) = Zb.pick ((List.range xs.size).map fun m => xs.size - 1 - m) xs.toList := by
    unfold Zb.pick
    rw [List.filterMap_map]
    have g : ∀ l : List Nat, (∀ m ∈ l, m < xs.size) → l.filterMap (fun (m : Nat) => xs[(((xs.size : Int) - 1) + (m : Int) * (-1)).toNat]?) = l.filterMap ((fun x => xs.toList[x]?) ∘ fun m => xs.size - 1 - m) := by
      intro l
      induction l with
      | nil => intro _; rfl
      | cons m l ih =>
        intro h
        have hm := h m List.mem_cons_self
        have e1 : xs[(((xs.size : Int) - 1) + (m : Int) * (-1)).toNat]? = ((fun x => xs.toList[x]?) ∘ fun m => xs.size - 1 - m) m := by
          show _ = xs.toList[xs.size - 1 - m]?
          rw [Array.getElem?_toList, show (((xs.size : Int) - 1) + (m : Int) * (-1)).toNat = xs.size - 1 - m by omega]
        rw [List.filterMap_cons, List.filterMap_cons, e1, ih fun x hx => h x (List.mem_cons_of_mem _ hx)]
    exact g _ fun m hm => List.mem_range.mp hm
  rw [e]
  refine List.ext_getElem? fun i => ?_
  rw [Zb.pick_get (fun j hj => ?_)]
  · by_cases hi : i < xs.size
    · rw [List.getElem?_map, List.getElem?_range hi, List.getElem?_reverse (by simpa using hi), Array.length_toList]
      rfl
    · rw [List.getElem?_eq_none (by simp; omega), List.getElem?_eq_none (by simp; omega)]
      rfl
  · obtain ⟨m, hm, rfl⟩ := List.mem_map.mp hj
    have := List.mem_range.mp hm
    rw [Array.length_toList]
    omega
theorem getItem_tuple_rev {t sl : Addr} {items : Array Value} {tk : Tok} {Q : Value → Shared → Prop} (ht : IsTup s.heap t items) (hs : s.heap.IsSliceOf sl .none .none (.int (-1) tk))
    (h : Q (.ref s.heap.objs.size) { s with heap := s.heap.push { cls := .type "tuple", data := .seq items.toList.reverse.toArray } })
    (hsz : items.size ≤ sizeLine) : wpAny (model prog w) A (getItem (.ref t) (.ref sl)) Q E s := by
  have htake : sizeOk (.seq items.toList.reverse.toArray) := by
    show items.toList.reverse.toArray.size ≤ sizeLine
    rw [List.size_toArray, List.length_reverse, Array.length_toList]
    exact hsz
  obtain ⟨os, hos, hcs, hds⟩ := id hs
  have hTs : s.TypeIs (.ref sl) "slice" := ⟨os, hos, hcs⟩
  unfold getItem
  try with_reducible refine wpAny_holding ?_
  first | refine wpAny_bind (wpAny_pure ?_) | skip
  refine wpAny_bind (wpAny_sequenceKey ht.typeIs (by decide) ?_)
  refine wpAny_bind (wpAny_callSpecial?_slot (name := Str.ofString "__getitem__") ht.typeIs PyProof.Rows.slot_tuple_getitem
    (wpAny_call_entry PyProof.Rows.slot_tuple_getitem ht.typeIs entry_tuple_getitem ?_ (args_tuple_getitem _ _)))
  show wpAny _ _ (Builtin.Tuple.tupleItemsOf (.ref t) >>= _) _ _ s
  refine wpAny_bind (tupleItemsOf_ ht ?_)
  refine wpAny_bind (wpAny_typeOf hTs ?_)
  rw [if_pos (by decide)]
  refine wpAny_bind (sliceApplied_rev hs ?_)
  show wpAny _ _ (if (((items.size : Int) - 1) == 0 && (-1 : Int) == 1 && (items.size : Nat) == items.size) = true then _ else _) _ _ s
  rw [if_neg (by intro q; rw [Bool.and_eq_true, Bool.and_eq_true] at q; exact absurd q.1.2 (by decide)), pick_rev]
  first
    | exact wpAny_bind (m := Builtin.Tuple.tupleExact _) (wpAny_newObj_type (wpAny_pure ⟨_, rfl, wpAny_pure h⟩) htake)
    | exact wpAny_bind (m := Builtin.Tuple.tupleExact _) (wpAny_newObj_type (wpAny_bind (wpAny_pure (wpAny_pure ⟨_, rfl, wpAny_pure h⟩))) htake)
    | exact wpAny_bind (wpAny_bind (m := Builtin.Tuple.tupleExact _) (wpAny_newObj_type (wpAny_pure (wpAny_pure ⟨_, rfl, wpAny_pure h⟩)) htake))
    | exact wpAny_bind (wpAny_bind (m := Builtin.Tuple.tupleExact _) (wpAny_newObj_type (wpAny_pure ⟨_, rfl, wpAny_pure h⟩) htake))
end
end HT
namespace Zb
open PySem PySem.Spec PyProof.Rows L2
open Evl (tCut pss_cut)
def rRv : V → Hp → VK → Prop := fun x H Q => ∃ a xs, x = .ref a ∧ ((lstAt H a = some xs ∧ ∀ q, H q = none → Q (.ref q) (upd H q (.lst xs.reverse))) ∨ (tupAt H a = some xs ∧ ∀ q, H q = none → Q (.ref q) (upd H q (.tup xs.reverse))))
def tRv (te ts : TE) : TE := fun σ H Q => te σ H fun x H1 => ts σ H1 fun s H4 => s = .int (-1) ∧ rRv x H4 Q
section
variable {X : Cx} {e st : Expr} {te ts : TE} {pos p2 : Pos}
/-- e[::-1], a list or a tuple -/
theorem pe_rev (he : PE X e te) (hs : PE X st ts) : PE X (.Subscript e (.Slice none none (some st) p2) pos) (tRv te ts) := by
  refine ⟨fun pins s σ H Q I h => ?_⟩
  rw [eval_Subscript]
  refine wpAny_bind (thn (he.run pins s σ H _ I h) fun v s1 ⟨x, H1, I1, r1, q1⟩ => wpAny_bind (wpAny_holding (wpAny_Slice ?_)))
  rw [evalPart_none]
  refine wpAny_pure ?_
  refine wpAny_pure ?_
  rw [evalPart_some]
  refine thn (hs.run pins s1 σ H1 _ I1 q1) fun vk s4 ⟨xk, H4, I4, rk, q4⟩ => ?_
  obtain ⟨ek, q⟩ := q4
  subst ek
  obtain ⟨tk, rfl⟩ := rk
  refine wpAny_bind (wpAny_standAt ?_)
  have I5 : Inv X pins σ H4 { s4 with heap := s4.heap.push { cls := .type "slice", data := .fields #[.none, .none, .int (-1) tk] } } := I4.kept (t' := s4.toks) fun b ob q => Heap.get?_push_of_some _ q
  have go : ∀ {T id : String}, typeLookup (.type T) "__getitem__" = pure (some (.builtin id)) → ({ s4 with heap := s4.heap.push { cls := .type "slice", data := .fields #[.none, .none, .int (-1) tk] } } : Shared).TypeIs v T → wpAny (model X.prog X.w) X.A (getItem v (.ref s4.heap.objs.size)) (EP X pins σ Q) X.xe { s4 with heap := s4.heap.push { cls := .type "slice", data := .fields #[.none, .none, .int (-1) tk] } } →
      wpAny (model X.prog X.w) X.A (subscriptTail e (.Slice none none (some st) p2) v (.ref s4.heap.objs.size)) (EP X pins σ Q) X.xe { s4 with heap := s4.heap.push { cls := .type "slice", data := .fields #[.none, .none, .int (-1) tk] } } := by
    intro T id hT ht hg
    exact tail_any (ops := [v, .ref s4.heap.objs.size]) ht hT hg (by with_unfolding_all rfl)
  have hsl : ({ s4 with heap := s4.heap.push { cls := .type "slice", data := .fields #[.none, .none, .int (-1) tk] } } : Shared).heap.IsSliceOf s4.heap.objs.size .none .none (.int (-1) tk) := Heap.IsSliceOf.new ..
  obtain ⟨p, xs, rfl, ⟨hx, q⟩ | ⟨hx, q⟩⟩ := q
  · obtain rfl : v = Value.ref p := r1
    obtain ⟨its, r, ht, hz⟩ := I5.list (lstAt_sq hx)
    have hlen := r.length
    refine go slot_list_getitem.lookup ht.isList.typeIs ?_
    refine wpAny_getItem_list_slice ht.isList hsl .none .none (.int (-1) tk) (by simp) ?_ (by rw [List.size_toArray] <;> omega)
    have e1 : slicePick its.toArray none none (some (-1)) = (pick (ixSt none none (-1) xs.length) its).toArray := by
      unfold slicePick pick
      congr 1
      rw [hlen]
      show (ixSt none none (-1) its.toArray.size).filterMap _ = _
      rw [List.size_toArray]
      congr 1
      funext j
      rw [List.getElem?_toArray]
    rw [e1]
    have e2 : pick (ixSt none none (-1) xs.length) xs = xs.reverse := pick_rev xs
    refine ⟨.ref _, _, I5.laid (t' := s4.toks) (o := .lst xs.reverse) (fun b ob q => Heap.get?_push_of_some _ q) (Nat.le_refl _) ?_, rfl, q _ (I5.hok.fresh (Nat.le_refl _))⟩
    rw [← e2]
    exact ⟨Nat.le_trans (pick_len _ _) (Nat.le_trans (ixSt_len _ _ _ _) hz), _, 0, vals_pick r _, Heap.get?_push_size _ rfl⟩
  · obtain rfl : v = Value.ref p := r1
    obtain ⟨its, r, ht, hz⟩ := I5.tuple (tupAt_sq hx)
    have hlen := r.length
    refine go PyProof.Rows.slot_tuple_getitem.lookup ht.typeIs ?_
    refine HT.getItem_tuple_rev ht hsl ?_ (by rw [List.size_toArray] <;> omega)
    refine ⟨.ref _, _, I5.laid (t' := s4.toks) (o := .tup xs.reverse) (fun b ob q => Heap.get?_push_of_some _ q) (Nat.le_refl _) ?_, rfl, q _ (I5.hok.fresh (Nat.le_refl _))⟩
    refine ⟨by rw [List.length_reverse]; exact hz, its.reverse, ?_, ?_⟩
    · have : ∀ {xs : List V} {us : List Value}, Vals xs us → Vals xs.reverse us.reverse := fun {xs us} r => by
        induction r with
        | nil => exact .nil
        | cons a t ih =>
          rw [List.reverse_cons, List.reverse_cons]
          exact ih.append (.cons a .nil)
      exact this r
    · exact IsTup.new _ _
end
section
variable {K : PySem.W.Frag} {σ : L2.St} {H : Hp} {Q : VK}
def RvP (Q : VK) (x s : V) (H4 : Hp) : Prop := s = .int (-1) ∧ rRv x H4 Q
theorem st_rv {te ts : TE} (h : te σ H fun x H1 => ts σ H1 fun s H4 => RvP Q x s H4) : tRv te ts σ H Q := h
theorem st_rvQ {a : Addr} {xs : List V} (h1 : seqAt H a = some xs) (h : ∀ q H', H q = none → Ex H H' → seqAt H' q = some xs.reverse → Q (.ref q) H') : RvP Q (.ref a) (.int (-1)) H :=
  ⟨rfl, a, xs, rfl, (seqAt_cases h1).elim (fun z => .inl ⟨z, fun q hq => h q _ hq (Fr.new hq) (seq_l upd_same)⟩) fun z => .inr ⟨z, fun q hq => h q _ hq (Fr.new hq) (seq_t upd_same)⟩⟩
end
end Zb
namespace SrtO
open PySem PyProof.Rows Srt
section
variable {prog : Program} {w : World} {A : Around} {E : Value → Shared → Prop} {s : Shared}
theorem collect_tup {l : Addr} {vs : List Value} {Q : List Value → Shared → Prop} (hl : IsTup s.heap l vs.toArray)
    (h : Q vs { s with heap := (s.heap.push (seqObj "list" #[] 0)).update s.heap.objs.size (Obj.mapSeq (· ++ vs.toArray)) }) (hsz : vs.length ≤ sizeLine) :
    wpAny (model prog w) A (collect (.ref l)) Q E s := by
  obtain ⟨o, ho, hc, n, hd⟩ := id hl
  unfold collect
  refine wpAny_bind (wpAny_runValue (codeAny_builtin entry_proto_collect' ?_))
  show wpAny _ _ (do again (.builtin "list.__iadd__" ⟨[← newList [], .ref l], []⟩)) _ _ s
  refine wpAny_bind (wpAny_newList (wpAny_pure ⟨Code.quiet_builtin _ (by decide +kernel), codeAny_builtin entry_list_iadd' ?_⟩))
  show wpAny _ _ (Builtin.List.listExtendWith (.ref s.heap.objs.size) (.ref l) (.ref s.heap.objs.size)) _ _ { s with heap := s.heap.push (seqObj "list" #[] 0) }
  unfold Builtin.List.listExtendWith
  have ho' : (s.heap.push (seqObj "list" #[] 0)).get? l = some o := Heap.get?_push_of_some _ ho
  refine wpAny_bind (wpAny_typeOf (T := "tuple") ⟨o, ho', hc⟩ ?_)
  have ht : (Value.type "tuple" == Value.type "tuple") = true := by rfl
  rw [if_pos (by rw [ht]; simp)]
  refine wpAny_bind (listItems_at ho' hd ?_)
  refine wpAny_bind (listItems_at (xs := #[]) (n := 0) (Heap.get?_push_size _ rfl) rfl ?_)
  rw [if_neg (by simp)]
  refine wpAny_bind (listUpdate_at (xs := #[]) (n := 0) (Heap.get?_push_size _ rfl) rfl ?_ (Nat.zero_le _) (by show (#[] ++ vs.toArray).size ≤ sizeLine + 1; simp only [Array.size_append, List.size_toArray, List.length_nil]; omega))
  refine wpAny_pure ?_
  show wpAny (model prog w) A (do
      let o ← load s.heap.objs.size
      match o.data with
      | .seq xs _ => pure xs.toList
      | _ => unsupported "internal:collect") Q E { s with heap := (s.heap.push (seqObj "list" #[] 0)).update s.heap.objs.size (Obj.mapSeq (· ++ vs.toArray)) }
  refine wpAny_bind (wpAny_load (get?_update_seq (Heap.get?_push_size _ rfl) _) ?_)
  show wpAny _ _ (pure ((#[] : Array Value) ++ vs.toArray).toList) Q E _
  rw [show ((#[] : Array Value) ++ vs.toArray).toList = vs by simp]
  exact wpAny_pure h
theorem sorted_ordT {l : Addr} {vs : List Value} {ltv : Value → Value → Bool} {Q : Value → Shared → Prop} (O : Swo ltv) (hl : IsTup s.heap l vs.toArray) (hz : vs.length ≤ sizeLine)
    (hS : 2 ≤ vs.length → ∀ (h₁ : Heap) (a : Addr), h₁.get? a = some (seqObj "list" vs.toArray 0) → (∀ b o, s.heap.get? b = some o → b ≠ a ∧ h₁.get? b = some o) → SortableO prog w A.in1.in1 { s with heap := h₁ } a vs ltv)
    (h : ∀ out : List Value, Srtd ltv out → Stb ltv out vs → Q (.ref (s.heap.objs.size + 1)) { s with heap := sortedAll s.heap vs out.toArray }) :
    wpAny (model prog w) A (call (.builtin "sorted") [.ref l]) Q E s := by
  refine Calls.call_function_entry kind_sorted plain_sorted entry_sorted (args_sorted1 _) ?_
  unfold Builtin.«sorted»
  refine wpAny_bind (m := checkCount "sorted" 1 1 _) (wpAny_pure ?_)
  refine wpAny_bind (collect_tup hl ?_ hz)
  refine wpAny_bind (wpAny_newList ?_ hz)
  have hsz : ((s.heap.push (seqObj "list" #[] 0)).update s.heap.objs.size (Obj.mapSeq (· ++ vs.toArray))).objs.size = s.heap.objs.size + 1 := by
    rw [Heap.size_update, size_push']
  have hoL : (((s.heap.push (seqObj "list" #[] 0)).update s.heap.objs.size (Obj.mapSeq (· ++ vs.toArray))).push (seqObj "list" vs.toArray 0)).get? (s.heap.objs.size + 1) = some (seqObj "list" vs.toArray 0) := by
    rw [← hsz]; exact Heap.get?_push_size _ rfl
  have keep : ∀ b o, s.heap.get? b = some o → b ≠ s.heap.objs.size + 1 ∧ (((s.heap.push (seqObj "list" #[] 0)).update s.heap.objs.size (Obj.mapSeq (· ++ vs.toArray))).push (seqObj "list" vs.toArray 0)).get? b = some o := fun b o q => by
    have hlt : b < s.heap.objs.size := Heap.lt_size q
    refine ⟨Nat.ne_of_lt (Nat.lt_succ_of_lt hlt), Heap.get?_push_of_some _ ?_⟩
    rw [Heap.get?_update_ne _ _ _ _ (Nat.ne_of_lt hlt)]
    exact Heap.get?_push_of_some _ q
  show wpAny _ _ _ _ _ { s with heap := ((s.heap.push (seqObj "list" #[] 0)).update s.heap.objs.size (Obj.mapSeq (· ++ vs.toArray))).push (seqObj "list" vs.toArray 0) }
  rw [hsz]
  refine wpAny_bind (wpAny_holding (wpAny_call_entry slot_list_sort ⟨_, hoL, rfl⟩ entry_list_sort (list_sort_ord O hoL hz (fun h2 => hS h2 _ _ hoL keep) fun out hs hb => ⟨_, rfl, ?_⟩) (args_list_sort _)))
  exact wpAny_pure ⟨_, rfl, h out hs hb⟩
end
end SrtO
namespace Zb
open PySem PySem.Spec PyProof.Rows L2
/-- sorted of a list or a tuple of ints -/
def rSortedQ : List V → Hp → VK → Prop := fun vs H Q => ∃ (a : Addr) (ns : List Int), vs = [V.ref a] ∧ seqAt H a = some (ns.map V.int) ∧
  ∀ (ns' : List Int) (p : Addr), ns'.Perm ns → ns'.Pairwise (· ≤ ·) → H p = none → Q (.ref p) (upd H p (.lst (ns'.map V.int)))
theorem c_sortQ {X : Cx} : CallR X (.builtin "sorted") rSortedQ := by
  intro pins s σ H vs us Q I r h
  obtain ⟨a, ns, rfl, hs, q⟩ := h
  rcases seqAt_cases hs with hs | hs
  · exact cr_sortedI pins s σ H _ us Q I r ⟨a, ns, rfl, lstAt_sq hs, q⟩
  · obtain ⟨its, rv, hl, hz⟩ := I.tuple (tupAt_sq hs)
    rw [Vals.ref1 r]
    have hi := rv.ints
    refine SrtO.sorted_ordT SrtO.swo_int hl (by rw [← rv.length]; exact hz) (fun h2 h₁ a' _ _ => SrtO.ints_sortable hi h2) fun out h1 h2 => ?_
    obtain ⟨k1, k2, k3⟩ := SrtO.ints_out hi h1 h2
    obtain ⟨ep, he'⟩ := PyProof.Rows.sortedAll_at s.heap its out.toArray
    have hlen : ((out.map SrtO.iv).map V.int).length ≤ sizeLine := by
      rw [List.length_map, k2.length_eq]
      rw [List.length_map] at hz
      exact hz
    exact ⟨.ref _, upd H (s.heap.objs.size + 1) (.lst ((out.map SrtO.iv).map V.int)), I.laid (t' := s.toks) (fun _ _ => PyProof.Rows.sortedAll_old) (Nat.le_succ _) ⟨hlen, out, ep, vals_of_ints k1, he'⟩, rfl, q _ _ k2 k3 (I.hok.fresh (Nat.le_succ _))⟩
theorem st_sortQ {H : Hp} {Q : VK} {p : Addr} {ns : List Int} (h1 : seqAt H p = some (ns.map V.int)) (h : ∀ (ns' : List Int) (q : Addr) (H' : Hp), ns'.Perm ns → ns'.Pairwise (· ≤ ·) → H q = none → Ex H H' → H' q = some (.lst (ns'.map V.int)) → Q (.ref q) H') : rSortedQ [.ref p] H Q :=
  ⟨p, ns, rfl, h1, fun ns' q k1 k2 hq => h ns' q _ k1 k2 hq (Fr.new hq) upd_same⟩
end Zb
namespace Zb
open PySem PySem.Spec PyProof.Rows L2
/-- x += a text -/
def rIpS : R2 := fun x y H Q => ∃ a b : Str, x = .str a ∧ y = .str b ∧ a.length + b.length ≤ 16777216 ∧ Q (.str (a ++ b)) H
section
variable {σ : L2.St} {H : Hp} {Q : VK} {D : Ends}
theorem st_augS {i : Nat} {te : TE} {z : Str} (hx : σ[i]? = some (some (.str z))) (h : te σ H (fun y H1 => rIpS (.str z) y H1 fun z H2 => D.nx (σ.set i (some z)) H2)) : tAug i te rIpS D σ H := ⟨_, hx, h⟩
theorem st_ipS {x y : Str} (hz : x.length + y.length ≤ 16777216) (h : Q (.str (x ++ y)) H) : rIpS (.str x) (.str y) H Q := ⟨x, y, rfl, rfl, hz, h⟩
end
end Zb
namespace Zb
open PySem PySem.Spec PyProof.Rows L2
end Zb
namespace Zb
open PySem PySem.Spec PyProof.Rows L2
section
variable {X : Cx} {CX : CXT} {k : Nat} {f C : Addr} {fd : FuncData} {ps : List Str} {sp : Sp} {E : L2.St → XK} {x m : Str} {p pos apos : Pos} {e o : Expr} {es : List Expr} {ta : TE} {t : TA}
def tMethS (C : Addr) (m : Str) (sp : Sp) (E : L2.St → XK) (ta : TE) (t : TA) : TE := fun σ H Q => ta σ H (MethP C m sp [] (E σ) t σ Q)
def tMakeS (C : Addr) (sp : Sp) (E : L2.St → XK) (t : TA) : TE := fun σ H Q => t σ H (MakeP C sp [] (E σ) Q)
end
section
variable {σ : L2.St} {H : Hp} {Q : VK} {C : Addr} {sp : Sp} {W : WX}
theorem st_methS {m : Str} {ta : TE} {t : TA} (h : ta σ H (MethP C m sp [] (WE W σ) t σ Q)) : tMethS C m sp (WE W) ta t σ H Q := h
theorem st_makeS {t : TA} (h : t σ H (MakeP C sp [] (WE W σ) Q)) : tMakeS C sp (WE W) t σ H Q := h
end
end Zb
namespace Zb
open PySem PySem.Spec PyProof.Rows L2 SrtO
def tri3 (q : Int × Int × Int) : HO := .tup [.int q.1, .int q.2.1, .int q.2.2]
abbrev ZT := Addr × (Int × Int × Int)
def T3 (H : Hp) (zs : List ZT) : Prop := ∀ z ∈ zs, H z.1 = some (tri3 z.2)
section
variable {H H' : Hp} {zs ys : List ZT}
theorem T3.ex (h : T3 H zs) (e : Ex H H') : T3 H' zs := fun z hz => e.get (h z hz)
theorem T3.up {D : Addr} {xs : List V} {u : HO} (h : T3 H zs) (hD : H D = some (.lst xs)) : T3 (upd H D u) zs := fun z hz => by
  rw [upd_ne fun e => by have := h z hz; rw [e, hD] at this; cases this]
  exact h z hz
theorem T3.app (h : T3 H zs) (k : T3 H ys) : T3 H (zs ++ ys) := fun z hz => (List.mem_append.mp hz).elim (h z) (k z)
theorem T3.cons {z : ZT} (h : H z.1 = some (tri3 z.2)) (k : T3 H ys) : T3 H (z :: ys) := fun y hy => by
  rcases List.mem_cons.mp hy with rfl | hy
  · exact h
  · exact k y hy
theorem T3.perm (h : T3 H zs) (e : ys.Perm zs) : T3 H ys := fun z hz => h z (e.mem_iff.mp hz)
end
def rMin3 : List V → Hp → VK → Prop := fun vs H Q => match vs with
  | [.int i, .int j, .int k] => Q (.int (min (min i j) k)) H
  | _ => False
theorem st_min3 {i j k : Int} {H : Hp} {Q : VK} (h : Q (.int (min (min i j) k)) H) : Zb.rMin3 [.int i, .int j, .int k] H Q := h
end Zb
namespace Zb
open PySem PySem.Spec PyProof.Rows L2
section
variable {X : Cx} {CX : CXT} {k : Nat} {f : Addr} {fd : FuncData} {ps : List Str} {sp : Sp} {E : XK} {e o : Expr} {es : List Expr} {ta : TE} {t : TA} {p1 p2 pos apos : Pos} {nm m : Str}
def MethD (CS : Addr → Prop) (m : Str) (sp : Addr → Sp) (E : XK) (t : TA) (σ : L2.St) (Q : VK) (x : V) (H1 : Hp) : Prop := ∃ a C dx fs, x = .ref a ∧ H1 a = some (.ins C dx fs) ∧ CS C ∧ fs.lookup m = none ∧ t σ H1 fun vs H2 => sp C (x :: vs) H2 Q E
def tMethD (CS : Addr → Prop) (m : Str) (sp : Addr → Sp) (E : XK) (ta : TE) (t : TA) : TE := fun σ H Q => ta σ H (MethD CS m sp E t σ Q)
variable {CS : Addr → Prop} {spD : Addr → Sp}
end
section
variable {σ : L2.St} {H : Hp} {Q : VK} {CS : Addr → Prop} {m : Str} {sp : Addr → Sp} {E : XK}
theorem st_methD {ta : TE} {t : TA} (h : ta σ H (MethD CS m sp E t σ Q)) : tMethD CS m sp E ta t σ H Q := h
end
end Zb
namespace Zb
open PySem PySem.Spec PyProof.Rows L2
section
variable {K : PySem.W.Frag} {H : Hp} {Q : VK}
theorem st_dget {td ty : TE} {σ : L2.St} (h : td σ H fun x H1 => ty σ H1 fun y H2 => ∃ a v, x = .ref a ∧ DGet H2 a y (some v) ∧ Q v H2) : tDGet td ty σ H Q := h
end
end Zb
namespace Zb
open PySem PySem.Spec PyProof.Rows L2
def gvEq : V → Value → Bool
  | .int i, .int j _ => i == j
  | .str x, .str y _ => x == y
  | _, _ => false
theorem gvEq_rel {v : V} {u : Value} (h : gvEq v u = true) : RelV v u := by
  cases v <;> cases u <;> simp only [gvEq, Bool.false_eq_true, beq_iff_eq] at h
  · subst h; exact ⟨_, rfl⟩
  · subst h; exact ⟨_, rfl⟩
def gdAll : List DictEntry → List (Str × V) → Bool
  | [], [] => true
  | e :: es, p :: ps => (match e.key with | .str x _ => x == p.1 | _ => false) && (gvEq p.2 e.val && gdAll es ps)
  | _, _ => false
def valS (kvs : List (Str × V)) (x : Str) : Option V := (kvs.find? fun p => p.1 == x).map (·.2)
theorem gd_find {x : Str} : ∀ {es : List DictEntry} {kvs : List (Str × V)}, gdAll es kvs = true → RelO (valS kvs x) ((es.find? fun e => Value.isStrOf x e.key).map (·.val))
  | [], [], _ => trivial
  | [], _ :: _, h => by cases h
  | _ :: _, [], h => by cases h
  | e :: es, p :: ps, h => by
    unfold gdAll at h
    rw [Bool.and_eq_true, Bool.and_eq_true] at h
    obtain ⟨h1, h2, h3⟩ := h
    obtain ⟨k, t, hk⟩ : ∃ k t, e.key = .str k t := by
      cases q : e.key <;> rw [q] at h1 <;> first | exact ⟨_, _, rfl⟩ | cases h1
    rw [hk] at h1
    have h1 : (k == p.1) = true := h1
    unfold valS
    rw [List.find?_cons, List.find?_cons, hk]
    have e1 : Value.isStrOf x (.str k t) = (p.1 == x) := by
      rw [beq_iff_eq.mp h1]
      unfold Value.isStrOf
      by_cases c : p.1 = x
      · simp [c]
      · have c' : x ≠ p.1 := fun z => c z.symm
        simp [c, c']
    rw [e1]
    cases (p.1 == x) with
    | true => exact gvEq_rel h2
    | false => exact gd_find h3
/-- the dict at a, as the top has written it -/
structure GDat (w : World) (K : PySem.W.Frag) (a : Addr) (kvs : List (Str × V)) : Prop where
  lo : (a == sysModules) = false
  ex : ∃ es n, K.lookup a = some ⟨.type "dict", none, .dict es n, #[]⟩ ∧ PySem.W.KeysLit w.params es.toList ∧ gdAll es.toList kvs = true
section
variable {X : Cx} {pins : List (Addr × Obj)} {σ : L2.St} {H : Hp} {s : Shared} {a : Addr} {kvs : List (Str × V)}
theorem GDat.map (g : GDat X.w X.K a kvs) (I : Inv X pins σ H s) : ∃ f, s.heap.MapOf (PySem.strKind X.prog X.w) a f ∧ ∀ x, RelO (valS kvs x) (f x) := by
  obtain ⟨es, n, h1, h2, h3⟩ := g.ex
  refine ⟨_, PySem.W.mapOf_K I.kIn h1 h2, fun x => ?_⟩
  obtain ⟨l⟩ := es
  have := gd_find (x := x) h3
  unfold PySem.findBy
  rw [List.find?_toArray]
  exact this
end
def tGGet1 (w : World) (K : PySem.W.Frag) (td ty : TE) : TE := fun σ H Q => td σ H fun x H1 => ∃ a kvs, x = .ref a ∧ GDat w K a kvs ∧ ty σ H1 fun y H2 => ∃ k, y = .str k ∧ Q ((valS kvs k).getD .non) H2
def tGGet2 (w : World) (K : PySem.W.Frag) (td ty tx : TE) : TE := fun σ H Q => td σ H fun x H1 => ∃ a kvs, x = .ref a ∧ GDat w K a kvs ∧ ty σ H1 fun y H2 => tx σ H2 fun z H3 => ∃ k, y = .str k ∧ Q ((valS kvs k).getD z) H3
def tGItem (w : World) (K : PySem.W.Frag) (td ty : TE) : TE := fun σ H Q => td σ H fun x H1 => ∃ a kvs, x = .ref a ∧ GDat w K a kvs ∧ ty σ H1 fun y H2 => ∃ k v, y = .str k ∧ valS kvs k = some v ∧ Q v H2
section
variable {w : World} {K : PySem.W.Frag} {σ : L2.St} {H : Hp} {Q : VK} {td ty tx : TE}
theorem st_gget1 (h : td σ H fun x H1 => ∃ a kvs, x = .ref a ∧ GDat w K a kvs ∧ ty σ H1 fun y H2 => ∃ k, y = .str k ∧ Q ((valS kvs k).getD .non) H2) : tGGet1 w K td ty σ H Q := h
theorem st_gget2 (h : td σ H fun x H1 => ∃ a kvs, x = .ref a ∧ GDat w K a kvs ∧ ty σ H1 fun y H2 => tx σ H2 fun z H3 => ∃ k, y = .str k ∧ Q ((valS kvs k).getD z) H3) : tGGet2 w K td ty tx σ H Q := h
theorem st_gitem (h : td σ H fun x H1 => ∃ a kvs, x = .ref a ∧ GDat w K a kvs ∧ ty σ H1 fun y H2 => ∃ k v, y = .str k ∧ valS kvs k = some v ∧ Q v H2) : tGItem w K td ty σ H Q := h
theorem st_gdat {a : Addr} {kvs : List (Str × V)} {P : List (Str × V) → Prop} (g : GDat w K a kvs) (h : P kvs) : ∃ a' kvs', V.ref a = .ref a' ∧ GDat w K a' kvs' ∧ P kvs' := ⟨a, kvs, rfl, g, h⟩
theorem st_gkey {k : Str} {P : Str → Prop} (h : P k) : ∃ k', V.str k = .str k' ∧ P k' := ⟨k, rfl, h⟩
end
theorem st_isXsN {K : PySem.W.Frag} {H : Hp} {Q : VK} {a C dd tp : Addr} {cs : List V} {fs : List (Str × V)} (T : XI K C) (h1 : H dd = some (.xd fs)) (ht : H tp = some (.tup cs)) (k : KitN K C cs) (h : Q (.bl false) H) : rIsXs K a (.ref C) (some dd) [.ref a, .ref tp] H Q := by
  obtain ⟨cvs, k1, k2⟩ := k.any
  exact ⟨tp, cs, cvs, false, C, dd, fs, rfl, ht, k1, rfl, T, rfl, h1, k2, h⟩
def rUpper : V → List V → Hp → VK → Prop := fun x xs H Q => ∃ z, x = .str z ∧ xs = [] ∧ z.length ≤ 5592405 ∧ Q (.str (Txt.upper z)) H
theorem st_upper {z : Str} {H : Hp} {Q : VK} (hz : z.length ≤ 5592405) (h : Q (.str (Txt.upper z)) H) : rUpper (.str z) [] H Q := ⟨z, rfl, rfl, hz, h⟩
end Zb
namespace Zb
open PySem PySem.Spec PyProof.Rows L2
theorem sqL_exV {K : PySem.W.Frag} {H H' : Hp} {a : Addr} {xs : List V} (h : SqL K H a xs) (e : Ex H H') : SqL K H' a xs := by
  rcases h with (h | ⟨v, h⟩) | h
  · exact .inl (.inl (e.get h))
  · exact .inl (.inr ⟨v, e.get h⟩)
  · exact .inr h
end Zb
namespace Zb
open PySem PySem.Spec PyProof.Rows L2 PySem.W
def tLk : List (R2 × TE) → V → L2.St → Hp → VK → Prop
  | [], _, _, _, _ => False
  | [(r, tb)], x, σ, H, Q => tb σ H fun y H1 => r x y H1 Q
  | (r, tb) :: p :: rest, x, σ, H, Q => tb σ H fun y H1 => r x y H1 fun z H2 => ∃ k, z = .bl k ∧ if k = true then tLk (p :: rest) y σ H2 Q else Q (.bl false) H2
def tChN (ta : TE) (l : List (R2 × TE)) : TE := fun σ H Q => ta σ H fun x H1 => tLk l x σ H1 Q
section
variable {σ : L2.St} {H : Hp} {Q : VK} {x : V} {r : R2} {tb ta : TE} {p : R2 × TE} {l : List (R2 × TE)}
theorem st_chN (h : ta σ H fun x H1 => tLk l x σ H1 Q) : tChN ta l σ H Q := h
theorem st_lk (h : tb σ H fun y H1 => r x y H1 fun z H2 => ∃ k, z = .bl k ∧ if k = true then tLk (p :: l) y σ H2 Q else Q (.bl false) H2) : tLk ((r, tb) :: p :: l) x σ H Q := h
theorem st_lk1 (h : tb σ H fun y H1 => r x y H1 Q) : tLk [(r, tb)] x σ H Q := h
end
section
variable {K : PySem.W.Frag} {σ : L2.St} {H : Hp} {D : Ends} {ta tv : TE} {rd : V → V → Hp → VK → Prop} {f : Str}
def AugP (K : PySem.W.Frag) (tv : TE) (rd : V → V → Hp → VK → Prop) (f : Str) (D : Ends) (σ : L2.St) (x : V) (H1 : Hp) : Prop := ∃ a C dx fs v, x = .ref a ∧ H1 a = some (.ins C dx fs) ∧ Cls K C ∧ NoAttr K C f ∧ fs.lookup f = some v ∧ tv σ H1 fun y H2 => rd v y H2 fun z H3 => ∃ dx' fs', H3 a = some (.ins C dx' fs') ∧ fs'.length < 1000 ∧ D.nx σ (upd H3 a (.ins C dx' (putF f z fs')))
theorem st_aug (h : ta σ H (AugP K tv rd f D σ)) : sFldAug K ta tv rd f D σ H := h
theorem st_augP {a C dx : Addr} {fs : List (Str × V)} {v : V} (h1 : H a = some (.ins C dx fs)) (c : Cls K C) (n : NoAttr K C f) (l : fs.lookup f = some v) (h : tv σ H fun y H2 => rd v y H2 fun z H3 => ∃ dx' fs', H3 a = some (.ins C dx' fs') ∧ fs'.length < 1000 ∧ D.nx σ (upd H3 a (.ins C dx' (putF f z fs')))) : AugP K tv rd f D σ (.ref a) H := ⟨a, C, dx, fs, v, rfl, h1, c, n, l, h⟩
theorem st_inAdd {i j : Int} {Q : VK} (h : Q (.int (i + j)) H) : L2.rAdd (.int i) (.int j) H Q := ⟨i, j, rfl, rfl, h⟩
theorem st_augE {a C dx : Addr} {fs : List (Str × V)} {g : List (Str × V) → List (Str × V)} {P : Hp → Prop} (h1 : H a = some (.ins C dx fs)) (hl : fs.length < 1000) (h : P (upd H a (.ins C dx (g fs)))) : ∃ dx' fs', H a = some (.ins C dx' fs') ∧ fs'.length < 1000 ∧ P (upd H a (.ins C dx' (g fs'))) := ⟨dx, fs, h1, hl, h⟩
end
end Zb
namespace Zb
open PySem PySem.Spec PyProof.Rows L2 PySem.W
def DSetT (a : Addr) (y z : V) (Q : VK) (H : Hp) : Prop := ∃ (kvs : List (List Key × V)) (k : List Key) (b : Addr), H a = some (.dT kvs) ∧ y = .ref b ∧ H b = some (.tup (k.map kV)) ∧ kvs.length < sizeLine ∧ (∀ v, valV kvs k = some v → Q v H) ∧ (valV kvs k = none → Q z (upd H a (.dT (putK kvs k z))))
def tDSetT (td ty tx : TE) : TE := fun σ H Q => td σ H fun x H1 => ∃ a, x = .ref a ∧ IsD H1 a ∧ ty σ H1 fun y H2 => tx σ H2 fun z H3 => DSetT a y z Q H3
section
variable {K : PySem.W.Frag} {H : Hp} {Q : VK} {σ : L2.St}
theorem st_dsetTU {td ty tx : TE} (h : td σ H fun x H1 => ∃ a, x = .ref a ∧ IsD H1 a ∧ ty σ H1 fun y H2 => tx σ H2 fun z H3 => DSetT a y z Q H3) : tDSetT td ty tx σ H Q := h
theorem st_isDT {a : Addr} {kvs : List (List Key × V)} {P : Addr → Prop} (h1 : H a = some (.dT kvs)) (h : P a) : ∃ b, V.ref a = .ref b ∧ IsD H b ∧ P b := ⟨a, rfl, .inr ⟨kvs, .inl h1⟩, h⟩
end
theorem Ex.hidN {H H' : Hp} {D : Addr} (e : Ex H H') (n : H D = none) : Ex H (hid D H') := fun b o _ h => hid_get (e.get h) fun z => by
  rw [z, n] at h
  cases h
section
variable {J : It} {S : Hp → Prop} {g : TG} {σ : L2.St} {H1 : Hp}
theorem lc_madeV {α : Type} {ys : List α} {val : α → V} {te : TE} {vs : List Nat} {Q : VK} (hR : RunsV J ys val S) (hS : ∀ H', Ex H1 H' → S H') (hz : ys.length < 1000000) (P : α → V → Hp → Prop) (hP : ∀ y a H H', P y a H → Ex H H' → P y a H')
    (hs : ∀ y H', y ∈ ys → Ex H1 H' → ∀ (B : V → Hp → Prop), (∀ a H'', Ex H' H'' → (∀ G : Hp, Ex H1 G → (∀ b o, H' b = none → H'' b = some o → G b = some o) → P y a G) → B a H'') → g (val y) (wipe σ vs) H' fun σ2 H2 => wipe σ2 vs = wipe σ vs ∧ te σ2 H2 B)
    (hd : ∀ D H' (ts : List V), H1 D = none → Ex H1 H' → H' D = some (.lst ts) → ts.length = ys.length → (∀ (k : Nat) (a : V) (y : α), ts[k]? = some a → ys[k]? = some y → P y a H') → Q (.ref D) H')
    (hg : ∀ v σ H (P P' : L2.St → Hp → Prop), (∀ σ H, P σ H → P' σ H) → g v σ H P → g v σ H P' := by intro _ _ _ _ _ k h; exact k _ _ h) : LcGoal J g tYes te vs σ Q H1 := by
  intro D hD
  obtain ⟨W, hW⟩ : ∃ W : Nat → Hp → Prop, W = fun i H => ∃ ts : List V, H D = some (.lst ts) ∧ Ex H1 H ∧ ts.length = i ∧ ∀ (k : Nat) (a : V) (y : α), ts[k]? = some a → ys[k]? = some y → P y a (hid D H) := ⟨_, rfl⟩
  have hWi : ∀ i H, W i H ↔ ∃ ts : List V, H D = some (.lst ts) ∧ Ex H1 H ∧ ts.length = i ∧ ∀ (k : Nat) (a : V) (y : α), ts[k]? = some a → ys[k]? = some y → P y a (hid D H) := fun i H => by rw [hW]
  refine ⟨fun i m H => m = ys.length - i ∧ i ≤ ys.length ∧ W i H, ⟨ys.length, by simp, Nat.zero_le _, (hWi _ _).mpr ⟨[], upd_same, Fr.new hD, rfl, fun k a y h _ => by simp at h⟩⟩, ?_⟩
  rintro i m H ⟨rfl, hi, hw⟩
  obtain ⟨ts, h1, h2, h3, h4⟩ := (hWi _ _).mp hw
  by_cases hlt : i < ys.length
  · refine .inr ⟨hR.go i H hlt (hS H h2), W (i + 1), fun H' p' => ⟨ys.length - (i + 1), by omega, rfl, hlt, p'⟩, fun x H' y => ?_⟩
    obtain ⟨rfl, y0, hy, rfl⟩ := hR.yld i H x H' hlt (hS H h2) y
    refine hg _ _ _ _ _ (fun σ2 H2 h => ⟨h.1, h.2⟩) (hs y0 H' (List.mem_of_getElem? hy) h2 (fun v H4 => ∃ acc, H4 D = some (.lst acc) ∧ acc.length < sizeLine ∧ W (i + 1) (upd H4 D (.lst (acc ++ [v])))) ?_)
    intro a H4 e hn
    have hup : ∀ o, hid D (upd H4 D o) = hid D H4 := fun o => by
      funext b
      unfold hid
      by_cases n : b = D
      · rw [if_pos n, if_pos n]
      · rw [if_neg n, if_neg n, upd_ne n]
    have hst : Ex (hid D H') (hid D H4) := fun b o _ q => by
      unfold hid at q ⊢
      by_cases n : b = D
      · rw [if_pos n] at q; cases q
      · rw [if_neg n] at q ⊢
        exact e.get q
    refine ⟨ts, e.get h1, by rw [sl16]; omega, (hWi _ _).mpr ⟨ts ++ [a], upd_same, (h2.trans e).mut hD, by rw [List.length_append, h3]; rfl, fun k b y hk hky => ?_⟩⟩
    rw [hup]
    by_cases hkl : k < ts.length
    · rw [List.getElem?_append_left hkl] at hk
      exact hP y b _ _ (h4 k b y hk hky) hst
    · rw [List.getElem?_append_right (by omega)] at hk
      have hk0 : k = ts.length := by
        have := (List.getElem?_eq_some_iff.mp hk).1
        rw [List.length_singleton] at this
        omega
      subst hk0
      rw [Nat.sub_self] at hk
      cases hk
      rw [h3, hy] at hky
      cases hky
      exact hn _ (((h2.trans e).hidN hD)) fun b o hb ho => hid_get ho fun z => by rw [z, h1] at hb; cases hb
  · have e : i = ys.length := by omega
    subst e
    exact .inl ⟨hR.stop H (hS H h2), hd D H ts hD h2 h1 h3 fun k a y hk hky => hP y a _ _ (h4 k a y hk hky) (hid_ex D H)⟩
end
end Zb
set_option Elab.async false
set_option linter.all false
set_option maxRecDepth 100000
set_option maxHeartbeats 4000000
namespace My
open PySem PySem.Spec PyProof.Rows L2 Zb
open Evl (tCut pss_cut)
def top (i : Nat) : Stmt := PySem.Challenge.pw_panethread_k22_counts.main.body.getD i (.Pass ⟨0, 0, 0, 0⟩)
abbrev s_is_whole : Stmt := top 6
abbrev N_is_whole : List Str := ["thing"]
theorem sc_is_whole : FnScope N_is_whole ["thing"] (defScope s_is_whole) := ⟨rfl, rfl, rfl, by decide +kernel, rfl, by decide +kernel, by decide +kernel⟩
abbrev s_is_within : Stmt := top 7
abbrev N_is_within : List Str := ["thing", "low", "high"]
theorem sc_is_within : FnScope N_is_within ["thing", "low", "high"] (defScope s_is_within) := ⟨rfl, rfl, rfl, by decide +kernel, rfl, by decide +kernel, by decide +kernel⟩
abbrev s_is_turning : Stmt := top 10
abbrev N_is_turning : List Str := ["thing", "seen", "goal"]
theorem sc_is_turning : FnScope N_is_turning ["thing"] (defScope s_is_turning) := ⟨rfl, rfl, rfl, by decide +kernel, rfl, by decide +kernel, by decide +kernel⟩
abbrev s_need_turning : Stmt := top 11
abbrev N_need_turning : List Str := ["turning"]
theorem sc_need_turning : FnScope N_need_turning ["turning"] (defScope s_need_turning) := ⟨rfl, rfl, rfl, by decide +kernel, rfl, by decide +kernel, by decide +kernel⟩
abbrev s_need_place : Stmt := top 12
abbrev N_need_place : List Str := ["place", "most"]
theorem sc_need_place : FnScope N_need_place ["place", "most"] (defScope s_need_place) := ⟨rfl, rfl, rfl, by decide +kernel, rfl, by decide +kernel, by decide +kernel⟩
abbrev s_counted : Stmt := top 13
abbrev N_counted : List Str := ["turning", "begin", "end", "goal"]
theorem sc_counted : FnScope N_counted ["turning", "begin", "end"] (defScope s_counted) := ⟨rfl, rfl, rfl, by decide +kernel, rfl, by decide +kernel, by decide +kernel⟩
abbrev s_counts : Stmt := top 14
abbrev N_counts : List Str := ["turning", "table", "goal", "place", "many"]
theorem sc_counts : FnScope N_counts ["turning"] (defScope s_counts) := ⟨rfl, rfl, rfl, by decide +kernel, rfl, by decide +kernel, by decide +kernel⟩
abbrev s_is_square : Stmt := top 15
abbrev N_is_square : List Str := ["table", "row", "many"]
theorem sc_is_square : FnScope N_is_square ["table"] (defScope s_is_square) := ⟨rfl, rfl, rfl, by decide +kernel, rfl, by decide +kernel, by decide +kernel⟩
abbrev s_from_counts : Stmt := top 16
abbrev N_from_counts : List Str := ["table", "found", "row", "below", "same"]
theorem sc_from_counts : FnScope N_from_counts ["table"] (defScope s_from_counts) := ⟨rfl, rfl, rfl, by decide +kernel, rfl, by decide +kernel, by decide +kernel⟩
abbrev s__law_cell : Stmt := top 18
abbrev N__law_cell : List Str := ["_law_script", "_law_k"]
theorem sc__law_cell : FnScope N__law_cell ["_law_script", "_law_k"] (defScope s__law_cell) := ⟨rfl, rfl, rfl, by decide +kernel, rfl, by decide +kernel, by decide +kernel⟩
abbrev s__law_mix : Stmt := top 19
abbrev N__law_mix : List Str := ["_law_cell_here", "_law_k", "_law_number"]
theorem sc__law_mix : FnScope N__law_mix ["_law_cell_here", "_law_k"] (defScope s__law_mix) := ⟨rfl, rfl, rfl, by decide +kernel, rfl, by decide +kernel, by decide +kernel⟩
abbrev s__law_takes : Stmt := top 20
abbrev N__law_takes : List Str := ["_law_cell_here", "_law_bases", "_law_found", "_law_left", "_law_k", "_law_base"]
theorem sc__law_takes : FnScope N__law_takes ["_law_cell_here", "_law_bases"] (defScope s__law_takes) := ⟨rfl, rfl, rfl, by decide +kernel, rfl, by decide +kernel, by decide +kernel⟩
abbrev s__law_many : Stmt := top 21
abbrev N__law_many : List Str := ["_law_cell_here", "_law_way", "_law_few", "_law_some", "_law_most"]
theorem sc__law_many : FnScope N__law_many ["_law_cell_here"] (defScope s__law_many) := ⟨rfl, rfl, rfl, by decide +kernel, rfl, by decide +kernel, by decide +kernel⟩
abbrev s__law_turning : Stmt := top 22
abbrev N__law_turning : List Str := ["_law_cell_here", "_law_many_here", "_law_left", "_law_found", "_law_number"]
theorem sc__law_turning : FnScope N__law_turning ["_law_cell_here", "_law_many_here"] (defScope s__law_turning) := ⟨rfl, rfl, rfl, by decide +kernel, rfl, by decide +kernel, by decide +kernel⟩
abbrev s__law_whole : Stmt := top 23
abbrev N__law_whole : List Str := ["_law_thing"]
theorem sc__law_whole : FnScope N__law_whole ["_law_thing"] (defScope s__law_whole) := ⟨rfl, rfl, rfl, by decide +kernel, rfl, by decide +kernel, by decide +kernel⟩
abbrev s__law_list : Stmt := top 24
abbrev N__law_list : List Str := ["_law_found", "_law_due", "_law_number"]
theorem sc__law_list : FnScope N__law_list ["_law_found", "_law_due"] (defScope s__law_list) := ⟨rfl, rfl, rfl, by decide +kernel, rfl, by decide +kernel, by decide +kernel⟩
abbrev s__law_counts : Stmt := top 25
abbrev N__law_counts : List Str := ["_law_turning_here", "_law_found", "_law_at", "_law_place", "_law_many_here"]
theorem sc__law_counts : FnScope N__law_counts ["_law_turning_here"] (defScope s__law_counts) := ⟨rfl, rfl, rfl, by decide +kernel, rfl, by decide +kernel, by decide +kernel⟩
abbrev s__law_spoiled : Stmt := top 26
abbrev N__law_spoiled : List Str := ["_law_table", "_law_cell_here", "_law_way", "_law_at", "_law_place", "_law_more", "_law_found", "_law_row", "_law_column"]
theorem sc__law_spoiled : FnScope N__law_spoiled ["_law_table", "_law_cell_here"] (defScope s__law_spoiled) := ⟨rfl, rfl, rfl, by decide +kernel, rfl, by decide +kernel, by decide +kernel⟩
abbrev s__law_is_square : Stmt := top 27
abbrev N__law_is_square : List Str := ["_law_table", "_law_row", "_law_number"]
theorem sc__law_is_square : FnScope N__law_is_square ["_law_table"] (defScope s__law_is_square) := ⟨rfl, rfl, rfl, by decide +kernel, rfl, by decide +kernel, by decide +kernel⟩
abbrev s__law_from : Stmt := top 28
abbrev N__law_from : List Str := ["_law_table", "_law_turning_here", "_law_at", "_law_place"]
theorem sc__law_from : FnScope N__law_from ["_law_table"] (defScope s__law_from) := ⟨rfl, rfl, rfl, by decide +kernel, rfl, by decide +kernel, by decide +kernel⟩
abbrev s__law_copy : Stmt := top 29
abbrev N__law_copy : List Str := ["_law_table", "_law_row"]
theorem sc__law_copy : FnScope N__law_copy ["_law_table"] (defScope s__law_copy) := ⟨rfl, rfl, rfl, by decide +kernel, rfl, by decide +kernel, by decide +kernel⟩
abbrev s__law_read : Stmt := top 30
abbrev N__law_read : List Str := ["_law_table", "_law_due", "_law_kept", "_law_found", "_law_told", "e"]
theorem sc__law_read : FnScope N__law_read ["_law_table"] (defScope s__law_read) := ⟨rfl, rfl, rfl, by decide +kernel, rfl, by decide +kernel, by decide +kernel⟩
abbrev s__law_refused : Stmt := top 31
abbrev N__law_refused : List Str := ["_law_turning_here", "_law_begin", "_law_end", "_law_due", "_law_told", "e"]
theorem sc__law_refused : FnScope N__law_refused ["_law_turning_here", "_law_begin", "_law_end", "_law_due"] (defScope s__law_refused) := ⟨rfl, rfl, rfl, by decide +kernel, rfl, by decide +kernel, by decide +kernel⟩
abbrev s__law_doors : Stmt := top 32
abbrev N__law_doors : List Str := ["_law_turning_here", "_law_cell_here", "_law_many_here", "_law_bads", "_law_one", "_law_other", "_law_odd"]
theorem sc__law_doors : FnScope N__law_doors ["_law_turning_here", "_law_cell_here"] (defScope s__law_doors) := ⟨rfl, rfl, rfl, by decide +kernel, rfl, by decide +kernel, by decide +kernel⟩
abbrev s__law_right : Stmt := top 33
abbrev N__law_right : List Str := ["_law_turning_here", "_law_cells", "_law_due", "_law_many_here", "_law_begin", "_law_end", "_law_found", "_law_turn", "_law_table", "_law_row", "_law_like", "_law_cell_here"]
theorem sc__law_right : FnScope N__law_right ["_law_turning_here", "_law_cells"] (defScope s__law_right) := ⟨rfl, rfl, rfl, by decide +kernel, rfl, by decide +kernel, by decide +kernel⟩
abbrev s_law : Stmt := top 34
abbrev N_law : List Str := ["_law_script", "_law_k", "_law_many_here", "_law_turning_here", "_law_kept", "_law_cell_here", "_law_cells"]
theorem sc_law : FnScope N_law ["_law_script"] (defScope s_law) := ⟨rfl, rfl, rfl, by decide +kernel, rfl, by decide +kernel, by decide +kernel⟩
local macro_rules | `(tactic| walk_at "hp") => `(tactic| first
  | assumption
  | exact upd_same
  | (refine upd_old (by assumption) ?_; walk_at "hp")
  | (refine Ex.get (by assumption) ?_; walk_at "hp")
  | (refine Fr.get (by assumption) (by assumption) ?_; walk_at "hp"))
local macro_rules | `(tactic| walk_at "kn") => `(tactic| first
  | exact KitN.nil
  | (refine KitN.cons ?_ ?_; (walk_at "ki"); (walk_at "kn")))
local macro_rules | `(tactic| walk_at "pu") => `(tactic| first
  | assumption
  | (refine Purse.ex ?_ (by assumption); walk_at "pu"))
local macro_rules | `(tactic| walk_at "fr") => `(tactic| first
  | exact Fr.refl _
  | assumption
  | exact Fr.ex (by assumption)
  | (refine Fr.trans ?_ (by assumption); walk_at "fr")
  | (refine Fr.trans ?_ (Fr.ex (by assumption)); walk_at "fr"))
local macro_rules | `(tactic| walk_at "sd") => `(tactic| first
  | omega
  | (simp only [tx_length, List.length_append, List.length_cons, List.length_nil, List.length_map, List.length_take, List.length_drop]; omega)
  | assumption
  | exact rfl
  | decide)
local macro_rules | `(tactic| walk_at "nw") => `(tactic| (intro q H' hq he hv; (try (have hne := Purse.ne (by assumption) hq; have hpu := Purse.ex (by assumption) he))))
local macro_rules | `(tactic| walk_at "sm") => `(tactic| first
  | exact Sm.nil
  | assumption
  | (refine Sm.app ?_ ?_ <;> walk_at "sm")
  | (refine Sm.cons ?_ ?_ <;> walk_at "sm")
  | exact Sm.up Sm.non (Nat.le_of_ble_eq_true rfl) (Nat.le_of_ble_eq_true rfl)
  | exact Sm.up (Sm.bl _) (Nat.le_of_ble_eq_true rfl) (Nat.le_of_ble_eq_true rfl)
  | exact Sm.up (Sm.int (by omega)) (Nat.le_of_ble_eq_true rfl) (Nat.le_of_ble_eq_true rfl)
  | exact Sm.up (Sm.str (by decide +kernel)) (Nat.le_of_ble_eq_true rfl) (Nat.le_of_ble_eq_true rfl)
  | (refine Sm.up (Sm.tup (n := 1) (k := 1) (by walk_at "hp") ?_ (Nat.le_refl _)) (Nat.le_of_ble_eq_true rfl) (Nat.le_of_ble_eq_true rfl); walk_at "sm")
  | (refine Sm.up (Sm.lst (n := 1) (k := 1) (by walk_at "hp") ?_ (Nat.le_refl _)) (Nat.le_of_ble_eq_true rfl) (Nat.le_of_ble_eq_true rfl); walk_at "sm"))
local macro_rules | `(tactic| walk_at "ln") => `(tactic| first | omega | (simp only [List.length_append, List.length_cons, List.length_nil, List.length_map, List.length_singleton]; omega))
local macro_rules | `(tactic| walk_at "sn") => `(tactic| first
  | exact Sm.nil
  | assumption
  | exact Sm.upA (by assumption) (Nat.le_of_ble_eq_true rfl) (Nat.le_of_ble_eq_true rfl)
  | exact Sm.up (by assumption) (Nat.le_of_ble_eq_true rfl) (Nat.le_of_ble_eq_true rfl)
  | (refine Sm.app ?_ ?_ <;> walk_at "sn")
  | (refine Sm.cons ?_ ?_ <;> walk_at "sn")
  | (refine Sm.cut ?_ ; walk_at "sn")
  | walk_at "sm"
  | (refine Sm.up (Sm.lst (n := 100) (k := 3) (by walk_at "hp") ?_ (Nat.le_refl _)) (Nat.le_of_ble_eq_true rfl) (Nat.le_of_ble_eq_true rfl); walk_at "sn")
  | (refine Sm.up (Sm.lst (n := 4) (k := 2) (m := 4612) (by walk_at "hp") ?_ (by walk_at "ln")) (Nat.le_of_ble_eq_true rfl) (Nat.le_of_ble_eq_true rfl); walk_at "sn")
  | (refine Sm.up (Sm.tup (n := 4) (k := 2) (m := 4612) (by walk_at "hp") ?_ (by walk_at "ln")) (Nat.le_of_ble_eq_true rfl) (Nat.le_of_ble_eq_true rfl); walk_at "sn"))
local macro_rules | `(tactic| walk_at "sg") => `(tactic| first
  | exact allE_nil
  | (refine allE_cons ?_ ?_ <;> walk_at "sg")
  | exact ⟨_, Sd.dk (by walk_at "hp")⟩
  | (refine SdE.of (n := 1) (k := 1) ?_ (by decide) (by decide); walk_at "sm")
  | (refine SdE.of (Sm.lst (n := 18500) (k := 5) (m := 50) (by walk_at "hp") ?_ (by walk_at "ln")) (by decide) (by decide); walk_at "sn")
  | (refine SdE.of (Sm.tup (n := 18500) (k := 5) (m := 50) (by walk_at "hp") ?_ (by walk_at "ln")) (by decide) (by decide); walk_at "sn"))
local macro_rules | `(tactic| walk_at "s") => `(tactic| first
  | ((with_reducible refine' st_var ?a0 ?_); (case a0 => exact rfl))
  | ((with_reducible refine' st_isR1 ?a0 ?_); (case a0 => constructor <;> walk_at "sd"))
  | ((with_reducible refine' st_isR2 ?a0 ?_); (case a0 => refine ⟨?_, ?_, ?_, ?_⟩ <;> walk_at "sd"))
  | ((with_reducible refine' st_c ?_))
  | ((with_reducible refine' st_op ?_))
  | ((with_reducible refine' st_seq ?_))
  | ((with_reducible refine' st_asg ?_))
  | ((with_reducible refine' st_name ?_))
  | ((with_reducible refine' st_cons ?_))
  | ((with_reducible refine' st_nil ?_))
  | ((with_reducible refine' st_call ?_))
  | ((with_reducible refine' st_cb ?_))
  | ((with_reducible refine' st_ret ?_))
  | ((with_reducible refine' st_drop ?_))
  | ((with_reducible refine' st_ifS ?_))
  | ((with_reducible refine' st_test ?_))
  | ((with_reducible refine' st_B ?_))
  | ((with_reducible refine' st_isb ?_))
  | ((with_reducible refine' st_and ?_))
  | ((with_reducible refine' st_or ?_))
  | ((with_reducible refine' st_not ?_))
  | ((with_reducible refine' st_andV ?_))
  | ((with_reducible refine' st_orV ?_))
  | ((with_reducible refine' st_notV ?_))
  | ((with_reducible refine' st_if ?_))
  | ((with_reducible refine' st_lst ?_))
  | ((with_reducible refine' st_tup ?_))
  | ((with_reducible refine' st_sl ?_))
  | ((with_reducible refine' st_part ?_))
  | ((with_reducible refine' st_nopart ?_))
  | ((with_reducible refine' st_isi ?_))
  | ((with_reducible refine' st_sub ?_))
  | ((with_reducible refine' st_next ?_))
  | ((with_reducible refine' st_un ?_))
  | ((with_reducible refine' st_rU ?_))
  | ((with_reducible refine' st_augI ?a0 ?_); (case a0 => exact rfl))
  | ((with_reducible refine' st_ipI ?_))
  | ((with_reducible refine' st_par ?_))
  | ((with_reducible refine' st_par2 ?_))
  | ((with_reducible refine' st_addI ?_))
  | ((with_reducible refine' st_subI ?_))
  | ((with_reducible refine' st_cmpI ?_))
  | ((with_reducible refine' st_eqI ?_))
  | ((with_reducible refine' st_neI ?_))
  | ((with_reducible refine' st_eqS ?_))
  | ((with_reducible refine' st_neS ?_))
  | ((with_reducible refine' st_eqB ?_))
  | ((with_reducible refine' st_neB ?_))
  | ((with_reducible refine' st_max2 ?_))
  | ((with_reducible refine' st_min2 ?_))
  | ((with_reducible refine' st_min3 ?_))
  | ((with_reducible refine' st_brk ?_))
  | ((with_reducible refine' st_cont ?_))
  | ((with_reducible refine' st_retN ?_))
  | ((with_reducible refine' st_new ?a0 ?_); (case a0 => exact Nat.le_of_ble_eq_true rfl); walk_at "nw")
  | ((with_reducible refine' st_modI ?a0 ?_); (case a0 => walk_at "sd"))
  | ((with_reducible refine' st_divI ?a0 ?_); (case a0 => constructor <;> walk_at "sd"))
  | ((with_reducible refine' st_mulI ?a0 ?_); (case a0 => walk_at "sd"))
  | ((with_reducible refine' st_powI ?a0 ?_); (case a0 => refine ⟨?_, ?_, ?_⟩ <;> decide))
  | ((with_reducible refine' st_addS ?a0 ?_); (case a0 => walk_at "sd"))
  | ((with_reducible refine' st_ixL ?a0 ?a1 ?_); (case a0 => walk_at "hp"); (case a1 => exact rfl))
  | ((with_reducible refine' st_ixT ?a0 ?a1 ?_); (case a0 => walk_at "hp"); (case a1 => exact rfl))
  | ((with_reducible refine' st_lenL ?a0 ?_); (case a0 => walk_at "hp"))
  | ((with_reducible refine' st_lenT ?a0 ?_); (case a0 => walk_at "hp"))
  | ((with_reducible refine' st_lenS ?a0 ?_); (case a0 => walk_at "sd"))
  | ((with_reducible refine' st_slS ?a0 ?_); (case a0 => walk_at "sd"))
  | ((with_reducible refine' st_slL (lst_of ?a0) ?_); (case a0 => walk_at "hp"); walk_at "nw")
  | ((with_reducible refine' st_addL ?a0 ?a1 ?a2 ?_); (case a0 => walk_at "hp"); (case a1 => walk_at "hp"); (case a2 => walk_at "sd"); walk_at "nw")
  | ((with_reducible refine' st_setL ?a0 ?a1 ?_); (case a0 => walk_at "hp"); (case a1 => exact rfl))
  | ((with_reducible refine' st_yes ?_))
  | ((with_reducible refine' st_isI ?a0 ?_); (case a0 => first | exact kit_ii | exact kit_ib | exact kit_il | exact kit_is | exact kit_it | decide +kernel))
  | ((with_reducible refine' st_isL ?a0 ?a1 ?_); (case a0 => walk_at "hp"); (case a1 => first | exact kit_ll | exact kit_lt | decide +kernel))
  | ((with_reducible refine' st_isT ?a0 ?a1 ?_); (case a0 => walk_at "hp"); (case a1 => first | exact kit_tt | exact kit_tl | decide +kernel))
  | ((with_reducible refine' st_isS' ?a0 ?_); (case a0 => first | exact kit_ss | decide +kernel))
  | ((with_reducible refine' st_isB ?a0 ?_); (case a0 => first | exact kit_bb | exact kit_bi | decide +kernel))
  | ((with_reducible refine' st_clear ?a0 ?_); (case a0 => walk_at "hp"))
  | ((with_reducible refine' st_gtup ?a0 ?a1 ?_); (case a0 => walk_at "hp"); (case a1 => exact rfl))
  | ((with_reducible refine' st_glst ?a0 ?a1 ?_); (case a0 => walk_at "hp"); (case a1 => exact rfl))
  | ((with_reducible refine' st_gcons ?_))
  | ((with_reducible refine' st_gnil ?_))
  | ((with_reducible refine' st_iEnS ?_))
  | ((with_reducible refine' st_isEnS ?_))
  | ((with_reducible refine' st_mulL ?a0 ?a1 ?a2 ?a3 ?_); (case a0 => walk_at "hp"); (case a1 => walk_at "sd"); (case a2 => walk_at "sd"); (case a3 => walk_at "sd"); walk_at "nw")
  | ((with_reducible refine' st_isBool ?_))
  | ((with_reducible refine' st_pair ?_))
  | ((with_reducible refine' st_pairs0 ?_))
  | ((with_reducible refine' st_disp ?_); walk_at "nw")
  | ((with_reducible refine' st_listS ?a0 ?_); (case a0 => walk_at "sd"); walk_at "nw")
  | ((with_reducible refine' st_tupS ?a0 ?_); (case a0 => walk_at "sd"); walk_at "nw")
  | ((with_reducible refine' st_listQ (seq_l ?a0) ?_); (case a0 => walk_at "hp"); walk_at "nw")
  | ((with_reducible refine' st_tupL (lst_of ?a0) ?_); (case a0 => walk_at "hp"); walk_at "nw")
  | ((with_reducible refine' st_for ?_))
  | ((with_reducible refine' st_lc ?_))
  | ((with_reducible refine' st_iStr ?_))
  | ((with_reducible refine' st_isStr ?_))
  | ((with_reducible refine' st_iList ?_))
  | ((with_reducible refine' st_isList (lst_of ?a0) ?_); (case a0 => walk_at "hp"))
  | ((with_reducible refine' st_iTup ?_))
  | ((with_reducible refine' st_isTup (tup_of ?a0) ?_); (case a0 => walk_at "hp"))
  | ((with_reducible refine' st_iR1 ?_))
  | ((with_reducible refine' st_iR2 ?_))
  | ((with_reducible refine' st_iEn ?_))
  | ((with_reducible refine' st_isEn (lst_of ?a0) ?_); (case a0 => walk_at "hp"))
  | ((with_reducible refine' st_iZp ?_))
  | ((with_reducible refine' st_isZp (lst_of ?a0) (lst_of ?a1) ?_); (case a0 => walk_at "hp"); (case a1 => walk_at "hp"))
  | ((with_reducible refine' st_inC ?_))
  | ((with_reducible refine' st_ninC ?_))
  | ((with_reducible refine' st_m1 ?_))
  | ((with_reducible refine' st_isS ?_))
  | ((with_reducible refine' st_bm ?_))
  | ((with_reducible refine' st_bm0 ?_))
  | ((with_reducible refine' st_tyL ?a0 ?_); (case a0 => walk_at "hp"))
  | ((with_reducible refine' st_isN ?_))
  | ((with_reducible refine' st_notN ?_))
  | ((with_reducible refine' st_intB ?_))
  | ((with_reducible refine' st_intI ?_))
  | ((with_reducible refine' st_iR3 ?_))
  | ((with_reducible refine' st_dget2 ?_))
  | ((with_reducible refine' st_dsetTU ?_))
  | ((with_reducible refine' st_isDT ?a0 ?_); (case a0 => walk_at "hp"))
  | ((with_reducible refine' st_dsetd ?_))
  | ((with_reducible refine' st_dnew ?_))
  | ((with_reducible refine' st_dnewP ?_); walk_at "nw")
  | ((with_reducible refine' st_isD ?a0 ?_); (case a0 => walk_at "hp"))
  | ((with_reducible refine' st_isB2 ?_))
  | ((with_reducible refine' st_notB2 ?_))
  | ((with_reducible refine' st_chain ?_))
  | ((with_reducible refine' st_tru ?_))
  | ((with_reducible refine' st_chN ?_))
  | ((with_reducible refine' st_aug ?_))
  | ((with_reducible refine' st_augP ?a0 ?a1 ?a2 ?a3 ?_); (case a0 => walk_at "hp"); (case a1 => walk_at "cl"); (case a2 => walk_at "na"); (case a3 => exact rfl))
  | ((with_reducible refine' st_inAdd ?_))
  | ((with_reducible refine' st_augE ?a0 ?a1 ?_); (case a0 => walk_at "hp"); (case a1 => exact Nat.le_of_ble_eq_true rfl))
  | ((with_reducible refine' st_lk ?_))
  | ((with_reducible refine' st_lk1 ?_))
  | ((with_reducible refine' st_truB ?_))
  | ((with_reducible refine' st_truI ?_))
  | ((with_reducible refine' st_while ?_))
  | ((with_reducible refine' st_st3 ?_))
  | ((with_reducible refine' st_revS ?a0 ?_); (case a0 => walk_at "sd"))
  | ((with_reducible refine' st_evS ?a0 ?_); (case a0 => walk_at "sd"))
  | ((with_reducible refine' st_odS ?a0 ?_); (case a0 => walk_at "sd"))
  | ((with_reducible refine' st_raise ?_))
  | ((with_reducible refine' st_mk1 ?a0 ?a1 ?_); (case a0 => walk_at "xo"); (case a1 => walk_at "nf"); walk_at "nw")
  | ((with_reducible refine' st_mk2 ?a0 ?a1 ?a2 ?_); (case a0 => walk_at "xo"); (case a1 => walk_at "nf"); (case a2 => walk_at "nf"); walk_at "nw")
  | ((with_reducible refine' st_try ?_))
  | ((with_reducible refine' st_callS ?_))
  | ((with_reducible refine' st_hYn ?a0 ?_); (case a0 => walk_at "ex"); intro ax hax)
  | ((with_reducible refine' st_hY0 ?a0 ?_); (case a0 => walk_at "ex"); intro ax hax)
  | ((with_reducible refine' st_hN ?a0 ?_); (case a0 => walk_at "ex"))
  | ((with_reducible refine' st_xe ?_))
  | ((with_reducible refine' st_xeP ?a0 ?a1 ?a2 ?a3 ?_); (case a0 => walk_at "xi"); (case a1 => walk_at "nf"); (case a2 => walk_at "hp"); (case a3 => exact rfl))
  | ((with_reducible refine' st_isX ?a0 ?a1 ?a2 ?_); (case a0 => walk_at "xi"); (case a1 => walk_at "hp"); (case a2 => walk_at "ki"))
  | ((with_reducible refine' st_isXT ?a0 ?a1 ?a2 ?_); (case a0 => walk_at "xi"); (case a1 => walk_at "hp"); (case a2 => walk_at "ki"))
  | ((with_reducible refine' st_isXs2 ?a0 ?a1 ?a2 ?a3 ?a4 ?_); (case a0 => walk_at "xi"); (case a1 => walk_at "hp"); (case a2 => walk_at "hp"); (case a3 => walk_at "ki"); (case a4 => walk_at "ki"))
  | ((with_reducible refine' st_isXsN ?a0 ?a1 ?a2 ?a3 ?_); (case a0 => walk_at "xi"); (case a1 => walk_at "hp"); (case a2 => walk_at "hp"); (case a3 => walk_at "kn"))
  | ((with_reducible refine' st_listRg ?_))
  | ((with_reducible refine' st_rgC ?_))
  | ((with_reducible refine' st_rg1 ?_))
  | ((with_reducible refine' st_rg2 ?_))
  | ((with_reducible refine' st_rg3 ?_))
  | ((with_reducible refine' st_rgUp ?a0 ?_); (case a0 => refine ⟨?_, ?_, ?_, ?_⟩ <;> walk_at "sd"); walk_at "nw")
  | ((with_reducible refine' st_rgDown ?a0 ?_); (case a0 => refine ⟨?_, ?_, ?_, ?_⟩ <;> walk_at "sd"); walk_at "nw")
  | ((with_reducible refine' st_divW ?a0 ?_); (case a0 => constructor <;> walk_at "sd"))
  | ((with_reducible refine' st_iSeq ?_))
  | ((with_reducible refine' st_iEnQ ?_))
  | ((with_reducible refine' st_gsl ?_))
  | ((with_reducible refine' st_augS ?a0 ?_); (case a0 => exact rfl))
  | ((with_reducible refine' st_ipS ?a0 ?_); (case a0 => walk_at "sd"))
  | ((with_reducible refine' st_rv ?_))
  | ((with_reducible refine' st_rvQ ?a0 ?_); (case a0 => first | walk_at "hp" | exact seq_l (by walk_at "hp") | exact seq_t (by walk_at "hp")); walk_at "nw")
  | ((with_reducible refine' st_xk ?_))
  | ((with_reducible refine' st_xkP ?a0 ?a1 ?a2 ?a3 ?a4 ?_); (case a0 => walk_at "hp"); (case a1 => walk_at "xi"); (case a2 => walk_at "nf"); (case a3 => walk_at "hp"); (case a4 => exact rfl))
  | ((with_reducible refine' st_isK ?a0 ?a1 ?a2 ?a3 ?_); (case a0 => walk_at "hp"); (case a1 => walk_at "xi"); (case a2 => walk_at "hp"); (case a3 => walk_at "ki"))
  | ((with_reducible refine' st_isKT ?a0 ?a1 ?a2 ?a3 ?_); (case a0 => walk_at "hp"); (case a1 => walk_at "xi"); (case a2 => walk_at "hp"); (case a3 => walk_at "ki"))
  | ((with_reducible refine' st_isKs ?a0 ?a1 ?a2 ?a3 ?a4 ?_); (case a0 => walk_at "hp"); (case a1 => walk_at "xi"); (case a2 => walk_at "hp"); (case a3 => walk_at "hp"); (case a4 => walk_at "kn"))
  | ((with_reducible refine' st_fld ?_))
  | ((with_reducible refine' st_fldP ?a0 ?a1 ?a2 ?a3 ?_); (case a0 => walk_at "hp"); (case a1 => walk_at "cl"); (case a2 => walk_at "na"); (case a3 => exact rfl))
  | ((with_reducible refine' st_fldS ?_))
  | ((with_reducible refine' st_fldSP ?a0 ?a1 ?a2 ?a3 ?_); (case a0 => walk_at "hp"); (case a1 => walk_at "cl"); (case a2 => walk_at "na"); (case a3 => exact Nat.le_of_ble_eq_true rfl))
  | ((with_reducible refine' st_meth ?_))
  | ((with_reducible refine' st_methP ?a0 ?a1 ?_); (case a0 => walk_at "hp"); (case a1 => exact rfl))
  | ((with_reducible refine' st_make ?_))
  | ((with_reducible refine' st_methS ?_))
  | ((with_reducible refine' st_methD ?_))
  | ((with_reducible refine' st_makeS ?_))
  | ((with_reducible refine' st_dnewT ?_); walk_at "nw")
  | ((with_reducible refine' st_dputU ?_))
  | ((with_reducible refine' st_dget ?_))
  | ((with_reducible refine' st_gget1 ?_))
  | ((with_reducible refine' st_gget2 ?_))
  | ((with_reducible refine' st_gitem ?_))
  | ((with_reducible refine' st_gdat ?a0 ?_); (case a0 => walk_at "gd"))
  | ((with_reducible refine' st_gkey ?_))
  | ((with_reducible refine' st_upper ?a0 ?_); (case a0 => walk_at "sd"))
  | ((with_reducible refine' st_dinU ?_))
  | ((with_reducible refine' st_dninU ?_))
  | ((with_reducible refine' st_T ?a0 ?_); (case a0 => exact rfl))
  | ((with_reducible refine' st_F ?a0 ?_); (case a0 => exact rfl)))
local macro_rules | `(tactic| walk_at "go") => `(tactic| repeat walk_at "s")
abbrev si_NoCounts : Stmt := inClass (top 4) 0
theorem sci_NoCounts : FnScope ["self", "found"] ["self", "found"] (defScope si_NoCounts) := ⟨rfl, rfl, rfl, by decide +kernel, rfl, by decide +kernel, by decide +kernel⟩
abbrev si_NoPlace : Stmt := inClass (top 2) 0
theorem sci_NoPlace : FnScope ["self", "found"] ["self", "found"] (defScope si_NoPlace) := ⟨rfl, rfl, rfl, by decide +kernel, rfl, by decide +kernel, by decide +kernel⟩
abbrev si_NoTurning : Stmt := inClass (top 3) 0
theorem sci_NoTurning : FnScope ["self", "found"] ["self", "found"] (defScope si_NoTurning) := ⟨rfl, rfl, rfl, by decide +kernel, rfl, by decide +kernel, by decide +kernel⟩
/-- what the top has written -/
structure Tx (K : PySem.W.Frag) (mg : Str → Option Value) (ad : Nat → Addr) (fd : Nat → FuncData) (tk : Nat → Tok) : Prop where
  d_is_whole : Df K mg "is_whole" s_is_whole ["thing"] (ad 0) (fd 0)
  d_is_within : Df K mg "is_within" s_is_within ["thing", "low", "high"] (ad 1) (fd 1)
  d_is_turning : Df K mg "is_turning" s_is_turning ["thing"] (ad 2) (fd 2)
  d_need_turning : Df K mg "need_turning" s_need_turning ["turning"] (ad 3) (fd 3)
  d_need_place : Df K mg "need_place" s_need_place ["place", "most"] (ad 4) (fd 4)
  d_counted : Df K mg "counted" s_counted ["turning", "begin", "end"] (ad 5) (fd 5)
  d_counts : Df K mg "counts" s_counts ["turning"] (ad 6) (fd 6)
  d_is_square : Df K mg "is_square" s_is_square ["table"] (ad 7) (fd 7)
  d_from_counts : Df K mg "from_counts" s_from_counts ["table"] (ad 8) (fd 8)
  d__law_cell : Df K mg "_law_cell" s__law_cell ["_law_script", "_law_k"] (ad 9) (fd 9)
  d__law_mix : Df K mg "_law_mix" s__law_mix ["_law_cell_here", "_law_k"] (ad 10) (fd 10)
  d__law_takes : Df K mg "_law_takes" s__law_takes ["_law_cell_here", "_law_bases"] (ad 11) (fd 11)
  d__law_many : Df K mg "_law_many" s__law_many ["_law_cell_here"] (ad 12) (fd 12)
  d__law_turning : Df K mg "_law_turning" s__law_turning ["_law_cell_here", "_law_many_here"] (ad 13) (fd 13)
  d__law_whole : Df K mg "_law_whole" s__law_whole ["_law_thing"] (ad 14) (fd 14)
  d__law_list : Df K mg "_law_list" s__law_list ["_law_found", "_law_due"] (ad 15) (fd 15)
  d__law_counts : Df K mg "_law_counts" s__law_counts ["_law_turning_here"] (ad 16) (fd 16)
  d__law_spoiled : Df K mg "_law_spoiled" s__law_spoiled ["_law_table", "_law_cell_here"] (ad 17) (fd 17)
  d__law_is_square : Df K mg "_law_is_square" s__law_is_square ["_law_table"] (ad 18) (fd 18)
  d__law_from : Df K mg "_law_from" s__law_from ["_law_table"] (ad 19) (fd 19)
  d__law_copy : Df K mg "_law_copy" s__law_copy ["_law_table"] (ad 20) (fd 20)
  d__law_read : Df K mg "_law_read" s__law_read ["_law_table"] (ad 21) (fd 21)
  d__law_refused : Df K mg "_law_refused" s__law_refused ["_law_turning_here", "_law_begin", "_law_end", "_law_due"] (ad 22) (fd 22)
  d__law_doors : Df K mg "_law_doors" s__law_doors ["_law_turning_here", "_law_cell_here"] (ad 23) (fd 23)
  d__law_right : Df K mg "_law_right" s__law_right ["_law_turning_here", "_law_cells"] (ad 24) (fd 24)
  d_law : Df K mg "law" s_law ["_law_script"] (ad 25) (fd 25)
  c_MOST_LINES : mg "MOST_LINES" = some (.int 96 (tk 0))
  b_isinstance : mg "isinstance" = none
  b_int : mg "int" = none
  b_bool : mg "bool" = none
  b_len : mg "len" = none
  b_list : mg "list" = none
  b_tuple : mg "tuple" = none
  b_enumerate : mg "enumerate" = none
  b_all : mg "all" = none
  b_zip : mg "zip" = none
  b_range : mg "range" = none
  b_sorted : mg "sorted" = none
  b_max : mg "max" = none
  b_min : mg "min" = none
  e_PaneError : EC K mg "PaneError"
  e_NoTurning : EC K mg "NoTurning"
  e_NoPlace : EC K mg "NoPlace"
  e_NoCounts : EC K mg "NoCounts"
  g_NoTurning : mg "NoTurning" = some (.ref (clsA K "NoTurning"))
  o_NoTurning : OexC K (clsA K "NoTurning")
  n_NoTurning_found : PySem.W.findIn K (.ref (clsA K "NoTurning")) "found" = some none
  i_NoTurning : IniF K "NoTurning" "NoTurning.__init__" si_NoTurning ["self", "found"]
  x_NoTurning : XI K (clsA K "NoTurning")
  s_NoTurning_PaneError : PySem.W.subIn K (.ref (clsA K "NoTurning")) (.ref (clsA K "PaneError")) = some true
  s_NoTurning_NoTurning : PySem.W.subIn K (.ref (clsA K "NoTurning")) (.ref (clsA K "NoTurning")) = some true
  s_NoTurning_NoPlace : PySem.W.subIn K (.ref (clsA K "NoTurning")) (.ref (clsA K "NoPlace")) = some false
  s_NoTurning_NoCounts : PySem.W.subIn K (.ref (clsA K "NoTurning")) (.ref (clsA K "NoCounts")) = some false
  g_NoPlace : mg "NoPlace" = some (.ref (clsA K "NoPlace"))
  o_NoPlace : OexC K (clsA K "NoPlace")
  n_NoPlace_found : PySem.W.findIn K (.ref (clsA K "NoPlace")) "found" = some none
  i_NoPlace : IniF K "NoPlace" "NoPlace.__init__" si_NoPlace ["self", "found"]
  x_NoPlace : XI K (clsA K "NoPlace")
  s_NoPlace_PaneError : PySem.W.subIn K (.ref (clsA K "NoPlace")) (.ref (clsA K "PaneError")) = some true
  s_NoPlace_NoTurning : PySem.W.subIn K (.ref (clsA K "NoPlace")) (.ref (clsA K "NoTurning")) = some false
  s_NoPlace_NoPlace : PySem.W.subIn K (.ref (clsA K "NoPlace")) (.ref (clsA K "NoPlace")) = some true
  s_NoPlace_NoCounts : PySem.W.subIn K (.ref (clsA K "NoPlace")) (.ref (clsA K "NoCounts")) = some false
  g_NoCounts : mg "NoCounts" = some (.ref (clsA K "NoCounts"))
  o_NoCounts : OexC K (clsA K "NoCounts")
  n_NoCounts_found : PySem.W.findIn K (.ref (clsA K "NoCounts")) "found" = some none
  i_NoCounts : IniF K "NoCounts" "NoCounts.__init__" si_NoCounts ["self", "found"]
  x_NoCounts : XI K (clsA K "NoCounts")
  s_NoCounts_PaneError : PySem.W.subIn K (.ref (clsA K "NoCounts")) (.ref (clsA K "PaneError")) = some true
  s_NoCounts_NoTurning : PySem.W.subIn K (.ref (clsA K "NoCounts")) (.ref (clsA K "NoTurning")) = some false
  s_NoCounts_NoPlace : PySem.W.subIn K (.ref (clsA K "NoCounts")) (.ref (clsA K "NoPlace")) = some false
  s_NoCounts_NoCounts : PySem.W.subIn K (.ref (clsA K "NoCounts")) (.ref (clsA K "NoCounts")) = some true
  bi_PaneError : BI K mg "PaneError"
local macro_rules | `(tactic| walk_at "ex") => `(tactic| first
  | exact EC.xm (Tx.e_PaneError (by assumption)) (Tx.s_NoTurning_PaneError (by assumption))
  | exact EC.xm (Tx.e_NoTurning (by assumption)) (Tx.s_NoTurning_NoTurning (by assumption))
  | exact EC.xm (Tx.e_NoPlace (by assumption)) (Tx.s_NoTurning_NoPlace (by assumption))
  | exact EC.xm (Tx.e_PaneError (by assumption)) (Tx.s_NoPlace_PaneError (by assumption))
  | exact EC.xm (Tx.e_NoTurning (by assumption)) (Tx.s_NoPlace_NoTurning (by assumption))
  | exact EC.xm (Tx.e_NoPlace (by assumption)) (Tx.s_NoPlace_NoPlace (by assumption))
  | exact EC.xm (Tx.e_PaneError (by assumption)) (Tx.s_NoCounts_PaneError (by assumption))
  | exact EC.xm (Tx.e_NoTurning (by assumption)) (Tx.s_NoCounts_NoTurning (by assumption))
  | exact EC.xm (Tx.e_NoPlace (by assumption)) (Tx.s_NoCounts_NoPlace (by assumption)))
local macro_rules | `(tactic| walk_at "ki") => `(tactic| first
  | exact EC.kit (Tx.e_NoCounts (by assumption)) (Tx.s_NoTurning_NoCounts (by assumption)) (Tx.s_NoCounts_NoCounts (by assumption))
  | exact EC.kit (Tx.e_NoTurning (by assumption)) (Tx.s_NoTurning_NoTurning (by assumption)) (Tx.s_NoTurning_NoTurning (by assumption))
  | exact EC.kit (Tx.e_NoPlace (by assumption)) (Tx.s_NoTurning_NoPlace (by assumption)) (Tx.s_NoPlace_NoPlace (by assumption))
  | exact EC.kit (Tx.e_NoCounts (by assumption)) (Tx.s_NoPlace_NoCounts (by assumption)) (Tx.s_NoCounts_NoCounts (by assumption))
  | exact EC.kit (Tx.e_NoTurning (by assumption)) (Tx.s_NoPlace_NoTurning (by assumption)) (Tx.s_NoTurning_NoTurning (by assumption))
  | exact EC.kit (Tx.e_NoPlace (by assumption)) (Tx.s_NoPlace_NoPlace (by assumption)) (Tx.s_NoPlace_NoPlace (by assumption))
  | exact EC.kit (Tx.e_NoCounts (by assumption)) (Tx.s_NoCounts_NoCounts (by assumption)) (Tx.s_NoCounts_NoCounts (by assumption))
  | exact EC.kit (Tx.e_NoTurning (by assumption)) (Tx.s_NoCounts_NoTurning (by assumption)) (Tx.s_NoTurning_NoTurning (by assumption))
  | exact EC.kit (Tx.e_NoPlace (by assumption)) (Tx.s_NoCounts_NoPlace (by assumption)) (Tx.s_NoPlace_NoPlace (by assumption)))
local macro_rules | `(tactic| walk_at "xi") => `(tactic| first
  | exact Tx.x_NoTurning (by assumption)
  | exact Tx.x_NoPlace (by assumption)
  | exact Tx.x_NoCounts (by assumption))
local macro_rules | `(tactic| walk_at "xo") => `(tactic| first
  | exact Tx.o_NoTurning (by assumption)
  | exact Tx.o_NoPlace (by assumption)
  | exact Tx.o_NoCounts (by assumption))
local macro_rules | `(tactic| walk_at "nf") => `(tactic| first
  | exact Tx.n_NoTurning_found (by assumption)
  | exact Tx.n_NoPlace_found (by assumption)
  | exact Tx.n_NoCounts_found (by assumption))
local macro_rules | `(tactic| walk_at "cl") => `(tactic| first
  | assumption)
local macro_rules | `(tactic| walk_at "na") => `(tactic| first
  | assumption)
section
variable {P : Program} {w : World} {K : PySem.W.Frag} {mg : Str → Option Value} {base : Heap} {ad : Nat → Addr} {fd : Nat → FuncData} {tk : Nat → Tok}
theorem ex_NoTurning (T : Tx K mg ad fd tk) : EX P w K mg base "NoTurning" ["self", "found"] (spI1 K "found") := by
  obtain ⟨f, fd, i1, i2, F, b⟩ := T.i_NoTurning.ex
  refine ⟨T.g_NoTurning, T.o_NoTurning, f, fd, i1, i2, F.ok sci_NoTurning (fun vs H Q E h => ?_) (fun cdv A outer s H vs Q E hr h => ?_), b⟩
  · obtain ⟨a, C, y0, rfl, _⟩ := h
    rfl
  · obtain ⟨a, C, y0, rfl, hO, hn0, ha, k⟩ := h
    refine ⟨_, (pss_cons (ps_expr (pe_oinit T.bi_PaneError rfl (pa_cons (pv 0) (pa_cons pe_str pa_nil))))
      (pss_one (ps_ost (pv 0) (pv 1)))), ?_⟩
    exact ini1_go hO hn0 ha k
theorem ex_NoPlace (T : Tx K mg ad fd tk) : EX P w K mg base "NoPlace" ["self", "found"] (spI1 K "found") := by
  obtain ⟨f, fd, i1, i2, F, b⟩ := T.i_NoPlace.ex
  refine ⟨T.g_NoPlace, T.o_NoPlace, f, fd, i1, i2, F.ok sci_NoPlace (fun vs H Q E h => ?_) (fun cdv A outer s H vs Q E hr h => ?_), b⟩
  · obtain ⟨a, C, y0, rfl, _⟩ := h
    rfl
  · obtain ⟨a, C, y0, rfl, hO, hn0, ha, k⟩ := h
    refine ⟨_, (pss_cons (ps_expr (pe_oinit T.bi_PaneError rfl (pa_cons (pv 0) (pa_cons pe_str pa_nil))))
      (pss_one (ps_ost (pv 0) (pv 1)))), ?_⟩
    exact ini1_go hO hn0 ha k
theorem ex_NoCounts (T : Tx K mg ad fd tk) : EX P w K mg base "NoCounts" ["self", "found"] (spI1 K "found") := by
  obtain ⟨f, fd, i1, i2, F, b⟩ := T.i_NoCounts.ex
  refine ⟨T.g_NoCounts, T.o_NoCounts, f, fd, i1, i2, F.ok sci_NoCounts (fun vs H Q E h => ?_) (fun cdv A outer s H vs Q E hr h => ?_), b⟩
  · obtain ⟨a, C, y0, rfl, _⟩ := h
    rfl
  · obtain ⟨a, C, y0, rfl, hO, hn0, ha, k⟩ := h
    refine ⟨_, (pss_cons (ps_expr (pe_oinit T.bi_PaneError rfl (pa_cons (pv 0) (pa_cons pe_str pa_nil))))
      (pss_one (ps_ost (pv 0) (pv 1)))), ?_⟩
    exact ini1_go hO hn0 ha k
def isWholeV : V → Bool
  | .int _ => true
  | _ => false
def sp_is_whole : Sp := fun vs H Q _ => ∃ x, vs = [x] ∧ Ty H x ∧ Q (.bl (isWholeV x)) H
theorem ok_is_whole (T : Tx K mg ad fd tk) : FnOk P w K mg base CX0 1 (ad 0) (fd 0) ["thing"] sp_is_whole := by
  refine T.d_is_whole.F.ok sc_is_whole (fun vs H Q E h => ?_) (fun cdv A outer s H vs Q E hr h => ?_)
  · obtain ⟨x, rfl, _⟩ := h
    rfl
  · obtain ⟨x, rfl, ht, k⟩ := h
    refine ⟨_, (pss_one (ps_ret (pe_and (pe_callB c_is (by rfl) T.b_isinstance (by decide +kernel) (pa_cons (pv 0) (pa_cons (pe_bltn (v := .ty "int") rfl T.b_int (by decide +kernel) rfl) pa_nil))) (pe_one (pe_not (pe_callB c_is (by rfl) T.b_isinstance (by decide +kernel) (pa_cons (pv 0) (pa_cons (pe_bltn (v := .ty "bool") rfl T.b_bool (by decide +kernel) rfl) pa_nil)))))))), ?_⟩
    walk_at "go"
    refine st_isIntT ht ?_
    walk_at "go"
    cases x with
    | int i =>
      refine st_T rfl ?_
      walk_at "go"
      exact k
    | bl b =>
      refine st_T rfl ?_
      walk_at "go"
      exact k
    | _ =>
      refine st_F rfl ?_
      walk_at "go"
      exact k
def withinV (x : V) (lo hi : Int) : Bool := match x with
  | .int i => decide (lo ≤ i ∧ i ≤ hi)
  | _ => false
def sp_is_within : Sp := fun vs H Q _ => ∃ (x : V) (lo hi : Int), vs = [x, .int lo, .int hi] ∧ Ty H x ∧ Q (.bl (withinV x lo hi)) H
theorem ok_is_within (T : Tx K mg ad fd tk) : FnOk P w K mg base CX0 2 (ad 1) (fd 1) ["thing", "low", "high"] sp_is_within := by
  refine T.d_is_within.F.ok sc_is_within (fun vs H Q E h => ?_) (fun cdv A outer s H vs Q E hr h => ?_)
  · obtain ⟨x, lo, hi, rfl, _⟩ := h
    rfl
  · obtain ⟨x, lo, hi, rfl, ht, k⟩ := h
    refine ⟨_, (pss_one (ps_ret (pe_and (pe_call (ok_is_whole T) (hr.mono (by decide)) rfl T.d_is_whole.g T.d_is_whole.F.kp T.d_is_whole.b .nil pass0 (pa_cons (pv 0) pa_nil)) (pe_one (pe_chain o_le o_le (pv 1) (pv 0) (pv 2)))))), ?_⟩
    walk_at "go"
    refine ⟨x, rfl, ht, ?_⟩
    cases x with
    | int i =>
      walk_at "go"
      refine st_br2 (fun c => ?_) (fun c => ?_)
      · walk_at "go"
        have e : withinV (.int i) lo hi = decide (i ≤ hi) := by
          unfold withinV
          simp [c]
        rw [e] at k
        exact k
      · have e : withinV (.int i) lo hi = false := by
          unfold withinV
          simp [c]
        rw [e] at k
        exact k
    | _ =>
      walk_at "go"
      exact k
/-- an item, nought behind the end -/
def gT (e : List Nat) (i : Nat) : Nat := e.getD i 0
theorem gT_at {e : List Nat} {i : Nat} (h : i < e.length) : gT e i = e[i] := by
  unfold gT
  rw [List.getD_eq_getElem?_getD, List.getElem?_eq_getElem h]
  rfl
theorem gT_some {e : List Nat} {i : Nat} (h : i < e.length) : e[i]? = some (gT e i) := by rw [gT_at h]; exact List.getElem?_eq_getElem h
theorem gT_of {e : List Nat} {i v : Nat} (h : e[i]? = some v) : gT e i = v := by unfold gT; rw [List.getD_eq_getElem?_getD, h]; rfl
theorem gT_ext {a b : List Nat} (hl : a.length = b.length) (h : ∀ i, i < a.length → gT a i = gT b i) : a = b := by
  refine List.ext_getElem hl fun i h1 h2 => ?_
  have := h i h1
  rwa [gT_at h1, gT_at h2] at this
theorem gT_map {f : Nat → Nat} {n i : Nat} (h : i < n) : gT ((List.range n).map f) i = f i := by
  refine gT_of ?_
  rw [List.getElem?_map, List.getElem?_range h]
  rfl
/-- a turning -/
structure IsT (l : List Nat) : Prop where
  nd : l.Nodup
  lt : ∀ x ∈ l, x < l.length
theorem IsT.g_lt {l : List Nat} (h : IsT l) {i : Nat} (hi : i < l.length) : gT l i < l.length := h.lt _ (by rw [gT_at hi]; exact List.getElem_mem hi)
theorem IsT.mem {l : List Nat} (h : IsT l) {v : Nat} (hv : v < l.length) : v ∈ l := by
  refine Decidable.byContradiction fun hn => ?_
  have h1 : l ⊆ (List.range l.length).erase v := fun x hx => by
    refine (List.mem_erase_of_ne (fun e => hn (by rw [← e]; exact hx))).mpr ?_
    exact List.mem_range.mpr (h.lt x hx)
  have h2 := h.nd.length_le_of_subset h1
  rw [List.length_erase_of_mem (List.mem_range.mpr hv), List.length_range] at h2
  omega
theorem IsT.perm {l : List Nat} (h : IsT l) : l.Perm (List.range l.length) := by
  rw [List.perm_iff_count]
  intro a
  have one : ∀ {m : List Nat}, m.Nodup → a ∈ m → m.count a = 1 := fun {m} h1 h2 => by
    have h3 := List.nodup_iff_count.mp h1 a
    have h4 := List.count_pos_iff.mpr h2
    omega
  by_cases ha : a < l.length
  · rw [one h.nd (h.mem ha), one List.nodup_range (List.mem_range.mpr ha)]
  · rw [List.count_eq_zero_of_not_mem fun q => ha (h.lt a q), List.count_eq_zero_of_not_mem fun q => ha (List.mem_range.mp q)]
theorem isT_range (n : Nat) : IsT (List.range n) := ⟨List.nodup_range, fun x hx => by rw [List.length_range]; exact List.mem_range.mp hx⟩
theorem IsT.of_perm {l m : List Nat} (h : IsT m) (p : l.Perm m) : IsT l := ⟨p.nodup_iff.mpr h.nd, fun x hx => by rw [p.length_eq]; exact h.lt x (p.mem_iff.mp hx)⟩
theorem IsT.of_perm_range {l : List Nat} {n : Nat} (p : l.Perm (List.range n)) : IsT l := (isT_range n).of_perm p
theorem IsT.idx_g {l : List Nat} (h : IsT l) {i : Nat} (hi : i < l.length) : l.idxOf (gT l i) = i := by
  rw [gT_at hi]
  exact h.nd.idxOf_getElem i hi
theorem IsT.inj {l : List Nat} (h : IsT l) {i j : Nat} (hi : i < l.length) (hj : j < l.length) (e : gT l i = gT l j) : i = j := by
  rw [← h.idx_g hi, ← h.idx_g hj, e]
/-- two neighbours exchanged -/
def swapAt (e : List Nat) (s : Nat) : List Nat := e.take s ++ [gT e (s + 1), gT e s] ++ e.drop (s + 2)
theorem swapAt_len {e : List Nat} {s : Nat} (h : s + 1 < e.length) : (swapAt e s).length = e.length := by
  unfold swapAt
  rw [List.length_append, List.length_append, List.length_take, List.length_drop]
  simp only [List.length_cons, List.length_nil]
  omega
/-- words of swaps -/
def OkW (n : Nat) (w : List Nat) : Prop := ∀ s ∈ w, s + 1 < n
theorem OkW.cons {n s : Nat} {w : List Nat} (h : OkW n (s :: w)) : s + 1 < n ∧ OkW n w := ⟨h s List.mem_cons_self, fun t ht => h t (List.mem_cons_of_mem _ ht)⟩
def swapsT (e : List Nat) (w : List Nat) : List Nat := w.foldl swapAt e
def Down : List Nat → List Nat → Prop
  | _, [] => True
  | e, s :: w => s + 1 < e.length ∧ gT e (s + 1) < gT e s ∧ Down (swapAt e s) w
def Up : List Nat → List Nat → Prop
  | _, [] => True
  | e, s :: w => s + 1 < e.length ∧ gT e s < gT e (s + 1) ∧ Up (swapAt e s) w
theorem Down.ok : ∀ {w e : List Nat}, Down e w → OkW e.length w
  | [], _, _, s, hs => by cases hs
  | t :: w, e, ⟨h1, _, h3⟩, s, hs => by
    rcases List.mem_cons.mp hs with q | q
    · rw [q]; exact h1
    · have := h3.ok s q
      rwa [swapAt_len h1] at this
theorem Up.ok : ∀ {w e : List Nat}, Up e w → OkW e.length w
  | [], _, _, s, hs => by cases hs
  | t :: w, e, ⟨h1, _, h3⟩, s, hs => by
    rcases List.mem_cons.mp hs with q | q
    · rw [q]; exact h1
    · have := h3.ok s q
      rwa [swapAt_len h1] at this
theorem Down.app : ∀ {v w e : List Nat}, Down e v → Down (swapsT e v) w → Down e (v ++ w)
  | [], _, _, _, h => h
  | s :: v, w, e, ⟨h1, h2, h3⟩, h => ⟨h1, h2, h3.app h⟩
theorem Up.app : ∀ {v w e : List Nat}, Up e v → Up (swapsT e v) w → Up e (v ++ w)
  | [], _, _, _, h => h
  | s :: v, w, e, ⟨h1, h2, h3⟩, h => ⟨h1, h2, h3.app h⟩
/-- how these stand -/
def nV (x : Nat) : V := .int (x : Nat)
def encN (x : Nat) : PyData := .int (x : Nat)
def TurnD (d : PyData) : Prop := ∃ l : List Nat, (d = .list (l.map encN) ∨ d = .tuple (l.map encN)) ∧ IsT l ∧ l.length ≤ 96
theorem encN_inj {a b : List Nat} (h : a.map encN = b.map encN) : a = b := by
  induction a generalizing b with
  | nil => cases b with
    | nil => rfl
    | cons y b => cases h
  | cons x a ih => cases b with
    | nil => cases h
    | cons y b =>
      rw [List.map_cons, List.map_cons] at h
      injection h with h1 h2
      injection h1 with h1
      rw [ih h2, Int.ofNat_inj.mp h1]
theorem wiN {H : Hp} {x : V} {d : PyData} (h : Rn H x d) (hi : Int) : withinV x 0 hi = true ↔ ∃ v : Nat, d = encN v ∧ (v : Int) ≤ hi := by
  cases h with
  | int i =>
    simp only [withinV, decide_eq_true_eq]
    constructor
    · intro ⟨h1, h2⟩
      exact ⟨i.toNat, by unfold encN; rw [show ((i.toNat : Nat) : Int) = i by omega], by omega⟩
    · rintro ⟨v, e, h⟩
      unfold encN at e
      injection e with e
      omega
  | _ => exact ⟨fun h => (by cases h), fun ⟨v, e, _⟩ => (by cases e)⟩
def sp_is_turning : Sp := fun vs H Q _ => ∃ (x : V) (d : PyData), vs = [x] ∧ Rn H x d ∧ ∀ b H', Ex H H' → (b = true ↔ TurnD d) → Q (.bl b) H'
theorem ok_is_turning (T : Tx K mg ad fd tk) : FnOk P w K mg base CX0 3 (ad 2) (fd 2) ["thing"] sp_is_turning := by
  refine T.d_is_turning.F.ok sc_is_turning (fun vs H Q E h => ?_) (fun cdv A outer s H vs Q E hr h => ?_)
  · obtain ⟨x, d, rfl, _⟩ := h
    rfl
  · obtain ⟨x, d, rfl, hx, k⟩ := h
    refine ⟨_, (pss_cons (ps_if (PW.pt (pw_or (pt_not (pt_val (pe_callB c_isT2 (by rfl) T.b_isinstance (by decide +kernel) (pa_cons (pv 0) (pa_cons (pe_tup (pa_cons (pe_bltn (v := .ty "list") rfl T.b_list (by decide +kernel) rfl) (pa_cons (pe_bltn (v := .ty "tuple") rfl T.b_tuple (by decide +kernel) rfl) pa_nil))) pa_nil))))) (pw_or1 (pt_cmpR o_gt (pe_callB (c_len (K := K)) (by rfl) T.b_len (by decide +kernel) (pa_cons (pv 0) pa_nil)) (pe_glob (v := .int 96) rfl T.c_MOST_LINES ⟨_, rfl⟩) (nomark _))))) (pss_one (ps_ret pe_bl)) pss_nil)
      (pss_cons (ps_set (i := 1) sc_is_turning.nd rfl (Or.inl rfl) (pe_op o_mul (pe_lst (pa_cons pe_bl pa_nil)) (pe_callB (c_len (K := K)) (by rfl) T.b_len (by decide +kernel) (pa_cons (pv 0) pa_nil))))
      (pss_cons (ps_for PassesOwn.never rfl (pi_seq (pv 0)) (pg_name (i := 2) sc_is_turning.nd rfl (Or.inl rfl)) (pss_cons (ps_if (PW.pt (pw_or (pt_not (pt_val (pe_call (ok_is_within T) (hr.mono (by decide)) rfl T.d_is_within.g T.d_is_within.F.kp T.d_is_within.b .nil pass0 (pa_cons (pv 2) (pa_cons pe_int (pa_cons (pe_op o_sub (pe_callB (c_len (K := K)) (by rfl) T.b_len (by decide +kernel) (pa_cons (pv 0) pa_nil)) pe_int) pa_nil)))))) (pw_or1 (pt_tru (pe_ix (i_ix (K := K)) (pv 1) (pv 2) (fun _ _ => rfl)) (by intro _; rfl) (K := K))))) (pss_one (ps_ret pe_bl)) pss_nil)
      (pss_one (ps_asg pe_bl (pg_sub (pv 1) (pv 2) set_list)))))
      (pss_one (ps_ret pe_bl))))), ?_⟩
    have no : ∀ H', Ex H H' → (¬ TurnD d) → Q (.bl false) H' := fun H' e n => k false H' e ⟨(fun z => nomatch z), (fun z => (n z).elim)⟩
    walk_at "go"
    rename_i t1 H1 n1 e1 v1
    refine st_isLT (hx.ex e1).rq (by walk_at "hp") ?_
    refine ⟨_, rfl, ?_⟩
    cases hd : (isListD d || isTupD d) with
    | false =>
      refine st_T rfl ?_
      walk_at "go"
      refine no _ e1 (fun h => ?_)
      obtain ⟨l, h, _⟩ := h
      rcases h with h | h
      · rw [h] at hd; cases hd
      · rw [h] at hd; cases hd
    | true =>
    obtain ⟨a, xs, ds, hv, hs, hr, hd2⟩ := (hx.ex e1).seq hd
    subst hv
    have hl := hr.len
    have td : TurnD d ↔ ∃ l : List Nat, ds = l.map encN ∧ IsT l ∧ l.length ≤ 96 := by
      constructor
      · rintro ⟨l, h, h1, h2⟩
        refine ⟨l, ?_, h1, h2⟩
        rcases hd2 with e | e <;> rcases h with q | q <;> rw [e] at q <;> first | (injection q) | cases q
      · rintro ⟨l, h, h1, h2⟩
        refine ⟨l, ?_, h1, h2⟩
        rw [← h]
        exact hd2
    refine st_F rfl ?_
    walk_at "go"
    refine st_lenQ hs ?_
    walk_at "go"
    refine st_br2 (fun c => ?_) (fun c => ?_)
    · walk_at "go"
      refine no _ e1 (fun h => ?_)
      obtain ⟨l, h, _, h2⟩ := td.mp h
      rw [hl, h, List.length_map] at c
      omega
    walk_at "go"
    rename_i t2 H2 n2 e2 v2
    refine st_lenQ (seqAt_ex e2 hs) ?_
    walk_at "go"
    rename_i q H3 n3 e3 v3
    have ea3 := seqAt_ex (e2.trans e3) hs
    obtain ⟨n, hn⟩ : ∃ n, n = xs.length := ⟨_, rfl⟩
    rw [← hn] at c
    have hqa : q ≠ a := fun e => by
      have := seqAt_ex e2 hs
      unfold seqAt at this
      rw [← e, n3] at this
      cases this
    refine st_isSeq ea3 fun J S hJ hS => ?_
    obtain ⟨zs, rfl, rfl, hz⟩ := hr.zipped
    rw [List.length_map] at hn
    have hv3 : H3 q = some (.lst (((List.range n).map fun v => decide (v ∈ ([] : List Nat))).map V.bl)) := by
      rw [v3]
      congr 2
      rw [List.map_map, List.length_map, ← hn, Int.toNat_natCast]
      refine List.ext_getElem? fun i => ?_
      rw [List.getElem?_map]
      by_cases hi : i < n
      · rw [List.getElem?_range hi, List.getElem?_eq_getElem (by simp; exact hi)]
        simp
      · rw [List.getElem?_eq_none (by simp; omega), List.getElem?_eq_none (by simp; omega)]
        rfl
    have hJ2 := hJ
    rw [List.length_map, ← hn] at hJ2
    refine for_runs hJ2 (fun i σ H' => FrP q H3 H' ∧ (∃ l : List Nat, (zs.map (·.2)).take i = l.map encN ∧ l.Nodup ∧ (∀ v ∈ l, v < n) ∧ H' q = some (.lst (((List.range n).map fun v => decide (v ∈ l)).map V.bl))) ∧ ∃ y, σ = [some (.ref a), some (.ref q), y]) ⟨Fr.refl _, ⟨[], rfl, List.nodup_nil, by simp, hv3⟩, _, rfl⟩ (fun i σ H' _ h => hS H' (seqAt_same' h.1 (fun z => hqa z.symm) ea3)) ?_ ?_
    · rintro i x σ H0 H4 hi ⟨f4, ⟨l, h1, h2, h3, h4⟩, y, rfl⟩ ⟨rfl, hxi⟩
      obtain ⟨z, hzi⟩ : ∃ z, zs[i]? = some z := ⟨zs[i]'(by omega), List.getElem?_eq_getElem _⟩
      rw [List.getElem?_map, hzi] at hxi
      have hxz : x = z.1 := (Option.some.inj hxi).symm
      subst hxz
      have ex4 : Ex H H4 := e1.trans (e2.trans (Ex.comp (M := fun b => b = q) e3 f4 fun b hb => by rw [hb]; exact n3))
      have rz := ((hz z (List.mem_of_getElem? hzi)).ex e2).ex (Ex.comp (M := fun b => b = q) e3 f4 fun b hb => by rw [hb]; exact n3)
      have sa4 := seqAt_eq ea3 (seqAt_same' f4 (fun z => hqa z.symm) ea3)
      have dz : (zs.map (·.2))[i]? = some z.2 := by rw [List.getElem?_map, hzi]; rfl
      walk_at "go"
      refine st_lenQ sa4 ?_
      walk_at "go"
      rw [List.length_map, ← hn]
      refine ⟨z.1, 0, _, rfl, rz.rq.ty, ?_⟩
      cases hb : withinV z.1 0 ((n : Nat) - 1) with
      | false =>
        walk_at "go"
        refine no _ ex4 fun h => ?_
        obtain ⟨m, e, hm, _⟩ := td.mp h
        have hml : m.length = n := by
          have := congrArg List.length e
          rw [List.length_map, List.length_map] at this
          omega
        rw [e, List.getElem?_map] at dz
        cases q : m[i]? with
        | none => rw [q] at dz; cases dz
        | some v =>
          rw [q] at dz
          have hv := hm.lt v (List.mem_of_getElem? q)
          have := (wiN rz ((n : Nat) - 1)).mpr ⟨v, (Option.some.inj dz).symm, by omega⟩
          rw [hb] at this
          cases this
      | true =>
      obtain ⟨v, hv, hvn⟩ := (wiN rz _).mp hb
      have zv : z.1 = .int (v : Nat) := by
        rw [hv] at rz
        unfold encN at rz
        cases hz1 : z.1 <;> rw [hz1] at rz <;> cases rz
        rfl
      walk_at "go"
      rw [zv]
      refine st_ixL h4 (at_mapN (by rw [List.getElem?_map, List.getElem?_range (by omega)]; rfl)) ?_
      walk_at "go"
      by_cases hm : v ∈ l
      · refine st_T (decide_eq_true hm) ?_
        walk_at "go"
        refine no _ ex4 fun h => ?_
        obtain ⟨m, e, hmT, _⟩ := td.mp h
        rw [e, List.getElem?_map] at dz
        have h5 : m.take i = l := encN_inj (by rw [List.map_take, ← e, h1])
        cases q : m[i]? with
        | none => rw [q] at dz; cases dz
        | some u =>
          rw [q, hv] at dz
          have huv : u = v := by
            have := Option.some.inj dz
            unfold encN at this
            injection this with this
            omega
          subst huv
          have hmi := (List.getElem?_eq_some_iff.mp q)
          obtain ⟨hlt, hget⟩ := hmi
          rw [← h5] at hm
          obtain ⟨j, hj, hj2⟩ := List.getElem_of_mem hm
          rw [List.length_take] at hj
          rw [List.getElem_take] at hj2
          have h6 := hmT.nd
          rw [List.nodup_iff_pairwise_ne, List.pairwise_iff_getElem] at h6
          exact h6 j i (by omega) hlt (by omega) (by rw [hj2, hget])
      · refine st_F (decide_eq_false hm) ?_
        walk_at "go"
        refine st_setL h4 (by rw [List.length_map, List.length_map, List.length_range]; exact Evl.ixN_nat (by omega)) ?_
        refine ⟨f4.trans FrP.at, ⟨l ++ [v], ?_, ?_, ?_, ?_⟩, _, rfl⟩
        · rw [List.take_add_one, h1, dz, hv, List.map_append]
          rfl
        · rw [List.nodup_append]
          exact ⟨h2, by simp, fun b hb c hc => by rw [List.mem_singleton.mp hc]; exact fun z => hm (z ▸ hb)⟩
        · intro u hu
          rcases List.mem_append.mp hu with h | h
          · exact h3 u h
          · rw [List.mem_singleton.mp h]; omega
        · rw [upd_same]
          congr 2
          refine List.ext_getElem? fun j => ?_
          rw [List.getElem?_set, List.getElem?_map, List.getElem?_map, List.getElem?_map, List.getElem?_map]
          by_cases hj : j < n
          · rw [List.getElem?_range hj]
            by_cases q : v = j
            · subst q
              rw [if_pos rfl, if_pos (by simp; omega)]
              simp
            · rw [if_neg q]
              simp
              exact fun e => absurd e.symm q
          · rw [List.getElem?_eq_none (by simp; omega), if_neg (by omega)]
            rfl
    · rintro σ H4 ⟨f4, ⟨l, h1, h2, h3, h4⟩, y, rfl⟩
      have ex4 : Ex H H4 := e1.trans (e2.trans (Ex.comp (M := fun b => b = q) e3 f4 fun b hb => by rw [hb]; exact n3))
      walk_at "go"
      refine k true _ ex4 ⟨fun _ => td.mpr ⟨l, ?_, ⟨h2, ?_⟩, ?_⟩, fun _ => rfl⟩
      · rw [← h1, List.take_of_length_le (by rw [List.length_map]; omega)]
      all_goals
        have hll : l.length = n := by
          have := congrArg List.length h1
          rw [List.take_of_length_le (by rw [List.length_map]; omega), List.length_map, List.length_map] at this
          omega
      · rw [hll]; exact h3
      · rw [hll]; omega
def sp_need_turning (K : PySem.W.Frag) : Sp := fun vs H Q E => ∃ (x : V) (d : PyData), vs = [x] ∧ Rn H x d ∧ (¬ TurnD d → RaF K E H "NoTurning" [("found", x)]) ∧ (TurnD d → ∀ H', Ex H H' → Q .non H')
theorem ok_need_turning (T : Tx K mg ad fd tk) : FnOk P w K mg base (L2.CX P w) 4 (ad 3) (fd 3) ["turning"] (sp_need_turning K) := by
  refine T.d_need_turning.F.okX sc_need_turning (fun vs H Q E h => ?_) (fun cdv A outer s H vs Q E hr h => ?_)
  · obtain ⟨x, d, rfl, _⟩ := h
    rfl
  · obtain ⟨x, d, rfl, hx, k0, k1⟩ := h
    refine ⟨_, (pss_one (ps_if (pt_not (pt_val (pe_call (ok_is_turning T) (hr.mono (by decide)) rfl T.d_is_turning.g T.d_is_turning.F.kp T.d_is_turning.b .nil pass0 (pa_cons (pv 0) pa_nil)))) (pss_one (ps_raiseG rfl (ex_NoTurning T) (hr.mono (by decide)) (takes_of rfl rfl rfl rfl) rfl (pa_cons (pv 0) pa_nil))) pss_nil)), ?_⟩
    walk_at "go"
    refine ⟨x, d, rfl, hx, fun b H1 e1 hb => ?_⟩
    cases b with
    | true =>
      walk_at "go"
      exact k1 (hb.mp rfl) _ e1
    | false =>
      have k2 := k0 (fun h => Bool.false_ne_true (hb.mpr h))
      walk_at "go"
      rename_i d2 H2 hd2 e2 hv2
      exact k2 d2 H2 (Ex.free e1 hd2) (e1.trans e2) hv2
theorem within_nat {x : V} {m : Nat} (h : withinV x 0 m = true) : ∃ i : Nat, x = .int (i : Nat) ∧ i ≤ m := by
  cases x with
  | int z =>
    have : 0 ≤ z ∧ z ≤ (m : Int) := by simpa [withinV] using h
    exact ⟨z.toNat, by rw [show ((z.toNat : Nat) : Int) = z by omega], by omega⟩
  | _ => cases h
def sp_need_place (K : PySem.W.Frag) : Sp := fun vs H Q E => ∃ (x : V) (m : Int), vs = [x, .int m] ∧ Ty H x ∧ (withinV x 0 m = false → RaF K E H "NoPlace" [("found", x)]) ∧ (withinV x 0 m = true → Q .non H)
theorem ok_need_place (T : Tx K mg ad fd tk) : FnOk P w K mg base (L2.CX P w) 3 (ad 4) (fd 4) ["place", "most"] (sp_need_place K) := by
  refine T.d_need_place.F.okX sc_need_place (fun vs H Q E h => ?_) (fun cdv A outer s H vs Q E hr h => ?_)
  · obtain ⟨x, m, rfl, _⟩ := h
    rfl
  · obtain ⟨x, m, rfl, hx, k0, k1⟩ := h
    refine ⟨_, (pss_one (ps_if (pt_not (pt_val (pe_call (ok_is_within T) (hr.mono (by decide)) rfl T.d_is_within.g T.d_is_within.F.kp T.d_is_within.b .nil pass0 (pa_cons (pv 0) (pa_cons pe_int (pa_cons (pv 1) pa_nil)))))) (pss_one (ps_raiseG rfl (ex_NoPlace T) (hr.mono (by decide)) (takes_of rfl rfl rfl rfl) rfl (pa_cons (pv 0) pa_nil))) pss_nil)), ?_⟩
    walk_at "go"
    refine ⟨x, 0, m, rfl, hx, ?_⟩
    cases hb : withinV x 0 m with
    | true =>
      walk_at "go"
      exact k1 hb
    | false =>
      have k2 := k0 hb
      walk_at "go"
      rename_i d2 H2 hd2 e2 hv2
      exact k2 d2 H2 hd2 e2 hv2
theorem TurnD.seq {H : Hp} {x : V} {d : PyData} {l : List Nat} (hx : Rn H x d) (hd : d = .list (l.map encN) ∨ d = .tuple (l.map encN)) : ∃ a, x = .ref a ∧ seqAt H a = some (l.map nV) := by
  have : ∀ (xs : List V) (l : List Nat), RnA H xs (l.map encN) → xs = l.map nV := by
    intro xs l
    induction l generalizing xs with
    | nil => intro h; cases h; rfl
    | cons v l ih =>
      intro h
      cases h with
      | cons h1 h2 =>
        rw [List.map_cons, ← ih _ h2]
        congr 1
        unfold encN at h1
        cases h1
        rfl
  rcases hd with rfl | rfl
  · obtain ⟨a, xs, rfl, h1, h2⟩ := hx.listAt
    exact ⟨a, rfl, by rw [seq_l h1, this _ _ h2]⟩
  · obtain ⟨a, xs, rfl, h1, h2⟩ := hx.tupAt
    exact ⟨a, rfl, by rw [seq_t h1, this _ _ h2]⟩
theorem nV_at {l : List Nat} {i : Nat} {v : V} (h : (l.map nV)[i]? = some v) : i < l.length ∧ v = nV (gT l i) := by
  rw [List.getElem?_map] at h
  cases q : l[i]? with
  | none => rw [q] at h; cases h
  | some x =>
    rw [q] at h
    refine ⟨(List.getElem?_eq_some_iff.mp q).1, ?_⟩
    rw [gT_of q]
    exact (Option.some.inj h).symm
theorem at_nV {l : List Nat} {i : Nat} (h : i < l.length) : atI (l.map nV) (i : Int) = some (nV (gT l i)) := at_mapN (gT_some h)
/-- how many lines begin at b or behind it and end ahead of e -/
def cntT (l : List Nat) (b e : Nat) : Nat := (l.drop b).countP (· < e)
theorem cntT_end {l : List Nat} {b : Nat} (h : l.length ≤ b) (e : Nat) : cntT l b e = 0 := by
  unfold cntT
  rw [List.drop_eq_nil_of_le h]
  rfl
theorem cntT_at {l : List Nat} {b : Nat} (h : b < l.length) (e : Nat) : cntT l b e = cntT l (b + 1) e + (if gT l b < e then 1 else 0) := by
  unfold cntT
  rw [List.drop_eq_getElem_cons h, List.countP_cons, gT_at h]
  simp only [decide_eq_true_eq]
theorem cntT_le (l : List Nat) (b e : Nat) : cntT l b e ≤ l.length := by
  have h1 := List.countP_le_length (p := (· < e)) (l := l.drop b)
  rw [List.length_drop] at h1
  unfold cntT
  omega
/-- the least of so many -/
def IsMin (n : Nat) (f : Nat → Nat) (v : Nat) : Prop := (∃ k, k ≤ n ∧ f k = v) ∧ ∀ k, k ≤ n → v ≤ f k
theorem IsMin.uniq {n : Nat} {f : Nat → Nat} {v w : Nat} (h : IsMin n f v) (k : IsMin n f w) : v = w := by
  obtain ⟨⟨a, ha, rfl⟩, h2⟩ := h
  obtain ⟨⟨b, hb, rfl⟩, k2⟩ := k
  have := h2 b hb
  have := k2 a ha
  omega
theorem rnL {H : Hp} {p : Addr} {xs : List Nat} (h : H p = some (.lst (xs.map nV))) : Rn H (.ref p) (.list (xs.map encN)) := .lst h (rnA_map fun _ _ => .int _)
def sp_counted (K : PySem.W.Frag) : Sp := fun vs H Q E => ∃ (x b e : V) (d : PyData), vs = [x, b, e] ∧ Rn H x d ∧ Ty H b ∧ Ty H e ∧ (¬ TurnD d → RaF K E H "NoTurning" [("found", x)]) ∧
  (∀ l : List Nat, (d = .list (l.map encN) ∨ d = .tuple (l.map encN)) → IsT l → l.length ≤ 96 → (withinV b 0 l.length = false → RaF K E H "NoPlace" [("found", b)]) ∧ (withinV b 0 l.length = true → withinV e 0 l.length = false → RaF K E H "NoPlace" [("found", e)]) ∧
    ∀ i j : Nat, b = .int (i : Nat) → e = .int (j : Nat) → i ≤ l.length → j ≤ l.length → ∀ H', Ex H H' → Q (.int (cntT l i j : Nat)) H')
theorem ok_counted (T : Tx K mg ad fd tk) : FnOk P w K mg base (L2.CX P w) 5 (ad 5) (fd 5) ["turning", "begin", "end"] (sp_counted K) := by
  refine T.d_counted.F.okX sc_counted (fun vs H Q E h => ?_) (fun cdv A outer s H vs Q E hr h => ?_)
  · obtain ⟨x, b, e, d, rfl, _⟩ := h
    rfl
  · obtain ⟨x, b, e, d, rfl, hx, hb, he, k0, k1⟩ := h
    refine ⟨_, (pss_cons (ps_expr (pe_call (ok_need_turning T) (hr.mono (by decide)) rfl T.d_need_turning.g T.d_need_turning.F.kp T.d_need_turning.b .nil (passes_call (takes_of rfl rfl rfl rfl) (fun _ _ _ _ h => h)) (pa_cons (pv 0) pa_nil)))
      (pss_cons (ps_expr (pe_call (ok_need_place T) (hr.mono (by decide)) rfl T.d_need_place.g T.d_need_place.F.kp T.d_need_place.b .nil (passes_call (takes_of rfl rfl rfl rfl) (fun _ _ _ _ h => h)) (pa_cons (pv 1) (pa_cons (pe_callB (c_len (K := K)) (by rfl) T.b_len (by decide +kernel) (pa_cons (pv 0) pa_nil)) pa_nil))))
      (pss_cons (ps_expr (pe_call (ok_need_place T) (hr.mono (by decide)) rfl T.d_need_place.g T.d_need_place.F.kp T.d_need_place.b .nil (passes_call (takes_of rfl rfl rfl rfl) (fun _ _ _ _ h => h)) (pa_cons (pv 2) (pa_cons (pe_callB (c_len (K := K)) (by rfl) T.b_len (by decide +kernel) (pa_cons (pv 0) pa_nil)) pa_nil))))
      (pss_one (ps_ret (pe_callB (c_len (K := K)) (by rfl) T.b_len (by decide +kernel) (pa_cons (pe_lc (own := [("goal", 3)]) (g := gName 3) rfl sc_counted.nd (pi_seq (pe_slice (s_slQ (K := K)) (pv 0) (po_some (pv 1)) po_none)) (blkOk_by (own := [("goal", 3)]) (N := N_counted) (sc := defScope s_counted) (by decide +kernel)) (fun _ _ _ _ _ => pg_name (i := 3) sc_counted.nd rfl (Or.inl rfl)) (fun _ _ _ _ _ => pts_one (pt_cmpR o_lt (pv 3) (pv 2) (nomark _))) (fun _ _ _ _ _ => (pv 3))) pa_nil))))))), ?_⟩
    walk_at "go"
    refine ⟨x, d, rfl, hx, k0, fun hT H1 e1 => ?_⟩
    obtain ⟨l, hd, hl, hl2⟩ := hT
    obtain ⟨k2, k3, k4⟩ := k1 l hd hl hl2
    obtain ⟨a, rfl, hs⟩ := TurnD.seq hx hd
    have hs1 := seqAt_ex e1 hs
    clear k0 k1
    walk_at "go"
    refine st_lenQ hs1 ?_
    rw [List.length_map]
    walk_at "go"
    refine ⟨b, _, rfl, hb.ex e1, fun h => (k2 h).ex e1, fun hbt => ?_⟩
    walk_at "go"
    refine st_lenQ hs1 ?_
    rw [List.length_map]
    walk_at "go"
    refine ⟨e, _, rfl, he.ex e1, fun h => (k3 hbt h).ex e1, fun het => ?_⟩
    obtain ⟨i, rfl, hi⟩ := within_nat hbt
    obtain ⟨j, rfl, hj⟩ := within_nat het
    have k5 := k4 i j rfl rfl hi hj
    clear k2 k3 k4
    walk_at "go"
    refine st_slQ hs1 ?_
    intro q H2 e2 v2
    rw [cutV_from, ← List.map_drop] at v2
    walk_at "go"
    refine st_isSeq v2 fun J S hJ hS => ?_
    refine lc_pure (rv_of hJ) (fun H' e => hS H' (seqAt_same e v2)) (by rw [List.length_drop]; omega) (fun g => decide (g < j)) (fun g => nV g) ?_ ?_
    · intro y H' hy e B A' h1 h2
      refine ⟨rfl, ?_⟩
      unfold nV
      walk_at "go"
      refine st_br2 (fun c => ?_) (fun c => ?_)
      · walk_at "go"
        exact h1 (decide_eq_true (by omega)) _ (Fr.refl _)
      · exact h2 (decide_eq_false (by omega)) _ (Fr.refl _)
    · intro D H3 nD e3 vD
      walk_at "go"
      have hc : ((((l.drop i).filter fun g => decide (g < j)).map fun g => nV g).length) = cntT l i j := by rw [List.length_map, cntT, List.countP_eq_length_filter]
      rw [hc]
      exact k5 _ (e1.trans (e2.trans e3))
theorem eqv_encN (a b : Nat) : PyData.eqv (encN a) (encN b) = decide (a = b) := by
  unfold encN
  rw [eqv_int]
  rw [Bool.eq_iff_iff, decide_eq_true_eq, decide_eq_true_eq]
  omega
theorem rpN {H : Hp} {p : Addr} {xs : List Nat} (h : H p = some (.lst (xs.map nV))) : Rp H (.ref p) (.list (xs.map encN)) := .lst (lst_of h) (rpA_map fun _ _ => .int _)
theorem rnNL {H : Hp} {p : Addr} {xs : List Nat} (h : H p = some (.lst (xs.map nV))) : Rn H (.ref p) (.list (xs.map encN)) := .lst h (rnA_map fun _ _ => .int _)
theorem rnNT {H : Hp} {p : Addr} {xs : List Nat} (h : H p = some (.tup (xs.map nV))) : Rn H (.ref p) (.tuple (xs.map encN)) := .tup h (rnA_map fun _ _ => .int _)
theorem depthN (xs : List Nat) : (PyData.list (xs.map encN)).depth ≤ 3 := by
  have : PyData.depthAll (xs.map encN) ≤ 0 := depth_map fun z _ => by simp [encN, PyData.depth]
  simp only [PyData.depth]
  omega
theorem eqvN (xs ys : List Nat) : PyData.eqv (.list (xs.map encN)) (.list (ys.map encN)) = decide (xs = ys) := eqv_list eqv_encN xs ys
def rowO (r : List Nat) : HO := .lst (r.map nV)
/-- a table of numbers -/
structure Tbl (H : Hp) (p : Addr) (rs : List Addr) (tb : List (List Nat)) : Prop where
  at_ : H p = some (.lst (rs.map V.ref))
  rows : ObjsAt H rs (tb.map rowO)
theorem Tbl.ex {H H' : Hp} {p : Addr} {rs : List Addr} {tb : List (List Nat)} (T : Tbl H p rs tb) (e : Ex H H') : Tbl H' p rs tb := ⟨e.get T.at_, T.rows.ex e⟩
theorem Tbl.len {H : Hp} {p : Addr} {rs : List Addr} {tb : List (List Nat)} (T : Tbl H p rs tb) : rs.length = tb.length := by rw [T.rows.len, List.length_map]
theorem Tbl.row {H : Hp} {p : Addr} {rs : List Addr} {tb : List (List Nat)} (T : Tbl H p rs tb) {i : Nat} (h : i < tb.length) : ∃ r, rs[i]? = some r ∧ H r = some (.lst ((tb[i]).map nV)) := by
  have hl := T.len
  refine ⟨rs[i]'(by omega), List.getElem?_eq_getElem _, T.rows.at i _ _ (List.getElem?_eq_getElem _) ?_⟩
  rw [List.getElem?_map, List.getElem?_eq_getElem h]
  rfl
def encR (r : List Nat) : PyData := .list (r.map encN)
theorem rows_rn {H : Hp} : ∀ {rs : List Addr} {tb : List (List Nat)}, ObjsAt H rs (tb.map rowO) → RnA H (rs.map V.ref) (tb.map encR)
  | [], [], _ => .nil
  | [], _ :: _, h => by cases h
  | _ :: _, [], h => by cases h
  | r :: rs, t :: tb, h => by
    cases h with
    | cons h1 h2 => exact .cons (.lst h1 (rnA_map fun _ _ => .int _)) (rows_rn h2)
theorem Tbl.rn {H : Hp} {p : Addr} {rs : List Addr} {tb : List (List Nat)} (T : Tbl H p rs tb) : Rn H (.ref p) (.list (tb.map encR)) := .lst T.at_ (rows_rn T.rows)
theorem tbl_nd (tb : List (List Nat)) : (PyData.list (tb.map encR)).hasDict = false := by
  simp only [PyData.hasDict]
  refine hasDictA_of fun d hd => ?_
  obtain ⟨r, _, rfl⟩ := List.mem_map.mp hd
  unfold encR
  simp only [PyData.hasDict]
  refine hasDictA_of fun d hd => ?_
  obtain ⟨_, _, rfl⟩ := List.mem_map.mp hd
  rfl
theorem Tbl.rp {H : Hp} {p : Addr} {rs : List Addr} {tb : List (List Nat)} (T : Tbl H p rs tb) : Rp H (.ref p) (.list (tb.map encR)) := T.rn.rp (tbl_nd tb)
theorem tbl_dp (tb : List (List Nat)) : (PyData.list (tb.map encR)).depth ≤ 10 := by
  have : PyData.depthAll (tb.map encR) ≤ 3 := depth_map fun r _ => depthN r
  simp only [PyData.depth]
  omega
theorem tbl_eqv (a b : List (List Nat)) : PyData.eqv (.list (a.map encR)) (.list (b.map encR)) = decide (a = b) := eqv_list eqvN a b
def cntRow (l : List Nat) (i : Nat) : List Nat := (List.range (l.length + 1)).map fun j => cntT l i j
theorem cntRow_len (l : List Nat) (i : Nat) : (cntRow l i).length = l.length + 1 := by rw [cntRow, List.length_map, List.length_range]
theorem cntRow_at {l : List Nat} {i j : Nat} (h : j ≤ l.length) : gT (cntRow l i) j = cntT l i j := gT_map (by omega)
theorem cntRow_end {l : List Nat} {i : Nat} (h : l.length ≤ i) : cntRow l i = (List.range (l.length + 1)).map fun _ => 0 := List.map_congr_left fun j _ => cntT_end h j
def cntTb (l : List Nat) : List (List Nat) := (List.range (l.length + 1)).map fun i => cntRow l i
def sp_counts (K : PySem.W.Frag) : Sp := fun vs H Q E => ∃ (x : V) (d : PyData), vs = [x] ∧ Rn H x d ∧ (¬ TurnD d → RaF K E H "NoTurning" [("found", x)]) ∧ (∀ l : List Nat, (d = .list (l.map encN) ∨ d = .tuple (l.map encN)) → IsT l → l.length ≤ 96 → ∀ D rs H', Ex H H' → H D = none → (∀ r ∈ rs, H r = none) → D ∉ rs → rs.Nodup → Tbl H' D rs (cntTb l) → Q (.ref D) H')
theorem ok_counts (T : Tx K mg ad fd tk) : FnOk P w K mg base (L2.CX P w) 5 (ad 6) (fd 6) ["turning"] (sp_counts K) := by
  refine T.d_counts.F.okX sc_counts (fun vs H Q E h => ?_) (fun cdv A outer s H vs Q E hr h => ?_)
  · obtain ⟨x, d, rfl, _⟩ := h
    rfl
  · obtain ⟨x, d, rfl, hx, k0, k1⟩ := h
    refine ⟨_, (pss_cons (ps_expr (pe_call (ok_need_turning T) (hr.mono (by decide)) rfl T.d_need_turning.g T.d_need_turning.F.kp T.d_need_turning.b .nil (passes_call (takes_of rfl rfl rfl rfl) (fun _ _ _ _ h => h)) (pa_cons (pv 0) pa_nil)))
      (pss_cons (ps_set (i := 1) sc_counts.nd rfl (Or.inl rfl) (pe_lst (pa_cons (pe_op o_mul (pe_lst (pa_cons pe_int pa_nil)) (pe_op o_add (pe_callB (c_len (K := K)) (by rfl) T.b_len (by decide +kernel) (pa_cons (pv 0) pa_nil)) pe_int)) pa_nil)))
      (pss_cons (ps_for (passes_of rfl) rfl (pi_seq (pe_rev (pv 0) (pe_un un_neg pe_int))) (pg_name (i := 2) sc_counts.nd rfl (Or.inr rfl)) (pss_one (ps_expr (pe_bm PySem.F.plainAttrs_list PySem.F.slot_list_append PySem.F.type_list_append mt_append (pv 1) (pa_cons (pe_lc (own := [("place", 3), ("many", 4)]) (g := gTup K 2 (gCons (gName 3) (gCons (gName 4) gNil))) rfl sc_counts.nd (pi_enum rfl T.b_enumerate (pa_cons (pe_ix (i_ix (K := K)) (pv 1) (pe_un un_neg pe_int) (fun _ _ => rfl)) pa_nil)) (blkOk_by (own := [("place", 3), ("many", 4)]) (N := N_counts) (sc := defScope s_counts) (by decide +kernel)) (fun _ _ _ _ _ => (pg_tup rfl (pgs_cons (pg_name (i := 3) sc_counts.nd rfl (Or.inl rfl)) (pgs_cons (pg_name (i := 4) sc_counts.nd rfl (Or.inl rfl)) pgs_nil)))) (fun _ _ _ _ _ => pts_nil) (fun _ _ _ _ _ => (pe_op o_add (pv 4) (pe_callTy c_int (by rfl) T.b_int (by decide +kernel) (pa_cons (pe_cmpR o_lt (pv 2) (pv 3) (nomark _)) pa_nil))))) pa_nil)))))
      (pss_one (ps_ret (pe_slice3 (pv 1) po_none po_none (pe_un un_neg pe_int) (K := K))))))), ?_⟩
    walk_at "go"
    refine ⟨x, d, rfl, hx, k0, fun hT H1 e1 => ?_⟩
    obtain ⟨l, hd, hl, hl2⟩ := hT
    have k2 := k1 l hd hl hl2
    obtain ⟨a, rfl, hs⟩ := TurnD.seq hx hd
    have hs1 := seqAt_ex e1 hs
    clear k0 k1
    walk_at "go"
    refine st_lenQ (seqAt_ex (by assumption) hs1) ?_
    rename_i z0 Ha na ea va
    have hs2 := seqAt_ex ea hs1
    walk_at "go"
    rename_i r0 H2 n2 e2 v2 F H3 n3 e3 v3
    have hs3 := seqAt_ex (e2.trans e3) hs2
    have v2' : H2 r0 = some (.lst ((cntRow l l.length).map nV)) := by
      rw [v2, cntRow_end (Nat.le_refl _), List.length_map]
      congr 2
      refine List.ext_getElem (by simp) fun i h1 h2 => ?_
      simp [nV]
    have e03 := e1.trans (ea.trans (e2.trans e3))
    have n0F : H F = none := Ex.free (e1.trans (ea.trans e2)) n3
    have n0r : H r0 = none := Ex.free (e1.trans ea) n2
    have hFr : F ≠ r0 := fun z => by rw [z, v2] at n3; cases n3
    refine st_rvQ hs3 ?_
    intro q H4 n4 e4 v4
    rw [← List.map_reverse] at v4
    have hqF : q ≠ F := fun z => by rw [z, v3] at n4; cases n4
    walk_at "go"
    refine st_isSeq v4 fun J S hJ hS => ?_
    rw [List.length_map, List.length_reverse] at hJ
    have v34 := e4.get v3
    refine for_runs hJ (fun t σ H' => (FrP F H4 H' ∧ ∃ rs : List Addr, H' F = some (.lst (rs.map V.ref)) ∧ ObjsAt H' rs ((List.range (t + 1)).map fun i => rowO (cntRow l (l.length - i))) ∧ F ∉ rs ∧ (∀ r ∈ rs, H r = none) ∧ rs.Nodup) ∧ ∃ y2 y3 y4, σ = [some (.ref a), some (.ref F), y2, y3, y4]) ⟨⟨Fr.refl _, [r0], v34, ?_, ?_, ?_, by simp⟩, _, _, _, rfl⟩ (fun t σ H' _ h => hS H' (seqAt_same' h.1.1 hqF v4)) ?_ ?_
    · refine ObjsAt.one ?_
      rw [(e3.trans e4).get v2']
      rfl
    · rw [List.mem_singleton]; exact hFr
    · intro r hr; rw [List.mem_singleton.mp hr]; exact n0r
    · rintro t x σ H0 H5 ht ⟨⟨f5, rs, h1, h2, h3, h4, h5⟩, y2, y3, y4, rfl⟩ ⟨rfl, hx5⟩
      obtain ⟨b, hb⟩ : ∃ b, b = l.length - 1 - t := ⟨_, rfl⟩
      have hx6 : x = nV (gT l b) := by
        rw [List.getElem?_map, List.getElem?_reverse ht, gT_some (by omega)] at hx5
        rw [hb]
        exact (Option.some.inj hx5).symm
      subst hx6
      have hlen := h2.len
      rw [List.length_map, List.length_range] at hlen
      obtain ⟨rl, hrl⟩ : ∃ rl, rs[t]? = some rl := ⟨rs[t]'(by omega), List.getElem?_eq_getElem _⟩
      have hvl : H5 rl = some (.lst ((cntRow l (b + 1)).map nV)) := by
        refine h2.at t rl _ hrl ?_
        rw [List.getElem?_map, List.getElem?_range (by omega), show b + 1 = l.length - t by omega]
        rfl
      walk_at "go"
      refine st_ixL h1 (at_last (n := t) (by rw [List.length_map, hlen]) (v := V.ref rl) (by rw [List.getElem?_map, hrl]; rfl)) ?_
      walk_at "go"
      refine lc_turns (runs_enum K rl _) (fun i x H H' h => by obtain ⟨_, _, _, _, h, _⟩ := h; exact h) (fun H' e => lst_of (e.get hvl)) (by rw [List.length_map, cntRow_len]; omega) (fun j => nV (cntT l b j)) ?_ ?_ gTup_mono
      · rintro j x H6 H7 hj e6 ⟨Tt, v, rfl, nT, eT, vT, hv⟩ B h2'
        rw [List.length_map, cntRow_len] at hj
        obtain ⟨_, rfl⟩ := nV_at hv
        rw [cntRow_at (by omega)] at vT
        walk_at "go"
        refine ⟨rfl, ?_⟩
        unfold nV at vT ⊢
        walk_at "go"
        have hh := h2' _ (Fr.refl _)
        unfold nV at hh
        rw [cntT_at (by omega), Int.natCast_add] at hh
        by_cases c2 : gT l b < j
        · rw [if_pos c2] at hh
          rw [if_pos (decide_eq_true (by omega))]
          exact hh
        · rw [if_neg c2] at hh
          rw [if_neg (by rw [decide_eq_false (by omega)]; decide)]
          exact hh
      intro r H6 nr e6 v6
      rw [List.length_map, cntRow_len] at v6
      have h16 := e6.get h1
      have hrF : r ≠ F := fun z => by rw [z, h1] at nr; cases nr
      have nrs : r ∉ rs := fun z => by
        obtain ⟨o, _, ho⟩ := h2.mem z
        rw [nr] at ho
        cases ho
      walk_at "go"
      refine st_app h16 (by rw [List.length_map]; omega) ?_
      refine ⟨⟨(f5.trans (Fr.ex e6)).trans FrP.at, rs ++ [r], by rw [upd_same, List.map_append]; rfl, ?_, ?_, ?_, ?_⟩, _, _, _, rfl⟩
      · rw [List.range_succ, List.map_append]
        refine ObjsAt.app ((h2.ex e6).up h3) (.one ?_)
        rw [upd_ne hrF, v6]
        show _ = some (rowO (cntRow l (l.length - (t + 1))))
        rw [show l.length - (t + 1) = b by omega]
        unfold rowO cntRow
        rw [List.map_map]
        rfl
      · intro hm'
        rcases List.mem_append.mp hm' with h | h
        · exact h3 h
        · exact hrF (List.mem_singleton.mp h).symm
      · intro z hz
        rcases List.mem_append.mp hz with h | h
        · exact h4 z h
        · rw [List.mem_singleton.mp h]
          exact Ex.free (Ex.comp (M := fun b => b = F) (e03.trans e4) f5 fun b hb => by rw [hb]; exact n0F) nr
      · rw [List.nodup_append]
        exact ⟨h5, by simp, fun x hx y hy => by rw [List.mem_singleton.mp hy]; exact fun z => nrs (z ▸ hx)⟩
    · rintro σ H5 ⟨⟨f5, rs, h1, h2, h3, h4, h5⟩, y2, y3, y4, rfl⟩
      have e05 : Ex H H5 := Ex.comp (M := fun b => b = F) (e03.trans e4) f5 fun b hb => by rw [hb]; exact n0F
      have hlen := h2.len
      rw [List.length_map, List.length_range] at hlen
      walk_at "go"
      refine st_revL (lstAt_sq (lst_of h1)) ?_
      intro D H6 n6 e6 v6
      walk_at "go"
      rw [← List.map_reverse] at v6
      refine k2 D rs.reverse H6 (e05.trans e6) (Ex.free e05 n6) (fun r hr => h4 r (List.mem_reverse.mp hr)) (fun hm => ?_) ((List.reverse_perm rs).nodup_iff.mpr h5) ⟨v6, ?_⟩
      · obtain ⟨o, _, ho⟩ := h2.mem (List.mem_reverse.mp hm)
        rw [n6] at ho
        cases ho
      refine ObjsAt.of (by simp [hlen, cntTb]) fun i x o hx ho => ?_
      have hir := (List.getElem?_eq_some_iff.mp hx).1
      rw [List.length_reverse] at hir
      rw [List.getElem?_reverse hir] at hx
      refine (h2.ex e6).at _ x o hx ?_
      rw [cntTb, List.map_map, List.getElem?_map, List.getElem?_range (by omega)] at ho
      rw [List.getElem?_map, List.getElem?_range (by omega), ← ho, hlen]
      show some (rowO (cntRow l (l.length - (l.length + 1 - 1 - i)))) = some (rowO (cntRow l i))
      rw [show l.length - (l.length + 1 - 1 - i) = i by omega]
def encRZ (r : List Int) : PyData := .list (r.map PyData.int)
def SqD (d : PyData) : Prop := ∃ M : List (List Nat), d = .list (M.map encR) ∧ 1 ≤ M.length ∧ M.length ≤ 97 ∧ ∀ r ∈ M, r.length = M.length ∧ ∀ v ∈ r, v ≤ 96
def SqZ (d : PyData) : Prop := ∃ M : List (List Int), d = .list (M.map encRZ) ∧ 1 ≤ M.length ∧ M.length ≤ 97 ∧ ∀ r ∈ M, r.length = M.length
def CntD (d : PyData) : Prop := ∃ l : List Nat, IsT l ∧ l.length ≤ 96 ∧ d = .list ((cntTb l).map encR)
theorem encR_int (r : List Nat) : encR r = encRZ (r.map fun (v : Nat) => (v : Int)) := by
  unfold encR encRZ
  rw [List.map_map]
  rfl
theorem maps_inj {α β : Type} {f : α → β} (hf : ∀ x y, f x = f y → x = y) : ∀ {a b : List α}, a.map f = b.map f → a = b
  | [], [], _ => rfl
  | [], _ :: _, h => by cases h
  | _ :: _, [], h => by cases h
  | x :: a, y :: b, h => by
    injection h with h1 h2
    rw [hf x y h1, maps_inj hf h2]
theorem encRZ_inj {a b : List Int} (h : encRZ a = encRZ b) : a = b := by
  unfold encRZ at h
  injection h with h
  exact maps_inj (fun x y e => by injection e) h
theorem encR_inj {a b : List Nat} (h : encR a = encR b) : a = b := by
  unfold encR at h
  injection h with h
  exact encN_inj h
theorem encRs_inj {a b : List (List Nat)} (h : a.map encR = b.map encR) : a = b := maps_inj (fun x y e => encR_inj e) h
theorem encRZs_inj {a b : List (List Int)} (h : a.map encRZ = b.map encRZ) : a = b := maps_inj (fun x y e => encRZ_inj e) h
theorem cntTb_len (l : List Nat) : (cntTb l).length = l.length + 1 := by rw [cntTb, List.length_map, List.length_range]
theorem cntTb_at {l : List Nat} {i : Nat} (h : i ≤ l.length) : (cntTb l)[i]? = some (cntRow l i) := by
  unfold cntTb
  rw [List.getElem?_map, List.getElem?_range (by omega)]
  rfl
theorem cntRow_get {l : List Nat} {i j : Nat} (h : j ≤ l.length) : (cntRow l i)[j]? = some (cntT l i j) := by
  unfold cntRow
  rw [List.getElem?_map, List.getElem?_range (by omega)]
  rfl
theorem CntD.sq {d : PyData} (h : CntD d) : SqD d := by
  obtain ⟨l, hl, hl2, rfl⟩ := h
  refine ⟨cntTb l, rfl, by rw [cntTb_len]; omega, by rw [cntTb_len]; omega, fun r hr => ?_⟩
  unfold cntTb at hr
  obtain ⟨i, _, rfl⟩ := List.mem_map.mp hr
  refine ⟨by rw [cntRow_len, cntTb_len], fun v hv => ?_⟩
  unfold cntRow at hv
  obtain ⟨j, _, rfl⟩ := List.mem_map.mp hv
  have := cntT_le l i j
  omega
theorem SqD.sqZ {d : PyData} (h : SqD d) : SqZ d := by
  obtain ⟨M, rfl, h1, h2, h3⟩ := h
  refine ⟨M.map fun r => r.map fun (v : Nat) => (v : Int), ?_, by rw [List.length_map]; exact h1, by rw [List.length_map]; exact h2, fun r hr => ?_⟩
  · rw [List.map_map]
    congr 1
    exact List.map_congr_left fun r _ => encR_int r
  · obtain ⟨r', hr', rfl⟩ := List.mem_map.mp hr
    rw [List.length_map, List.length_map]
    exact (h3 r' hr').1
/-- the first place at which two rows are unlike -/
def IsPre (r s : List Nat) (k : Nat) : Prop := k ≤ r.length ∧ (∀ j, j < k → r[j]? = s[j]?) ∧ (k = r.length ∨ r[k]? ≠ s[k]?)
theorem pre_cnt {l : List Nat} (hl : IsT l) {i k : Nat} (hi : i < l.length) (h : IsPre (cntRow l i) (cntRow l (i + 1)) k) : k = gT l i + 1 := by
  obtain ⟨h1, h2, h3⟩ := h
  rw [cntRow_len] at h1 h3
  have hg := hl.g_lt hi
  by_cases c1 : k < gT l i + 1
  · exfalso
    rcases h3 with h | h
    · omega
    · rw [cntRow_get (by omega), cntRow_get (by omega), cntT_at hi, if_neg (by omega)] at h
      exact h rfl
  · by_cases c2 : gT l i + 1 < k
    · exfalso
      have := h2 (gT l i + 1) c2
      rw [cntRow_get (by omega), cntRow_get (by omega), cntT_at hi, if_pos (by omega)] at this
      have := Option.some.inj this
      omega
    · omega
theorem same_cnt {l : List Nat} {i : Nat} (hi : i < l.length) (hg : gT l i < l.length) : ((List.range (l.length + 1)).filter fun p => decide ((cntRow l i)[p]? = (cntRow l (i + 1))[p]?)).length = gT l i + 1 := by
  have e : (List.range (l.length + 1)).filter (fun p => decide ((cntRow l i)[p]? = (cntRow l (i + 1))[p]?)) = (List.range (l.length + 1)).filter fun p => decide (p < gT l i + 1) := by
    refine List.filter_congr fun p hp => ?_
    have hp := List.mem_range.mp hp
    rw [cntRow_get (by omega), cntRow_get (by omega), cntT_at hi]
    by_cases c : gT l i < p
    · rw [if_pos c, decide_eq_false (by simp), decide_eq_false (by omega)]
    · rw [if_neg c, decide_eq_true (by simp), decide_eq_true (by omega)]
  rw [e, show l.length + 1 = (gT l i + 1) + (l.length - gT l i) by omega, List.range_add, List.filter_append, List.filter_eq_self.mpr, List.filter_eq_nil_iff.mpr, List.append_nil, List.length_range]
  · intro p hp
    obtain ⟨j, _, rfl⟩ := List.mem_map.mp hp
    simp
  · intro p hp
    have := List.mem_range.mp hp
    simpa using this
theorem tblZ_nd (tb : List (List Int)) : (PyData.list (tb.map encRZ)).hasDict = false := by
  simp only [PyData.hasDict]
  refine hasDictA_of fun d hd => ?_
  obtain ⟨r, _, rfl⟩ := List.mem_map.mp hd
  unfold encRZ
  simp only [PyData.hasDict]
  refine hasDictA_of fun d hd => ?_
  obtain ⟨_, _, rfl⟩ := List.mem_map.mp hd
  rfl
theorem eqv_encRZ (a b : List Int) : PyData.eqv (encRZ a) (encRZ b) = decide (a = b) := eqv_list eqv_int a b
theorem tblZ_eqv (a b : List (List Int)) : PyData.eqv (.list (a.map encRZ)) (.list (b.map encRZ)) = decide (a = b) := eqv_list eqv_encRZ a b
def castM (a : List (List Nat)) : List (List Int) := a.map fun r => r.map fun (v : Nat) => (v : Int)
theorem castM_enc (a : List (List Nat)) : a.map encR = (castM a).map encRZ := by
  unfold castM
  rw [List.map_map]
  exact List.map_congr_left fun r _ => encR_int r
theorem cast_same (r s : List Nat) (p : Nat) : (((r.map fun (v : Nat) => (v : Int)))[p]? = ((s.map fun (v : Nat) => (v : Int)))[p]?) ↔ r[p]? = s[p]? := by
  rw [List.getElem?_map, List.getElem?_map]
  cases r[p]? <;> cases s[p]? <;> simp <;> omega
theorem castM_at {l : List Nat} {i : Nat} (h : i ≤ l.length) : (castM (cntTb l))[i]? = some ((cntRow l i).map fun (v : Nat) => (v : Int)) := by
  unfold castM
  rw [List.getElem?_map, cntTb_at h]
  rfl
theorem sorted_eq {a b : List Int} (p : a.Perm b) (h1 : a.Pairwise (· ≤ ·)) (h2 : b.Pairwise (· ≤ ·)) : a = b := List.Perm.eq_of_pairwise (fun x y _ _ h k => Int.le_antisymm h k) h1 h2 p
theorem isT_sorted {ns ns' : List Int} (p : ns'.Perm ns) (h : ns'.Pairwise (· ≤ ·)) : (∃ l : List Nat, ns = l.map (fun (v : Nat) => (v : Int)) ∧ IsT l) ↔ ns' = (List.range ns.length).map (fun (v : Nat) => (v : Int)) := by
  have hr : ∀ n : Nat, ((List.range n).map (fun (v : Nat) => (v : Int))).Pairwise (· ≤ ·) := fun n => by
    rw [List.pairwise_map]
    exact List.pairwise_lt_range.imp fun h => by omega
  constructor
  · rintro ⟨l, rfl, hl⟩
    rw [List.length_map]
    exact sorted_eq (p.trans (hl.perm.map _)) h (hr _)
  · intro e
    rw [e] at p
    refine ⟨ns.map Int.toNat, ?_, ?_⟩
    · rw [List.map_map]
      conv => lhs; rw [← List.map_id ns]
      refine List.map_congr_left fun v hv => ?_
      obtain ⟨a, _, ha⟩ := List.mem_map.mp (p.mem_iff.mpr hv)
      show v = ((v.toNat : Nat) : Int)
      omega
    · have := p.map Int.toNat
      rw [List.map_map] at this
      have e2 : (List.range ns.length).map (Int.toNat ∘ fun (v : Nat) => (v : Int)) = List.range ns.length := by
        conv => rhs; rw [← List.map_id (List.range ns.length)]
        exact List.map_congr_left fun v _ => Int.toNat_natCast v
      rw [e2] at this
      exact IsT.of_perm_range this.symm
def sp_is_square : Sp := fun vs H Q _ => ∃ (x : V) (d : PyData), vs = [x] ∧ Rn H x d ∧ ∀ b H', Ex H H' → (b = true ↔ SqD d) → Q (.bl b) H'
theorem ok_is_square (T : Tx K mg ad fd tk) : FnOk P w K mg base CX0 3 (ad 7) (fd 7) ["table"] sp_is_square := by
  refine T.d_is_square.F.ok sc_is_square (fun vs H Q E h => ?_) (fun cdv A outer s H vs Q E hr h => ?_)
  · obtain ⟨x, d, rfl, _⟩ := h
    rfl
  · obtain ⟨x, d, rfl, hx, k⟩ := h
    refine ⟨_, (pss_cons (ps_if (PW.pt (pw_or (pt_not (pt_val (pe_callB c_is (by rfl) T.b_isinstance (by decide +kernel) (pa_cons (pv 0) (pa_cons (pe_bltn (v := .ty "list") rfl T.b_list (by decide +kernel) rfl) pa_nil))))) (pw_or1 (pt_not (pt_chain o_le o_le pe_int (pe_callB (c_len (K := K)) (by rfl) T.b_len (by decide +kernel) (pa_cons (pv 0) pa_nil)) (pe_op o_add (pe_glob (v := .int 96) rfl T.c_MOST_LINES ⟨_, rfl⟩) pe_int)))))) (pss_one (ps_ret pe_bl)) pss_nil)
      (pss_cons (ps_for PassesOwn.never rfl (pi_list (pv 0)) (pg_name (i := 1) sc_is_square.nd rfl (Or.inl rfl)) (pss_cons (ps_if (PW.pt (pw_or (pt_not (pt_val (pe_callB c_is (by rfl) T.b_isinstance (by decide +kernel) (pa_cons (pv 1) (pa_cons (pe_bltn (v := .ty "list") rfl T.b_list (by decide +kernel) rfl) pa_nil))))) (pw_or1 (pt_cmpR (o_ne hr.units) (pe_callB (c_len (K := K)) (by rfl) T.b_len (by decide +kernel) (pa_cons (pv 1) pa_nil)) (pe_callB (c_len (K := K)) (by rfl) T.b_len (by decide +kernel) (pa_cons (pv 0) pa_nil)) (nomark _))))) (pss_one (ps_ret pe_bl)) pss_nil)
      (pss_one (ps_if (pt_not (pt_val (pe_callB (c_all rfl) (by rfl) T.b_all (by decide +kernel) (pa_cons (pe_lc (own := [("many", 2)]) (g := gName 2) rfl sc_is_square.nd (pi_list (pv 1)) (blkOk_by (own := [("many", 2)]) (N := N_is_square) (sc := defScope s_is_square) (by decide +kernel)) (fun _ _ _ _ _ => pg_name (i := 2) sc_is_square.nd rfl (Or.inl rfl)) (fun _ _ _ _ _ => pts_nil) (fun _ _ _ _ _ => (pe_call (ok_is_within T) (hr.mono (by decide)) rfl T.d_is_within.g T.d_is_within.F.kp T.d_is_within.b .nil pass0 (pa_cons (pv 2) (pa_cons pe_int (pa_cons (pe_glob (v := .int 96) rfl T.c_MOST_LINES ⟨_, rfl⟩) pa_nil)))))) pa_nil)))) (pss_one (ps_ret pe_bl)) pss_nil))))
      (pss_one (ps_ret pe_bl)))), ?_⟩
    have no : ∀ H', Ex H H' → (¬ SqD d) → Q (.bl false) H' := fun H' e n => k false H' e ⟨(fun z => nomatch z), (fun z => (n z).elim)⟩
    walk_at "go"
    refine st_isListD hx.rq ?_
    refine ⟨_, rfl, ?_⟩
    cases hd : isListD d with
    | false =>
      refine st_T rfl ?_
      walk_at "go"
      refine no _ (Fr.refl _) (fun h => ?_)
      obtain ⟨M, h, _⟩ := h
      rw [h] at hd; cases hd
    | true =>
    obtain ⟨ds, rfl⟩ : ∃ ds, d = .list ds := by
      cases d <;> first | exact ⟨_, rfl⟩ | cases hd
    obtain ⟨a, xs, rfl, ha, hr⟩ := hx.listAt
    have hl := hr.len
    refine st_F rfl ?_
    walk_at "go"
    by_cases c1 : 1 ≤ xs.length
    rotate_left
    · rw [decide_eq_false (by omega)]
      walk_at "go"
      refine no _ (Fr.refl _) (fun h => ?_)
      obtain ⟨M, h, h1, _⟩ := h
      injection h with h
      rw [h, List.length_map] at hl
      omega
    rw [decide_eq_true (by omega)]
    walk_at "go"
    by_cases c2 : xs.length ≤ 97
    rotate_left
    · rw [decide_eq_false (by omega)]
      walk_at "go"
      refine no _ (Fr.refl _) (fun h => ?_)
      obtain ⟨M, h, h1, h2, _⟩ := h
      injection h with h
      rw [h, List.length_map] at hl
      omega
    rw [decide_eq_true (by omega)]
    walk_at "go"
    obtain ⟨zs, rfl, rfl, hz⟩ := hr.zipped
    refine for_runs (rv_list K a zs fun z => z.1) (fun i σ H' => (Ex H H' ∧ ∃ M : List (List Nat), (zs.take i).map (·.2) = M.map encR ∧ ∀ r ∈ M, r.length = zs.length ∧ ∀ v ∈ r, v ≤ 96) ∧ ∃ y, σ = [some (.ref a), y, none]) ⟨⟨Fr.refl _, [], rfl, by simp⟩, _, rfl⟩ (fun i σ H' _ h => lst_of (h.1.1.get ha)) ?_ ?_
    · rintro i x σ H0 H1 hi ⟨⟨e1, M, m1, m2⟩, y, rfl⟩ ⟨rfl, z, hzi, rfl⟩
      have rz := (hz z (List.mem_of_getElem? hzi)).ex e1
      have ha1 := e1.get ha
      have bad : ¬ (∃ r : List Nat, z.2 = encR r ∧ r.length = zs.length ∧ ∀ v ∈ r, v ≤ 96) → ∀ H', Ex H H' → Q (.bl false) H' := fun hn H' e' => no _ e' fun h => by
        obtain ⟨N, h1, _, _, h4⟩ := h
        injection h1 with h1
        have h5 := congrArg (fun l => l[i]?) h1
        simp only [List.getElem?_map, hzi, Option.map_some] at h5
        cases q : N[i]? with
        | none => rw [q] at h5; cases h5
        | some r =>
          rw [q] at h5
          have h6 := h4 r (List.mem_of_getElem? q)
          have h7 := congrArg List.length h1
          rw [List.length_map, List.length_map] at h7
          exact hn ⟨r, Option.some.inj h5, by omega, h6.2⟩
      walk_at "go"
      refine st_isListD rz.rq ?_
      refine ⟨_, rfl, ?_⟩
      cases hd2 : isListD z.2 with
      | false =>
        refine st_T rfl ?_
        walk_at "go"
        refine bad (fun ⟨r, h, _⟩ => ?_) _ e1
        rw [h] at hd2; cases hd2
      | true =>
      obtain ⟨es, he⟩ : ∃ es, z.2 = .list es := by
        cases h : z.2 <;> rw [h] at hd2 <;> first | exact ⟨_, rfl⟩ | cases hd2
      rw [he] at rz bad
      obtain ⟨b, ys, hb, hb1, hb2⟩ := rz.listAt
      have hl2 := hb2.len
      refine st_F rfl ?_
      simp only [hb]
      walk_at "go"
      by_cases c3 : ys.length = zs.length
      rotate_left
      · refine st_T (by rw [List.length_map]; simp; omega) ?_
        walk_at "go"
        refine bad (fun ⟨r, h, h2, _⟩ => ?_) _ e1
        unfold encR at h
        injection h with h
        rw [h, List.length_map] at hl2
        omega
      refine st_F (by rw [List.length_map, c3]; simp) ?_
      walk_at "go"
      obtain ⟨us, rfl, rfl, hu⟩ := hb2.zipped
      refine lc_pure (rv_list K b us fun u => u.1) (fun H' e => lst_of (e.get hb1)) (by rw [List.length_map] at c3; rw [List.length_map] at c2; omega) (fun _ => true) (fun u => .bl (withinV u.1 0 96)) ?_ ?_
      · intro u H' hu' e B A' h1 h2
        refine ⟨rfl, ?_⟩
        walk_at "go"
        refine ⟨u.1, 0, 96, rfl, ((hu u hu').ex e).rq.ty, ?_⟩
        exact h1 rfl _ (Fr.refl _)
      · intro D H2 nD e2 vD
        walk_at "go"
        refine st_all (bs := us.map fun u => withinV u.1 0 96) vD (by rw [List.filter_eq_self.mpr (fun _ _ => rfl), List.map_map]; rfl) ?_
        walk_at "go"
        cases hall : (us.map fun u => withinV u.1 0 96).all id with
        | false =>
          walk_at "go"
          refine bad (fun ⟨r, h, h2, h3⟩ => ?_) _ (e1.trans e2)
          rw [List.all_eq_false] at hall
          obtain ⟨w, hw, hw2⟩ := hall
          obtain ⟨u, hu2, rfl⟩ := List.mem_map.mp hw
          apply hw2
          refine (wiN (hu u hu2) 96).mpr ?_
          unfold encR at h
          injection h with h
          have : u.2 ∈ r.map encN := by rw [← h]; exact List.mem_map.mpr ⟨u, hu2, rfl⟩
          obtain ⟨v, hv, hv2⟩ := List.mem_map.mp this
          exact ⟨v, hv2.symm, by have := h3 v hv; omega⟩
        | true =>
          walk_at "go"
          refine ⟨⟨e1.trans e2, ?_⟩, _, rfl⟩
          have hex : ∃ r : List Nat, us.map (·.2) = r.map encN ∧ ∀ v ∈ r, v ≤ 96 := by
            rw [List.all_eq_true] at hall
            clear hb1 hl2 c3 vD he bad hb2 rz
            induction us with
            | nil => exact ⟨[], rfl, by simp⟩
            | cons u us ih =>
              obtain ⟨r, r1, r2⟩ := ih (fun z hz => hu z (List.mem_cons_of_mem _ hz)) (fun z hz => hall z (by rw [List.map_cons]; exact List.mem_cons_of_mem _ hz))
              obtain ⟨v, v1, v2⟩ := (wiN (hu u List.mem_cons_self) 96).mp (hall _ (by rw [List.map_cons]; exact List.mem_cons_self))
              refine ⟨v :: r, by rw [List.map_cons, List.map_cons, r1, v1], fun w hw => ?_⟩
              rcases List.mem_cons.mp hw with rfl | h
              · omega
              · exact r2 w h
          obtain ⟨r, r1, r2⟩ := hex
          refine ⟨M ++ [r], ?_, fun q hq => ?_⟩
          · rw [List.take_add_one, hzi, List.map_append, m1, List.map_append]
            show _ = _ ++ [encR r]
            unfold encR
            rw [← r1, ← he]
            rfl
          · rcases List.mem_append.mp hq with h | h
            · exact m2 q h
            · rw [List.mem_singleton.mp h]
              have := congrArg List.length r1
              rw [List.length_map, List.length_map] at this
              rw [List.length_map] at c3
              exact ⟨by omega, r2⟩
    · rintro σ H1 ⟨⟨e1, M, m1, m2⟩, y, rfl⟩
      walk_at "go"
      rw [List.take_length] at m1
      have hml := congrArg List.length m1
      rw [List.length_map, List.length_map] at hml
      rw [List.length_map] at c1 c2
      exact k true _ e1 ⟨fun _ => ⟨M, by rw [m1], by omega, by omega, fun r hr => ⟨by have := (m2 r hr).1; omega, (m2 r hr).2⟩⟩, fun _ => rfl⟩
theorem nats_of {G : Hp} : ∀ {ys : List V} {r : List Nat}, RnA G ys (r.map encN) → ys = r.map nV
  | _, [], h => by cases h; rfl
  | _, w :: r, h => by
    cases h with
    | cons t1 t2 =>
      rw [List.map_cons, ← nats_of t2]
      congr 1
      unfold encN at t1
      cases t1
      rfl
theorem ints_of {G : Hp} : ∀ {ys : List V} {r : List Int}, RnA G ys (r.map PyData.int) → ys = r.map V.int
  | _, [], h => by cases h; rfl
  | _, w :: r, h => by
    cases h with
    | cons t1 t2 =>
      rw [List.map_cons, ← ints_of t2]
      congr 1
      cases t1
      rfl
def sp_from_counts (K : PySem.W.Frag) : Sp := fun vs H Q E => ∃ (x : V) (d : PyData), vs = [x] ∧ Rn H x d ∧ (¬ CntD d → RaF K E H "NoCounts" [("found", x)]) ∧ (∀ l, IsT l → l.length ≤ 96 → d = .list ((cntTb l).map encR) → ∀ D H', Ex H H' → H D = none → H' D = some (.lst (l.map nV)) → Q (.ref D) H')
theorem ok_from_counts (T : Tx K mg ad fd tk) : FnOk P w K mg base (L2.CX P w) 6 (ad 8) (fd 8) ["table"] (sp_from_counts K) := by
  refine T.d_from_counts.F.okX sc_from_counts (fun vs H Q E h => ?_) (fun cdv A outer s H vs Q E hr h => ?_)
  · obtain ⟨x, d, rfl, _⟩ := h
    rfl
  · obtain ⟨x, d, rfl, hx, k0, k1⟩ := h
    refine ⟨_, (pss_cons (ps_if (pt_not (pt_val (pe_call (ok_is_square T) (hr.mono (by decide)) rfl T.d_is_square.g T.d_is_square.F.kp T.d_is_square.b .nil pass0 (pa_cons (pv 0) pa_nil)))) (pss_one (ps_raiseG rfl (ex_NoCounts T) (hr.mono (by decide)) (takes_of rfl rfl rfl rfl) rfl (pa_cons (pv 0) pa_nil))) pss_nil)
      (pss_cons (ps_set (i := 1) sc_from_counts.nd rfl (Or.inl rfl) (pe_lst pa_nil))
      (pss_cons (ps_for (passes_of rfl) rfl (pi_zip rfl T.b_zip (pa_cons (pv 0) (pa_cons (pe_slice (s_sl (K := K)) (pv 0) (po_some pe_int) po_none) pa_nil))) (pg_tup rfl (pgs_cons (pg_name (i := 2) sc_from_counts.nd rfl (Or.inl rfl)) (pgs_cons (pg_name (i := 3) sc_from_counts.nd rfl (Or.inl rfl)) pgs_nil))) (pss_cons (ps_set (i := 4) sc_from_counts.nd rfl (Or.inl rfl) pe_int)
      (pss_cons (ps_while (passes_of rfl) (PW.pt (pw_and (pt_cmpR o_lt (pv 4) (pe_callB (c_len (K := K)) (by rfl) T.b_len (by decide +kernel) (pa_cons (pv 2) pa_nil)) (nomark _)) (pw_and1 (pt_cmpR (o_eq hr.units) (pe_ix (i_ix (K := K)) (pv 2) (pv 4) (fun _ _ => rfl)) (pe_ix (i_ix (K := K)) (pv 3) (pv 4) (fun _ _ => rfl)) (nomark _))))) (pss_one (ps_aug (i := 4) sc_from_counts.nd rfl (Or.inl rfl) pe_int ip_add)))
      (pss_one (ps_expr (pe_bm PySem.F.plainAttrs_list PySem.F.slot_list_append PySem.F.type_list_append mt_append (pv 1) (pa_cons (pe_op o_sub (pv 4) pe_int) pa_nil)))))))
      (pss_cons (ps_if (PW.pt (pw_or (pt_not (pt_val (pe_call (ok_is_turning T) (hr.mono (by decide)) rfl T.d_is_turning.g T.d_is_turning.F.kp T.d_is_turning.b .nil pass0 (pa_cons (pv 1) pa_nil)))) (pw_or1 (pt_cmpR (o_ne hr.units) (pe_call (ok_counts T) (hr.mono (by decide)) rfl T.d_counts.g T.d_counts.F.kp T.d_counts.b .nil (passes_call (takes_of rfl rfl rfl rfl) (fun _ _ _ _ h => h)) (pa_cons (pv 1) pa_nil)) (pv 0) (nomark _))))) (pss_one (ps_raiseG rfl (ex_NoCounts T) (hr.mono (by decide)) (takes_of rfl rfl rfl rfl) rfl (pa_cons (pv 0) pa_nil))) pss_nil)
      (pss_one (ps_ret (pv 1))))))), ?_⟩
    walk_at "go"
    refine ⟨x, d, rfl, hx, fun b H1 e1 hb => ?_⟩
    have bad : ¬ CntD d → ∀ H', Ex H H' → RaF K E H' "NoCounts" [("found", x)] := fun hn H' e => (k0 hn).ex e
    cases b with
    | false =>
      have hn : ¬ CntD d := fun h => Bool.false_ne_true (hb.mpr h.sq)
      walk_at "go"
      rename_i d2 H2 hd2 e2 hv2
      exact k0 hn d2 H2 (Ex.free e1 hd2) (e1.trans e2) hv2
    | true =>
    obtain ⟨M, hM, m1, m2, m3⟩ := hb.mp rfl
    rw [hM] at hx
    obtain ⟨a, xs, rfl, ha, hr⟩ := hx.listAt
    have ha1 := e1.get ha
    have hr1 := hr.ex e1
    have hlx : xs.length = M.length := by rw [hr.len, List.length_map]
    -- the rows
    have row : ∀ {G : Hp} (i : Nat) (v : V) (r : List Nat), RnA G xs (M.map encR) → xs[i]? = some v → M[i]? = some r → ∃ p, v = .ref p ∧ G p = some (.lst (r.map nV)) := fun {G} i v r hG hv hri => by
      obtain ⟨zs, rfl, hz1, hz⟩ := hG.zipped
      rw [List.getElem?_map] at hv
      obtain ⟨z, hzi, rfl⟩ := Option.map_eq_some_iff.mp hv
      have h5 := congrArg (fun l => l[i]?) hz1
      simp only [List.getElem?_map, hzi, hri, Option.map_some] at h5
      have rz := hz z (List.mem_of_getElem? hzi)
      rw [← Option.some.inj h5] at rz
      unfold encR at rz
      obtain ⟨p, ys, hp, hp1, hp2⟩ := rz.listAt
      refine ⟨p, hp, ?_⟩
      rw [hp1]
      congr 2
      clear hp1 hri h5
      exact nats_of hp2
    walk_at "go"
    rename_i F H2 nF e2 vF q H3 nq e3 vq
    have nF0 : H F = none := Ex.free e1 nF
    have ha2 := e2.get ha1
    have vq' : H3 q = some (.lst (xs.drop 1)) := by rw [vq, show (1 : Int) = ((1 : Nat) : Int) from rfl, cutV_from]
    clear vq
    have vF3 := e3.get vF
    have ha3 := e3.get ha2
    have e03 := e1.trans (e2.trans e3)
    have qF : q ≠ F := fun z => by rw [z, vF] at nq; cases nq
    have aF : a ≠ F := fun z => by rw [z] at ha1; rw [nF] at ha1; cases ha1
    have hr3 := hr.ex e03
    clear hr1 ha1 ha2 vF
    refine for_runs (runs_zip K a q xs (xs.drop 1)) (fun i σ H' => (FrP F H3 H' ∧ ∃ fs : List Int, H' F = some (.lst (fs.map V.int)) ∧ fs.length = i ∧ ∀ j f, fs[j]? = some f → ∃ r s k, M[j]? = some r ∧ M[j + 1]? = some s ∧ IsPre r s k ∧ f = (k : Int) - 1) ∧ ∃ y2 y3 y4, σ = [some (.ref a), some (.ref F), y2, y3, y4]) ⟨⟨Fr.refl _, [], vF3, rfl, fun j f h => by simp at h⟩, _, _, _, rfl⟩ (fun i σ H' _ h => ⟨lst_of (h.1.1.get aF ha3), lst_of (h.1.1.get qF vq')⟩) ?_ ?_
    · rintro i x σ H4 H5 hi ⟨⟨f4, fs, g1, g2, g3⟩, y2, y3, y4, rfl⟩ ⟨Z, v, u, rfl, nZ, eZ, vZ, hv, hu⟩
      have hu' : xs[i + 1]? = some u := by rw [List.getElem?_drop] at hu; rw [← hu]; congr 1; omega
      have hi1 : i + 1 < M.length := by have := (List.getElem?_eq_some_iff.mp hu').1; omega
      have e34 : Ex (hid F H3) H5 := fun b o _ hb => by
        unfold hid at hb
        by_cases hbF : b = F
        · rw [if_pos hbF] at hb; cases hb
        · rw [if_neg hbF] at hb
          exact eZ.get (f4.get hbF hb)
      have hrh : RnA (hid F H3) xs (M.map encR) := hr.ex (fun b o _ hb => hid_get (e03.get hb) fun z => by rw [z, nF0] at hb; cases hb)
      have hr5 := hrh.ex e34
      obtain ⟨r, hr1⟩ : ∃ r, M[i]? = some r := ⟨M[i]'(by omega), List.getElem?_eq_getElem _⟩
      obtain ⟨s', hs1⟩ : ∃ r, M[i + 1]? = some r := ⟨M[i + 1]'(by omega), List.getElem?_eq_getElem _⟩
      obtain ⟨p, rfl, hp⟩ := row i v r hr5 hv hr1
      obtain ⟨p2, rfl, hp2⟩ := row (i + 1) u s' hr5 hu' hs1
      have lr := (m3 r (List.mem_of_getElem? hr1)).1
      have ls := (m3 s' (List.mem_of_getElem? hs1)).1
      have g15 := eZ.get g1
      have exH5 : Ex H H5 := fun b o n hb => eZ.get ((Ex.comp (M := fun b => b = F) e03 f4 fun b hb => by rw [hb]; exact nF0) b o n hb)
      walk_at "go"
      refine while_inv (fun w σ H' => H' = H5 ∧ ∃ k : Nat, k ≤ r.length ∧ (∀ j, j < k → r[j]? = s'[j]?) ∧ w = r.length - k ∧ σ = [some (.ref a), some (.ref F), some (.ref p), some (.ref p2), some (.int (k : Nat))]) ⟨_, rfl, 0, Nat.zero_le _, fun j h => absurd h (Nat.not_lt_zero _), rfl, rfl⟩ ?_
      rintro w σ H6 ⟨rfl, k, k1', k2', hw, rfl⟩
      walk_at "go"
      rw [List.length_map]
      have done : IsPre r s' k → (FrP F H3 (upd H6 F (.lst (fs.map V.int ++ [V.int ((k : Int) - 1)]))) ∧ ∃ fs' : List Int, upd H6 F (.lst (fs.map V.int ++ [V.int ((k : Int) - 1)])) F = some (.lst (fs'.map V.int)) ∧ fs'.length = i + 1 ∧ ∀ j f, fs'[j]? = some f → ∃ r s k, M[j]? = some r ∧ M[j + 1]? = some s ∧ IsPre r s k ∧ f = (k : Int) - 1) := fun hpre => by
        refine ⟨(f4.trans (Fr.ex eZ)).trans FrP.at, fs ++ [(k : Int) - 1], by rw [upd_same, List.map_append]; rfl, by rw [List.length_append, g2]; rfl, fun j f h => ?_⟩
        by_cases hj : j < fs.length
        · rw [List.getElem?_append_left hj] at h
          exact g3 j f h
        · rw [List.getElem?_append_right (by omega)] at h
          have : j - fs.length = 0 := by
            have := (List.getElem?_eq_some_iff.mp h).1
            rw [List.length_singleton] at this
            omega
          rw [this] at h
          cases h
          rw [show j = i by omega]
          exact ⟨r, s', k, hr1, hs1, hpre, rfl⟩
      by_cases c1 : k < r.length
      rotate_left
      · rw [if_neg (by simpa using c1)]
        refine wh_F rfl ?_
        walk_at "go"
        refine st_app g15 (by rw [List.length_map]; omega) ?_
        exact ⟨done ⟨k1', k2', .inl (by omega)⟩, _, _, _, rfl⟩
      rw [if_pos (by simpa using c1)]
      have q1 := List.getElem?_eq_getElem (l := r) (i := k) c1
      have q2 := List.getElem?_eq_getElem (l := s') (i := k) (by omega)
      walk_at "go"
      refine st_ixL hp (at_mapN (f := nV) q1) ?_
      walk_at "go"
      refine st_ixL hp2 (at_mapN (f := nV) q2) ?_
      unfold nV
      walk_at "go"
      by_cases c2 : r[k] = s'[k]'(by omega)
      · rw [decide_eq_true (by rw [c2])]
        refine wh_T rfl ?_
        walk_at "go"
        refine ⟨r.length - (k + 1), by omega, rfl, k + 1, by omega, fun j hj => ?_, rfl, rfl⟩
        by_cases hjk : j = k
        · rw [hjk, q1, q2, c2]
        · exact k2' j (by omega)
      · rw [decide_eq_false (by omega)]
        refine wh_F rfl ?_
        walk_at "go"
        refine st_app g15 (by rw [List.length_map]; omega) ?_
        exact ⟨done ⟨k1', k2', .inr (by rw [q1, q2]; exact fun z => c2 (Option.some.inj z))⟩, _, _, _, rfl⟩
    · rintro σ H4 ⟨⟨f4, fs, g1, g2, g3⟩, y2, y3, y4, rfl⟩
      have e04 : Ex H H4 := Ex.comp (M := fun b => b = F) e03 f4 fun b hb => by rw [hb]; exact nF0
      have hfl : fs.length = M.length - 1 := by rw [g2, List.length_drop]; omega
      have fsl : ∀ l, IsT l → l.length ≤ 96 → d = .list ((cntTb l).map encR) → M = cntTb l ∧ fs.map PyData.int = l.map encN := fun l hl hl2 hd => by
        rw [hM] at hd
        injection hd with hd
        have hMl := encRs_inj hd
        refine ⟨hMl, ?_⟩
        have h1 := cntTb_len l
        rw [← hMl] at h1
        refine List.ext_getElem? fun j => ?_
        by_cases hj : j < l.length
        · have q1 := List.getElem?_eq_getElem (l := fs) (i := j) (by omega)
          obtain ⟨r, s', k, w1, w2, w3, w4⟩ := g3 j _ q1
          rw [hMl, cntTb_at (by omega)] at w1
          rw [hMl, cntTb_at (by omega)] at w2
          rw [← Option.some.inj w1, ← Option.some.inj w2] at w3
          have := pre_cnt hl hj w3
          rw [List.getElem?_map, List.getElem?_map, q1, gT_some hj, w4, this]
          show some (PyData.int _) = some (PyData.int _)
          congr 2
          omega
        · rw [List.getElem?_eq_none (by rw [List.length_map]; omega), List.getElem?_eq_none (by rw [List.length_map]; omega)]
      have rnF : Rn H4 (.ref F) (.list (fs.map PyData.int)) := .lst g1 (rnA_map fun _ _ => .int _)
      walk_at "go"
      refine ⟨.ref F, _, rfl, rnF, fun b2 H5 e5 hb2 => ?_⟩
      cases b2 with
      | false =>
        have hn : ¬ CntD d := fun ⟨l, h1, h2, h3⟩ => Bool.false_ne_true (hb2.mpr ⟨l, .inl (by rw [(fsl l h1 h2 h3).2]), h1, h2⟩)
        walk_at "go"
        rename_i d2 H6 hd2 e6 hv2
        exact k0 hn d2 H6 (Ex.free (e04.trans e5) hd2) ((e04.trans e5).trans e6) hv2
      | true =>
        have ha5 := e5.get (f4.get aF ha3)
        have hx5 : Rn H5 (.ref a) (.list (M.map encR)) := hx.ex (e04.trans e5)
        walk_at "go"
        refine ⟨.ref F, _, rfl, rnF.ex e5, fun h => absurd (hb2.mp rfl) h, fun l hl hT hlen D rs H6 e6 nD nrs _ _ Tb => ?_⟩
        have hfl2 : fs.map PyData.int = l.map encN := by
          rcases hl with h | h
          · injection h
          · cases h
        have e06 := (e04.trans e5).trans e6
        walk_at "go"
        refine st_neD Tb.rp ((hx.ex e06).rp (tbl_nd M)) (by have := tbl_dp (cntTb l); omega) ?_
        rw [tbl_eqv]
        by_cases c : cntTb l = M
        · rw [decide_eq_true c]
          walk_at "go"
          refine k1 l hT hlen (by rw [hM, c]) F H6 e06 nF0 ?_
          rw [e6.get (e5.get g1)]
          congr 2
          refine List.ext_getElem? fun j => ?_
          have := congrArg (fun l => l[j]?) hfl2
          simp only [List.getElem?_map] at this ⊢
          cases q1 : fs[j]? with
          | none =>
            rw [q1] at this
            cases q2 : l[j]? with
            | none => rfl
            | some v => rw [q2] at this; cases this
          | some v =>
            rw [q1] at this
            cases q2 : l[j]? with
            | none => rw [q2] at this; cases this
            | some v2 =>
              rw [q2] at this
              have h2 : PyData.int v = encN v2 := Option.some.inj this
              unfold encN at h2
              injection h2 with h2
              rw [h2]
              rfl
        · rw [decide_eq_false c]
          have hn : ¬ CntD d := fun ⟨m, h1, h2, h3⟩ => by
            obtain ⟨w1, w2⟩ := fsl m h1 h2 h3
            rw [hfl2] at w2
            exact c (by rw [w1, encN_inj w2])
          walk_at "go"
          rename_i d2 H7 hd2 e7 hv2
          exact k0 hn d2 H7 (Ex.free e06 hd2) (e06.trans e7) hv2
def sp__law_cell (K : PySem.W.Frag) : Sp := fun vs H Q _ => ∃ (a : Addr) (ns : List Int) (j : Int), vs = [.ref a, .int j] ∧ SqL K H a (ns.map V.int) ∧ (0 ≤ j ∧ j < 1000000) ∧ ns.length ≤ 63 ∧ ∀ z : Int, Q (.int z) H
theorem ok__law_cell (T : Tx K mg ad fd tk) : FnOk P w K mg base CX0 1 (ad 9) (fd 9) ["_law_script", "_law_k"] (sp__law_cell K) := by
  refine T.d__law_cell.F.ok sc__law_cell (fun vs H Q E h => ?_) (fun cdv A outer s H vs Q E hr h => ?_)
  · obtain ⟨a, ns, j, rfl, _⟩ := h
    rfl
  · obtain ⟨a, ns, j, rfl, hs, hj, hl, k⟩ := h
    refine ⟨_, (pss_cons (ps_if (pt_cmpR o_lt (pv 1) (pe_callB (c_len (K := K)) (by rfl) T.b_len (by decide +kernel) (pa_cons (pv 0) pa_nil)) (nomark _)) (pss_one (ps_ret (pe_ix (i_ix (K := K)) (pv 0) (pv 1) (fun _ _ => rfl)))) pss_nil)
      (pss_one (ps_ret (pe_op o_add (pe_op o_mul pe_int (pv 1)) pe_int)))), ?_⟩
    walk_at "go"
    refine st_lenK hs ?_
    walk_at "go"
    refine st_br2 (fun c => ?_) (fun c => ?_)
    · walk_at "go"
      rw [List.length_map] at c
      obtain ⟨v, h2, h3⟩ := at_in (xs := ns.map V.int) hj.1 (by rw [List.length_map]; exact c)
      rw [List.getElem?_map] at h3
      cases q : ns[j.toNat]? with
      | none => rw [q] at h3; cases h3
      | some z =>
        rw [q] at h3
        cases h3
        exact st_ixK hs h2 (k z)
    · walk_at "go"
      exact k _
def sp__law_mix : Sp := fun vs H Q _ => ∃ c j : Int, vs = [.int c, .int j] ∧ (0 ≤ j ∧ j ≤ 100000) ∧ ∀ z : Int, 0 ≤ z → z < 2147483587 → Q (.int z) H
theorem ok__law_mix (T : Tx K mg ad fd tk) : FnOk P w K mg base CX0 1 (ad 10) (fd 10) ["_law_cell_here", "_law_k"] sp__law_mix := by
  refine T.d__law_mix.F.ok sc__law_mix (fun vs H Q E h => ?_) (fun cdv A outer s H vs Q E hr h => ?_)
  · obtain ⟨c, j, rfl, _⟩ := h
    rfl
  · obtain ⟨c, j, rfl, hj, k⟩ := h
    refine ⟨_, (pss_cons (ps_set (i := 2) sc__law_mix.nd rfl (Or.inl rfl) (pe_op o_mod (pe_op o_add (pe_op o_add (pe_op o_mul (pe_op o_mod (pv 0) pe_int) pe_int) (pe_op o_mul pe_int (pv 1))) pe_int) pe_int))
      (pss_cons (ps_set (i := 2) sc__law_mix.nd rfl (Or.inl rfl) (pe_op o_mod (pe_op o_add (pe_op o_add (pe_op o_mul (pv 2) (pv 2)) (pe_op o_mul pe_int (pv 1))) pe_int) pe_int))
      (pss_one (ps_ret (pe_op o_mod (pe_op o_mul (pv 2) (pe_op o_add (pv 2) pe_int)) pe_int))))), ?_⟩
    walk_at "go"
    have m1 := Int.emod_nonneg (c % 2147483629 * 48271 + 7919 * j + 101) (b := 2147483647) (by decide)
    have m2 := Int.emod_lt_of_pos (c % 2147483629 * 48271 + 7919 * j + 101) (b := 2147483647) (by decide)
    generalize (c % 2147483629 * 48271 + 7919 * j + 101) % 2147483647 = a at m1 m2 ⊢
    walk_at "go"
    have m3 := Int.emod_nonneg (a * a + 104729 * j + 7) (b := 2147483629) (by decide)
    have m4 := Int.emod_lt_of_pos (a * a + 104729 * j + 7) (b := 2147483629) (by decide)
    generalize (a * a + 104729 * j + 7) % 2147483629 = b at m3 m4 ⊢
    walk_at "go"
    exact k _ (Int.emod_nonneg _ (by decide)) (Int.emod_lt_of_pos _ (by decide))
/-- each number below its base -/
def Digs (bs ns : List Int) : Prop := ns.length = bs.length ∧ ∀ (i : Nat) (n : Int), ns[i]? = some n → ∃ b : Int, bs[i]? = some b ∧ 0 ≤ n ∧ n < b
def sp__law_takes : Sp := fun vs H Q _ => ∃ (c : Int) (p : Addr) (bs : List Int), vs = [.int c, .ref p] ∧ H p = some (.lst (bs.map V.int)) ∧ (∀ b ∈ bs, 0 < b ∧ b < 1267650600228229401496703205376) ∧ bs.length ≤ 1000 ∧ ∀ q H' (ns : List Int), Ex H H' → H q = none → H' q = some (.lst (ns.map V.int)) → Digs bs ns → Q (.ref q) H'
theorem ok__law_takes (T : Tx K mg ad fd tk) : FnOk P w K mg base CX0 2 (ad 11) (fd 11) ["_law_cell_here", "_law_bases"] sp__law_takes := by
  refine T.d__law_takes.F.ok sc__law_takes (fun vs H Q E h => ?_) (fun cdv A outer s H vs Q E hr h => ?_)
  · obtain ⟨c, p, bs, rfl, _⟩ := h
    rfl
  · obtain ⟨c, p, bs, rfl, hp, hb, hl, k⟩ := h
    refine ⟨_, (pss_cons (ps_set (i := 2) sc__law_takes.nd rfl (Or.inl rfl) (pe_lst pa_nil))
      (pss_cons (ps_set (i := 3) sc__law_takes.nd rfl (Or.inl rfl) (pv 0))
      (pss_cons (ps_for PassesOwn.never rfl (pi_enum rfl T.b_enumerate (pa_cons (pv 1) pa_nil)) (pg_tup rfl (pgs_cons (pg_name (i := 4) sc__law_takes.nd rfl (Or.inl rfl)) (pgs_cons (pg_name (i := 5) sc__law_takes.nd rfl (Or.inl rfl)) pgs_nil))) (pss_one (ps_if (pt_cmpR o_lt (pv 0) (pe_op o_pow pe_int pe_int) (nomark _)) (pss_one (ps_expr (pe_bm PySem.F.plainAttrs_list PySem.F.slot_list_append PySem.F.type_list_append mt_append (pv 2) (pa_cons (pe_op o_mod (pe_call (ok__law_mix T) (hr.mono (by decide)) rfl T.d__law_mix.g T.d__law_mix.F.kp T.d__law_mix.b .nil pass0 (pa_cons (pv 0) (pa_cons (pv 4) pa_nil))) (pv 5)) pa_nil)))) (pss_cons (ps_expr (pe_bm PySem.F.plainAttrs_list PySem.F.slot_list_append PySem.F.type_list_append mt_append (pv 2) (pa_cons (pe_op o_mod (pv 3) (pv 5)) pa_nil)))
      (pss_one (ps_set (i := 3) sc__law_takes.nd rfl (Or.inl rfl) (pe_op o_divW (pv 3) (pv 5))))))))
      (pss_one (ps_ret (pv 2)))))), ?_⟩
    walk_at "go"
    rename_i q H1 n1 e1 v1
    have hp1 := e1.get hp
    have hqp : q ≠ p := fun z => by rw [z, hp] at n1; cases n1
    refine for_runs (runs_enum K p _) (fun i σ H' => (FrP q H1 H' ∧ ∃ ns : List Int, H' q = some (.lst (ns.map V.int)) ∧ ns.length = i ∧ ∀ (j : Nat) (n : Int), ns[j]? = some n → ∃ b : Int, bs[j]? = some b ∧ 0 ≤ n ∧ n < b) ∧ ∃ z y u, σ = [some (.int c), some (.ref p), some (.ref q), some (.int z), y, u]) ⟨⟨Fr.refl _, [], v1, rfl, fun j n h => by simp at h⟩, c, _, _, rfl⟩ (fun i σ H' _ h => lst_of (h.1.1.get (fun z => hqp z.symm) hp1)) ?_ ?_
    · rintro i x σ H3 H4 hi ⟨⟨f3, ns, h1, h2, h3⟩, z, y, u, rfl⟩ ⟨T, v, rfl, nT, eT, vT, hv⟩
      rw [List.length_map] at hi
      obtain ⟨b, hbi⟩ : ∃ b, bs[i]? = some b := ⟨bs[i]'(by omega), List.getElem?_eq_getElem _⟩
      rw [List.getElem?_map, hbi] at hv
      have hvb : v = .int b := (Option.some.inj hv).symm
      subst hvb
      have hb' := hb b (List.mem_of_getElem? hbi)
      have h1' := eT.get h1
      have fin : ∀ n : Int, 0 ≤ n → n < b → ∀ (j : Nat) (m : Int), (ns ++ [n])[j]? = some m → ∃ b : Int, bs[j]? = some b ∧ 0 ≤ m ∧ m < b := fun n n0 n1 j m h => by
        by_cases hj : j < ns.length
        · rw [List.getElem?_append_left hj] at h
          exact h3 j m h
        · rw [List.getElem?_append_right (by omega)] at h
          have : j - ns.length = 0 := by
            have := (List.getElem?_eq_some_iff.mp h).1
            rw [List.length_singleton] at this
            omega
          rw [this] at h
          cases h
          refine ⟨b, ?_, n0, n1⟩
          rw [show j = i by omega]
          exact hbi
      walk_at "go"
      refine st_br2 (fun c1 => ?_) (fun c1 => ?_)
      · walk_at "go"
        refine ⟨_, _, rfl, by omega, fun m m0 m1 => ?_⟩
        walk_at "go"
        refine st_app h1' (by rw [List.length_map]; omega) ?_
        exact ⟨⟨(f3.trans (Fr.ex eT)).trans FrP.at, ns ++ [m % b], by rw [upd_same, List.map_append]; rfl, by rw [List.length_append, h2]; rfl, fin _ (Int.emod_nonneg _ (by omega)) (Int.emod_lt_of_pos _ (by omega))⟩, _, _, _, rfl⟩
      · walk_at "go"
        refine st_app h1' (by rw [List.length_map]; omega) ?_
        walk_at "go"
        exact ⟨⟨(f3.trans (Fr.ex eT)).trans FrP.at, ns ++ [z % b], by rw [upd_same, List.map_append]; rfl, by rw [List.length_append, h2]; rfl, fin _ (Int.emod_nonneg _ (by omega)) (Int.emod_lt_of_pos _ (by omega))⟩, _, _, _, rfl⟩
    · rintro σ H3 ⟨⟨f3, ns, h1, h2, h3⟩, z, y, u, rfl⟩
      rw [List.length_map] at h2
      walk_at "go"
      exact k q H3 ns (Ex.comp (M := fun b => b = q) e1 f3 fun b hb => by rw [hb]; exact n1) n1 h1 ⟨h2, h3⟩
def sp__law_many : Sp := fun vs H Q _ => ∃ (c : Int), vs = [.int c] ∧ ∀ (n : Nat) H', n ≤ 96 → Ex H H' → Q (.int (n : Nat)) H'
theorem four_of {bs ns : List Int} (h : Digs bs ns) (hl : bs.length = 4) : ∃ a b c d : Int, ns = [a, b, c, d] := by
  have := h.1
  match ns, (show ns.length = 4 by omega) with
  | [a, b, c, d], _ => exact ⟨a, b, c, d, rfl⟩
theorem ok__law_many (T : Tx K mg ad fd tk) : FnOk P w K mg base CX0 3 (ad 12) (fd 12) ["_law_cell_here"] sp__law_many := by
  refine T.d__law_many.F.ok sc__law_many (fun vs H Q E h => ?_) (fun cdv A outer s H vs Q E hr h => ?_)
  · obtain ⟨c, rfl, _⟩ := h
    rfl
  · obtain ⟨c, rfl, k⟩ := h
    refine ⟨_, (pss_cons (ps_asg (pe_call (ok__law_takes T) (hr.mono (by decide)) rfl T.d__law_takes.g T.d__law_takes.F.kp T.d__law_takes.b .nil pass0 (pa_cons (pv 0) (pa_cons (pe_lst (pa_cons pe_int (pa_cons pe_int (pa_cons pe_int (pa_cons pe_int pa_nil))))) pa_nil))) (pg_lst rfl (pgs_cons (pg_name (i := 1) sc__law_many.nd rfl (Or.inl rfl)) (pgs_cons (pg_name (i := 2) sc__law_many.nd rfl (Or.inl rfl)) (pgs_cons (pg_name (i := 3) sc__law_many.nd rfl (Or.inl rfl)) (pgs_cons (pg_name (i := 4) sc__law_many.nd rfl (Or.inl rfl)) pgs_nil))))))
      (pss_cons (ps_if (pt_cmpR (o_eq hr.units) (pv 1) pe_int (nomark _)) (pss_one (ps_ret (pv 4))) pss_nil)
      (pss_cons (ps_if (pt_cmpR o_lt (pv 1) pe_int (nomark _)) (pss_one (ps_ret (pv 3))) pss_nil)
      (pss_one (ps_ret (pv 2)))))), ?_⟩
    walk_at "go"
    rename_i p H1 n1 e1 v1
    refine ⟨c, p, [32, 9, 25, 97], rfl, v1, by decide, by decide, fun q H2 ns e2 n2 v2 hd => ?_⟩
    obtain ⟨x0, x1, x2, x3, rfl⟩ := four_of hd rfl
    obtain ⟨_, h0, a0, b0⟩ := hd.2 0 _ rfl
    obtain ⟨_, h1, a1, b1⟩ := hd.2 1 _ rfl
    obtain ⟨_, h2, a2, b2⟩ := hd.2 2 _ rfl
    obtain ⟨_, h3, a3, b3⟩ := hd.2 3 _ rfl
    cases h0
    cases h1
    cases h2
    cases h3
    replace v2 : H2 q = some (.lst [.int x0, .int x1, .int x2, .int x3]) := v2
    have kk : ∀ z : Int, 0 ≤ z → z ≤ 96 → Q (.int z) H2 := fun z z0 z1 => by
      have := k z.toNat H2 (by omega) (e1.trans e2)
      rwa [show ((z.toNat : Nat) : Int) = z by omega] at this
    walk_at "go"
    refine st_br2 (fun c1 => ?_) (fun c1 => ?_)
    · walk_at "go"
      exact kk _ (by omega) (by omega)
    walk_at "go"
    refine st_br2 (fun c1 => ?_) (fun c1 => ?_)
    · walk_at "go"
      exact kk _ (by omega) (by omega)
    walk_at "go"
    exact kk _ (by omega) (by omega)
theorem rgDown_at {n : Nat} : ∀ {i : Nat} {b : Int}, (rgL (n : Nat) (-1) n)[i]? = some b → b = (n : Int) - i ∧ i < n := by
  intro i b h
  unfold rgL at h
  rw [List.getElem?_map] at h
  cases q : (List.range n)[i]? with
  | none => rw [q] at h; cases h
  | some j =>
    rw [q] at h
    have hj := List.getElem?_eq_some_iff.mp q
    obtain ⟨h1, h2⟩ := hj
    rw [List.getElem_range] at h2
    rw [List.length_range] at h1
    have h3 : ((n : Nat) : Int) + ((j : Nat) : Int) * (-1) = b := Option.some.inj h
    omega
theorem erase_nV (l : List Nat) (j : Nat) : (l.map nV).eraseIdx j = (l.eraseIdx j).map nV := by
  rw [List.eraseIdx_eq_take_drop_succ, List.eraseIdx_eq_take_drop_succ, List.map_append, List.map_take, List.map_drop]
theorem erase_perm {l : List Nat} {j : Nat} (h : j < l.length) : (l[j] :: l.eraseIdx j).Perm l := by
  have e : l = l.take j ++ l[j] :: l.drop (j + 1) := by
    conv => lhs; rw [← List.take_append_drop j l, List.drop_eq_getElem_cons h]
  rw [List.eraseIdx_eq_take_drop_succ]
  conv => rhs; rw [e]
  exact List.perm_middle.symm
def sp__law_turning : Sp := fun vs H Q _ => ∃ (c : Int) (n : Nat), vs = [.int c, .int (n : Nat)] ∧ n ≤ 96 ∧ ∀ (l : List Nat) q H', Ex H H' → H q = none → H' q = some (.lst (l.map nV)) → IsT l → l.length = n → Q (.ref q) H'
theorem ok__law_turning (T : Tx K mg ad fd tk) : FnOk P w K mg base CX0 3 (ad 13) (fd 13) ["_law_cell_here", "_law_many_here"] sp__law_turning := by
  refine T.d__law_turning.F.ok sc__law_turning (fun vs H Q E h => ?_) (fun cdv A outer s H vs Q E hr h => ?_)
  · obtain ⟨c, n, rfl, _⟩ := h
    rfl
  · obtain ⟨c, n, rfl, hn, k⟩ := h
    refine ⟨_, (pss_cons (ps_set (i := 2) sc__law_turning.nd rfl (Or.inl rfl) (pe_listRgC rfl (by rfl) T.b_list (prgC (by rfl) T.b_range (pa_cons (pv 1) pa_nil))))
      (pss_cons (ps_set (i := 3) sc__law_turning.nd rfl (Or.inl rfl) (pe_lst pa_nil))
      (pss_cons (ps_for PassesOwn.never rfl (pi_list (pe_call (ok__law_takes T) (hr.mono (by decide)) rfl T.d__law_takes.g T.d__law_takes.F.kp T.d__law_takes.b .nil pass0 (pa_cons (pv 0) (pa_cons (pe_listRgC rfl (by rfl) T.b_list (prgC (by rfl) T.b_range (pa_cons (pv 1) (pa_cons pe_int (pa_cons (pe_un un_neg pe_int) pa_nil))))) pa_nil)))) (pg_name (i := 4) sc__law_turning.nd rfl (Or.inl rfl)) (pss_one (ps_expr (pe_bm PySem.F.plainAttrs_list PySem.F.slot_list_append PySem.F.type_list_append mt_append (pv 3) (pa_cons (pe_bm PySem.F.plainAttrs_list PySem.F.slot_list_pop PySem.F.type_list_pop mt_popAt (pv 2) (pa_cons (pv 4) pa_nil)) pa_nil)))))
      (pss_one (ps_ret (pv 3)))))), ?_⟩
    walk_at "go"
    rename_i L H1 n1 e1 v1 F H2 n2 e2 v2 b H3 n3 e3 v3
    have e13 := e2.trans e3
    rw [show ((n : Nat) : Int) - 0 = (n : Nat) by omega, Int.toNat_natCast] at v1 v3
    refine ⟨c, b, _, rfl, v3, fun x hx => ?_, ?_, fun d H4 ns e4 n4 v4 hd => ?_⟩
    · obtain ⟨i, hi⟩ := List.getElem?_of_mem hx
      obtain ⟨h1, h2⟩ := rgDown_at hi
      omega
    · unfold rgL; rw [List.length_map, List.length_range]; omega
    have hnl : ns.length = n := by
      rw [hd.1]
      unfold rgL
      rw [List.length_map, List.length_range]
    have v1' : H1 L = some (.lst ((List.range n).map nV)) := by
      rw [v1, rgL_up, List.map_map]
      rfl
    have vL := (e13.trans e4).get v1'
    have vF := (e3.trans e4).get v2
    have FL : F ≠ L := fun z => by rw [z, v1] at n2; cases n2
    have n0L : H L = none := n1
    have n0F : H F = none := Ex.free e1 n2
    have e04 := e1.trans (e13.trans e4)
    have dL : L ≠ d := fun z => by rw [← z, e13.get v1'] at n4; cases n4
    have dF : F ≠ d := fun z => by rw [← z, e3.get v2] at n4; cases n4
    let M : Addr → Prop := fun b => b = L ∨ b = F
    have ex : ∀ {H'}, Fr M H4 H' → Ex H H' := fun f => Ex.comp (M := M) e04 f fun b hb => by
      rcases hb with h | h
      · rw [h]; exact n0L
      · rw [h]; exact n0F
    walk_at "go"
    refine for_runs (runs_list K d _) (fun i σ H' => (Fr M H4 H' ∧ ∃ ls fs : List Nat, H' L = some (.lst (ls.map nV)) ∧ H' F = some (.lst (fs.map nV)) ∧ (fs ++ ls).Perm (List.range n) ∧ fs.length = i) ∧ ∃ y, σ = [some (.int c), some (.int (n : Nat)), some (.ref L), some (.ref F), y]) ⟨⟨Fr.refl _, _, [], vL, vF, .refl _, rfl⟩, _, rfl⟩ (fun i σ H' _ h => lst_of (h.1.1.get (fun z => by rcases z with z | z; exact dL z.symm; exact dF z.symm) v4)) ?_ ?_
    · rintro i x σ H0 H5 hi ⟨⟨f5, ls, fs, h1, h2, h3, h4⟩, y, rfl⟩ ⟨rfl, hx⟩
      rw [List.length_map, hnl] at hi
      obtain ⟨m, hm⟩ : ∃ m, ns[i]? = some m := ⟨ns[i]'(by omega), List.getElem?_eq_getElem _⟩
      rw [List.getElem?_map, hm] at hx
      have hxm : x = .int m := (Option.some.inj hx).symm
      subst hxm
      obtain ⟨b', hb1, hb2, hb3⟩ := hd.2 i m hm
      obtain ⟨rfl, _⟩ := rgDown_at hb1
      have hll : ls.length = n - i := by
        have := h3.length_eq
        rw [List.length_append, List.length_range] at this
        omega
      have hj : m.toNat < ls.length := by omega
      walk_at "go"
      refine st_popAt h1 hb2 (by omega) (y := nV (ls[m.toNat]'hj)) (by rw [List.getElem?_map, List.getElem?_eq_getElem hj]; rfl) ?_
      have h2' : upd H5 L (.lst ((ls.map nV).eraseIdx m.toNat)) F = some (.lst (fs.map nV)) := by rw [upd_ne FL]; exact h2
      have h1' : upd H5 L (.lst ((ls.map nV).eraseIdx m.toNat)) L = some (.lst ((ls.eraseIdx m.toNat).map nV)) := by rw [upd_same, erase_nV]
      have f6 : Fr M H4 (upd H5 L (.lst ((ls.map nV).eraseIdx m.toNat))) := f5.trans (Fr.at (.inl rfl))
      generalize upd H5 L (.lst ((ls.map nV).eraseIdx m.toNat)) = H6 at h1' h2' f6 ⊢
      walk_at "go"
      refine st_app h2' (by rw [List.length_map]; omega) ?_
      refine ⟨⟨f6.trans (Fr.at (.inr rfl)), ls.eraseIdx m.toNat, fs ++ [ls[m.toNat]'hj], by rw [upd_ne FL.symm]; exact h1', by rw [upd_same, List.map_append]; rfl, ?_, by rw [List.length_append, h4]; rfl⟩, _, rfl⟩
      rw [List.append_assoc]
      exact ((erase_perm hj).append_left fs).trans h3
    · rintro σ H5 ⟨⟨f5, ls, fs, h1, h2, h3, h4⟩, y, rfl⟩
      rw [List.length_map, hnl] at h4
      have hll : ls = [] := by
        have := h3.length_eq
        rw [List.length_append, List.length_range] at this
        exact List.length_eq_zero_iff.mp (by omega)
      rw [hll, List.append_nil] at h3
      walk_at "go"
      exact k fs F H5 (ex f5) n0F h2 (IsT.of_perm_range h3) h4
def sp__law_whole : Sp := fun vs H Q _ => ∃ x, vs = [x] ∧ Ty H x ∧ Q (.bl (isWholeV x)) H
theorem ok__law_whole (T : Tx K mg ad fd tk) : FnOk P w K mg base CX0 1 (ad 14) (fd 14) ["_law_thing"] sp__law_whole := by
  refine T.d__law_whole.F.ok sc__law_whole (fun vs H Q E h => ?_) (fun cdv A outer s H vs Q E hr h => ?_)
  · obtain ⟨x, rfl, _⟩ := h
    rfl
  · obtain ⟨x, rfl, ht, k⟩ := h
    refine ⟨_, (pss_one (ps_ret (pe_and (pe_callB c_is (by rfl) T.b_isinstance (by decide +kernel) (pa_cons (pv 0) (pa_cons (pe_bltn (v := .ty "int") rfl T.b_int (by decide +kernel) rfl) pa_nil))) (pe_one (pe_not (pe_callB c_is (by rfl) T.b_isinstance (by decide +kernel) (pa_cons (pv 0) (pa_cons (pe_bltn (v := .ty "bool") rfl T.b_bool (by decide +kernel) rfl) pa_nil)))))))), ?_⟩
    walk_at "go"
    refine st_isIntT ht ?_
    walk_at "go"
    cases x with
    | int i =>
      refine st_T rfl ?_
      walk_at "go"
      exact k
    | bl b =>
      refine st_T rfl ?_
      walk_at "go"
      exact k
    | _ =>
      refine st_F rfl ?_
      walk_at "go"
      exact k
def sp__law_list : Sp := fun vs H Q _ => ∃ (p q : Addr) (xs ys : List Nat), vs = [.ref p, .ref q] ∧ H p = some (.lst (xs.map nV)) ∧ H q = some (.lst (ys.map nV)) ∧ xs.length ≤ 100000 ∧ ∀ H', Ex H H' → Q (.bl (decide (xs = ys))) H'
theorem ok__law_list (T : Tx K mg ad fd tk) : FnOk P w K mg base CX0 2 (ad 15) (fd 15) ["_law_found", "_law_due"] sp__law_list := by
  refine T.d__law_list.F.ok sc__law_list (fun vs H Q E h => ?_) (fun cdv A outer s H vs Q E hr h => ?_)
  · obtain ⟨p, q, xs, ys, rfl, _⟩ := h
    rfl
  · obtain ⟨p, q, xs, ys, rfl, hp, hq, hl, k⟩ := h
    refine ⟨_, (pss_cons (ps_if (PW.pt (pw_or (pt_not (pt_val (pe_callB c_is (by rfl) T.b_isinstance (by decide +kernel) (pa_cons (pv 0) (pa_cons (pe_bltn (v := .ty "list") rfl T.b_list (by decide +kernel) rfl) pa_nil))))) (pw_or1 (pt_cmpR (o_ne hr.units) (pv 0) (pv 1) (nomark _))))) (pss_one (ps_ret pe_bl)) pss_nil)
      (pss_one (ps_ret (pe_cmpR (o_eq hr.units) (pe_callB (c_len (K := K)) (by rfl) T.b_len (by decide +kernel) (pa_cons (pe_lc (own := [("_law_number", 2)]) (g := gName 2) rfl sc__law_list.nd (pi_list (pv 0)) (blkOk_by (own := [("_law_number", 2)]) (N := N__law_list) (sc := defScope s__law_list) (by decide +kernel)) (fun _ _ _ _ _ => pg_name (i := 2) sc__law_list.nd rfl (Or.inl rfl)) (fun _ _ _ _ _ => pts_one (pt_val (pe_call (ok__law_whole T) (hr.mono (by decide)) rfl T.d__law_whole.g T.d__law_whole.F.kp T.d__law_whole.b .nil pass0 (pa_cons (pv 2) pa_nil)))) (fun _ _ _ _ _ => (pv 2))) pa_nil)) (pe_callB (c_len (K := K)) (by rfl) T.b_len (by decide +kernel) (pa_cons (pv 1) pa_nil)) (nomark _))))), ?_⟩
    walk_at "go"
    refine st_neD (rpN hp) (rpN hq) (by have := depthN xs; omega) ?_
    rw [eqvN]
    by_cases h : xs = ys
    rotate_left
    · rw [decide_eq_false h]
      have k2 := k H (Fr.refl _)
      rw [decide_eq_false h] at k2
      walk_at "go"
      exact k2
    rw [decide_eq_true h]
    walk_at "go"
    refine lc_pure (rv_list K p xs nV) (fun H' e => lst_of (e.get hp)) (by omega) (fun _ => true) (fun x => nV x) ?_ ?_
    · intro y H' hy e B A' h1 h2
      refine ⟨rfl, ?_⟩
      walk_at "go"
      refine ⟨nV y, rfl, ⟨_, rfl⟩, ?_⟩
      refine ⟨_, rfl, st_T rfl ?_⟩
      walk_at "go"
      exact h1 rfl _ (Fr.refl _)
    · intro D H1 hD e1 hd1
      rw [List.filter_eq_self.mpr (fun _ _ => rfl)] at hd1
      have hq1 := e1.get hq
      walk_at "go"
      have k2 := k H1 e1
      rw [decide_eq_true h] at k2
      rw [decide_eq_true (by rw [List.length_map, List.length_map, h])]
      exact k2
def sp__law_counts : Sp := fun vs H Q _ => ∃ (a : Addr) (l : List Nat), vs = [.ref a] ∧ H a = some (.lst (l.map nV)) ∧ l.length ≤ 96 ∧ ∀ D rs H', Ex H H' → H D = none → (∀ r ∈ rs, H r = none) → Tbl H' D rs (cntTb l) → Q (.ref D) H'
theorem ok__law_counts (T : Tx K mg ad fd tk) : FnOk P w K mg base CX0 1 (ad 16) (fd 16) ["_law_turning_here"] sp__law_counts := by
  refine T.d__law_counts.F.ok sc__law_counts (fun vs H Q E h => ?_) (fun cdv A outer s H vs Q E hr h => ?_)
  · obtain ⟨a, l, rfl, _⟩ := h
    rfl
  · obtain ⟨a, l, rfl, ha, hl2, k⟩ := h
    refine ⟨_, (pss_cons (ps_set (i := 1) sc__law_counts.nd rfl (Or.inl rfl) (pe_lst (pa_cons (pe_lc (own := [("_law_place", 3)]) (g := gName 3) rfl sc__law_counts.nd (pi_range1 rfl T.b_range (pa_cons (pe_op o_add (pe_callB (c_len (K := K)) (by rfl) T.b_len (by decide +kernel) (pa_cons (pv 0) pa_nil)) pe_int) pa_nil)) (blkOk_by (own := [("_law_place", 3)]) (N := N__law_counts) (sc := defScope s__law_counts) (by decide +kernel)) (fun _ _ _ _ _ => pg_name (i := 3) sc__law_counts.nd rfl (Or.inl rfl)) (fun _ _ _ _ _ => pts_nil) (fun _ _ _ _ _ => pe_int)) pa_nil)))
      (pss_cons (ps_for PassesOwn.never rfl (pi_range3 rfl T.b_range (pa_cons (pe_op o_sub (pe_callB (c_len (K := K)) (by rfl) T.b_len (by decide +kernel) (pa_cons (pv 0) pa_nil)) pe_int) (pa_cons (pe_un un_neg pe_int) (pa_cons (pe_un un_neg pe_int) pa_nil)))) (pg_name (i := 2) sc__law_counts.nd rfl (Or.inr rfl)) (pss_one (ps_set (i := 1) sc__law_counts.nd rfl (Or.inl rfl) (pe_op o_add (pe_lst (pa_cons (pe_lc (own := [("_law_place", 3), ("_law_many_here", 4)]) (g := gTup K 2 (gCons (gName 3) (gCons (gName 4) gNil))) rfl sc__law_counts.nd (pi_enum rfl T.b_enumerate (pa_cons (pe_ix (i_ix (K := K)) (pv 1) pe_int (fun _ _ => rfl)) pa_nil)) (blkOk_by (own := [("_law_place", 3), ("_law_many_here", 4)]) (N := N__law_counts) (sc := defScope s__law_counts) (by decide +kernel)) (fun _ _ _ _ _ => (pg_tup rfl (pgs_cons (pg_name (i := 3) sc__law_counts.nd rfl (Or.inl rfl)) (pgs_cons (pg_name (i := 4) sc__law_counts.nd rfl (Or.inl rfl)) pgs_nil)))) (fun _ _ _ _ _ => pts_nil) (fun _ _ _ _ _ => (pe_op o_add (pv 4) (pe_callTy c_int (by rfl) T.b_int (by decide +kernel) (pa_cons (pe_cmpR o_gt (pv 3) (pe_ix (i_ix (K := K)) (pv 0) (pv 2) (fun _ _ => rfl)) (nomark _)) pa_nil))))) pa_nil)) (pv 1)))))
      (pss_one (ps_ret (pv 1))))), ?_⟩
    walk_at "go"
    rw [List.length_map]
    refine lc_map (rv_range 0 _) (fun _ _ => trivial) (by rw [List.length_range]; omega) (fun _ => V.int 0) ?_ ?_
    · intro y H' hy e B h2
      refine ⟨rfl, ?_⟩
      walk_at "go"
      exact h2 _ (Fr.refl _)
    intro r0 H1 n0 e1 v1
    have v1' : H1 r0 = some (rowO (cntRow l l.length)) := by
      rw [v1, cntRow_end (Nat.le_refl _)]
      rw [show (((l.length : Nat) : Int) + 1).toNat = l.length + 1 by omega]
      show _ = some (HO.lst (((List.range (l.length + 1)).map fun _ => 0).map nV))
      rw [List.map_map]
      rfl
    walk_at "go"
    rename_i D0 H2 nD e2 v2
    have ha2 := (e1.trans e2).get ha
    rw [List.length_map]
    walk_at "go"
    refine st_isR3 l.length (rgc_down rfl (by omega)) ?_
    have T0 : Tbl H2 D0 [r0] ((List.range' (l.length - 0) (0 + 1)).map fun i => cntRow l i) := ⟨v2, .cons (e2.get v1') .nil⟩
    refine for_runs (runs_rangeC _ _ _) (fun t σ H' => Ex H H' ∧ ∃ D rs, H D = none ∧ (∀ r ∈ rs, H r = none) ∧ Tbl H' D rs ((List.range' (l.length - t) (t + 1)).map fun i => cntRow l i) ∧ ∃ y2 y3 y4, σ = [some (.ref a), some (.ref D), y2, y3, y4]) ⟨e1.trans e2, D0, [r0], Ex.free e1 nD, fun r hr => by rw [List.mem_singleton.mp hr]; exact n0, T0, _, _, _, rfl⟩ (fun _ _ _ _ _ => trivial) ?_ ?_
    · rintro t x σ H0 H3 ht ⟨e3, D, rs, fD, frs, T3, y2, y3, y4, rfl⟩ ⟨rfl, rfl⟩
      have ha3 := e3.get ha
      obtain ⟨i, hi⟩ : ∃ i, i = l.length - 1 - t := ⟨_, rfl⟩
      have hit : l.length - t = i + 1 := by omega
      have hil : i < l.length := by omega
      rw [hit, List.range'_succ, List.map_cons] at T3
      rw [show ((l.length : Nat) : Int) - 1 + ((t : Nat) : Int) * -1 = (i : Nat) by omega]
      have hlen := T3.len
      rw [List.length_cons, List.length_map, List.length_range'] at hlen
      obtain ⟨r1, rs', rfl⟩ : ∃ r1 rs', rs = r1 :: rs' := by
        cases rs with
        | nil => simp at hlen
        | cons r1 rs' => exact ⟨r1, rs', rfl⟩
      have hr1 : H3 r1 = some (.lst ((cntRow l (i + 1)).map nV)) := by
        have := T3.rows
        rw [List.map_cons] at this
        cases this with
        | cons h1 _ => exact h1
      walk_at "go"
      refine st_ixL (i := 0) T3.at_ (at_nat (i := 0) (a := V.ref r1) rfl) ?_
      walk_at "go"
      refine lc_turns (runs_enum K r1 _) (fun i x H H' h => by obtain ⟨_, _, _, _, h, _⟩ := h; exact h) (fun H' e => lst_of (e.get hr1)) (by rw [List.length_map, cntRow_len]; omega) (fun j => nV (cntT l i j)) ?_ ?_ gTup_mono
      · rintro j x H5 H6 hj e5 ⟨T, v, rfl, nT, eT, vT, hv⟩ B h2
        rw [List.length_map, cntRow_len] at hj
        obtain ⟨_, rfl⟩ := nV_at hv
        rw [cntRow_at (by omega)] at vT
        have ha6 := (e5.trans eT).get ha3
        walk_at "go"
        refine ⟨rfl, ?_⟩
        unfold nV at vT ⊢
        walk_at "go"
        refine st_ixL ha6 (at_nV hil) ?_
        unfold nV
        walk_at "go"
        have hh := h2 _ (Fr.refl _)
        unfold nV at hh
        rw [cntT_at hil, Int.natCast_add] at hh
        by_cases c : gT l i < j
        · rw [if_pos c] at hh
          rw [if_pos (decide_eq_true (by omega))]
          exact hh
        · rw [if_neg c] at hh
          rw [if_neg (by rw [decide_eq_false (by omega)]; decide)]
          exact hh
      intro r H5 nr e5 v5
      rw [List.length_map, cntRow_len] at v5
      have v5' : H5 r = some (rowO (cntRow l i)) := by
        rw [v5]
        unfold rowO cntRow
        rw [List.map_map]
        rfl
      have T5 := T3.ex e5
      have t5 := T5.at_
      have hrl : rs'.length ≤ 97 := by rw [List.length_cons] at hlen; omega
      walk_at "go"
      rename_i b H6 nb e6 v6 D' H7 nD' e7 v7
      have e67 := e6.trans e7
      refine ⟨e3.trans (e5.trans e67), D', r :: r1 :: rs', Ex.free (e3.trans (e5.trans e6)) nD', ?_, ?_, _, _, _, rfl⟩
      · intro z hz
        rcases List.mem_cons.mp hz with h | h
        · rw [h]; exact Ex.free e3 nr
        · exact frs z h
      · refine ⟨v7, ?_⟩
        rw [show l.length - (t + 1) = i by omega, List.range'_succ, List.map_cons, List.map_cons]
        refine .cons (e67.get v5') ?_
        rw [List.range'_succ, List.map_cons]
        exact T5.rows.ex e67
    · rintro σ H3 ⟨e3, D, rs, fD, frs, T3, y2, y3, y4, rfl⟩
      walk_at "go"
      rw [Nat.sub_self, ← List.range_eq_range'] at T3
      exact k D rs H3 e3 fD frs T3
/-- a thing that is handed round: a list of its own, or no list -/
def OdT (H0 H : Hp) (x : V) : Prop := (∃ q xs ds, x = .ref q ∧ H0 q = none ∧ H q = some (.lst xs) ∧ RnA (hid q H) xs ds ∧ PyData.hasDictAll ds = false ∧ PyData.depthAll ds ≤ 3 ∧ xs.length ≤ 1000) ∨ (∃ d, Rn H x d ∧ isListD d = false ∧ (d.hasDict = true → d = .dict []) ∧ d.depth ≤ 4)
theorem OdT.list {H H1 H2 : Hp} {q : Addr} {xs : List V} {ds : List PyData} (e1 : Ex H H1) (n : H1 q = none) (e2 : Ex H1 H2) (h : H2 q = some (.lst xs)) (r : RnA H1 xs ds) (nd : PyData.hasDictAll ds = false) (dp : PyData.depthAll ds ≤ 3) (hl : xs.length ≤ 1000) : OdT H H2 (.ref q) :=
  .inl ⟨q, xs, ds, rfl, Ex.free e1 n, h, r.ex (fun b o _ hb => hid_get (e2.get hb) (fun z => by rw [z, n] at hb; cases hb)), nd, dp, hl⟩
theorem OdT.rn {H0 H : Hp} {x : V} (h : OdT H0 H x) : ∃ d, Rn H x d ∧ (d.hasDict = true → d = .dict []) ∧ d.depth ≤ 4 := by
  rcases h with ⟨q, xs, ds, rfl, _, hq, hr, hd, hp, _⟩ | ⟨d, h, _, h2, h3⟩
  · refine ⟨.list ds, .lst hq (hr.ex (hid_ex q H)), fun z => ?_, ?_⟩
    · simp only [PyData.hasDict] at z; rw [hd] at z; cases z
    · simp only [PyData.depth]; omega
  · exact ⟨d, h, h2, h3⟩
theorem OdT.ex {H0 H H' : Hp} {x : V} (h : OdT H0 H x) (e : Ex H H') : OdT H0 H' x := by
  rcases h with ⟨q, xs, ds, rfl, n, hq, hr, hd⟩ | ⟨d, h, r⟩
  · exact .inl ⟨q, xs, ds, rfl, n, e.get hq, hr.ex (hid_frp (Fr.ex e)), hd⟩
  · exact .inr ⟨d, h.ex e, r⟩
theorem hdA_app {a b : List PyData} (h1 : PyData.hasDictAll a = false) (h2 : PyData.hasDictAll b = false) : PyData.hasDictAll (a ++ b) = false := by
  induction a with
  | nil => exact h2
  | cons x a ih =>
    simp only [PyData.hasDictAll, Bool.or_eq_false_iff, List.cons_append] at h1 ⊢
    exact ⟨h1.1, ih h1.2⟩
theorem dpA_app {a b : List PyData} {n : Nat} (h1 : PyData.depthAll a ≤ n) (h2 : PyData.depthAll b ≤ n) : PyData.depthAll (a ++ b) ≤ n := by
  induction a with
  | nil => exact h2
  | cons x a ih =>
    simp only [PyData.depthAll, List.cons_append] at h1 ⊢
    have := ih (by omega)
    omega
theorem rnA_append {H : Hp} {xs ys : List V} {ds es : List PyData} (h : RnA H xs ds) (k : RnA H ys es) : RnA H (xs ++ ys) (ds ++ es) := by
  induction xs generalizing ds with
  | nil => cases h; exact k
  | cons x xs ih =>
    cases h with
    | cons a t => exact .cons a (ih t)
theorem hdA_nats (l : List Nat) : PyData.hasDictAll (l.map encN) = false := hasDictA_of fun d hd => by obtain ⟨x, _, rfl⟩ := List.mem_map.mp hd; rfl
def flV : V → Bool
  | .int _ => true
  | .bl _ => true
  | .non => true
  | .str _ => true
  | _ => false
def flD : V → PyData
  | .int i => .int i
  | .bl b => .bool b
  | .str s => .str s
  | _ => .none
theorem flV_rn {G : Hp} {x : V} (h : flV x = true) : Rn G x (flD x) := by
  cases x <;> first | exact .int _ | exact .bl _ | exact .non | exact .str _ | cases h
theorem flA_rn {G : Hp} : ∀ {xs : List V}, (∀ x ∈ xs, flV x = true) → RnA G xs (xs.map flD)
  | [], _ => .nil
  | x :: xs, h => .cons (flV_rn (h x List.mem_cons_self)) (flA_rn fun y hy => h y (List.mem_cons_of_mem _ hy))
theorem flA_nd (xs : List V) : PyData.hasDictAll (xs.map flD) = false := hasDictA_of fun d hd => by
  obtain ⟨x, _, rfl⟩ := List.mem_map.mp hd
  cases x <;> rfl
theorem flA_dp (xs : List V) : PyData.depthAll (xs.map flD) ≤ 0 := depth_map fun x _ => by cases x <;> simp [flD, PyData.depth]
/-- a row: a list or a tuple of flat things -/
def FlR (o : HO) : Prop := ∃ xs, (o = .lst xs ∨ o = .tup xs) ∧ ∀ x ∈ xs, flV x = true
theorem FlR.nats (r : List Nat) : FlR (.lst (r.map nV)) := ⟨_, .inl rfl, fun x hx => by obtain ⟨_, _, rfl⟩ := List.mem_map.mp hx; rfl⟩
/-- a thing that is a row at an address that is not F -/
def RwV (H : Hp) (F : Addr) (x : V) : Prop := ∃ w o, x = .ref w ∧ w ≠ F ∧ H w = some o ∧ FlR o
structure Rws (H0 H : Hp) (F : Addr) (xs : List V) : Prop where
  nF : H0 F = none
  at_ : H F = some (.lst xs)
  rows : ∀ x ∈ xs, RwV H F x
  len : xs.length ≤ 500
theorem RwV.ex {H H' : Hp} {F : Addr} {x : V} (h : RwV H F x) (e : Ex H H') : RwV H' F x := by
  obtain ⟨w, o, h1, h2, h3, h4⟩ := h
  exact ⟨w, o, h1, h2, e.get h3, h4⟩
theorem RwV.hid {H : Hp} {F : Addr} {x : V} (h : RwV H F x) : ∃ d, Rn (hid F H) x d ∧ d.hasDict = false ∧ d.depth ≤ 2 := by
  obtain ⟨w, o, rfl, h2, h3, xs, h4, h5⟩ := h
  rcases h4 with rfl | rfl
  · refine ⟨.list (xs.map flD), .lst (hid_get h3 h2) (flA_rn h5), by simp only [PyData.hasDict]; exact flA_nd xs, ?_⟩
    have := flA_dp xs
    simp only [PyData.depth]; omega
  · refine ⟨.tuple (xs.map flD), .tup (hid_get h3 h2) (flA_rn h5), by simp only [PyData.hasDict]; exact flA_nd xs, ?_⟩
    have := flA_dp xs
    simp only [PyData.depth]; omega
theorem rwA_rn {G : Hp} : ∀ {xs : List V}, (∀ x ∈ xs, ∃ d, Rn G x d ∧ d.hasDict = false ∧ d.depth ≤ 2) → ∃ ds, RnA G xs ds ∧ PyData.hasDictAll ds = false ∧ PyData.depthAll ds ≤ 2
  | [], _ => ⟨[], .nil, rfl, by simp [PyData.depthAll]⟩
  | x :: xs, h => by
    obtain ⟨d, h1, h2, h3⟩ := h x List.mem_cons_self
    obtain ⟨ds, k1, k2, k3⟩ := rwA_rn fun y hy => h y (List.mem_cons_of_mem _ hy)
    refine ⟨d :: ds, .cons h1 k1, by simp only [PyData.hasDictAll, h2, k2]; rfl, ?_⟩
    simp only [PyData.depthAll]
    omega
section
variable {H0 H H' : Hp} {F : Addr} {xs : List V}
theorem Rws.odT (h : Rws H0 H F xs) : OdT H0 H (.ref F) := by
  obtain ⟨ds, h1, h2, h3⟩ := rwA_rn (G := hid F H) fun x hx => (h.rows x hx).hid
  exact .inl ⟨F, xs, ds, rfl, h.nF, h.at_, h1, h2, by omega, by have := h.len; omega⟩
theorem Rws.odTup (h : Rws H0 H F xs) {T : Addr} (hT : H T = some (.tup xs)) : OdT H0 H (.ref T) := by
  obtain ⟨ds, h1, h2, h3⟩ := rwA_rn (G := hid F H) fun x hx => (h.rows x hx).hid
  refine .inr ⟨.tuple ds, .tup hT (h1.ex (hid_ex F H)), rfl, fun z => ?_, by simp only [PyData.depth]; omega⟩
  simp only [PyData.hasDict] at z
  rw [h2] at z
  cases z
theorem Rws.ex (h : Rws H0 H F xs) (e : Ex H H') : Rws H0 H' F xs := ⟨h.nF, e.get h.at_, fun x hx => (h.rows x hx).ex e, h.len⟩
/-- F's list is put anew -/
theorem Rws.put (h : Rws H0 H F xs) {ys : List V} (hy : ∀ y ∈ ys, RwV H F y) (hl : ys.length ≤ 500) : Rws H0 (upd H F (.lst ys)) F ys := ⟨h.nF, upd_same, fun y hy' => by
  obtain ⟨w, o, h1, h2, h3, h4⟩ := hy y hy'
  exact ⟨w, o, h1, h2, (upd_ne h2).trans h3, h4⟩, hl⟩
/-- a row is put anew -/
theorem Rws.row (h : Rws H0 H F xs) {w : Addr} (hw : w ≠ F) {o : HO} (ho : FlR o) : Rws H0 (upd H w o) F xs := ⟨h.nF, (upd_ne hw.symm).trans h.at_, fun y hy => by
  obtain ⟨v, o', h1, h2, h3, h4⟩ := h.rows y hy
  by_cases e : v = w
  · subst e
    exact ⟨v, o, h1, h2, upd_same, ho⟩
  · exact ⟨v, o', h1, h2, (upd_ne e).trans h3, h4⟩, h.len⟩
/-- another list of rows -/
theorem Rws.other (h : Rws H0 H F xs) {G : Addr} {ys : List V} (nG : H0 G = none) (hG : H' G = some (.lst ys)) (e : Ex H H') (hy : ∀ y ∈ ys, RwV H' G y) (hl : ys.length ≤ 500) : Rws H0 H' G ys := ⟨nG, hG, hy, hl⟩
theorem RwV.new {w : Addr} {o : HO} (n : H w = none) (hF : H F = some (.lst xs)) (hw : H' w = some o) (ho : FlR o) : RwV H' F (.ref w) := ⟨w, o, rfl, (fun z => by rw [z, hF] at n; cases n), hw, ho⟩
/-- an old row in a new list -/
theorem RwV.old {G : Addr} {x : V} (h : RwV H F x) (n : H G = none) (e : Ex H H') : RwV H' G x := by
  obtain ⟨w, o, h1, h2, h3, h4⟩ := h
  exact ⟨w, o, h1, (fun z => by rw [z, n] at h3; cases h3), e.get h3, h4⟩
end
theorem fl_set {xs : List V} {i : Nat} {v : V} (h : ∀ x ∈ xs, flV x = true) (hv : flV v = true) : ∀ x ∈ xs.set i v, flV x = true := fun x hx => by
  rcases List.mem_or_eq_of_mem_set hx with h1 | h1
  · exact h x h1
  · rw [h1]; exact hv
theorem mem_cutV {xs : List V} {lo hi : Option Int} {x : V} (h : x ∈ cutV xs lo hi) : x ∈ xs := by
  unfold cutV at h
  exact List.mem_of_mem_drop (List.mem_of_mem_take h)
theorem len_cutV (xs : List V) (lo hi : Option Int) : (cutV xs lo hi).length ≤ xs.length := by
  unfold cutV
  rw [List.length_take, List.length_drop]
  omega
theorem rw_set {H : Hp} {F : Addr} {xs : List V} {i : Nat} {v : V} (h : ∀ x ∈ xs, RwV H F x) (hv : RwV H F v) : ∀ x ∈ xs.set i v, RwV H F x := fun x hx => by
  rcases List.mem_or_eq_of_mem_set hx with h1 | h1
  · exact h x h1
  · rw [h1]; exact hv
def sp__law_spoiled : Sp := fun vs H Q _ => ∃ (a : Addr) (c : Int) (l : List Nat) (rs : List Addr), vs = [.ref a, .int c] ∧ Tbl H a rs (cntTb l) ∧ l.length ≤ 96 ∧ ∀ x H', Ex H H' → OdT H H' x → Q x H'
theorem ok__law_spoiled (T : Tx K mg ad fd tk) : FnOk P w K mg base CX0 3 (ad 17) (fd 17) ["_law_table", "_law_cell_here"] sp__law_spoiled := by
  refine T.d__law_spoiled.F.ok sc__law_spoiled (fun vs H Q E h => ?_) (fun cdv A outer s H vs Q E hr h => ?_)
  · obtain ⟨a, c, l, rs, rfl, _⟩ := h
    rfl
  · obtain ⟨a, c, l, rs, rfl, hT, hl2, k⟩ := h
    refine ⟨_, (pss_cons (ps_asg (pe_call (ok__law_takes T) (hr.mono (by decide)) rfl T.d__law_takes.g T.d__law_takes.F.kp T.d__law_takes.b .nil pass0 (pa_cons (pv 1) (pa_cons (pe_lst (pa_cons pe_int (pa_cons pe_int (pa_cons pe_int (pa_cons pe_int pa_nil))))) pa_nil))) (pg_lst rfl (pgs_cons (pg_name (i := 2) sc__law_spoiled.nd rfl (Or.inl rfl)) (pgs_cons (pg_name (i := 3) sc__law_spoiled.nd rfl (Or.inl rfl)) (pgs_cons (pg_name (i := 4) sc__law_spoiled.nd rfl (Or.inr rfl)) (pgs_cons (pg_name (i := 5) sc__law_spoiled.nd rfl (Or.inl rfl)) pgs_nil))))))
      (pss_cons (ps_set (i := 3) sc__law_spoiled.nd rfl (Or.inl rfl) (pe_op o_mod (pv 3) (pe_callB (c_len (K := K)) (by rfl) T.b_len (by decide +kernel) (pa_cons (pv 0) pa_nil))))
      (pss_cons (ps_set (i := 4) sc__law_spoiled.nd rfl (Or.inr rfl) (pe_op o_mod (pv 4) (pe_callB (c_len (K := K)) (by rfl) T.b_len (by decide +kernel) (pa_cons (pv 0) pa_nil))))
      (pss_cons (ps_setLc (i := 6) (own := [("_law_row", 7)]) (g := gName 7) rfl sc__law_spoiled.nd rfl rfl (sw_true rfl rfl rfl (by decide +kernel)) (pi_list (pv 0)) (blkOk_by (own := [("_law_row", 7)]) (N := N__law_spoiled) (sc := defScope s__law_spoiled) (by decide +kernel)) (fun _ _ _ _ _ => pg_name (i := 7) sc__law_spoiled.nd rfl (Or.inl rfl)) (fun _ _ _ _ _ => pts_nil) (fun _ _ _ _ _ => (pe_callTy (c_list rfl (K := K)) (by rfl) T.b_list (by decide +kernel) (pa_cons (pv 7) pa_nil))))
      (pss_cut (ps_if (pt_cmpR o_lt (pv 2) pe_int (nomark _)) (pss_one (ps_asg (pe_op o_add (pe_ix (i_ix (K := K)) (pe_ix (i_ix (K := K)) (pv 6) (pv 3) (fun _ _ => rfl)) (pv 4) (fun _ _ => rfl)) (pe_ix (i_ix (K := K)) (pe_lst (pa_cons pe_int (pa_cons (pe_un un_neg pe_int) (pa_cons (pe_op o_pow pe_int pe_int) pa_nil)))) (pv 2) (fun _ _ => rfl))) (pg_sub (pe_ix (i_ix (K := K)) (pv 6) (pv 3) (fun _ _ => rfl)) (pv 4) set_list))) (pss_one (ps_if (pt_cmpR (o_eq hr.units) (pv 2) pe_int (nomark _)) (pss_one (ps_asg (pe_ix (i_ix (K := K)) (pe_lst (pa_cons pe_bl (pa_cons pe_non (pa_cons pe_str pa_nil)))) (pv 5) (fun _ _ => rfl)) (pg_sub (pe_ix (i_ix (K := K)) (pv 6) (pv 3) (fun _ _ => rfl)) (pv 4) set_list))) (pss_one (ps_if (pt_cmpR (o_eq hr.units) (pv 2) pe_int (nomark _)) (pss_cons (ps_asg (pe_callTy (c_list rfl (K := K)) (by rfl) T.b_list (by decide +kernel) (pa_cons (pe_ix (i_ix (K := K)) (pv 0) (pv 4) (fun _ _ => rfl)) pa_nil)) (pg_sub (pv 6) (pv 3) set_list))
      (pss_one (ps_asg (pe_callTy (c_list rfl (K := K)) (by rfl) T.b_list (by decide +kernel) (pa_cons (pe_ix (i_ix (K := K)) (pv 0) (pv 3) (fun _ _ => rfl)) pa_nil)) (pg_sub (pv 6) (pv 4) set_list)))) (pss_one (ps_if (pt_cmpR (o_eq hr.units) (pv 2) pe_int (nomark _)) (pss_one (ps_set (i := 6) sc__law_spoiled.nd rfl (Or.inl rfl) (pe_op o_add (pe_slice (s_sl (K := K)) (pv 6) po_none (po_some (pv 3))) (pe_slice (s_sl (K := K)) (pv 6) (po_some (pe_op o_add (pv 3) pe_int)) po_none)))) (pss_one (ps_if (pt_cmpR (o_eq hr.units) (pv 2) pe_int (nomark _)) (pss_one (ps_set (i := 6) sc__law_spoiled.nd rfl (Or.inl rfl) (pe_op o_add (pe_op o_add (pe_slice (s_sl (K := K)) (pv 6) po_none (po_some (pv 3))) (pe_lst (pa_cons (pe_callTy (c_list rfl (K := K)) (by rfl) T.b_list (by decide +kernel) (pa_cons (pe_ix (i_ix (K := K)) (pv 6) (pv 3) (fun _ _ => rfl)) pa_nil)) pa_nil))) (pe_slice (s_sl (K := K)) (pv 6) (po_some (pv 3)) po_none)))) (pss_one (ps_if (pt_cmpR (o_eq hr.units) (pv 2) pe_int (nomark _)) (pss_one (ps_setLc (i := 6) (own := [("_law_column", 8)]) (g := gName 8) rfl sc__law_spoiled.nd rfl rfl (sw_true rfl rfl rfl (by decide +kernel)) (pi_range1 rfl T.b_range (pa_cons (pe_callB (c_len (K := K)) (by rfl) T.b_len (by decide +kernel) (pa_cons (pv 0) pa_nil)) pa_nil)) (blkOk_by (own := [("_law_column", 8)]) (N := N__law_spoiled) (sc := defScope s__law_spoiled) (by decide +kernel)) (fun _ _ _ _ _ => pg_name (i := 8) sc__law_spoiled.nd rfl (Or.inr rfl)) (fun _ _ _ _ _ => pts_nil) (fun _ _ _ _ _ => (pe_lc (own := [("_law_row", 7)]) (g := gName 7) rfl sc__law_spoiled.nd (pi_listK (K := K) (pv 0)) (blkOk_rel (blkOk_by (own := [("_law_row", 7)]) (N := N__law_spoiled) (by decide +kernel))) (fun _ _ _ _ _ => pg_name (i := 7) sc__law_spoiled.nd rfl (Or.inl rfl)) (fun _ _ _ _ _ => pts_nil) (fun _ _ _ _ _ => (pe_ix (i_ix (K := K)) (pv 7) (pv 8) (fun _ _ => rfl))))))) (pss_one (ps_if (pt_cmpR (o_eq hr.units) (pv 2) pe_int (nomark _)) (pss_one (ps_asg (pe_callTy (c_tuple rfl (K := K)) (by rfl) T.b_tuple (by decide +kernel) (pa_cons (pe_ix (i_ix (K := K)) (pv 6) (pv 3) (fun _ _ => rfl)) pa_nil)) (pg_sub (pv 6) (pv 3) set_list))) (pss_one (ps_if (pt_cmpR (o_eq hr.units) (pv 2) pe_int (nomark _)) (pss_one (ps_set (i := 6) sc__law_spoiled.nd rfl (Or.inl rfl) (pe_callTy (c_tuple rfl (K := K)) (by rfl) T.b_tuple (by decide +kernel) (pa_cons (pv 6) pa_nil)))) (pss_one (ps_if (pt_cmpR (o_eq hr.units) (pv 2) pe_int (nomark _)) (pss_one (ps_set (i := 6) sc__law_spoiled.nd rfl (Or.inl rfl) (pe_ix (i_ix (K := K)) (pe_lst (pa_cons (pe_lst pa_nil) (pa_cons pe_non (pa_cons pe_int (pa_cons pe_str (pa_cons pe_dnewK (pa_cons (pe_lst (pa_cons (pe_lst pa_nil) pa_nil)) (pa_cons (pe_lst (pa_cons pe_int pa_nil)) (pa_cons (pe_tup (pa_cons (pe_lst (pa_cons pe_int pa_nil)) pa_nil)) pa_nil))))))))) (pe_op o_mod (pe_op o_add (pv 3) (pv 4)) pe_int) (fun _ _ => rfl)))) (pss_one (ps_if (pt_cmpR (o_eq hr.units) (pv 2) pe_int (nomark _)) (pss_one (ps_asg (pe_slice (s_sl (K := K)) (pe_ix (i_ix (K := K)) (pv 6) (pv 3) (fun _ _ => rfl)) po_none (po_some (pv 4))) (pg_sub (pv 6) (pv 3) set_list))) (pss_one (ps_if (pt_cmpR (o_eq hr.units) (pv 2) pe_int (nomark _)) (pss_one (ps_set (i := 6) sc__law_spoiled.nd rfl (Or.inl rfl) (pe_op o_add (pe_lc (own := [("_law_row", 7)]) (g := gName 7) rfl sc__law_spoiled.nd (pi_list (pv 6)) (blkOk_by (own := [("_law_row", 7)]) (N := N__law_spoiled) (sc := defScope s__law_spoiled) (by decide +kernel)) (fun _ _ _ _ _ => pg_name (i := 7) sc__law_spoiled.nd rfl (Or.inl rfl)) (fun _ _ _ _ _ => pts_nil) (fun _ _ _ _ _ => (pe_op o_add (pv 7) (pe_lst (pa_cons (pe_ix (i_ix (K := K)) (pv 7) (pe_un un_neg pe_int) (fun _ _ => rfl)) pa_nil))))) (pe_lst (pa_cons (pe_op o_mul (pe_lst (pa_cons pe_int pa_nil)) (pe_op o_add (pe_callB (c_len (K := K)) (by rfl) T.b_len (by decide +kernel) (pa_cons (pv 6) pa_nil)) pe_int)) pa_nil))))) (pss_one (ps_if (pt_cmpR (o_eq hr.units) (pv 2) pe_int (nomark _)) (pss_one (ps_setLc (i := 6) (own := [("_law_row", 7)]) (g := gName 7) rfl sc__law_spoiled.nd rfl rfl (sw_true rfl rfl rfl (by decide +kernel)) (pi_list (pv 6)) (blkOk_by (own := [("_law_row", 7)]) (N := N__law_spoiled) (sc := defScope s__law_spoiled) (by decide +kernel)) (fun _ _ _ _ _ => pg_name (i := 7) sc__law_spoiled.nd rfl (Or.inl rfl)) (fun _ _ _ _ _ => pts_nil) (fun _ _ _ _ _ => (pe_op o_add (pe_op o_add (pe_slice (s_sl (K := K)) (pv 7) po_none (po_some (pv 4))) (pe_lst (pa_cons (pe_op o_add (pe_ix (i_ix (K := K)) (pv 7) (pv 4) (fun _ _ => rfl)) pe_int) pa_nil))) (pe_slice (s_sl (K := K)) (pv 7) (po_some (pe_op o_add (pv 4) pe_int)) po_none))))) (pss_one (ps_if (pt_cmpR (o_eq hr.units) (pv 2) pe_int (nomark _)) (pss_one (ps_expr (pe_bm PySem.F.plainAttrs_list PySem.F.slot_list_append PySem.F.type_list_append mt_append (pe_ix (i_ix (K := K)) (pv 6) (pv 3) (fun _ _ => rfl)) (pa_cons (pv 5) pa_nil)))) pss_nil)))))))))))))))))))))))))
      (pss_one (ps_ret (pv 6)))))))), ?_⟩
    walk_at "go"
    rename_i p H1 n1 e1 v1
    refine ⟨c, p, [16, 97, 97, 3], rfl, v1, by decide, by decide, fun q H2 ns e2 n2 v2 hd => ?_⟩
    obtain ⟨x0, x1, x2, x3, rfl⟩ := four_of hd rfl
    obtain ⟨_, h0, a0, b0⟩ := hd.2 0 _ rfl
    obtain ⟨_, h1, a1, b1⟩ := hd.2 1 _ rfl
    obtain ⟨_, h2, a2, b2⟩ := hd.2 2 _ rfl
    obtain ⟨_, h3, a3, b3⟩ := hd.2 3 _ rfl
    cases h0
    cases h1
    cases h2
    cases h3
    replace v2 : H2 q = some (.lst [.int x0, .int x1, .int x2, .int x3]) := v2
    have e02 := e1.trans e2
    have T2 := hT.ex e02
    have hTa := T2.at_
    have hrl := T2.len
    rw [cntTb_len] at hrl
    have y0 := Int.emod_nonneg x1 (b := (((rs.map V.ref).length : Nat) : Int)) (by rw [List.length_map]; omega)
    have y1 := Int.emod_lt_of_pos x1 (b := (((rs.map V.ref).length : Nat) : Int)) (by rw [List.length_map]; omega)
    have z0 := Int.emod_nonneg x2 (b := (((rs.map V.ref).length : Nat) : Int)) (by rw [List.length_map]; omega)
    have z1 := Int.emod_lt_of_pos x2 (b := (((rs.map V.ref).length : Nat) : Int)) (by rw [List.length_map]; omega)
    have lpos : 0 < (rs.map V.ref).length := by rw [List.length_map]; omega
    obtain ⟨ai, hai⟩ := Int.eq_ofNat_of_zero_le y0
    obtain ⟨pi, hpi⟩ := Int.eq_ofNat_of_zero_le z0
    rw [hai, List.length_map] at y1
    rw [hpi, List.length_map] at z1
    walk_at "go"
    rw [hai, hpi]
    clear y0 z0 hai hpi e1 e2 v1 v2 n1 n2
    have hlz : (rs.zip (cntTb l)).length = rs.length := by rw [List.length_zip, cntTb_len]; omega
    have hzr : rs.map V.ref = (rs.zip (cntTb l)).map fun z => V.ref z.1 := by
      rw [show (fun z : Addr × List Nat => V.ref z.1) = V.ref ∘ Prod.fst from rfl, ← List.map_map, List.map_fst_zip (by rw [cntTb_len]; omega)]
    have hzo : (rs.zip (cntTb l)).map (fun z => rowO z.2) = (cntTb l).map rowO := by
      rw [show (fun z : Addr × List Nat => rowO z.2) = rowO ∘ Prod.snd from rfl, ← List.map_map, List.map_snd_zip (by rw [cntTb_len]; omega)]
    have hzi : ∀ z ∈ rs.zip (cntTb l), H2 z.1 = some (rowO z.2) ∧ z.2.length = l.length + 1 := fun z hz => by
      obtain ⟨i, hi, rfl⟩ := List.getElem_of_mem hz
      rw [List.getElem_zip]
      have hi2 : i < rs.length := by omega
      refine ⟨T2.rows.at i _ _ (List.getElem?_eq_getElem hi2) (by rw [List.getElem?_map, List.getElem?_eq_getElem (by rw [cntTb_len]; omega)]; rfl), ?_⟩
      have := cntTb_at (l := l) (i := i) (by omega)
      rw [List.getElem?_eq_getElem (by rw [cntTb_len]; omega)] at this
      show ((cntTb l)[i]'_).length = _
      rw [Option.some.inj this, cntRow_len]
    have hTz : ∀ {G : Hp}, Ex H2 G → G a = some (.lst ((rs.zip (cntTb l)).map fun z => V.ref z.1)) := fun e => by rw [← hzr]; exact e.get hTa
    refine lc_objs0 (rv_list K a (rs.zip (cntTb l)) fun z => V.ref z.1) (fun H' e => lst_of (hTz e)) (by omega) (fun z => rowO z.2) ?_ ?_
    · intro z H' hz e B h1
      have hz1 := e.get (hzi z hz).1
      unfold rowO at hz1
      refine ⟨rfl, ?_⟩
      walk_at "go"
      rename_i q G nq eq vq
      exact h1 q G nq eq vq
    intro F H3 ws nF e3 vF o3 nd nw fr
    rw [hzo] at o3
    have e03 := e02.trans e3
    have nF0 : H F = none := Ex.free e02 nF
    have hwl : ws.length = l.length + 1 := by rw [o3.len, List.length_map, cntTb_len]
    have hrow : ∀ i w, ws[i]? = some w → H3 w = some (.lst ((cntRow l i).map nV)) := fun i w hw => by
      have hi := (List.getElem?_eq_some_iff.mp hw).1
      exact o3.at i w _ hw (by rw [List.getElem?_map, cntTb_at (by omega)]; rfl)
    have wne : ∀ {w : Addr}, w ∈ ws → w ≠ F := fun h z => nw (z ▸ h)
    have R3 : Rws H H3 F (ws.map V.ref) := ⟨nF0, vF, fun x hx => by
      obtain ⟨w, hw, rfl⟩ := List.mem_map.mp hx
      obtain ⟨i, hi⟩ := List.getElem?_of_mem hw
      exact ⟨w, _, rfl, wne hw, hrow i w hi, FlR.nats _⟩, by rw [List.length_map]; omega⟩
    have ga : ws[ai]? = some (ws[ai]'(by omega)) := List.getElem?_eq_getElem _
    have gp : ws[pi]? = some (ws[pi]'(by omega)) := List.getElem?_eq_getElem _
    generalize ws[ai]'(by omega) = wa at ga
    generalize ws[pi]'(by omega) = wp at gp
    have va := hrow ai wa ga
    have nwa := wne (List.mem_of_getElem? ga)
    have rga : (rs[ai]?) = some (rs[ai]'(by omega)) := List.getElem?_eq_getElem _
    have rgp : (rs[pi]?) = some (rs[pi]'(by omega)) := List.getElem?_eq_getElem _
    have va2 : H3 (rs[ai]'(by omega)) = some (.lst ((cntRow l ai).map nV)) := e3.get (T2.rows.at ai _ _ rga (by rw [List.getElem?_map, cntTb_at (by omega)]; rfl))
    have vp2 : H3 (rs[pi]'(by omega)) = some (.lst ((cntRow l pi).map nV)) := e3.get (T2.rows.at pi _ _ rgp (by rw [List.getElem?_map, cntTb_at (by omega)]; rfl))
    have hTa3 := e3.get hTa
    have fa : atI (ws.map V.ref) (ai : Nat) = some (.ref wa) := at_mapN ga
    have fp : atI (ws.map V.ref) (pi : Nat) = some (.ref wp) := at_mapN gp
    have fra : atI (rs.map V.ref) (ai : Nat) = some (.ref (rs[ai]'(by omega))) := at_mapN rga
    have frp : atI (rs.map V.ref) (pi : Nat) = some (.ref (rs[pi]'(by omega))) := at_mapN rgp
    have fe : atI ((cntRow l ai).map nV) (pi : Nat) = some (nV (cntT l ai pi)) := at_mapN (cntRow_get (by omega))
    have ixp : ixN ((cntRow l ai).map nV).length (pi : Nat) = some pi := Evl.ixN_nat (by rw [List.length_map, cntRow_len]; omega)
    have ixa : ixN (ws.map V.ref).length (ai : Nat) = some ai := Evl.ixN_nat (by rw [List.length_map]; omega)
    walk_at "go"
    refine ⟨fun σ' H' => ∃ x, Ex H H' ∧ OdT H H' x ∧ ∃ s7 s8, σ' = [some (.ref a), some (.int c), some (.int x0), some (.int (ai : Nat)), some (.int (pi : Nat)), some (.int x3), some x, s7, s8], ?_, ?_⟩
    rotate_left
    · rintro σ' H4 ⟨x, e4, o4, s7, s8, rfl⟩
      walk_at "go"
      exact k x H4 e4 o4
    have lw : (ws.map V.ref).length = l.length + 1 := by rw [List.length_map, hwl]
    have lc1 := len_cutV (ws.map V.ref) none (some ((ai : Nat) : Int))
    have lc2 := len_cutV (ws.map V.ref) (some (((ai : Nat) : Int) + 1)) none
    have lc3 := len_cutV (ws.map V.ref) (some ((ai : Nat) : Int)) none
    have objs : ∀ {G : Hp} {D : Addr} {ts : List Addr} {os : List HO}, ObjsAt G ts os → (∀ (i : Nat) o, os[i]? = some o → FlR o) → D ∉ ts → ∀ y ∈ ts.map V.ref, RwV G D y := fun {G D ts os} ho hR hD y hy => by
      obtain ⟨t, ht, rfl⟩ := List.mem_map.mp hy
      obtain ⟨i, hi⟩ := List.getElem?_of_mem ht
      have hl := ho.len
      have hi2 := (List.getElem?_eq_some_iff.mp hi).1
      have ho2 := List.getElem?_eq_getElem (l := os) (i := i) (by omega)
      exact ⟨t, _, rfl, fun z => hD (z ▸ ht), ho.at i t _ hi ho2, hR i _ ho2⟩
    walk_at "go"
    refine st_br2 (fun c1 => ?_) (fun c1 => ?_)
    · walk_at "go"
      refine st_ixL vF fa ?_
      walk_at "go"
      refine st_ixL va fe ?_
      walk_at "go"
      rename_i L4 H4 n4 e4 v4
      refine st_ixA (seq_l v4) a0 (by simp only [List.length_cons, List.length_nil]; omega) (fun v _ hv => ?_)
      obtain ⟨z, rfl⟩ : ∃ z, v = .int z := by
        simp at hv
        rcases hv with h | h | h <;> exact ⟨_, h⟩
      unfold nV
      walk_at "go"
      refine st_ixL (e4.get vF) fa ?_
      walk_at "go"
      refine st_setL (e4.get va) ixp ?_
      have R4 := (R3.ex e4).row nwa (o := .lst (((cntRow l ai).map nV).set pi (.int ((cntT l ai pi : Nat) + z)))) ⟨_, .inl rfl, fl_set (fun x hx => by obtain ⟨_, _, rfl⟩ := List.mem_map.mp hx; rfl) rfl⟩
      exact ⟨_, (e03.trans e4).mut (Ex.free e02 (fr wa (List.mem_of_getElem? ga))), R4.odT, _, _, rfl⟩
    walk_at "go"
    refine st_br2 (fun c2 => ?_) (fun c2 => ?_)
    · walk_at "go"
      rename_i L4 H4 n4 e4 v4
      refine st_ixA (seq_l v4) a3 (by simp only [List.length_cons, List.length_nil]; omega) (fun v _ hv => ?_)
      have hfl : flV v = true := by
        simp at hv
        rcases hv with h | h | h <;> rw [h] <;> rfl
      walk_at "go"
      refine st_ixL (e4.get vF) fa ?_
      walk_at "go"
      refine st_setL (e4.get va) ixp ?_
      have R4 := (R3.ex e4).row nwa (o := .lst (((cntRow l ai).map nV).set pi v)) ⟨_, .inl rfl, fl_set (fun x hx => by obtain ⟨_, _, rfl⟩ := List.mem_map.mp hx; rfl) hfl⟩
      exact ⟨_, (e03.trans e4).mut (Ex.free e02 (fr wa (List.mem_of_getElem? ga))), R4.odT, _, _, rfl⟩
    walk_at "go"
    refine st_br2 (fun c3 => ?_) (fun c3 => ?_)
    · walk_at "go"
      refine st_ixL hTa3 frp ?_
      walk_at "go"
      rename_i q1 H4 n4 e4 v4
      refine st_setL (e4.get vF) ixa ?_
      have R5 := (R3.ex e4).put (rw_set (i := ai) (R3.ex e4).rows (RwV.new n4 vF v4 (FlR.nats _))) (by rw [List.length_set, List.length_map]; omega)
      have naF : a ≠ F := ne_of_none hTa nF
      have nrF : (rs[ai]'(by omega)) ≠ F := ne_of_none (T2.rows.at ai _ _ rga (by rw [List.getElem?_map, cntTb_at (by omega)]; rfl)) nF
      have hTa5 : upd H4 F (.lst ((ws.map V.ref).set ai (.ref q1))) a = some (.lst (rs.map V.ref)) := (upd_ne naF).trans (e4.get hTa3)
      have va5 : upd H4 F (.lst ((ws.map V.ref).set ai (.ref q1))) (rs[ai]'(by omega)) = some (.lst ((cntRow l ai).map nV)) := (upd_ne nrF).trans (e4.get va2)
      have e05 : Ex H (upd H4 F (.lst ((ws.map V.ref).set ai (.ref q1)))) := (e03.trans e4).mut nF0
      generalize upd H4 F (.lst ((ws.map V.ref).set ai (.ref q1))) = H5 at R5 hTa5 va5 e05 ⊢
      have vF5 := R5.at_
      walk_at "go"
      refine st_ixL hTa5 fra ?_
      walk_at "go"
      rename_i q2 H6 n6 e6 v6
      refine st_setL (e6.get vF5) (Evl.ixN_nat (j := pi) (by rw [List.length_set, List.length_map]; omega)) ?_
      have R7 := (R5.ex e6).put (rw_set (i := pi) (R5.ex e6).rows (RwV.new n6 vF5 v6 (FlR.nats _))) (by rw [List.length_set, List.length_set, List.length_map]; omega)
      exact ⟨_, (e05.trans e6).mut nF0, R7.odT, _, _, rfl⟩
    walk_at "go"
    refine st_br2 (fun c4 => ?_) (fun c4 => ?_)
    · walk_at "go"
      rename_i q1 H4 n4 e4 v4 q2 H5 n5 e5 v5 q3 H6 n6 e6 v6
      have e36 := e4.trans (e5.trans e6)
      have nq : H3 q3 = none := Ex.free (e4.trans e5) n6
      have R6 := R3.other (Ex.free e03 nq) v6 e36 (fun y hy => RwV.old (R3.rows y (by
        rcases List.mem_append.mp hy with h | h
        · exact mem_cutV h
        · exact mem_cutV h)) nq e36) (by rw [List.length_append]; omega)
      exact ⟨_, e03.trans e36, R6.odT, _, _, rfl⟩
    walk_at "go"
    refine st_br2 (fun c5 => ?_) (fun c5 => ?_)
    · walk_at "go"
      rename_i q1 H4 n4 e4 v4
      refine st_ixL (e4.get vF) fa ?_
      have va4 := e4.get va
      walk_at "go"
      rename_i q2 H5 n5 e5 v5 q3 H6 n6 e6 v6 q4 H7 n7 e7 v7 q5 H8 n8 e8 v8 q6 H9 n9 e9 v9
      have e39 := e4.trans (e5.trans (e6.trans (e7.trans (e8.trans e9))))
      have e38 := e4.trans (e5.trans (e6.trans (e7.trans e8)))
      have nq : H3 q6 = none := Ex.free e38 n9
      have nq5 : H5 q6 = none := Ex.free (e6.trans (e7.trans e8)) n9
      have R9 := R3.other (Ex.free e03 nq) v9 e39 (fun y hy => by
        rcases List.mem_append.mp hy with h | h
        · rcases List.mem_append.mp h with h | h
          · exact RwV.old (R3.rows y (mem_cutV h)) nq e39
          · rw [List.mem_singleton.mp h]
            exact ⟨q2, _, rfl, ne_of_none v5 nq5, (e6.trans (e7.trans (e8.trans e9))).get v5, FlR.nats _⟩
        · exact RwV.old (R3.rows y (mem_cutV h)) nq e39) (by rw [List.length_append, List.length_append, List.length_singleton]; omega)
      exact ⟨_, e03.trans e39, R9.odT, _, _, rfl⟩
    walk_at "go"
    refine st_br2 (fun c6 => ?_) (fun c6 => ?_)
    · walk_at "go"
      rw [List.length_map, Int.toNat_natCast]
      refine lc_mk (runs_range 0 rs.length) (fun i x H H' h => by rw [h.1]; exact Fr.refl _) (fun _ _ => trivial) (by omega) (fun _ o => FlR o) ?_ ?_
      · rintro i x H' H'' hi e ⟨rfl, rfl⟩ B hB
        rw [Int.zero_add]
        have hT' := hTz (e3.trans e)
        walk_at "go"
        refine ⟨rfl, ?_⟩
        walk_at "go"
        refine lc_map (rv_list K a (rs.zip (cntTb l)) fun z => V.ref z.1) (fun H' e' => lst_of (e'.get hT')) (by omega) (fun z => nV (gT z.2 i)) ?_ ?_
        · intro z G hz eG B' h1
          obtain ⟨g1, g2⟩ := hzi z hz
          have hz1 := ((e3.trans e).trans eG).get g1
          unfold rowO at hz1
          refine ⟨rfl, ?_⟩
          walk_at "go"
          refine st_ixL hz1 (at_mapN (f := nV) (gT_some (by omega))) ?_
          exact h1 _ (Fr.refl _)
        · intro D G nD eG vD
          exact hB D G _ nD eG vD ⟨_, .inl rfl, fun x hx => by obtain ⟨_, _, rfl⟩ := List.mem_map.mp hx; rfl⟩
      · intro D G ts os nD eG vD ho hlo hR hDt _
        have hlt := ho.len
        walk_at "go"
        exact ⟨_, e03.trans eG, (R3.other (Ex.free e03 nD) vD eG (objs ho hR hDt) (by rw [List.length_map]; omega)).odT, _, _, rfl⟩
    walk_at "go"
    refine st_br2 (fun c7 => ?_) (fun c7 => ?_)
    · walk_at "go"
      refine st_ixL vF fa ?_
      walk_at "go"
      rename_i q1 H4 n4 e4 v4
      refine st_setL (e4.get vF) ixa ?_
      have R5 := (R3.ex e4).put (rw_set (i := ai) (R3.ex e4).rows (RwV.new n4 vF v4 ⟨_, .inr rfl, fun x hx => by obtain ⟨_, _, rfl⟩ := List.mem_map.mp hx; rfl⟩)) (by rw [List.length_set, List.length_map]; omega)
      exact ⟨_, (e03.trans e4).mut nF0, R5.odT, _, _, rfl⟩
    walk_at "go"
    refine st_br2 (fun c8 => ?_) (fun c8 => ?_)
    · walk_at "go"
      rename_i q1 H4 n4 e4 v4
      exact ⟨_, e03.trans e4, (R3.ex e4).odTup v4, _, _, rfl⟩
    walk_at "go"
    refine st_br2 (fun c9 => ?_) (fun c9 => ?_)
    · walk_at "go"
      rename_i u1 G1 m1 g1 w1 u2 G2 m2 g2 w2 u3 G3 m3 g3 w3 u4 G4 m4 g4 w4 u5 G5 m5 g5 w5 u6 G6 m6 g6 w6 u7 G7 m7 g7 w7 u8 G8 m8 g8 w8
      have q0 := Int.emod_nonneg (((ai : Nat) : Int) + (pi : Nat)) (b := 8) (by decide)
      have q1 := Int.emod_lt_of_pos (((ai : Nat) : Int) + (pi : Nat)) (b := 8) (by decide)
      have eall : Ex H G8 := e03.trans (g1.trans (g2.trans (g3.trans (g4.trans (g5.trans (g6.trans (g7.trans g8)))))))
      refine st_ixA (seq_l w8) q0 (by simp only [List.length_cons, List.length_nil]; omega) (fun v _ hv => ?_)
      have hall : ∀ x ∈ [V.ref u1, V.non, V.int 0, V.str "0", V.ref u2, V.ref u4, V.ref u5, V.ref u7], OdT H G8 x := by
        refine allE_cons (OdT.list e03 m1 (g1.trans (g2.trans (g3.trans (g4.trans (g5.trans (g6.trans (g7.trans g8))))))) ((g2.trans (g3.trans (g4.trans (g5.trans (g6.trans (g7.trans g8)))))).get w1) .nil rfl (by simp [PyData.depthAll]) (by simp)) ?_
        refine allE_cons (.inr ⟨_, .non, rfl, (fun h => by cases h), by simp [PyData.depth]⟩) ?_
        refine allE_cons (.inr ⟨_, .int _, rfl, (fun h => by cases h), by simp [PyData.depth]⟩) ?_
        refine allE_cons (.inr ⟨_, .str _, rfl, (fun h => by cases h), by simp [PyData.depth]⟩) ?_
        refine allE_cons (.inr ⟨_, .dk ((g3.trans (g4.trans (g5.trans (g6.trans (g7.trans g8))))).get w2), rfl, (fun _ => rfl), by simp [PyData.depth, PyData.depthKv]⟩) ?_
        refine allE_cons (OdT.list (e03.trans (g1.trans (g2.trans g3))) m4 (g4.trans (g5.trans (g6.trans (g7.trans g8)))) ((g5.trans (g6.trans (g7.trans g8))).get w4) (.cons (.lst w3 .nil) .nil) rfl (by simp [PyData.depthAll, PyData.depth]) (by simp)) ?_
        refine allE_cons (OdT.list (e03.trans (g1.trans (g2.trans (g3.trans g4)))) m5 (g5.trans (g6.trans (g7.trans g8))) ((g6.trans (g7.trans g8)).get w5) (.cons (.int _) .nil) rfl (by simp [PyData.depthAll, PyData.depth]) (by simp)) ?_
        exact allE_cons (.inr ⟨_, .tup (g8.get w7) (.cons (.lst ((g7.trans g8).get w6) (.cons (.int _) .nil)) .nil), rfl, (fun h => by cases h), by simp [PyData.depth, PyData.depthAll]⟩) allE_nil
      walk_at "go"
      exact ⟨v, eall, hall v hv, _, _, rfl⟩
    walk_at "go"
    refine st_br2 (fun c10 => ?_) (fun c10 => ?_)
    · walk_at "go"
      refine st_ixL vF fa ?_
      walk_at "go"
      rename_i q1 H4 n4 e4 v4
      refine st_setL (e4.get vF) ixa ?_
      have R5 := (R3.ex e4).put (rw_set (i := ai) (R3.ex e4).rows (RwV.new n4 vF v4 ⟨_, .inl rfl, fun x hx => by obtain ⟨_, _, rfl⟩ := List.mem_map.mp (mem_cutV hx); rfl⟩)) (by rw [List.length_set, List.length_map]; omega)
      exact ⟨_, (e03.trans e4).mut nF0, R5.odT, _, _, rfl⟩
    walk_at "go"
    refine st_br2 (fun c11 => ?_) (fun c11 => ?_)
    · walk_at "go"
      refine lc_mk (runs_list K F (ws.map V.ref)) (fun i x H H' h => by rw [h.1]; exact Fr.refl _) (fun H' e => lst_of (e.get vF)) (by omega) (fun _ o => FlR o) ?_ ?_
      · rintro i x H' H'' hi e ⟨rfl, hx⟩ B hB
        rw [List.getElem?_map] at hx
        obtain ⟨wi, hwi, rfl⟩ := Option.map_eq_some_iff.mp hx
        have vi := e.get (hrow i wi hwi)
        have hi2 := (List.getElem?_eq_some_iff.mp hwi).1
        refine ⟨rfl, ?_⟩
        walk_at "go"
        refine st_ixL vi (at_last (n := l.length) (by rw [List.length_map, cntRow_len]) (v := nV (cntT l i l.length)) (by rw [List.getElem?_map, cntRow_get (Nat.le_refl _)]; rfl)) ?_
        walk_at "go"
        rename_i q1 G1 m1 g1 w1
        refine st_addL (g1.get vi) w1 (by rw [List.length_map, cntRow_len]; simp; omega) ?_
        intro q2 G2 m2 g2 w2
        exact hB q2 G2 _ (Ex.free g1 m2) (g1.trans g2) w2 ⟨_, .inl rfl, fun x hx => by
          rcases List.mem_append.mp hx with h | h
          · obtain ⟨_, _, rfl⟩ := List.mem_map.mp h; rfl
          · rw [List.mem_singleton.mp h]; rfl⟩
      · intro D G ts os nD eG vD ho hlo hR hDt hfr
        have hlt := ho.len
        have vF' := eG.get vF
        have hrD := objs ho hR hDt
        walk_at "go"
        rename_i u1 G1 m1 g1 w1 u2 G2 m2 g2 w2 u3 G3 m3 g3 w3 u4 G4 m4 g4 w4
        have eDG : Ex G G4 := g1.trans (g2.trans (g3.trans g4))
        have nu4 : G u4 = none := Ex.free (g1.trans (g2.trans g3)) m4
        have R4 := R3.other (Ex.free (e03.trans eG) nu4) w4 (eG.trans eDG) (fun y hy => by
          rcases List.mem_append.mp hy with h | h
          · exact RwV.old (hrD y h) nu4 eDG
          · rw [List.mem_singleton.mp h]
            exact ⟨u2, _, rfl, ne_of_none w2 (Ex.free g3 m4), (g3.trans g4).get w2, _, .inl rfl, fun x hx => by
              obtain ⟨y, hy, hxy⟩ := List.mem_flatten.mp hx
              rw [(List.mem_replicate.mp hy).2] at hxy
              rw [List.mem_singleton.mp hxy]
              rfl⟩) (by rw [List.length_append, List.length_map, List.length_singleton]; omega)
        exact ⟨_, e03.trans (eG.trans eDG), R4.odT, _, _, rfl⟩
    walk_at "go"
    refine st_br2 (fun c12 => ?_) (fun c12 => ?_)
    · walk_at "go"
      refine lc_mk (runs_list K F (ws.map V.ref)) (fun i x H H' h => by rw [h.1]; exact Fr.refl _) (fun H' e => lst_of (e.get vF)) (by omega) (fun _ o => FlR o) ?_ ?_
      · rintro i x H' H'' hi e ⟨rfl, hx⟩ B hB
        rw [List.getElem?_map] at hx
        obtain ⟨wi, hwi, rfl⟩ := Option.map_eq_some_iff.mp hx
        have vi := e.get (hrow i wi hwi)
        have ld1 := len_cutV ((cntRow l i).map nV) none (some ((pi : Nat) : Int))
        have ld2 := len_cutV ((cntRow l i).map nV) (some (((pi : Nat) : Int) + 1)) none
        have ld3 : ((cntRow l i).map nV).length = l.length + 1 := by rw [List.length_map, cntRow_len]
        refine ⟨rfl, ?_⟩
        walk_at "go"
        rename_i q1 G1 m1 g1 w1
        refine st_ixL (g1.get vi) (at_mapN (f := nV) (cntRow_get (i := i) (j := pi) (by omega))) ?_
        unfold nV at *
        have vi1 := g1.get vi
        walk_at "go"
        rename_i q2 G2 m2 g2 w2 q3 G3 m3 g3 w3 q4 G4 m4 g4 w4 q5 G5 m5 g5 w5
        have e4 := g1.trans (g2.trans (g3.trans g4))
        exact hB q5 G5 _ (Ex.free e4 m5) (e4.trans g5) w5 ⟨_, .inl rfl, fun x hx => by
          rcases List.mem_append.mp hx with h | h
          · rcases List.mem_append.mp h with h | h
            · obtain ⟨_, _, rfl⟩ := List.mem_map.mp (mem_cutV h); rfl
            · rw [List.mem_singleton.mp h]; rfl
          · obtain ⟨_, _, rfl⟩ := List.mem_map.mp (mem_cutV h); rfl⟩
      · intro D G ts os nD eG vD ho hlo hR hDt _
        have hlt := ho.len
        walk_at "go"
        exact ⟨_, e03.trans eG, (R3.other (Ex.free e03 nD) vD eG (objs ho hR hDt) (by rw [List.length_map]; omega)).odT, _, _, rfl⟩
    walk_at "go"
    refine st_br2 (fun c13 => ?_) (fun c13 => ?_)
    · walk_at "go"
      refine st_ixL vF fa ?_
      walk_at "go"
      refine st_app va (by rw [List.length_map, cntRow_len]; omega) ?_
      have R4 := R3.row nwa (o := .lst ((cntRow l ai).map nV ++ [V.int x3])) ⟨_, .inl rfl, fun x hx => by
        rcases List.mem_append.mp hx with h | h
        · obtain ⟨_, _, rfl⟩ := List.mem_map.mp h; rfl
        · rw [List.mem_singleton.mp h]; rfl⟩
      exact ⟨_, e03.mut (Ex.free e02 (fr wa (List.mem_of_getElem? ga))), R4.odT, _, _, rfl⟩
    walk_at "go"
    exact ⟨_, e03, R3.odT, _, _, rfl⟩
theorem wholeV_int {H : Hp} {x : V} {d : PyData} (h : Rn H x d) : isWholeV x = true ↔ ∃ v : Int, d = .int v := by
  cases h with
  | int i => exact ⟨fun _ => ⟨i, rfl⟩, fun _ => rfl⟩
  | _ => exact ⟨fun h => (by cases h), fun ⟨v, e⟩ => (by cases e)⟩
def sp__law_is_square : Sp := fun vs H Q _ => ∃ (x : V) (d : PyData), vs = [x] ∧ Rn H x d ∧ ∀ b H', Ex H H' → (b = true ↔ SqZ d) → Q (.bl b) H'
theorem ok__law_is_square (T : Tx K mg ad fd tk) : FnOk P w K mg base CX0 2 (ad 18) (fd 18) ["_law_table"] sp__law_is_square := by
  refine T.d__law_is_square.F.ok sc__law_is_square (fun vs H Q E h => ?_) (fun cdv A outer s H vs Q E hr h => ?_)
  · obtain ⟨x, d, rfl, _⟩ := h
    rfl
  · obtain ⟨x, d, rfl, hx, k⟩ := h
    refine ⟨_, (pss_cons (ps_if (PW.pt (pw_or (pt_not (pt_val (pe_callB c_is (by rfl) T.b_isinstance (by decide +kernel) (pa_cons (pv 0) (pa_cons (pe_bltn (v := .ty "list") rfl T.b_list (by decide +kernel) rfl) pa_nil))))) (pw_or1 (pt_not (pt_chain o_le o_le pe_int (pe_callB (c_len (K := K)) (by rfl) T.b_len (by decide +kernel) (pa_cons (pv 0) pa_nil)) pe_int))))) (pss_one (ps_ret pe_bl)) pss_nil)
      (pss_cons (ps_for PassesOwn.never rfl (pi_list (pv 0)) (pg_name (i := 1) sc__law_is_square.nd rfl (Or.inl rfl)) (pss_cons (ps_if (PW.pt (pw_or (pt_not (pt_val (pe_callB c_is (by rfl) T.b_isinstance (by decide +kernel) (pa_cons (pv 1) (pa_cons (pe_bltn (v := .ty "list") rfl T.b_list (by decide +kernel) rfl) pa_nil))))) (pw_or1 (pt_cmpR (o_ne hr.units) (pe_callB (c_len (K := K)) (by rfl) T.b_len (by decide +kernel) (pa_cons (pv 1) pa_nil)) (pe_callB (c_len (K := K)) (by rfl) T.b_len (by decide +kernel) (pa_cons (pv 0) pa_nil)) (nomark _))))) (pss_one (ps_ret pe_bl)) pss_nil)
      (pss_one (ps_if (pt_cmpR o_lt (pe_callB (c_len (K := K)) (by rfl) T.b_len (by decide +kernel) (pa_cons (pe_lc (own := [("_law_number", 2)]) (g := gName 2) rfl sc__law_is_square.nd (pi_list (pv 1)) (blkOk_by (own := [("_law_number", 2)]) (N := N__law_is_square) (sc := defScope s__law_is_square) (by decide +kernel)) (fun _ _ _ _ _ => pg_name (i := 2) sc__law_is_square.nd rfl (Or.inl rfl)) (fun _ _ _ _ _ => pts_one (pt_val (pe_call (ok__law_whole T) (hr.mono (by decide)) rfl T.d__law_whole.g T.d__law_whole.F.kp T.d__law_whole.b .nil pass0 (pa_cons (pv 2) pa_nil)))) (fun _ _ _ _ _ => (pv 2))) pa_nil)) (pe_callB (c_len (K := K)) (by rfl) T.b_len (by decide +kernel) (pa_cons (pv 1) pa_nil)) (nomark _)) (pss_one (ps_ret pe_bl)) pss_nil))))
      (pss_one (ps_ret pe_bl)))), ?_⟩
    have no : ∀ H', Ex H H' → (¬ SqZ d) → Q (.bl false) H' := fun H' e n => k false H' e ⟨(fun z => nomatch z), (fun z => (n z).elim)⟩
    walk_at "go"
    refine st_isListD hx.rq ?_
    refine ⟨_, rfl, ?_⟩
    cases hd : isListD d with
    | false =>
      refine st_T rfl ?_
      walk_at "go"
      refine no _ (Fr.refl _) (fun h => ?_)
      obtain ⟨M, h, _⟩ := h
      rw [h] at hd; cases hd
    | true =>
    obtain ⟨ds, rfl⟩ : ∃ ds, d = .list ds := by
      cases d <;> first | exact ⟨_, rfl⟩ | cases hd
    obtain ⟨a, xs, rfl, ha, hr⟩ := hx.listAt
    have hl := hr.len
    refine st_F rfl ?_
    walk_at "go"
    by_cases c1 : 1 ≤ xs.length
    rotate_left
    · rw [decide_eq_false (by omega)]
      walk_at "go"
      refine no _ (Fr.refl _) (fun h => ?_)
      obtain ⟨M, h, h1, _⟩ := h
      injection h with h
      rw [h, List.length_map] at hl
      omega
    rw [decide_eq_true (by omega)]
    walk_at "go"
    by_cases c2 : xs.length ≤ 97
    rotate_left
    · rw [decide_eq_false (by omega)]
      walk_at "go"
      refine no _ (Fr.refl _) (fun h => ?_)
      obtain ⟨M, h, h1, h2, _⟩ := h
      injection h with h
      rw [h, List.length_map] at hl
      omega
    rw [decide_eq_true (by omega)]
    walk_at "go"
    obtain ⟨zs, rfl, rfl, hz⟩ := hr.zipped
    refine for_runs (rv_list K a zs fun z => z.1) (fun i σ H' => (Ex H H' ∧ ∃ M : List (List Int), (zs.take i).map (·.2) = M.map encRZ ∧ ∀ r ∈ M, r.length = zs.length) ∧ ∃ y, σ = [some (.ref a), y, none]) ⟨⟨Fr.refl _, [], rfl, by simp⟩, _, rfl⟩ (fun i σ H' _ h => lst_of (h.1.1.get ha)) ?_ ?_
    · rintro i x σ H0 H1 hi ⟨⟨e1, M, m1, m2⟩, y, rfl⟩ ⟨rfl, z, hzi, rfl⟩
      have rz := (hz z (List.mem_of_getElem? hzi)).ex e1
      have ha1 := e1.get ha
      have bad : ¬ (∃ r : List Int, z.2 = encRZ r ∧ r.length = zs.length) → ∀ H', Ex H H' → Q (.bl false) H' := fun hn H' e' => no _ e' fun h => by
        obtain ⟨N, h1, _, _, h4⟩ := h
        injection h1 with h1
        have h5 := congrArg (fun l => l[i]?) h1
        simp only [List.getElem?_map, hzi, Option.map_some] at h5
        cases q : N[i]? with
        | none => rw [q] at h5; cases h5
        | some r =>
          rw [q] at h5
          have h6 := h4 r (List.mem_of_getElem? q)
          have h7 := congrArg List.length h1
          rw [List.length_map, List.length_map] at h7
          exact hn ⟨r, Option.some.inj h5, by omega⟩
      walk_at "go"
      refine st_isListD rz.rq ?_
      refine ⟨_, rfl, ?_⟩
      cases hd2 : isListD z.2 with
      | false =>
        refine st_T rfl ?_
        walk_at "go"
        refine bad (fun ⟨r, h, _⟩ => ?_) _ e1
        rw [h] at hd2; cases hd2
      | true =>
      obtain ⟨es, he⟩ : ∃ es, z.2 = .list es := by
        cases h : z.2 <;> rw [h] at hd2 <;> first | exact ⟨_, rfl⟩ | cases hd2
      rw [he] at rz bad
      obtain ⟨b, ys, hb, hb1, hb2⟩ := rz.listAt
      have hl2 := hb2.len
      refine st_F rfl ?_
      simp only [hb]
      walk_at "go"
      by_cases c3 : ys.length = zs.length
      rotate_left
      · refine st_T (by rw [List.length_map]; simp; omega) ?_
        walk_at "go"
        refine bad (fun ⟨r, h, h2⟩ => ?_) _ e1
        unfold encRZ at h
        injection h with h
        rw [h, List.length_map] at hl2
        omega
      refine st_F (by rw [List.length_map, c3]; simp) ?_
      walk_at "go"
      obtain ⟨us, rfl, rfl, hu⟩ := hb2.zipped
      refine lc_pure (rv_list K b us fun u => u.1) (fun H' e => lst_of (e.get hb1)) (by rw [List.length_map] at c3; rw [List.length_map] at c2; omega) (fun u => isWholeV u.1) (fun u => u.1) ?_ ?_
      · intro u H' hu' e B A' h1 h2
        refine ⟨rfl, ?_⟩
        walk_at "go"
        refine ⟨u.1, rfl, ((hu u hu').ex e).rq.ty, ?_⟩
        refine ⟨_, rfl, ?_⟩
        cases hw : isWholeV u.1 with
        | true => 
          rw [if_pos rfl]
          walk_at "go"
          exact h1 hw _ (Fr.refl _)
        | false => exact h2 hw _ (Fr.refl _)
      · intro D H2 nD e2 vD
        have hb12 := e2.get hb1
        walk_at "go"
        rw [List.length_map, List.length_map]
        have hle := List.length_filter_le (fun u : V × PyData => isWholeV u.1) us
        by_cases c4 : (us.filter fun u => isWholeV u.1).length < us.length
        · rw [if_pos (decide_eq_true (by omega))]
          walk_at "go"
          refine bad (fun ⟨r, h, h2⟩ => ?_) _ (e1.trans e2)
          unfold encRZ at h
          injection h with h
          rw [List.filter_eq_self.mpr] at c4
          · omega
          · intro u hu2
            refine (wholeV_int (hu u hu2)).mpr ?_
            have : u.2 ∈ r.map PyData.int := by rw [← h]; exact List.mem_map.mpr ⟨u, hu2, rfl⟩
            obtain ⟨v, _, hv2⟩ := List.mem_map.mp this
            exact ⟨v, hv2.symm⟩
        · rw [if_neg (by rw [decide_eq_false (by omega)]; decide)]
          walk_at "go"
          refine ⟨⟨e1.trans e2, ?_⟩, _, rfl⟩
          have hall : ∀ u ∈ us, isWholeV u.1 = true := by
            have : us.filter (fun u => isWholeV u.1) = us := List.filter_sublist.eq_of_length (by omega)
            exact fun u hu2 => (List.filter_eq_self.mp this) u hu2
          have hex : ∃ r : List Int, us.map (·.2) = r.map PyData.int := by
            clear hb1 hl2 c3 vD he bad hb2 rz c4 hle hb12
            induction us with
            | nil => exact ⟨[], rfl⟩
            | cons u us ih =>
              obtain ⟨r, r1⟩ := ih (fun z hz => hu z (List.mem_cons_of_mem _ hz)) (fun z hz => hall z (List.mem_cons_of_mem _ hz))
              obtain ⟨v, v1⟩ := (wholeV_int (hu u List.mem_cons_self)).mp (hall _ List.mem_cons_self)
              exact ⟨v :: r, by rw [List.map_cons, List.map_cons, r1, v1]⟩
          obtain ⟨r, r1⟩ := hex
          refine ⟨M ++ [r], ?_, fun q hq => ?_⟩
          · rw [List.take_add_one, hzi, List.map_append, m1, List.map_append]
            show _ = _ ++ [encRZ r]
            unfold encRZ
            rw [← r1, ← he]
            rfl
          · rcases List.mem_append.mp hq with h | h
            · exact m2 q h
            · rw [List.mem_singleton.mp h]
              have := congrArg List.length r1
              rw [List.length_map, List.length_map] at this
              rw [List.length_map] at c3
              omega
    · rintro σ H1 ⟨⟨e1, M, m1, m2⟩, y, rfl⟩
      walk_at "go"
      rw [List.take_length] at m1
      have hml := congrArg List.length m1
      rw [List.length_map, List.length_map] at hml
      rw [List.length_map] at c1 c2
      exact k true _ e1 ⟨fun _ => ⟨M, by rw [m1], by omega, by omega, fun r hr => by have := m2 r hr; omega⟩, fun _ => rfl⟩
def sp__law_from : Sp := fun vs H Q _ => ∃ (x : V) (d : PyData), vs = [x] ∧ Rn H x d ∧ (¬ CntD d → ∀ H', Ex H H' → Q .non H') ∧ (∀ l, IsT l → l.length ≤ 96 → d = .list ((cntTb l).map encR) → ∀ D H', Ex H H' → H D = none → H' D = some (.lst (l.map nV)) → Q (.ref D) H')
theorem ok__law_from (T : Tx K mg ad fd tk) : FnOk P w K mg base CX0 3 (ad 19) (fd 19) ["_law_table"] sp__law_from := by
  refine T.d__law_from.F.ok sc__law_from (fun vs H Q E h => ?_) (fun cdv A outer s H vs Q E hr h => ?_)
  · obtain ⟨x, d, rfl, _⟩ := h
    rfl
  · obtain ⟨x, d, rfl, hx, k0, k1⟩ := h
    refine ⟨_, (pss_cons (ps_if (pt_not (pt_val (pe_call (ok__law_is_square T) (hr.mono (by decide)) rfl T.d__law_is_square.g T.d__law_is_square.F.kp T.d__law_is_square.b .nil pass0 (pa_cons (pv 0) pa_nil)))) (pss_one (ps_ret pe_non)) pss_nil)
      (pss_cons (ps_set (i := 1) sc__law_from.nd rfl (Or.inl rfl) (pe_lst pa_nil))
      (pss_cons (ps_for PassesOwn.never rfl (pi_range1 rfl T.b_range (pa_cons (pe_op o_sub (pe_callB (c_len (K := K)) (by rfl) T.b_len (by decide +kernel) (pa_cons (pv 0) pa_nil)) pe_int) pa_nil)) (pg_name (i := 2) sc__law_from.nd rfl (Or.inr rfl)) (pss_one (ps_expr (pe_bm PySem.F.plainAttrs_list PySem.F.slot_list_append PySem.F.type_list_append mt_append (pv 1) (pa_cons (pe_op o_sub (pe_callB (c_len (K := K)) (by rfl) T.b_len (by decide +kernel) (pa_cons (pe_lc (own := [("_law_place", 3)]) (g := gName 3) rfl sc__law_from.nd (pi_range1 rfl T.b_range (pa_cons (pe_callB (c_len (K := K)) (by rfl) T.b_len (by decide +kernel) (pa_cons (pv 0) pa_nil)) pa_nil)) (blkOk_by (own := [("_law_place", 3)]) (N := N__law_from) (sc := defScope s__law_from) (by decide +kernel)) (fun _ _ _ _ _ => pg_name (i := 3) sc__law_from.nd rfl (Or.inl rfl)) (fun _ _ _ _ _ => pts_one (pt_cmpR (o_eq hr.units) (pe_ix (i_ix (K := K)) (pe_ix (i_ix (K := K)) (pv 0) (pv 2) (fun _ _ => rfl)) (pv 3) (fun _ _ => rfl)) (pe_ix (i_ix (K := K)) (pe_ix (i_ix (K := K)) (pv 0) (pe_op o_add (pv 2) pe_int) (fun _ _ => rfl)) (pv 3) (fun _ _ => rfl)) (nomark _))) (fun _ _ _ _ _ => (pv 3))) pa_nil)) pe_int) pa_nil)))))
      (pss_cons (ps_if (PW.pt (pw_or (pt_cmpR (o_ne hr.units) (pe_callB c_sortQ (by rfl) T.b_sorted (by decide +kernel) (pa_cons (pv 1) pa_nil)) (pe_listRgC rfl (by rfl) T.b_list (prgC (by rfl) T.b_range (pa_cons (pe_callB (c_len (K := K)) (by rfl) T.b_len (by decide +kernel) (pa_cons (pv 1) pa_nil)) pa_nil))) (nomark _)) (pw_or1 (pt_cmpR (o_ne hr.units) (pe_call (ok__law_counts T) (hr.mono (by decide)) rfl T.d__law_counts.g T.d__law_counts.F.kp T.d__law_counts.b .nil pass0 (pa_cons (pv 1) pa_nil)) (pv 0) (nomark _))))) (pss_one (ps_ret pe_non)) pss_nil)
      (pss_one (ps_ret (pv 1))))))), ?_⟩
    walk_at "go"
    refine ⟨x, d, rfl, hx, fun b H1 e1 hb => ?_⟩
    cases b with
    | false =>
      have hn : ¬ CntD d := fun h => Bool.false_ne_true (hb.mpr h.sq.sqZ)
      walk_at "go"
      exact k0 hn H1 e1
    | true =>
    obtain ⟨M, hM, m1, m2, m3⟩ := hb.mp rfl
    rw [hM] at hx
    obtain ⟨a, xs, rfl, ha, hr⟩ := hx.listAt
    have ha1 := e1.get ha
    have hlx : xs.length = M.length := by rw [hr.len, List.length_map]
    have row : ∀ {G : Hp} (i : Nat) (v : V) (r : List Int), RnA G xs (M.map encRZ) → xs[i]? = some v → M[i]? = some r → ∃ p, v = .ref p ∧ G p = some (.lst (r.map V.int)) := fun {G} i v r hG hv hri => by
      obtain ⟨zs, rfl, hz1, hz⟩ := hG.zipped
      rw [List.getElem?_map] at hv
      obtain ⟨z, hzi, rfl⟩ := Option.map_eq_some_iff.mp hv
      have h5 := congrArg (fun l => l[i]?) hz1
      simp only [List.getElem?_map, hzi, hri, Option.map_some] at h5
      have rz := hz z (List.mem_of_getElem? hzi)
      rw [← Option.some.inj h5] at rz
      unfold encRZ at rz
      obtain ⟨p, ys, hp, hp1, hp2⟩ := rz.listAt
      refine ⟨p, hp, ?_⟩
      rw [hp1]
      congr 2
      exact ints_of hp2
    walk_at "go"
    rename_i F H2 nF e2 vF
    have nF0 : H F = none := Ex.free e1 nF
    have ha2 := e2.get ha1
    have aF : a ≠ F := fun z => by rw [z] at ha1; rw [nF] at ha1; cases ha1
    have e02 := e1.trans e2
    rw [hlx]
    refine for_runs (runs_range 0 _) (fun i σ H' => (FrP F H2 H' ∧ ∃ ts : List Int, H' F = some (.lst (ts.map V.int)) ∧ ts.length = i ∧ ∀ j t, ts[j]? = some t → ∃ r s, M[j]? = some r ∧ M[j + 1]? = some s ∧ t = ((((List.range M.length).filter fun p => decide (r[p]? = s[p]?)).length : Nat) : Int) - 1) ∧ ∃ y2, σ = [some (.ref a), some (.ref F), y2, none]) ⟨⟨Fr.refl _, [], vF, rfl, fun j f h => by simp at h⟩, _, rfl⟩ (fun _ _ _ _ _ => trivial) ?_ ?_
    · rintro i x σ H4 H5 hi ⟨⟨f4, ts, g1, g2, g3⟩, y2, rfl⟩ ⟨rfl, rfl⟩
      rw [Int.zero_add]
      have hi1 : i + 1 < M.length := by omega
      have ha5 := f4.get aF ha2
      have hrh : RnA (hid F H2) xs (M.map encRZ) := hr.ex (fun b o _ hb => hid_get (e02.get hb) fun z => by rw [z, nF0] at hb; cases hb)
      have hr5 := hrh.ex (fun b o _ hb => by
        unfold hid at hb
        by_cases hbF : b = F
        · rw [if_pos hbF] at hb; cases hb
        · rw [if_neg hbF] at hb
          exact f4.get hbF hb : Ex (hid F H2) H5)
      obtain ⟨r, hr1⟩ : ∃ r, M[i]? = some r := ⟨M[i]'(by omega), List.getElem?_eq_getElem _⟩
      obtain ⟨s', hs1⟩ : ∃ r, M[i + 1]? = some r := ⟨M[i + 1]'(by omega), List.getElem?_eq_getElem _⟩
      have hv : xs[i]? = some (xs[i]'(by omega)) := List.getElem?_eq_getElem _
      have hu : xs[i + 1]? = some (xs[i + 1]'(by omega)) := List.getElem?_eq_getElem _
      generalize xs[i]'(by omega) = v at hv
      generalize xs[i + 1]'(by omega) = u at hu
      obtain ⟨p, rfl, hp⟩ := row i v r hr5 hv hr1
      obtain ⟨p2, rfl, hp2⟩ := row (i + 1) u s' hr5 hu hs1
      have lr := m3 r (List.mem_of_getElem? hr1)
      have ls := m3 s' (List.mem_of_getElem? hs1)
      have rest : ∀ D (H6 : Hp), H5 D = none → Ex H5 H6 → ∀ L : Nat, L = ((List.range M.length).filter fun p => decide (r[p]? = s'[p]?)).length → (FrP F H2 (upd H6 F (.lst (ts.map V.int ++ [V.int ((L : Int) - 1)]))) ∧ ∃ ts' : List Int, upd H6 F (.lst (ts.map V.int ++ [V.int ((L : Int) - 1)])) F = some (.lst (ts'.map V.int)) ∧ ts'.length = i + 1 ∧ ∀ j t, ts'[j]? = some t → ∃ r s, M[j]? = some r ∧ M[j + 1]? = some s ∧ t = ((((List.range M.length).filter fun p => decide (r[p]? = s[p]?)).length : Nat) : Int) - 1) := fun D H6 _ e6 L hL => by
        refine ⟨(f4.trans (Fr.ex e6)).trans FrP.at, ts ++ [(L : Int) - 1], by rw [upd_same, List.map_append]; rfl, by rw [List.length_append, g2]; rfl, fun j f h => ?_⟩
        by_cases hj : j < ts.length
        · rw [List.getElem?_append_left hj] at h
          exact g3 j f h
        · rw [List.getElem?_append_right (by omega)] at h
          have : j - ts.length = 0 := by
            have := (List.getElem?_eq_some_iff.mp h).1
            rw [List.length_singleton] at this
            omega
          rw [this] at h
          cases h
          rw [show j = i by omega]
          exact ⟨r, s', hr1, hs1, by rw [hL]⟩
      walk_at "go"
      rw [hlx, Int.toNat_natCast]
      refine lc_pure (rv_range 0 M.length) (fun _ _ => trivial) (by rw [List.length_range]; omega) (fun q => decide (r[q]? = s'[q]?)) (fun q => nV q) ?_ ?_
      · intro q H' hq e B A' b1 b2
        have hq := List.mem_range.mp hq
        have ha' := e.get ha5
        have q1 := List.getElem?_eq_getElem (l := r) (i := q) (by omega)
        have q2 := List.getElem?_eq_getElem (l := s') (i := q) (by omega)
        refine ⟨rfl, ?_⟩
        rw [Int.zero_add]
        walk_at "go"
        refine st_ixL ha' (at_nat hv) ?_
        walk_at "go"
        refine st_ixL (e.get hp) (at_mapN q1) ?_
        walk_at "go"
        rw [show ((i : Nat) : Int) + 1 = ((i + 1 : Nat) : Int) by omega]
        refine st_ixL ha' (at_nat hu) ?_
        walk_at "go"
        refine st_ixL (e.get hp2) (at_mapN q2) ?_
        walk_at "go"
        by_cases c : r[q]'(by omega) = s'[q]'(by omega)
        · rw [if_pos (by rw [c]; simp)]
          walk_at "go"
          exact b1 (decide_eq_true (by rw [q1, q2, c])) _ (Fr.refl _)
        · rw [if_neg (by simpa using c)]
          exact b2 (decide_eq_false (by rw [q1, q2]; exact fun z => c (Option.some.inj z))) _ (Fr.refl _)
      · intro D H6 nD e6 vD
        have g16 := e6.get g1
        walk_at "go"
        refine st_app g16 (by rw [List.length_map]; omega) ?_
        rw [List.length_map]
        exact ⟨rest D H6 nD e6 _ rfl, _, rfl⟩
    · rintro σ H4 ⟨⟨f4, ts, g1, g2, g3⟩, y2, rfl⟩
      have e04 : Ex H H4 := Ex.comp (M := fun b => b = F) e02 f4 fun b hb => by rw [hb]; exact nF0
      have g2' : ts.length = M.length - 1 := by rw [g2]; omega
      have tsl : ∀ l, IsT l → l.length ≤ 96 → d = .list ((cntTb l).map encR) → M = castM (cntTb l) ∧ ts = l.map fun (v : Nat) => (v : Int) := fun l hl hl2 hd => by
        rw [hM] at hd
        injection hd with hd
        rw [castM_enc] at hd
        have hMl := encRZs_inj hd
        refine ⟨hMl, ?_⟩
        have h1 : M.length = l.length + 1 := by rw [hMl, castM, List.length_map, cntTb_len]
        refine List.ext_getElem? fun j => ?_
        by_cases hj : j < l.length
        · have q1 := List.getElem?_eq_getElem (l := ts) (i := j) (by omega)
          obtain ⟨r, s', w1, w2, w4⟩ := g3 j _ q1
          rw [hMl, castM_at (by omega)] at w1 w2
          rw [← Option.some.inj w1, ← Option.some.inj w2, h1] at w4
          have e5 : (List.range (l.length + 1)).filter (fun p => decide (((cntRow l j).map fun (v : Nat) => (v : Int))[p]? = ((cntRow l (j + 1)).map fun (v : Nat) => (v : Int))[p]?)) = (List.range (l.length + 1)).filter fun p => decide ((cntRow l j)[p]? = (cntRow l (j + 1))[p]?) := List.filter_congr fun p _ => by
            rw [decide_eq_decide]
            exact cast_same _ _ p
          rw [e5, same_cnt hj (hl.g_lt hj)] at w4
          rw [q1, List.getElem?_map, gT_some hj, w4]
          show some ((((gT l j + 1 : Nat)) : Int) - 1) = some (((gT l j : Nat)) : Int)
          congr 1
          omega
        · rw [List.getElem?_eq_none (by omega), List.getElem?_eq_none (by rw [List.length_map]; omega)]
      have ha4 := f4.get aF ha2
      walk_at "go"
      refine st_sortQ (seq_l g1) fun ns' q H5 p1 p2 n5 e5 v5 => ?_
      have g15 := e5.get g1
      walk_at "go"
      rename_i q6 H6 n6 e6 v6
      rw [List.length_map, show ((ts.length : Nat) : Int) - 0 = (ts.length : Nat) by omega, Int.toNat_natCast, rgL_up] at v6
      have v5' := e6.get v5
      refine st_neD (.lst (lst_of v5') (rpA_ints _)) (.lst (lst_of v6) (rpA_ints _)) (by
        have : PyData.depthAll (ns'.map PyData.int) ≤ 0 := depth_map fun z _ => by simp [PyData.depth]
        simp only [PyData.depth]
        omega) ?_
      rw [eqv_list eqv_int]
      have iff := isT_sorted p1 p2
      have e06 := e04.trans (e5.trans e6)
      by_cases c : ns' = (List.range ts.length).map fun (v : Nat) => (v : Int)
      · obtain ⟨l, hl, hT⟩ := iff.mpr c
        rw [decide_eq_true c]
        have gl : H6 F = some (.lst (l.map nV)) := by
          rw [e6.get g15, hl, List.map_map]
          rfl
        have hll : l.length ≤ 96 := by
          have := congrArg List.length hl
          rw [List.length_map] at this
          omega
        walk_at "go"
        refine ⟨F, l, rfl, gl, hll, fun D rs H7 e7 nD nrs Tb => ?_⟩
        have e07 := e06.trans e7
        have rb := Tb.rp
        rw [castM_enc] at rb
        walk_at "go"
        refine st_neD rb ((hx.ex e07).rp (tblZ_nd M)) (by
          have := tbl_dp (cntTb l)
          rw [castM_enc] at this
          omega) ?_
        rw [tblZ_eqv]
        by_cases c2 : castM (cntTb l) = M
        · rw [decide_eq_true c2]
          walk_at "go"
          exact k1 l hT hll (by rw [hM, ← c2, castM_enc]) F H7 e07 nF0 (e7.get gl)
        · rw [decide_eq_false c2]
          walk_at "go"
          refine k0 (fun ⟨m, h1, h2, h3⟩ => ?_) H7 e07
          obtain ⟨w1, w2⟩ := tsl m h1 h2 h3
          refine c2 ?_
          rw [w1]
          rw [w2] at hl
          rw [maps_inj (fun x y e => by omega) hl]
      · rw [decide_eq_false c]
        walk_at "go"
        refine k0 (fun ⟨m, h1, h2, h3⟩ => ?_) H6 e06
        exact c (iff.mp ⟨m, (tsl m h1 h2 h3).2, h1⟩)
def sp__law_copy : Sp := fun vs H Q _ => ∃ (x : V) (d : PyData), vs = [x] ∧ Rn H x d ∧ (∀ a xs, x = .ref a → H a = some (.lst xs) → xs.length < 1000000) ∧ ∀ y H', Ex H H' → Rn H' y d → (isListD d = false → y = x) → Q y H'
theorem ok__law_copy (T : Tx K mg ad fd tk) : FnOk P w K mg base CX0 1 (ad 20) (fd 20) ["_law_table"] sp__law_copy := by
  refine T.d__law_copy.F.ok sc__law_copy (fun vs H Q E h => ?_) (fun cdv A outer s H vs Q E hr h => ?_)
  · obtain ⟨x, d, rfl, _⟩ := h
    rfl
  · obtain ⟨x, d, rfl, hx, hn, k⟩ := h
    refine ⟨_, (pss_cons (ps_if (pt_not (pt_val (pe_callB c_is (by rfl) T.b_isinstance (by decide +kernel) (pa_cons (pv 0) (pa_cons (pe_bltn (v := .ty "list") rfl T.b_list (by decide +kernel) rfl) pa_nil))))) (pss_one (ps_ret (pv 0))) pss_nil)
      (pss_one (ps_ret (pe_lc (own := [("_law_row", 1)]) (g := gName 1) rfl sc__law_copy.nd (pi_list (pv 0)) (blkOk_by (own := [("_law_row", 1)]) (N := N__law_copy) (sc := defScope s__law_copy) (by decide +kernel)) (fun _ _ _ _ _ => pg_name (i := 1) sc__law_copy.nd rfl (Or.inl rfl)) (fun _ _ _ _ _ => pts_nil) (fun _ _ _ _ _ => (pe_ifExp (pt_val (pe_callB c_is (by rfl) T.b_isinstance (by decide +kernel) (pa_cons (pv 1) (pa_cons (pe_bltn (v := .ty "list") rfl T.b_list (by decide +kernel) rfl) pa_nil)))) (pe_slice (s_sl (K := K)) (pv 1) po_none po_none) (pv 1))))))), ?_⟩
    walk_at "go"
    refine st_isListD hx.rq ?_
    refine ⟨_, rfl, ?_⟩
    cases hd : isListD d with
    | false =>
      refine st_T rfl ?_
      walk_at "go"
      exact k x H (Fr.refl _) hx (fun _ => rfl)
    | true =>
    obtain ⟨ds, rfl⟩ : ∃ ds, d = .list ds := by
      cases d <;> first | exact ⟨_, rfl⟩ | cases hd
    obtain ⟨a, xs, rfl, ha, hr⟩ := hx.listAt
    refine st_F rfl ?_
    walk_at "go"
    obtain ⟨zs, rfl, rfl, hz⟩ := hr.zipped
    have hlz := hn a _ rfl ha
    rw [List.length_map] at hlz
    refine lc_madeV (rv_list K a zs fun z => z.1) (fun H' e => lst_of (e.get ha)) hlz (fun z v G => Rn G v z.2) (fun _ _ _ _ h e => h.ex e) ?_ ?_
    · intro z H' hzm e B h1
      have rz := hz z hzm
      have rz' := rz.ex e
      refine ⟨rfl, ?_⟩
      walk_at "go"
      refine st_isListD rz'.rq ?_
      refine ⟨_, rfl, ?_⟩
      cases hd2 : isListD z.2 with
      | false =>
        refine st_F rfl ?_
        walk_at "go"
        exact h1 z.1 H' (Fr.refl _) fun G eG _ => rz.ex eG
      | true =>
        obtain ⟨es, he⟩ : ∃ es, z.2 = .list es := by
          cases h : z.2 <;> rw [h] at hd2 <;> first | exact ⟨_, rfl⟩ | cases hd2
        rw [he] at rz rz'
        obtain ⟨b, ys, hb, hb1, hb2⟩ := rz.listAt
        have hb1' := e.get hb1
        refine st_T rfl ?_
        simp only [hb]
        walk_at "go"
        rename_i q H2 nq e2 vq
        refine h1 (.ref q) H2 e2 fun G eG hG => ?_
        rw [he]
        have hall : cutV ys none none = ys := by
          unfold cutV
          rw [HT.sIx_none, HT.sIx_none, List.drop_zero, Nat.sub_zero, List.take_length]
        rw [hall] at vq
        exact .lst (hG q _ nq vq) (hb2.ex eG)
    · intro D H' ts nD e vD hl hP
      walk_at "go"
      refine k (.ref D) H' e (.lst vD ?_) (fun h => by rw [show isListD (.list (zs.map (·.2))) = true from rfl] at h; cases h)
      have : ∀ (ts : List V) (zs : List (V × PyData)), ts.length = zs.length → (∀ (k : Nat) (v : V) (z : V × PyData), ts[k]? = some v → zs[k]? = some z → Rn H' v z.2) → RnA H' ts (zs.map (·.2)) := by
        intro ts
        induction ts with
        | nil =>
          intro zs h _
          cases zs with
          | nil => exact .nil
          | cons z zs => cases h
        | cons t ts ih =>
          intro zs h h2
          cases zs with
          | nil => cases h
          | cons z zs => exact .cons (h2 0 t z rfl rfl) (ih zs (by simpa using h) fun k v y h3 h4 => h2 (k + 1) v y h3 h4)
      exact this ts zs hl hP
theorem cntTb_inj {l m : List Nat} (hl : IsT l) (hm : IsT m) (h : cntTb l = cntTb m) : l = m := by
  have h1 := congrArg List.length h
  rw [cntTb_len, cntTb_len] at h1
  refine gT_ext (by omega) fun i hi => ?_
  have e1 : cntRow l i = cntRow m i := by
    have := congrArg (fun x => x[i]?) h
    simp only [cntTb_at (l := l) (i := i) (by omega), cntTb_at (l := m) (i := i) (by omega)] at this
    exact Option.some.inj this
  have e2 : cntRow l (i + 1) = cntRow m (i + 1) := by
    have := congrArg (fun x => x[i + 1]?) h
    simp only [cntTb_at (l := l) (i := i + 1) (by omega), cntTb_at (l := m) (i := i + 1) (by omega)] at this
    exact Option.some.inj this
  have s1 := same_cnt hi (hl.g_lt hi)
  rw [e1, e2, show l.length = m.length by omega, same_cnt (by omega) (hm.g_lt (by omega))] at s1
  omega
def sp__law_read : Sp := fun vs H Q _ => ∃ (x : V) (H0 : Hp) (d : PyData), vs = [x] ∧ OdT H0 H x ∧ Rn H x d ∧ ∀ H', Fr (fun b => V.ref b = x ∧ isListD d = true) H H' → Q (.bl true) H'
theorem ok__law_read (T : Tx K mg ad fd tk) : FnOk P w K mg base CX0 7 (ad 21) (fd 21) ["_law_table"] sp__law_read := by
  refine T.d__law_read.F.ok sc__law_read (fun vs H Q E h => ?_) (fun cdv A outer s H vs Q E hr h => ?_)
  · obtain ⟨x, H0, d, rfl, _⟩ := h
    rfl
  · obtain ⟨x, H0, d, rfl, hx, hxr, k⟩ := h
    refine ⟨_, (pss_cons (ps_set (i := 1) sc__law_read.nd rfl (Or.inl rfl) (pe_call (ok__law_from T) (hr.mono (by decide)) rfl T.d__law_from.g T.d__law_from.F.kp T.d__law_from.b .nil pass0 (pa_cons (pv 0) pa_nil)))
      (pss_cons (ps_set (i := 2) sc__law_read.nd rfl (Or.inl rfl) (pe_call (ok__law_copy T) (hr.mono (by decide)) rfl T.d__law_copy.g T.d__law_copy.F.kp T.d__law_copy.b .nil pass0 (pa_cons (pv 0) pa_nil)))
      (pss_cons (ps_set (i := 3) sc__law_read.nd rfl (Or.inl rfl) pe_non)
      (pss_cons (ps_set (i := 4) sc__law_read.nd rfl (Or.inl rfl) pe_non)
      (pss_cons (ps_tryK rfl rfl L2.takes0 (fun W pn xe tk hp => (pss_one (ps_set (i := 3) sc__law_read.nd rfl (Or.inl rfl) (pe_callS (E := WE W) (ok_from_counts T) (hr.mono (by decide)) rfl T.d_from_counts.g T.d_from_counts.F.kp T.d_from_counts.b (fun σ => passAt tk σ) (pa_cons (pv 0) pa_nil)))))
      (.kept (i := 5) sc__law_read.nd rfl rfl ⟨rfl, by decide, Or.inl T.e_PaneError.g⟩ (fun a oe cls d pn hz hf => (pss_one (ps_set (i := 4) sc__law_read.nd rfl (Or.inl rfl) (pv 5)))) .nil) pss_nil)
      (pss_cons (ps_if (pt_cmpR (o_neA (K := K) hr.units) (pv 0) (pv 2) (nomark _)) (pss_one (ps_ret pe_bl)) pss_nil)
      (pss_cons (ps_if (pt_cmpR o_notN (pv 1) pe_non (nomark _)) (pss_one (ps_ret (pe_and (pe_cmpR o_isN (pv 4) pe_non (nomark _)) (pe_one (pe_call (ok__law_list T) (hr.mono (by decide)) rfl T.d__law_list.g T.d__law_list.F.kp T.d__law_list.b .nil pass0 (pa_cons (pv 3) (pa_cons (pv 1) pa_nil))))))) pss_nil)
      (pss_cons (ps_if (PW.pt (pw_or (pt_not (pt_val (pe_callB (call_isK (K := K)) (by rfl) T.b_isinstance (by decide +kernel) (pa_cons (pv 4) (pa_cons (pe_glob (v := .ref (clsA K "NoCounts")) rfl T.e_NoCounts.g rfl) pa_nil))))) (pw_or1 (pt_val (pe_callB (call_isKs (K := K)) (by rfl) T.b_isinstance (by decide +kernel) (pa_cons (pv 4) (pa_cons (pe_tup (pa_cons (pe_glob (v := .ref (clsA K "NoTurning")) rfl T.e_NoTurning.g rfl) (pa_cons (pe_glob (v := .ref (clsA K "NoPlace")) rfl T.e_NoPlace.g rfl) pa_nil))) pa_nil))))))) (pss_one (ps_ret pe_bl)) pss_nil)
      (pss_cut (ps_if (pt_val (pe_callB c_is (by rfl) T.b_isinstance (by decide +kernel) (pa_cons (pv 0) (pa_cons (pe_bltn (v := .ty "list") rfl T.b_list (by decide +kernel) rfl) pa_nil)))) (pss_one (ps_expr (pe_bm PySem.F.plainAttrs_list PySem.F.slot_list_append PySem.F.type_list_append mt_append (pv 0) (pa_cons pe_int pa_nil)))) pss_nil)
      (pss_one (ps_ret (pe_cmpR (o_eqA (K := K) hr.units) (pe_xk (K := K) (pv 4)) (pv 0) (nomark _))))))))))))), ?_⟩
    walk_at "go"
    have hO := hx
    obtain ⟨d', hd1, hd2, hd3⟩ := hx.rn
    obtain rfl : d = d' := hxr.det hd1
    have hlen : ∀ {G : Hp}, Ex H G → ∀ a xs, x = .ref a → G a = some (.lst xs) → xs.length < 1000000 := fun {G} e a xs he h => by
      subst he
      rcases hx with ⟨q, ys, ds, hq, _, h1, _, _, _, h2⟩ | ⟨d2, h1, h2, _⟩
      · cases hq
        rw [e.get h1] at h
        cases h
        omega
      · have h3 := h1.ex e
        cases h3 with
        | lst h4 _ => cases h2
        | tup h4 _ => rw [h4] at h; cases h
        | dk h4 => rw [h4] at h; cases h
    refine ⟨x, d, rfl, hxr, fun hn H1 e1 => ?_, fun l hl hl2 hd D H1 e1 nD vD => ?_⟩
    · walk_at "go"
      refine ⟨x, d, rfl, hxr.ex e1, hlen e1, fun y H2 e2 hy hyx => ?_⟩
      have e02 := e1.trans e2
      walk_at "go"
      refine ⟨x, d, rfl, hxr.ex e02, fun _ xd H3 hxd e3 hvx => ?_, fun l hl hl2 hd => absurd ⟨l, hl, hl2, hd⟩ hn⟩
      walk_at "go"
      rename_i ax hax
      have neK : ∀ (G : Hp) (Q' : V → Hp → Prop), Ex H2 G → Q' (.bl false) G → rNeA K x y G Q' := fun G Q' e q => by
        cases hL : isListD d with
        | false => rw [hyx hL]; exact st_neSelf ((hxr.ex e02).ex e) hd2 (by omega) q
        | true =>
          have hb : d.hasDict = false := by
            cases h : d.hasDict with
            | false => rfl
            | true => rw [hd2 h] at hL; cases hL
          exact st_neA (((hxr.ex e02).ex e).rp hb) ((hy.ex e).rp hb) (by omega) (by rw [eqv_self d hb]; exact q)
      refine neK _ _ (e3.trans (Fr.new hax)) ?_
      walk_at "go"
      rename_i tq H4 n4 e4 v4
      have e04 : Ex H H4 := e02.trans (e3.trans (Ex.trans (Fr.new hax) e4))
      have hx4 := hxr.ex e04
      have ho4 := hO.ex e04
      have f4 : Fr (fun b => V.ref b = x ∧ isListD d = true) H H4 := Fr.ex e04
      have vax : H4 ax = some (XkO ax (.ref (clsA K "NoCounts")) (some xd)) := e4.get upd_same
      have vxd : H4 xd = some (.xd [("found", x)]) := e4.get (upd_old hax hvx)
      have nax : ∀ b, H b ≠ none → b ≠ ax := fun b hb z => hb (by rw [z]; exact Ex.free (e02.trans e3) hax)
      have nxd : ∀ b, H b ≠ none → b ≠ xd := fun b hb z => hb (by rw [z]; exact Ex.free e02 hxd)
      clear e04
      refine ⟨fun σ' H' => (Fr (fun b => V.ref b = x ∧ isListD d = true) H4 H' ∧ ∃ d', Rn H' x d' ∧ (d'.hasDict = true → d' = .dict []) ∧ d'.depth ≤ 50) ∧ ∃ y5, σ' = [some x, some .non, some y, some .non, some (.ref ax), y5], ?_, ?_⟩
      · walk_at "go"
        refine st_isListD hx4.rq ?_
        refine ⟨_, rfl, ?_⟩
        rcases ho4 with ⟨q, xs, ds, rfl, hq0, hq, hra, hnd, hdp, hxl⟩ | ⟨d', hrn, hl, hnd, hdp⟩
        · have hd2 : d = .list ds := hx4.det (.lst hq (hra.ex (hid_ex q H4)))
          subst hd2
          refine st_T rfl ?_
          walk_at "go"
          refine st_app hq (by omega) ?_
          have hh : hid q (upd H4 q (.lst (xs ++ [V.int 7]))) = hid q H4 := by
            funext b
            unfold hid
            by_cases h : b = q
            · rw [if_pos h, if_pos h]
            · rw [if_neg h, if_neg h, upd_ne h]
          refine ⟨⟨Fr.at ⟨rfl, rfl⟩, .list (ds ++ [.int 7]), .lst upd_same ?_, fun z => ?_, ?_⟩, _, rfl⟩
          · refine rnA_append ?_ (.cons (.int _) .nil)
            have := hra
            rw [← hh] at this
            exact this.ex (hid_ex q _)
          · simp only [PyData.hasDict] at z
            rw [hdA_app hnd rfl] at z
            cases z
          · simp only [PyData.depth]
            have := dpA_app (b := [.int 7]) hdp (by simp [PyData.depthAll, PyData.depth])
            omega
        · have hd2 : d = d' := hx4.det hrn
          subst hd2
          refine st_F hl ?_
          walk_at "go"
          exact ⟨⟨Fr.refl _, d, hrn, hnd, by omega⟩, _, rfl⟩
      rintro σ' H5 ⟨⟨f5, d5, h5, nd5, dp5⟩, y5, rfl⟩
      have hxne : ∀ b, V.ref b = x → H b ≠ none := fun b hb z => by
        subst hb
        cases hxr with
        | lst h _ => rw [z] at h; cases h
        | tup h _ => rw [z] at h; cases h
        | dk h => rw [z] at h; cases h
      have vax5 := f5.get (fun z => nax ax (hxne ax z.1) rfl) vax
      have vxd5 := f5.get (fun z => nxd xd (hxne xd z.1) rfl) vxd
      have k2 := k H5 (f4.trans f5)
      clear f4 f5
      walk_at "go"
      refine st_eqSelf h5 nd5 (by omega) ?_
      exact k2
    · walk_at "go"
      refine ⟨x, d, rfl, hxr.ex e1, hlen e1, fun y H2 e2 hy hyx => ?_⟩
      have e02 := e1.trans e2
      walk_at "go"
      refine ⟨x, d, rfl, hxr.ex e02, fun h => absurd ⟨l, hl, hl2, hd⟩ h, fun l2 hl1 hl3 hd2' D2 H3 e3 nD2 vD2 => ?_⟩
      have neK : ∀ (G : Hp) (Q' : V → Hp → Prop), Ex H2 G → Q' (.bl false) G → rNeA K x y G Q' := fun G Q' e q => by
        cases hL : isListD d with
        | false => rw [hyx hL]; exact st_neSelf ((hxr.ex e02).ex e) hd2 (by omega) q
        | true =>
          have hb : d.hasDict = false := by
            cases h : d.hasDict with
            | false => rfl
            | true => rw [hd2 h] at hL; cases hL
          exact st_neA (((hxr.ex e02).ex e).rp hb) ((hy.ex e).rp hb) (by omega) (by rw [eqv_self d hb]; exact q)
      walk_at "go"
      refine neK _ _ e3 ?_
      walk_at "go"
      refine ⟨D2, D, l2, l, rfl, vD2, (e2.trans e3).get vD, by omega, fun H4 e4 => ?_⟩
      have hll : l2 = l := by
        rw [hd] at hd2'
        injection hd2' with h
        have h2 := encRs_inj h
        exact cntTb_inj hl hl1 h2 |>.symm
      rw [decide_eq_true hll]
      exact k _ (Fr.ex (e02.trans (e3.trans e4)))
def sp__law_refused : Sp := fun vs H Q _ => ∃ (x b e : V) (du : Addr) (kd : Str) (z : V) (d dz : PyData), vs = [x, b, e, .ref du] ∧ Rn H x d ∧ Ty H b ∧ Ty H e ∧ H du = some (.tup [.str kd, z]) ∧ Rn H z dz ∧ dz.hasDict = false ∧ dz.depth ≤ 50 ∧
  ((¬ TurnD d ∧ kd = "turning" ∧ z = x) ∨ ∃ l : List Nat, (d = .list (l.map encN) ∨ d = .tuple (l.map encN)) ∧ IsT l ∧ l.length ≤ 96 ∧ kd = "place" ∧ ((withinV b 0 l.length = false ∧ z = b) ∨ (withinV b 0 l.length = true ∧ withinV e 0 l.length = false ∧ z = e))) ∧ ∀ H', Ex H H' → Q (.bl true) H'
theorem ok__law_refused (T : Tx K mg ad fd tk) : FnOk P w K mg base CX0 6 (ad 22) (fd 22) ["_law_turning_here", "_law_begin", "_law_end", "_law_due"] sp__law_refused := by
  refine T.d__law_refused.F.ok sc__law_refused (fun vs H Q E h => ?_) (fun cdv A outer s H vs Q E hr h => ?_)
  · obtain ⟨x, b, e, du, kd, z, d, dz, rfl, _⟩ := h
    rfl
  · obtain ⟨x, b, e, du, kd, z, d, dz, rfl, hx, hb, he, hdu, hz, hnd, hdp, hc, k⟩ := h
    refine ⟨_, (pss_cons (ps_set (i := 4) sc__law_refused.nd rfl (Or.inl rfl) pe_non)
      (pss_cons (ps_tryG rfl rfl L2.takes0 (fun W pn xe tk hp => (pss_one (ps_expr (pe_callS (E := WE W) (ok_counted T) (hr.mono (by decide)) rfl T.d_counted.g T.d_counted.F.kp T.d_counted.b (fun σ => passAt tk σ) (pa_cons (pv 0) (pa_cons (pv 1) (pa_cons (pv 2) pa_nil)))))))
      (.named (i := 5) sc__law_refused.nd rfl rfl ⟨rfl, by decide, Or.inl T.e_NoTurning.g⟩ (fun a oe cls d pn hz hf => (pss_one (ps_set (i := 4) sc__law_refused.nd rfl (Or.inl rfl) (pe_tup (pa_cons pe_str (pa_cons (pe_xe hz hf (pv 5)) pa_nil)))))) (.named (i := 5) sc__law_refused.nd rfl rfl ⟨rfl, by decide, Or.inl T.e_NoPlace.g⟩ (fun a oe cls d pn hz hf => (pss_one (ps_set (i := 4) sc__law_refused.nd rfl (Or.inl rfl) (pe_tup (pa_cons pe_str (pa_cons (pe_xe hz hf (pv 5)) pa_nil)))))) .nil)) pss_nil)
      (pss_one (ps_ret (pe_and (pe_cmpR (o_eq hr.units) (pv 4) (pv 3) (nomark _)) (pe_one (pe_cmpR (o_eq hr.units) (pe_callB c_is (by rfl) T.b_isinstance (by decide +kernel) (pa_cons (pe_ix (i_ix (K := K)) (pv 4) pe_int (fun _ _ => rfl)) (pa_cons (pe_bltn (v := .ty "bool") rfl T.b_bool (by decide +kernel) rfl) pa_nil))) (pe_callB c_is (by rfl) T.b_isinstance (by decide +kernel) (pa_cons (pe_ix (i_ix (K := K)) (pv 3) pe_int (fun _ _ => rfl)) (pa_cons (pe_bltn (v := .ty "bool") rfl T.b_bool (by decide +kernel) rfl) pa_nil))) (nomark _)))))))), ?_⟩
    have fin : ∀ (G : Hp) (t : Addr) (Q' : V → Hp → Prop), Ex H G → G t = some (.tup [.str kd, z]) → Q' (.bl true) G → rEqU (.ref t) (.ref du) G Q' := fun G t Q' eG ht q => by
      have rz := (hz.ex eG).rp hnd
      refine st_eqD (.tup (tup_of ht) (.cons (.str _) (.cons rz .nil))) (.tup (tup_of (eG.get hdu)) (.cons (.str _) (.cons rz .nil))) (by simp only [PyData.depth, PyData.depthAll]; omega) ?_
      rw [eqv_self _ (by simp only [PyData.hasDict, PyData.hasDictAll, hnd]; rfl)]
      exact q
    walk_at "go"
    rcases hc with ⟨hn, rfl, rfl⟩ | ⟨l, hd, hT, hl, rfl, hc⟩
    · refine ⟨z, b, e, d, rfl, hx, hb, he, fun _ xd H1 hxd e1 hvx => ?_, fun l hl hT hlen => absurd ⟨l, hl, hT, hlen⟩ hn⟩
      walk_at "go"
      rename_i tq H2 n2 e2 v2
      have e02 := e1.trans e2
      refine fin H2 tq _ e02 v2 ?_
      have hdu2 := e02.get hdu
      walk_at "go"
      refine st_isBoolT (hz.ex e02).rq.ty ?_
      walk_at "go"
      refine st_isBoolT (hz.ex e02).rq.ty ?_
      walk_at "go"
      rw [beq_self_eq_true]
      exact k H2 e02
    · refine ⟨x, b, e, d, rfl, hx, hb, he, fun h => absurd ⟨l, hd, hT, hl⟩ h, fun l' hd' _ _ => ?_⟩
      have hll : l' = l := by
        rcases hd with h | h <;> rcases hd' with h' | h' <;> rw [h] at h' <;> first | (injection h' with h'; exact (encN_inj h').symm) | cases h'
      subst hll
      refine ⟨fun hw => ?_, fun hw hw2 => ?_, fun i j hbi hej hil hjl => ?_⟩
      · rcases hc with ⟨_, rfl⟩ | ⟨h, _⟩
        rotate_left
        · rw [hw] at h; cases h
        intro xd H1 hxd e1 hvx
        walk_at "go"
        rename_i tq H2 n2 e2 v2
        have e02 := e1.trans e2
        refine fin H2 tq _ e02 v2 ?_
        have hdu2 := e02.get hdu
        walk_at "go"
        refine st_isBoolT (hz.ex e02).rq.ty ?_
        walk_at "go"
        refine st_isBoolT (hz.ex e02).rq.ty ?_
        walk_at "go"
        rw [beq_self_eq_true]
        exact k H2 e02
      · rcases hc with ⟨h, _⟩ | ⟨_, _, rfl⟩
        · rw [hw] at h; cases h
        intro xd H1 hxd e1 hvx
        walk_at "go"
        rename_i tq H2 n2 e2 v2
        have e02 := e1.trans e2
        refine fin H2 tq _ e02 v2 ?_
        have hdu2 := e02.get hdu
        walk_at "go"
        refine st_isBoolT (hz.ex e02).rq.ty ?_
        walk_at "go"
        refine st_isBoolT (hz.ex e02).rq.ty ?_
        walk_at "go"
        rw [beq_self_eq_true]
        exact k H2 e02
      · exfalso
        subst hbi hej
        have w1 : withinV (.int (i : Nat)) 0 (l'.length : Nat) = true := decide_eq_true (by omega)
        have w2 : withinV (.int (j : Nat)) 0 (l'.length : Nat) = true := decide_eq_true (by omega)
        rcases hc with ⟨h, _⟩ | ⟨_, h, _⟩
        · rw [w1] at h; cases h
        · rw [w2] at h; cases h
theorem bad_mk {H : Hp} {n : Nat} {x : V} {d : PyData} (h : Rn H x d) (h1 : d.hasDict = false) (h2 : d.depth ≤ 50) (h3 : withinV x 0 (n : Nat) = false) : ∃ d, Rn H x d ∧ d.hasDict = false ∧ d.depth ≤ 50 ∧ withinV x 0 (n : Nat) = false := ⟨d, h, h1, h2, h3⟩
def sp__law_doors : Sp := fun vs H Q _ => ∃ (p : Addr) (l : List Nat) (c : Int), vs = [.ref p, .int c] ∧ H p = some (.lst (l.map nV)) ∧ IsT l ∧ l.length ≤ 96 ∧ ∀ H', Ex H H' → Q (.bl true) H'
theorem ok__law_doors (T : Tx K mg ad fd tk) : FnOk P w K mg base CX0 7 (ad 23) (fd 23) ["_law_turning_here", "_law_cell_here"] sp__law_doors := by
  refine T.d__law_doors.F.ok sc__law_doors (fun vs H Q E h => ?_) (fun cdv A outer s H vs Q E hr h => ?_)
  · obtain ⟨p, l, c, rfl, _⟩ := h
    rfl
  · obtain ⟨p, l, c, rfl, hp, hl, hl2, k⟩ := h
    refine ⟨_, (pss_cons (ps_set (i := 2) sc__law_doors.nd rfl (Or.inl rfl) (pe_callB (c_len (K := K)) (by rfl) T.b_len (by decide +kernel) (pa_cons (pv 0) pa_nil)))
      (pss_cons (ps_set (i := 3) sc__law_doors.nd rfl (Or.inl rfl) (pe_lst (pa_cons (pe_op o_add (pv 2) pe_int) (pa_cons (pe_un un_neg pe_int) (pa_cons pe_non (pa_cons pe_bl (pa_cons pe_str (pa_cons (pe_lst (pa_cons pe_int pa_nil)) (pa_cons (pe_op o_add (pe_op o_add (pv 2) pe_int) (pe_op o_pow pe_int pe_int)) pa_nil)))))))))
      (pss_cons (ps_set (i := 4) sc__law_doors.nd rfl (Or.inl rfl) (pe_ix (i_ix (K := K)) (pv 3) (pe_op o_mod (pv 1) pe_int) (fun _ _ => rfl)))
      (pss_cons (ps_set (i := 5) sc__law_doors.nd rfl (Or.inl rfl) (pe_ix (i_ix (K := K)) (pv 3) (pe_op o_mod (pe_op o_div (pv 1) pe_int) pe_int) (fun _ _ => rfl)))
      (pss_cons (ps_if (PW.pt (pw_or (pt_not (pt_val (pe_call (ok__law_refused T) (hr.mono (by decide)) rfl T.d__law_refused.g T.d__law_refused.F.kp T.d__law_refused.b .nil pass0 (pa_cons (pv 0) (pa_cons (pv 4) (pa_cons (pv 5) (pa_cons (pe_tup (pa_cons pe_str (pa_cons (pv 4) pa_nil))) pa_nil))))))) (pw_or1 (pt_not (pt_val (pe_call (ok__law_refused T) (hr.mono (by decide)) rfl T.d__law_refused.g T.d__law_refused.F.kp T.d__law_refused.b .nil pass0 (pa_cons (pv 0) (pa_cons (pv 2) (pa_cons (pv 4) (pa_cons (pe_tup (pa_cons pe_str (pa_cons (pv 4) pa_nil))) pa_nil)))))))))) (pss_one (ps_ret pe_bl)) pss_nil)
      (pss_cons (ps_if (pt_not (pt_val (pe_call (ok__law_refused T) (hr.mono (by decide)) rfl T.d__law_refused.g T.d__law_refused.F.kp T.d__law_refused.b .nil pass0 (pa_cons (pv 0) (pa_cons (pv 5) (pa_cons pe_int (pa_cons (pe_tup (pa_cons pe_str (pa_cons (pv 5) pa_nil))) pa_nil))))))) (pss_one (ps_ret pe_bl)) pss_nil)
      (pss_cons (ps_set (i := 6) sc__law_doors.nd rfl (Or.inl rfl) (pe_op o_add (pv 0) (pe_lst (pa_cons (pe_op o_add (pv 2) pe_int) pa_nil))))
      (pss_one (ps_ret (pe_call (ok__law_refused T) (hr.mono (by decide)) rfl T.d__law_refused.g T.d__law_refused.F.kp T.d__law_refused.b .nil pass0 (pa_cons (pv 6) (pa_cons (pv 4) (pa_cons (pv 5) (pa_cons (pe_tup (pa_cons pe_str (pa_cons (pv 6) pa_nil))) pa_nil)))))))))))))), ?_⟩
    walk_at "go"
    rw [List.length_map]
    rename_i u1 F1 m1 g1 w1 B F2 m2 g2 w2
    rw [List.length_map] at w2
    have hbad : ∀ x ∈ [V.int ((l.length : Nat) + 1), V.int (-1), V.non, V.bl true, V.str "0", V.ref u1, V.int ((l.length : Nat) + 1 + 10 ^ Int.toNat 29)], ∃ d, Rn F2 x d ∧ d.hasDict = false ∧ d.depth ≤ 50 ∧ withinV x 0 (l.length : Nat) = false := by
      refine allE_cons (bad_mk (.int _) rfl (by simp [PyData.depth]) (decide_eq_false (by omega))) ?_
      refine allE_cons (bad_mk (.int _) rfl (by simp [PyData.depth]) (by simp [withinV])) ?_
      refine allE_cons (bad_mk .non rfl (by simp [PyData.depth]) rfl) ?_
      refine allE_cons (bad_mk (.bl _) rfl (by simp [PyData.depth]) rfl) ?_
      refine allE_cons (bad_mk (.str _) rfl (by simp [PyData.depth]) rfl) ?_
      refine allE_cons (bad_mk (.lst (g2.get w1) (.cons (.int _) .nil)) rfl (by decide) rfl) ?_
      refine allE_cons (bad_mk (.int _) rfl (by simp [PyData.depth]) ?_) allE_nil
      have : (0 : Int) ≤ 10 ^ Int.toNat 29 := by decide
      exact decide_eq_false (by omega)
    have q0 := Int.emod_nonneg c (b := 7) (by decide)
    have q1 := Int.emod_lt_of_pos c (b := 7) (by decide)
    refine st_ixA (seq_l w2) q0 (by simp only [List.length_cons, List.length_nil]; omega) (fun one _ ho => ?_)
    obtain ⟨d1, a1, a2, a3, a4⟩ := hbad one ho
    walk_at "go"
    have q2 := Int.emod_nonneg (c / 7) (b := 7) (by decide)
    have q3 := Int.emod_lt_of_pos (c / 7) (b := 7) (by decide)
    refine st_ixA (seq_l w2) q2 (by simp only [List.length_cons, List.length_nil]; omega) (fun oth _ ho2 => ?_)
    obtain ⟨d2, b1, b2, b3, b4⟩ := hbad oth ho2
    have e02 : Ex H F2 := g1.trans g2
    have hp2 := e02.get hp
    clear hbad ho ho2 w1 w2 g1 g2 m1 m2
    have rl : ∀ {G : Hp}, Ex F2 G → Rn G (.ref p) (.list (l.map encN)) := fun e => rnNL (e.get hp2)
    have wn : withinV (.int (l.length : Nat)) 0 (l.length : Nat) = true := decide_eq_true (by omega)
    walk_at "go"
    rename_i t1 G1 n1 e1 v1
    refine ⟨.ref p, one, oth, t1, "place", one, _, d1, rfl, rl e1, (a1.ex e1).rq.ty, (b1.ex e1).rq.ty, v1, a1.ex e1, a2, a3, .inr ⟨l, .inl rfl, hl, hl2, rfl, .inl ⟨a4, rfl⟩⟩, fun G2 e2 => ?_⟩
    have e12 := e1.trans e2
    walk_at "go"
    rename_i t3 G3 n3 e3 v3
    have e13 := e12.trans e3
    refine ⟨.ref p, .int (l.length : Nat), one, t3, "place", one, _, d1, rfl, rl e13, ⟨_, rfl⟩, (a1.ex e13).rq.ty, v3, a1.ex e13, a2, a3, .inr ⟨l, .inl rfl, hl, hl2, rfl, .inr ⟨wn, a4, rfl⟩⟩, fun G4 e4 => ?_⟩
    have e14 := e13.trans e4
    walk_at "go"
    rename_i t5 G5 n5 e5 v5
    have e15 := e14.trans e5
    refine ⟨.ref p, oth, .int 0, t5, "place", oth, _, d2, rfl, rl e15, (b1.ex e15).rq.ty, ⟨_, rfl⟩, v5, b1.ex e15, b2, b3, .inr ⟨l, .inl rfl, hl, hl2, rfl, .inl ⟨b4, rfl⟩⟩, fun G6 e6 => ?_⟩
    have e16 := e15.trans e6
    have hp6 := e16.get hp2
    walk_at "go"
    rename_i s7 G7 n7 e7 v7 od G8 n8 e8 v8 t9 G9 n9 e9 v9
    have e19 := e16.trans (e7.trans (e8.trans e9))
    have v8' : G9 od = some (.lst ((l ++ [l.length + 1]).map nV)) := by
      rw [e9.get v8, List.map_append]
      rfl
    refine ⟨.ref od, one, oth, t9, "turning", .ref od, _, _, rfl, rnNL v8', (a1.ex e19).rq.ty, (b1.ex e19).rq.ty, v9, rnNL v8', ?_, ?_, .inl ⟨?_, rfl, rfl⟩, fun G10 e10 => k _ (e02.trans (e19.trans e10))⟩
    · simp only [PyData.hasDict]
      exact hdA_nats _
    · have := depthN (l ++ [l.length + 1])
      omega
    · rintro ⟨m, h1, h2, h3⟩
      rcases h1 with h | h
      · injection h with h
        have := encN_inj h
        have h4 := h2.lt (l.length + 1) (by rw [← this]; simp)
        rw [← this] at h4
        simp at h4
      · cases h
theorem mods_in {cs : List Int} {n : Nat} {f : Int → Int} {a b : Int} (h : ∀ c, f c = f c) (ha : 0 ≤ a ∧ a ≤ n) (hb : 0 ≤ b ∧ b ≤ n) : ∀ x ∈ [a, b] ++ cs.map (fun c => f c % ((n : Int) + 1)), 0 ≤ x ∧ x ≤ n := by
  intro x hx
  rcases List.mem_append.mp hx with h | h
  · simp at h
    rcases h with rfl | rfl
    · exact ha
    · exact hb
  · obtain ⟨c, _, rfl⟩ := List.mem_map.mp h
    have := Int.emod_nonneg (f c) (b := (n : Int) + 1) (by omega)
    have := Int.emod_lt_of_pos (f c) (b := (n : Int) + 1) (by omega)
    omega
def sp__law_right : Sp := fun vs H Q _ => ∃ (p cp : Addr) (l : List Nat) (cs : List Int), vs = [.ref p, .ref cp] ∧ H p = some (.lst (l.map nV)) ∧ H cp = some (.lst (cs.map V.int)) ∧ IsT l ∧ l.length ≤ 96 ∧ cs.length ≤ 10 ∧ ∀ H', Ex H H' → Q (.bl true) H'
theorem ok__law_right (T : Tx K mg ad fd tk) : FnOk P w K mg base CX0 7 (ad 24) (fd 24) ["_law_turning_here", "_law_cells"] sp__law_right := by
  refine T.d__law_right.F.ok sc__law_right (fun vs H Q E h => ?_) (fun cdv A outer s H vs Q E hr h => ?_)
  · obtain ⟨p, cp, l, cs, rfl, _⟩ := h
    rfl
  · obtain ⟨p, cp, l, cs, rfl, hp, hcp, hl, hl2, hcl, k⟩ := h
    refine ⟨_, (pss_cons (ps_set (i := 2) sc__law_right.nd rfl (Or.inl rfl) (pe_call (ok__law_counts T) (hr.mono (by decide)) rfl T.d__law_counts.g T.d__law_counts.F.kp T.d__law_counts.b .nil pass0 (pa_cons (pv 0) pa_nil)))
      (pss_cons (ps_set (i := 3) sc__law_right.nd rfl (Or.inr rfl) (pe_callB (c_len (K := K)) (by rfl) T.b_len (by decide +kernel) (pa_cons (pv 0) pa_nil)))
      (pss_cons (ps_for PassesOwn.never rfl (pi_list (pe_op o_add (pe_lst (pa_cons pe_int (pa_cons (pv 3) pa_nil))) (pe_lc (own := [("_law_cell_here", 11)]) (g := gName 11) rfl sc__law_right.nd (pi_list (pv 1)) (blkOk_by (own := [("_law_cell_here", 11)]) (N := N__law_right) (sc := defScope s__law_right) (by decide +kernel)) (fun _ _ _ _ _ => pg_name (i := 11) sc__law_right.nd rfl (Or.inl rfl)) (fun _ _ _ _ _ => pts_nil) (fun _ _ _ _ _ => (pe_op o_mod (pv 11) (pe_op o_add (pv 3) pe_int)))))) (pg_name (i := 4) sc__law_right.nd rfl (Or.inl rfl)) (pss_one (ps_for PassesOwn.never rfl (pi_list (pe_op o_add (pe_lst (pa_cons (pv 3) (pa_cons pe_int pa_nil))) (pe_lc (own := [("_law_cell_here", 11)]) (g := gName 11) rfl sc__law_right.nd (pi_list (pv 1)) (blkOk_by (own := [("_law_cell_here", 11)]) (N := N__law_right) (sc := defScope s__law_right) (by decide +kernel)) (fun _ _ _ _ _ => pg_name (i := 11) sc__law_right.nd rfl (Or.inl rfl)) (fun _ _ _ _ _ => pts_nil) (fun _ _ _ _ _ => (pe_op o_mod (pe_op o_div (pv 11) pe_int) (pe_op o_add (pv 3) pe_int)))))) (pg_name (i := 5) sc__law_right.nd rfl (Or.inl rfl)) (pss_cons (ps_set (i := 6) sc__law_right.nd rfl (Or.inl rfl) (pe_call (ok_counted T) (hr.mono (by decide)) rfl T.d_counted.g T.d_counted.F.kp T.d_counted.b .nil passL (pa_cons (pe_ix (i_ix (K := K)) (pe_lst (pa_cons (pv 0) (pa_cons (pe_callTy (c_tuple rfl (K := K)) (by rfl) T.b_tuple (by decide +kernel) (pa_cons (pv 0) pa_nil)) pa_nil))) (pe_op o_mod (pe_op o_add (pv 4) (pv 5)) pe_int) (fun _ _ => rfl)) (pa_cons (pv 4) (pa_cons (pv 5) pa_nil)))))
      (pss_one (ps_if (PW.pt (pw_or (pt_not (pt_val (pe_call (ok__law_whole T) (hr.mono (by decide)) rfl T.d__law_whole.g T.d__law_whole.F.kp T.d__law_whole.b .nil pass0 (pa_cons (pv 6) pa_nil)))) (pw_or1 (pt_cmpR (o_ne hr.units) (pv 6) (pe_ix (i_ix (K := K)) (pe_ix (i_ix (K := K)) (pv 2) (pv 4) (fun _ _ => rfl)) (pv 5) (fun _ _ => rfl)) (nomark _))))) (pss_one (ps_ret pe_bl)) pss_nil))))))
      (pss_cons (ps_for PassesOwn.never rfl (pi_range1 rfl T.b_range (pa_cons pe_int pa_nil)) (pg_name (i := 7) sc__law_right.nd rfl (Or.inl rfl)) (pss_cons (ps_set (i := 8) sc__law_right.nd rfl (Or.inl rfl) (pe_call (ok_counts T) (hr.mono (by decide)) rfl T.d_counts.g T.d_counts.F.kp T.d_counts.b .nil passL (pa_cons (pe_ix (i_ix (K := K)) (pe_lst (pa_cons (pv 0) (pa_cons (pe_callTy (c_tuple rfl (K := K)) (by rfl) T.b_tuple (by decide +kernel) (pa_cons (pv 0) pa_nil)) pa_nil))) (pv 7) (fun _ _ => rfl)) pa_nil)))
      (pss_cons (ps_if (PW.pt (pw_or (pt_not (pt_val (pe_callB c_is (by rfl) T.b_isinstance (by decide +kernel) (pa_cons (pv 8) (pa_cons (pe_bltn (v := .ty "list") rfl T.b_list (by decide +kernel) rfl) pa_nil))))) (pw_or1 (pt_cmpR (o_ne hr.units) (pe_callB (c_len (K := K)) (by rfl) T.b_len (by decide +kernel) (pa_cons (pv 8) pa_nil)) (pe_op o_add (pv 3) pe_int) (nomark _))))) (pss_one (ps_ret pe_bl)) pss_nil)
      (pss_cons (ps_for PassesOwn.never rfl (pi_zip rfl T.b_zip (pa_cons (pv 8) (pa_cons (pv 2) pa_nil))) (pg_tup rfl (pgs_cons (pg_name (i := 9) sc__law_right.nd rfl (Or.inl rfl)) (pgs_cons (pg_name (i := 10) sc__law_right.nd rfl (Or.inl rfl)) pgs_nil))) (pss_one (ps_if (pt_not (pt_val (pe_call (ok__law_list T) (hr.mono (by decide)) rfl T.d__law_list.g T.d__law_list.F.kp T.d__law_list.b .nil pass0 (pa_cons (pv 9) (pa_cons (pv 10) pa_nil))))) (pss_one (ps_ret pe_bl)) pss_nil)))
      (pss_cons (ps_if (PW.pt (pw_or (pt_not (pt_val (pe_call (ok__law_list T) (hr.mono (by decide)) rfl T.d__law_list.g T.d__law_list.F.kp T.d__law_list.b .nil pass0 (pa_cons (pe_call (ok_from_counts T) (hr.mono (by decide)) rfl T.d_from_counts.g T.d_from_counts.F.kp T.d_from_counts.b .nil passL (pa_cons (pv 8) pa_nil)) (pa_cons (pv 0) pa_nil))))) (pw_or1 (pt_cmpR (o_ne hr.units) (pv 8) (pv 2) (nomark _))))) (pss_one (ps_ret pe_bl)) pss_nil)
      (pss_cons (ps_for PassesOwn.never rfl (pi_list (pv 8)) (pg_name (i := 9) sc__law_right.nd rfl (Or.inl rfl)) (pss_one (ps_expr (pe_bm PySem.F.plainAttrs_list PySem.F.slot_list_append PySem.F.type_list_append mt_append (pv 9) (pa_cons pe_int pa_nil)))))
      (pss_one (ps_expr (pe_bm0 PySem.F.plainAttrs_list PySem.F.slot_list_clear PySem.F.type_list_clear mt_clear (pv 8))))))))))
      (pss_one (ps_ret pe_bl)))))), ?_⟩
    have hturn : TurnD (.list (l.map encN)) := ⟨l, .inl rfl, hl, hl2⟩
    have hturn2 : TurnD (.tuple (l.map encN)) := ⟨l, .inr rfl, hl, hl2⟩
    have turn : ∀ d : PyData, (d = .list (l.map encN) ∨ d = .tuple (l.map encN)) → TurnD d := fun d h => by rcases h with rfl | rfl <;> assumption
    have lis : ∀ (d : PyData) (l' : List Nat), (d = .list (l.map encN) ∨ d = .tuple (l.map encN)) → (d = .list (l'.map encN) ∨ d = .tuple (l'.map encN)) → l' = l := fun d l' h h' => by
      rcases h with h | h <;> rcases h' with h' | h' <;> rw [h] at h' <;> first | (injection h' with h'; exact (encN_inj h').symm) | cases h'
    walk_at "go"
    refine ⟨p, l, rfl, hp, hl2, fun D rs H1 e1 nD nrs Tb => ?_⟩
    have hp1 := e1.get hp
    have hcp1 := e1.get hcp
    have Tba := Tb.at_
    walk_at "go"
    rw [List.length_map]
    rename_i s1 H2 ns1 e2 vs1
    rw [List.length_map] at vs1
    have hcp2 := e2.get hcp1
    refine lc_map (rv_list K cp cs V.int) (fun H' e => lst_of (e.get hcp2)) (by omega) (fun c => V.int (c % ((l.length : Int) + 1))) ?_ ?_
    · intro c H' hc e B h2
      refine ⟨rfl, ?_⟩
      walk_at "go"
      exact h2 _ (Fr.refl _)
    intro q2 H3 n3 e3 v3
    walk_at "go"
    rename_i B H4 nB e4 vB
    obtain ⟨bs, hbs, hbb⟩ : ∃ bs : List Int, H4 B = some (.lst (bs.map V.int)) ∧ ∀ x ∈ bs, 0 ≤ x ∧ x ≤ (l.length : Nat) := by
      refine ⟨[0, ((l.length : Nat) : Int)] ++ cs.map fun c => c % ((l.length : Int) + 1), ?_, mods_in (f := fun c => c) (fun _ => rfl) (by omega) (by omega)⟩
      rw [vB, List.map_append, List.map_map]
      rfl
    have e14 : Ex H1 H4 := e2.trans (e3.trans e4)
    refine for_runs (rv_list K B bs V.int) (fun i σ H' => Ex H4 H' ∧ ∃ y4 y5 y6, σ = [some (.ref p), some (.ref cp), some (.ref D), some (.int (l.length : Nat)), y4, y5, y6, none, none, none, none, none]) ⟨Fr.refl _, _, _, _, rfl⟩ (fun i σ H' _ h => lst_of (h.1.get hbs)) ?_ ?_
    · rintro i x σ G0 G1 hi ⟨f1, y4, y5, y6, rfl⟩ ⟨rfl, b, hb, rfl⟩
      obtain ⟨b0, b1⟩ := hbb b (List.mem_of_getElem? hb)
      obtain ⟨bn, rfl⟩ := Int.eq_ofNat_of_zero_le b0
      have hcpG := (e14.trans f1).get hcp1
      walk_at "go"
      rename_i s2 G2 ns2 f2 vs2
      have hcpG2 := f2.get hcpG
      refine lc_map (rv_list K cp cs V.int) (fun H' e => lst_of (e.get hcpG2)) (by omega) (fun c => V.int (c / 97 % ((l.length : Int) + 1))) ?_ ?_
      · intro c H' hc e B h2
        refine ⟨rfl, ?_⟩
        walk_at "go"
        exact h2 _ (Fr.refl _)
      intro q3 G3 ng3 f3 vg3
      walk_at "go"
      rename_i E G4 nE f4 vE
      obtain ⟨es, hes, heb⟩ : ∃ es : List Int, G4 E = some (.lst (es.map V.int)) ∧ ∀ x ∈ es, 0 ≤ x ∧ x ≤ (l.length : Nat) := by
        refine ⟨[((l.length : Nat) : Int), 0] ++ cs.map fun c => c / 97 % ((l.length : Int) + 1), ?_, mods_in (f := fun c => c / 97) (fun _ => rfl) (by omega) (by omega)⟩
        rw [vE, List.map_append, List.map_map]
        rfl
      have f14 : Ex H4 G4 := f1.trans (f2.trans (f3.trans f4))
      refine for_runs (rv_list K E es V.int) (fun j σ H' => Ex G4 H' ∧ ∃ y5 y6, σ = [some (.ref p), some (.ref cp), some (.ref D), some (.int (l.length : Nat)), some (.int (bn : Nat)), y5, y6, none, none, none, none, none]) ⟨Fr.refl _, _, _, rfl⟩ (fun i σ H' _ h => lst_of (h.1.get hes)) ?_ ?_
      · rintro j x σ G5 G6 hj ⟨f5, y5, y6, rfl⟩ ⟨rfl, e, he, rfl⟩
        obtain ⟨c0, c1⟩ := heb e (List.mem_of_getElem? he)
        obtain ⟨en, rfl⟩ := Int.eq_ofNat_of_zero_le c0
        have eG := e14.trans (f14.trans f5)
        have hpG := eG.get hp1
        walk_at "go"
        rename_i T1 G7 nT1 f7 vT1 L1 G8 nL1 f8 vL1
        have q0 := Int.emod_nonneg (((bn : Nat) : Int) + (en : Nat)) (b := 2) (by decide)
        have q1 := Int.emod_lt_of_pos (((bn : Nat) : Int) + (en : Nat)) (b := 2) (by decide)
        refine st_ixA (seq_l vL1) q0 (by simp only [List.length_cons, List.length_nil]; omega) (fun x _ hx => ?_)
        have hpG8 := (f7.trans f8).get hpG
        obtain ⟨d, hd, hdd⟩ : ∃ d, Rn G8 x d ∧ (d = .list (l.map encN) ∨ d = .tuple (l.map encN)) := by
          simp at hx
          rcases hx with rfl | rfl
          · exact ⟨_, rnNL hpG8, .inl rfl⟩
          · exact ⟨_, rnNT (f8.get vT1), .inr rfl⟩
        have wb : withinV (.int (bn : Nat)) 0 (l.length : Nat) = true := decide_eq_true (by omega)
        have we : withinV (.int (en : Nat)) 0 (l.length : Nat) = true := decide_eq_true (by omega)
        walk_at "go"
        refine ⟨x, .int (bn : Nat), .int (en : Nat), d, rfl, hd, ⟨_, rfl⟩, ⟨_, rfl⟩, fun h => absurd (turn d hdd) h, fun l' hd' _ _ => ?_⟩
        obtain rfl := lis d l' hdd hd'
        refine ⟨fun h => absurd h (by rw [wb]; decide), fun _ h => absurd h (by rw [we]; decide), fun i' j' hi' hj' hil hjl G9 f9 => ?_⟩
        obtain rfl : bn = i' := by have := V.int.inj hi'; omega
        obtain rfl : en = j' := by have := V.int.inj hj'; omega
        have TbG := Tb.ex (eG.trans (f7.trans (f8.trans f9)))
        have hbl : bn < (cntTb l').length := by rw [cntTb_len]; omega
        obtain ⟨rw', hr1, hr2⟩ := TbG.row hbl
        have hrow : (cntTb l')[bn] = cntRow l' bn := by
          have := cntTb_at (l := l') (i := bn) (by omega)
          rw [List.getElem?_eq_getElem hbl] at this
          exact Option.some.inj this
        rw [hrow] at hr2
        walk_at "go"
        refine ⟨_, rfl, ⟨_, rfl⟩, ?_⟩
        refine ⟨_, rfl, st_F rfl ?_⟩
        walk_at "go"
        refine st_ixL TbG.at_ (at_nat (i := bn) (a := V.ref rw') (by rw [List.getElem?_map, hr1]; rfl)) ?_
        walk_at "go"
        refine st_ixL hr2 (at_mapN (f := nV) (cntRow_get (i := bn) (j := en) (by omega))) ?_
        unfold nV
        walk_at "go"
        refine st_F (by simp) ?_
        walk_at "go"
        exact ⟨f5.trans (f7.trans (f8.trans f9)), _, _, rfl⟩
      · rintro σ G5 ⟨f5, y5, y6, rfl⟩
        exact ⟨f14.trans f5, _, _, _, rfl⟩
    · rintro σ G0 ⟨f0, y4, y5, y6, rfl⟩
      walk_at "go"
      refine for_runs (runs_range 0 2) (fun i σ H' => Ex G0 H' ∧ ∃ y7 y8 y9 y10, σ = [some (.ref p), some (.ref cp), some (.ref D), some (.int (l.length : Nat)), y4, y5, y6, y7, y8, y9, y10, none]) ⟨Fr.refl _, _, _, _, _, rfl⟩ (fun _ _ _ _ _ => trivial) ?_ ?_
      rotate_left
      · rintro σ G1 ⟨f1, y7, y8, y9, y10, rfl⟩
        walk_at "go"
        exact k _ (e1.trans (e14.trans (f0.trans f1)))
      rintro i x σ G1 G2 hi ⟨f1, y7, y8, y9, y10, rfl⟩ ⟨rfl, rfl⟩
      rw [Int.zero_add]
      have eG := e14.trans (f0.trans f1)
      have hpG := eG.get hp1
      walk_at "go"
      rename_i T1 G7 nT1 f7 vT1 L1 G8 nL1 f8 vL1
      refine st_ixA (seq_l vL1) (by omega) (by simp only [List.length_cons, List.length_nil]; omega) (fun x _ hx => ?_)
      have hpG8 := (f7.trans f8).get hpG
      obtain ⟨d, hd, hdd⟩ : ∃ d, Rn G8 x d ∧ (d = .list (l.map encN) ∨ d = .tuple (l.map encN)) := by
        simp at hx
        rcases hx with rfl | rfl
        · exact ⟨_, rnNL hpG8, .inl rfl⟩
        · exact ⟨_, rnNT (f8.get vT1), .inr rfl⟩
      walk_at "go"
      refine ⟨x, d, rfl, hd, fun h => absurd (turn d hdd) h, fun l' hd' _ _ Tt rs2 G9 f9 nTt nrs2 hTr hnd Tb2 => ?_⟩
      obtain rfl := lis d l' hdd hd'
      have Tb9 := Tb.ex (eG.trans (f7.trans (f8.trans f9)))
      have Tb2a := Tb2.at_
      have Tb9a := Tb9.at_
      have l2 := Tb2.len
      have l3 := Tb9.len
      rw [cntTb_len] at l2 l3
      walk_at "go"
      refine st_F (by rw [List.length_map, l2]; simp) ?_
      walk_at "go"
      refine for_runs (runs_zip K Tt D (rs2.map V.ref) (rs.map V.ref)) (fun j σ H' => Ex G9 H' ∧ ∃ y9 y10, σ = [some (.ref p), some (.ref cp), some (.ref D), some (.int (l'.length : Nat)), y4, y5, y6, some (.int (i : Nat)), some (.ref Tt), y9, y10, none]) ⟨Fr.refl _, _, _, rfl⟩ (fun _ σ H' _ h => ⟨lst_of (h.1.get Tb2a), lst_of (h.1.get Tb9a)⟩) ?_ ?_
      · rintro j z σ J1 J2 hj ⟨g1, y9, y10, rfl⟩ ⟨Z, v, u, rfl, nZ, gZ, vZ, hv, hu⟩
        rw [List.length_map, List.length_map] at hj
        have hbl : j < (cntTb l').length := by rw [cntTb_len]; omega
        obtain ⟨ra, ha1, ha2⟩ := (Tb2.ex (g1.trans gZ)).row hbl
        obtain ⟨rb, hb1, hb2⟩ := (Tb9.ex (g1.trans gZ)).row hbl
        rw [List.getElem?_map, ha1] at hv
        rw [List.getElem?_map, hb1] at hu
        cases hv
        cases hu
        have hll : (cntTb l')[j].length ≤ 100000 := by
          have := cntTb_at (l := l') (i := j) (by rw [cntTb_len] at hbl; omega)
          rw [List.getElem?_eq_getElem hbl] at this
          rw [Option.some.inj this, cntRow_len]
          omega
        walk_at "go"
        refine ⟨ra, rb, _, _, rfl, ha2, hb2, hll, fun J3 g3 => ?_⟩
        rw [decide_eq_true rfl]
        walk_at "go"
        exact ⟨g1.trans (gZ.trans g3), _, _, rfl⟩
      rintro σ J1 ⟨g1, y9, y10, rfl⟩
      walk_at "go"
      refine ⟨.ref Tt, _, rfl, (Tb2.ex g1).rn, fun h => absurd ⟨l', hl, hl2, rfl⟩ h, fun l5 h5 h6 h7 D5 J2 g2 nD5 vD5 => ?_⟩
      have h57 : l5 = l' := by
        injection h7 with h7
        exact (cntTb_inj hl h5 (encRs_inj h7)).symm
      subst h57
      have hpJ := (eG.trans (f7.trans (f8.trans (f9.trans (g1.trans g2))))).get hp1
      walk_at "go"
      refine ⟨D5, p, l5, l5, rfl, vD5, hpJ, by omega, fun J3 g3 => ?_⟩
      rw [decide_eq_true rfl]
      have g13 := g1.trans (g2.trans g3)
      have Tb23 := Tb2.ex g13
      have Tb93 := Tb9.ex g13
      have Tb23a := Tb23.at_
      walk_at "go"
      refine st_neD Tb23.rp Tb93.rp (by have := tbl_dp (cntTb l5); omega) ?_
      rw [tbl_eqv, decide_eq_true rfl]
      walk_at "go"
      have e08 : Ex G0 G8 := f1.trans (f7.trans f8)
      have nrs0 : ∀ r ∈ rs2, G0 r = none := fun r hr => Ex.free e08 (nrs2 r hr)
      have nTt0 : G0 Tt = none := Ex.free e08 nTt
      refine for_runs (runs_list K Tt (rs2.map V.ref)) (fun j σ H' => (Ex G0 H' ∧ H' Tt = some (.lst (rs2.map V.ref)) ∧ ∀ k r, j ≤ k → rs2[k]? = some r → H' r = some (.lst ((cntRow l5 k).map nV))) ∧ ∃ y9, σ = [some (.ref p), some (.ref cp), some (.ref D), some (.int (l5.length : Nat)), y4, y5, y6, some (.int (i : Nat)), some (.ref Tt), y9, y10, none]) ⟨⟨e08.trans (f9.trans g13), Tb23a, fun k r _ hr => ?_⟩, _, rfl⟩ (fun _ σ H' _ h => lst_of h.1.2.1) ?_ ?_
      · have hk := (List.getElem?_eq_some_iff.mp hr).1
        exact Tb23.rows.at k r _ hr (by rw [List.getElem?_map, cntTb_at (by omega)]; rfl)
      · rintro j z σ J4 J5 hj ⟨⟨w1, w2, w3⟩, y9, rfl⟩ ⟨rfl, hz⟩
        rw [List.length_map] at hj
        rw [List.getElem?_map] at hz
        obtain ⟨ra, hra, rfl⟩ := Option.map_eq_some_iff.mp hz
        have hra2 := w3 j ra (Nat.le_refl _) hra
        walk_at "go"
        refine st_app hra2 (by rw [List.length_map, cntRow_len]; omega) ?_
        refine ⟨⟨w1.mut (nrs0 ra (List.mem_of_getElem? hra)), (upd_ne fun z => hTr (by rw [z]; exact List.mem_of_getElem? hra)).trans w2, fun k r hk hr => (upd_ne fun z => ?_).trans (w3 k r (by omega) hr)⟩, _, rfl⟩
        have := nd_ix hnd hr (by rw [z]; exact hra)
        omega
      · rintro σ J4 ⟨⟨w1, w2, w3⟩, y9, rfl⟩
        walk_at "go"
        exact ⟨w1.mut nTt0, _, _, _, _, rfl⟩
theorem odT_ex {H0 H H' : Hp} {x : V} {d : PyData} (h : OdT H0 H x) (hr : Rn H x d) (e : Ex H0 H) (f : Fr (fun b => V.ref b = x ∧ isListD d = true) H H') : Ex H0 H' := fun b o n hb => f b o (fun z => by
  obtain ⟨z1, z2⟩ := z
  rcases h with ⟨q, ys, ds, rfl, h1, _⟩ | ⟨d', h1, h2, _⟩
  · cases z1
    rw [h1] at hb
    cases hb
  · rw [hr.det h1, h2] at z2
    cases z2) (e b o n hb)
def sp_law (K : PySem.W.Frag) : Sp := fun vs H Q _ => ∃ (a : Addr) (ns : List Int), vs = [.ref a] ∧ Scr K H a ns ∧ ns.length ≤ 63 ∧ ∀ H', Q (.bl true) H'
theorem ok_law (T : Tx K mg ad fd tk) : FnOk P w K mg base CX0 8 (ad 25) (fd 25) ["_law_script"] (sp_law K) := by
  refine T.d_law.F.ok sc_law (fun vs H Q E h => ?_) (fun cdv A outer s H vs Q E hr h => ?_)
  · obtain ⟨a, ns, rfl, _⟩ := h
    rfl
  · obtain ⟨a, ns, rfl, hs, hl, k⟩ := h
    refine ⟨_, (pss_cons (ps_for PassesOwn.never rfl (pi_range3 rfl T.b_range (pa_cons pe_int (pa_cons (pe_callB (c_max rfl) (by rfl) T.b_max (by decide +kernel) (pa_cons pe_int (pa_cons (pe_callB (c_min rfl) (by rfl) T.b_min (by decide +kernel) (pa_cons pe_int (pa_cons (pe_callB (c_len (K := K)) (by rfl) T.b_len (by decide +kernel) (pa_cons (pv 0) pa_nil)) pa_nil))) pa_nil))) (pa_cons pe_int pa_nil)))) (pg_name (i := 1) sc_law.nd rfl (Or.inl rfl)) (pss_cons (ps_set (i := 2) sc_law.nd rfl (Or.inl rfl) (pe_call (ok__law_many T) (hr.mono (by decide)) rfl T.d__law_many.g T.d__law_many.F.kp T.d__law_many.b .nil pass0 (pa_cons (pe_call (ok__law_cell T) (hr.mono (by decide)) rfl T.d__law_cell.g T.d__law_cell.F.kp T.d__law_cell.b .nil pass0 (pa_cons (pv 0) (pa_cons (pv 1) pa_nil))) pa_nil)))
      (pss_cut (ps_if (pt_cmpR o_gt (pv 1) pe_int (nomark _)) (pss_one (ps_set (i := 2) sc_law.nd rfl (Or.inl rfl) (pe_op o_mod (pv 2) pe_int))) pss_nil)
      (pss_cons (ps_set (i := 3) sc_law.nd rfl (Or.inl rfl) (pe_call (ok__law_turning T) (hr.mono (by decide)) rfl T.d__law_turning.g T.d__law_turning.F.kp T.d__law_turning.b .nil pass0 (pa_cons (pe_call (ok__law_cell T) (hr.mono (by decide)) rfl T.d__law_cell.g T.d__law_cell.F.kp T.d__law_cell.b .nil pass0 (pa_cons (pv 0) (pa_cons (pe_op o_add (pv 1) pe_int) pa_nil))) (pa_cons (pv 2) pa_nil))))
      (pss_cons (ps_set (i := 4) sc_law.nd rfl (Or.inl rfl) (pe_callTy (c_list rfl (K := K)) (by rfl) T.b_list (by decide +kernel) (pa_cons (pv 3) pa_nil)))
      (pss_cons (ps_set (i := 5) sc_law.nd rfl (Or.inl rfl) (pe_call (ok__law_cell T) (hr.mono (by decide)) rfl T.d__law_cell.g T.d__law_cell.F.kp T.d__law_cell.b .nil pass0 (pa_cons (pv 0) (pa_cons (pe_op o_add (pv 1) pe_int) pa_nil))))
      (pss_cons (ps_set (i := 6) sc_law.nd rfl (Or.inl rfl) (pe_lst (pa_cons (pe_call (ok__law_mix T) (hr.mono (by decide)) rfl T.d__law_mix.g T.d__law_mix.F.kp T.d__law_mix.b .nil pass0 (pa_cons (pv 5) (pa_cons pe_int pa_nil))) (pa_cons (pe_call (ok__law_mix T) (hr.mono (by decide)) rfl T.d__law_mix.g T.d__law_mix.F.kp T.d__law_mix.b .nil pass0 (pa_cons (pv 5) (pa_cons pe_int pa_nil))) pa_nil))))
      (pss_cons (ps_if (PW.pt (pw_or (pt_not (pt_val (pe_call (ok__law_right T) (hr.mono (by decide)) rfl T.d__law_right.g T.d__law_right.F.kp T.d__law_right.b .nil pass0 (pa_cons (pv 3) (pa_cons (pv 6) pa_nil))))) (pw_or (pt_not (pt_val (pe_call (ok__law_doors T) (hr.mono (by decide)) rfl T.d__law_doors.g T.d__law_doors.F.kp T.d__law_doors.b .nil pass0 (pa_cons (pv 3) (pa_cons (pe_call (ok__law_mix T) (hr.mono (by decide)) rfl T.d__law_mix.g T.d__law_mix.F.kp T.d__law_mix.b .nil pass0 (pa_cons (pv 5) (pa_cons pe_int pa_nil))) pa_nil))))) (pw_or1 (pt_cmpR (o_ne hr.units) (pv 3) (pv 4) (nomark _)))))) (pss_one (ps_ret pe_bl)) pss_nil)
      (pss_one (ps_if (pt_not (pt_val (pe_call (ok__law_read T) (hr.mono (by decide)) rfl T.d__law_read.g T.d__law_read.F.kp T.d__law_read.b .nil pass0 (pa_cons (pe_call (ok__law_spoiled T) (hr.mono (by decide)) rfl T.d__law_spoiled.g T.d__law_spoiled.F.kp T.d__law_spoiled.b .nil pass0 (pa_cons (pe_call (ok__law_counts T) (hr.mono (by decide)) rfl T.d__law_counts.g T.d__law_counts.F.kp T.d__law_counts.b .nil pass0 (pa_cons (pv 3) pa_nil)) (pa_cons (pe_call (ok__law_cell T) (hr.mono (by decide)) rfl T.d__law_cell.g T.d__law_cell.F.kp T.d__law_cell.b .nil pass0 (pa_cons (pv 0) (pa_cons (pe_op o_add (pv 1) pe_int) pa_nil))) pa_nil))) pa_nil)))) (pss_one (ps_ret pe_bl)) pss_nil))))))))))
      (pss_one (ps_ret (pe_and (pe_call (ok__law_read T) (hr.mono (by decide)) rfl T.d__law_read.g T.d__law_read.F.kp T.d__law_read.b .nil pass0 (pa_cons (pe_lst pa_nil) pa_nil)) (pe_and (pe_call (ok__law_read T) (hr.mono (by decide)) rfl T.d__law_read.g T.d__law_read.F.kp T.d__law_read.b .nil pass0 (pa_cons (pe_lst (pa_cons (pe_lst (pa_cons pe_int pa_nil)) pa_nil)) pa_nil)) (pe_and (pe_call (ok__law_read T) (hr.mono (by decide)) rfl T.d__law_read.g T.d__law_read.F.kp T.d__law_read.b .nil pass0 (pa_cons (pe_lst (pa_cons (pe_lst (pa_cons pe_int pa_nil)) pa_nil)) pa_nil)) (pe_one (pe_call (ok__law_read T) (hr.mono (by decide)) rfl T.d__law_read.g T.d__law_read.F.kp T.d__law_read.b .nil pass0 (pa_cons (pe_lst (pa_cons (pe_lst (pa_cons pe_int (pa_cons pe_int pa_nil))) (pa_cons (pe_lst (pa_cons pe_int (pa_cons pe_int pa_nil))) pa_nil))) pa_nil))))))))), ?_⟩
    have hs := hs.sq
    have read : ∀ (H0 H1 : Hp) (x : V) (Q' : V → Hp → Prop) (E' : XK), Ex H0 H1 → OdT H0 H1 x → (∀ H2, Ex H0 H2 → Q' (.bl true) H2) → sp__law_read [x] H1 Q' E' := fun H0 H1 x Q' E' e o q => by
      obtain ⟨d, h1, _, _⟩ := o.rn
      exact ⟨x, H0, d, rfl, o, h1, fun H2 f => q H2 (odT_ex o h1 e f)⟩
    walk_at "go"
    refine st_lenK hs ?_
    walk_at "go"
    rw [List.length_map]
    obtain ⟨m, hm⟩ : ∃ m : Int, m = if (if ((ns.length : Nat) : Int) < 40 then ((ns.length : Nat) : Int) else 40) > 8 then (if ((ns.length : Nat) : Int) < 40 then ((ns.length : Nat) : Int) else 40) else 8 := ⟨_, rfl⟩
    rw [← hm]
    have hm2 : 8 ≤ m ∧ m ≤ 40 := by
      rw [hm]
      split <;> split at * <;> omega
    refine st_isR3 ((m + 3) / 4).toNat (rgc_pos (by decide) (by decide) (by decide) (by decide) (by omega) (by omega) (by omega)) ?_
    refine for_runs (runs_rangeC _ _ _) (fun i σ H' => SqL K H' a (ns.map V.int) ∧ ∃ y1 y2 y3 y4 y5 y6, σ = [some (.ref a), y1, y2, y3, y4, y5, y6]) ⟨hs, _, _, _, _, _, _, rfl⟩ (fun _ _ _ _ _ => trivial) ?_ ?_
    · rintro i x σ H0 H1 hi ⟨hs1, y1, y2, y3, y4, y5, y6, rfl⟩ ⟨rfl, rfl⟩
      have hi' : i < 21 := by omega
      walk_at "go"
      refine ⟨a, ns, _, rfl, hs1, by omega, hl, fun c => ?_⟩
      walk_at "go"
      refine ⟨c, rfl, fun n H2 hn e2 => ?_⟩
      have hs2 := sqL_exV hs1 e2
      walk_at "go"
      refine ⟨fun σ' H' => H' = H2 ∧ ∃ n' : Nat, n' ≤ 96 ∧ σ' = [some (.ref a), some (.int (0 + ((i : Nat) : Int) * 4)), some (.int (n' : Nat)), y3, y4, y5, y6], ?_, ?_⟩
      · walk_at "go"
        refine st_br2 (fun c1 => ?_) (fun c1 => ?_)
        · walk_at "go"
          obtain ⟨n', hn'⟩ : ∃ n' : Nat, ((n : Nat) : Int) % 25 = (n' : Nat) := ⟨(((n : Nat) : Int) % 25).toNat, by omega⟩
          rw [hn']
          exact ⟨rfl, n', by omega, rfl⟩
        · walk_at "go"
          exact ⟨rfl, n, hn, rfl⟩
      rintro σ' H3 ⟨rfl, n', hn', rfl⟩
      walk_at "go"
      refine ⟨a, ns, _, rfl, hs2, by omega, hl, fun c2 => ?_⟩
      walk_at "go"
      refine ⟨c2, n', rfl, hn', fun l p H4 e4 n4 v4 hT hlen => ?_⟩
      have hs4 := sqL_exV hs2 e4
      walk_at "go"
      rename_i kp H5 n5 e5 v5
      have hs5 := sqL_exV hs4 e5
      have v45 := e5.get v4
      refine ⟨a, ns, _, rfl, hs5, by omega, hl, fun c4 => ?_⟩
      walk_at "go"
      refine ⟨c4, 1, rfl, by decide, fun z1 _ _ => ?_⟩
      walk_at "go"
      refine ⟨c4, 2, rfl, by decide, fun z2 _ _ => ?_⟩
      walk_at "go"
      rename_i cc H6 n6 e6 v6
      have v46 := e6.get v45
      refine ⟨p, cc, l, [z1, z2], rfl, v46, v6, hT, by omega, by simp, fun H7 e7 => ?_⟩
      walk_at "go"
      refine ⟨c4, 3, rfl, by decide, fun z3 _ _ => ?_⟩
      have v47 := e7.get v46
      walk_at "go"
      refine ⟨p, l, z3, rfl, v47, hT, by omega, fun H8 e8 => ?_⟩
      have e58 := e6.trans (e7.trans e8)
      have v48 := e58.get v45
      have v58 := e58.get v5
      walk_at "go"
      refine st_neD (rpN v48) (rpN v58) (by have := depthN l; omega) ?_
      rw [eqvN, decide_eq_true rfl]
      have hs8 := sqL_exV hs5 e58
      walk_at "go"
      refine ⟨p, l, rfl, v48, by omega, fun D rs H9 e9 nD nrs Tb => ?_⟩
      have hs9 := sqL_exV hs8 e9
      walk_at "go"
      refine ⟨a, ns, _, rfl, hs9, by omega, hl, fun c5 => ?_⟩
      walk_at "go"
      refine ⟨D, c5, l, rs, rfl, Tb, by omega, fun x H10 e10 o10 => ?_⟩
      walk_at "go"
      refine read H9 H10 x _ _ e10 o10 fun H11 e11 => ?_
      walk_at "go"
      exact ⟨sqL_exV hs9 e11, _, _, _, _, _, _, rfl⟩
    · rintro σ H1 ⟨hs1, y1, y2, y3, y4, y5, y6, rfl⟩
      walk_at "go"
      rename_i u1 G1 m1 g1 w1
      refine read H1 G1 (.ref u1) _ _ g1 (OdT.list (Fr.refl _) m1 g1 w1 .nil rfl (by simp [PyData.depthAll]) (by simp)) fun G2 g2 => ?_
      walk_at "go"
      rename_i u3 G3 m3 g3 w3 u4 G4 m4 g4 w4
      refine read G2 G4 (.ref u4) _ _ (g3.trans g4) (OdT.list g3 m4 g4 w4 (.cons (.lst w3 (.cons (.int _) .nil)) .nil) rfl (by simp [PyData.depthAll, PyData.depth]) (by simp)) fun G5 g5 => ?_
      walk_at "go"
      rename_i u6 G6 m6 g6 w6 u7 G7 m7 g7 w7
      refine read G5 G7 (.ref u7) _ _ (g6.trans g7) (OdT.list g6 m7 g7 w7 (.cons (.lst w6 (.cons (.int _) .nil)) .nil) rfl (by simp [PyData.depthAll, PyData.depth]) (by simp)) fun G8 g8 => ?_
      walk_at "go"
      rename_i u9 J1 r1 j1 x1 u10 J2 r2 j2 x2 u11 J3 r3 j3 x3
      refine read G8 J3 (.ref u11) _ _ (j1.trans (j2.trans j3)) (OdT.list (j1.trans j2) r3 j3 x3 (.cons (.lst (j2.get x1) (.cons (.int _) (.cons (.int _) .nil))) (.cons (.lst x2 (.cons (.int _) (.cons (.int _) .nil))) .nil)) rfl (by simp [PyData.depthAll, PyData.depth]) (by simp)) fun G9 g9 => ?_
      exact k _
end
theorem all_mk {P : Program} {w : World} {K : PySem.W.Frag} {h : Heap} {mg : Str → Option Value} {fa f0 f1 f2 f3 f4 f5 f6 f7 f8 f9 f10 f11 f12 f13 f14 f15 f16 f17 f18 f19 f20 f21 f22 f23 f24 f25 : Addr} (X : K.In h) (G : h.Ns mainGlobals mg) (hfa : mg "law" = some (.ref fa))
    {od0 od1 od2 od3 od4 od5 od6 od7 od8 od9 od10 od11 od12 od13 od14 od15 od16 od17 od18 od19 od20 od21 od22 od23 od24 od25 an0 an1 an2 an3 an4 an5 an6 an7 an8 an9 an10 an11 an12 an13 an14 an15 an16 an17 an18 an19 an20 an21 an22 an23 an24 an25 : Option Addr} {sl0 sl1 sl2 sl3 sl4 sl5 sl6 sl7 sl8 sl9 sl10 sl11 sl12 sl13 sl14 sl15 sl16 sl17 sl18 sl19 sl20 sl21 sl22 sl23 sl24 sl25 : Array (Option Value)} {oc0 oc1 oc2 oc3 oc4 oc5 oc6 oc7 oc8 oc9 oc10 oc11 oc12 oc13 oc14 oc15 oc16 oc17 oc18 oc19 oc20 oc21 oc22 oc23 oc24 oc25 kV0 kV1 kV2 kV3 kV4 kV5 kV6 kV7 kV8 kV9 kV10 kV11 kV12 kV13 kV14 kV15 kV16 kV17 kV18 kV19 kV20 kV21 kV22 kV23 kV24 kV25 dc0 dc1 dc2 dc3 dc4 dc5 dc6 dc7 dc8 dc9 dc10 dc11 dc12 dc13 dc14 dc15 dc16 dc17 dc18 dc19 dc20 dc21 dc22 dc23 dc24 dc25 pm0 pm1 pm2 pm3 pm4 pm5 pm6 pm7 pm8 pm9 pm10 pm11 pm12 pm13 pm14 pm15 pm16 pm17 pm18 pm19 pm20 pm21 pm22 pm23 pm24 pm25 cd0 cd1 cd2 cd3 cd4 cd5 cd6 cd7 cd8 cd9 cd10 cd11 cd12 cd13 cd14 cd15 cd16 cd17 cd18 cd19 cd20 cd21 cd22 cd23 cd24 cd25 ct0 ct1 ct2 ct3 ct4 ct5 ct6 ct7 ct8 ct9 ct10 ct11 ct12 ct13 ct14 ct15 ct16 ct17 ct18 ct19 ct20 ct21 ct22 ct23 ct24 ct25 : Value} {t0 : Tok}{C_NoTurning C_NoPlace C_NoCounts C_PaneError I_NoTurning I_NoPlace I_NoCounts : Addr} {xn_NoTurning xn_NoPlace xn_NoCounts xq_NoTurning xq_NoPlace xq_NoCounts : Str} {xN_NoTurning xN_NoPlace xN_NoCounts : Addr} {xb_NoTurning xb_NoPlace xb_NoCounts xu_NoTurning xu_NoPlace xu_NoCounts : List Value} {xs_NoTurning xs_NoPlace xs_NoCounts : List Str} {xa_NoTurning xa_NoPlace xa_NoCounts : Bool} {xc_NoTurning xc_NoPlace xc_NoCounts : Option Bool} {xd_NoTurning xd_NoPlace xd_NoCounts Iod_NoTurning Iod_NoPlace Iod_NoCounts Ian_NoTurning Ian_NoPlace Ian_NoCounts : Option Addr} {xk0_NoTurning xk0_NoPlace xk0_NoCounts xk1_NoTurning xk1_NoPlace xk1_NoCounts xk2_NoTurning xk2_NoPlace xk2_NoCounts xk3_NoTurning xk3_NoPlace xk3_NoCounts xk5_NoTurning xk5_NoPlace xk5_NoCounts : Option Value} {Ioc_NoTurning Ioc_NoPlace Ioc_NoCounts IkV_NoTurning IkV_NoPlace IkV_NoCounts Idc_NoTurning Idc_NoPlace Idc_NoCounts Ipm_NoTurning Ipm_NoPlace Ipm_NoCounts Icd_NoTurning Icd_NoPlace Icd_NoCounts Ict_NoTurning Ict_NoPlace Ict_NoCounts : Value} {Isl_NoTurning Isl_NoPlace Isl_NoCounts : Array (Option Value)} 
    (a0 : PySem.W.nsIn K mainGlobals "is_whole" = some (some (.ref f0)))
    (l0 : K.lookup f0 = some ⟨oc0, od0, .func (PySem.W.fnOf "is_whole" "is_whole" (defArgs s_is_whole) (defBody s_is_whole) (defScope s_is_whole) .none kV0 dc0 pm0 an0 cd0 ct0), sl0⟩)
    (c0 : PySem.W.codeIn K cd0 "is_whole" = true) (k0 : PySem.W.keepIn K (.ref f0) = true)
    (a1 : PySem.W.nsIn K mainGlobals "is_within" = some (some (.ref f1)))
    (l1 : K.lookup f1 = some ⟨oc1, od1, .func (PySem.W.fnOf "is_within" "is_within" (defArgs s_is_within) (defBody s_is_within) (defScope s_is_within) .none kV1 dc1 pm1 an1 cd1 ct1), sl1⟩)
    (c1 : PySem.W.codeIn K cd1 "is_within" = true) (k1 : PySem.W.keepIn K (.ref f1) = true)
    (a2 : PySem.W.nsIn K mainGlobals "is_turning" = some (some (.ref f2)))
    (l2 : K.lookup f2 = some ⟨oc2, od2, .func (PySem.W.fnOf "is_turning" "is_turning" (defArgs s_is_turning) (defBody s_is_turning) (defScope s_is_turning) .none kV2 dc2 pm2 an2 cd2 ct2), sl2⟩)
    (c2 : PySem.W.codeIn K cd2 "is_turning" = true) (k2 : PySem.W.keepIn K (.ref f2) = true)
    (a3 : PySem.W.nsIn K mainGlobals "need_turning" = some (some (.ref f3)))
    (l3 : K.lookup f3 = some ⟨oc3, od3, .func (PySem.W.fnOf "need_turning" "need_turning" (defArgs s_need_turning) (defBody s_need_turning) (defScope s_need_turning) .none kV3 dc3 pm3 an3 cd3 ct3), sl3⟩)
    (c3 : PySem.W.codeIn K cd3 "need_turning" = true) (k3 : PySem.W.keepIn K (.ref f3) = true)
    (a4 : PySem.W.nsIn K mainGlobals "need_place" = some (some (.ref f4)))
    (l4 : K.lookup f4 = some ⟨oc4, od4, .func (PySem.W.fnOf "need_place" "need_place" (defArgs s_need_place) (defBody s_need_place) (defScope s_need_place) .none kV4 dc4 pm4 an4 cd4 ct4), sl4⟩)
    (c4 : PySem.W.codeIn K cd4 "need_place" = true) (k4 : PySem.W.keepIn K (.ref f4) = true)
    (a5 : PySem.W.nsIn K mainGlobals "counted" = some (some (.ref f5)))
    (l5 : K.lookup f5 = some ⟨oc5, od5, .func (PySem.W.fnOf "counted" "counted" (defArgs s_counted) (defBody s_counted) (defScope s_counted) .none kV5 dc5 pm5 an5 cd5 ct5), sl5⟩)
    (c5 : PySem.W.codeIn K cd5 "counted" = true) (k5 : PySem.W.keepIn K (.ref f5) = true)
    (a6 : PySem.W.nsIn K mainGlobals "counts" = some (some (.ref f6)))
    (l6 : K.lookup f6 = some ⟨oc6, od6, .func (PySem.W.fnOf "counts" "counts" (defArgs s_counts) (defBody s_counts) (defScope s_counts) .none kV6 dc6 pm6 an6 cd6 ct6), sl6⟩)
    (c6 : PySem.W.codeIn K cd6 "counts" = true) (k6 : PySem.W.keepIn K (.ref f6) = true)
    (a7 : PySem.W.nsIn K mainGlobals "is_square" = some (some (.ref f7)))
    (l7 : K.lookup f7 = some ⟨oc7, od7, .func (PySem.W.fnOf "is_square" "is_square" (defArgs s_is_square) (defBody s_is_square) (defScope s_is_square) .none kV7 dc7 pm7 an7 cd7 ct7), sl7⟩)
    (c7 : PySem.W.codeIn K cd7 "is_square" = true) (k7 : PySem.W.keepIn K (.ref f7) = true)
    (a8 : PySem.W.nsIn K mainGlobals "from_counts" = some (some (.ref f8)))
    (l8 : K.lookup f8 = some ⟨oc8, od8, .func (PySem.W.fnOf "from_counts" "from_counts" (defArgs s_from_counts) (defBody s_from_counts) (defScope s_from_counts) .none kV8 dc8 pm8 an8 cd8 ct8), sl8⟩)
    (c8 : PySem.W.codeIn K cd8 "from_counts" = true) (k8 : PySem.W.keepIn K (.ref f8) = true)
    (a9 : PySem.W.nsIn K mainGlobals "_law_cell" = some (some (.ref f9)))
    (l9 : K.lookup f9 = some ⟨oc9, od9, .func (PySem.W.fnOf "_law_cell" "_law_cell" (defArgs s__law_cell) (defBody s__law_cell) (defScope s__law_cell) .none kV9 dc9 pm9 an9 cd9 ct9), sl9⟩)
    (c9 : PySem.W.codeIn K cd9 "_law_cell" = true) (k9 : PySem.W.keepIn K (.ref f9) = true)
    (a10 : PySem.W.nsIn K mainGlobals "_law_mix" = some (some (.ref f10)))
    (l10 : K.lookup f10 = some ⟨oc10, od10, .func (PySem.W.fnOf "_law_mix" "_law_mix" (defArgs s__law_mix) (defBody s__law_mix) (defScope s__law_mix) .none kV10 dc10 pm10 an10 cd10 ct10), sl10⟩)
    (c10 : PySem.W.codeIn K cd10 "_law_mix" = true) (k10 : PySem.W.keepIn K (.ref f10) = true)
    (a11 : PySem.W.nsIn K mainGlobals "_law_takes" = some (some (.ref f11)))
    (l11 : K.lookup f11 = some ⟨oc11, od11, .func (PySem.W.fnOf "_law_takes" "_law_takes" (defArgs s__law_takes) (defBody s__law_takes) (defScope s__law_takes) .none kV11 dc11 pm11 an11 cd11 ct11), sl11⟩)
    (c11 : PySem.W.codeIn K cd11 "_law_takes" = true) (k11 : PySem.W.keepIn K (.ref f11) = true)
    (a12 : PySem.W.nsIn K mainGlobals "_law_many" = some (some (.ref f12)))
    (l12 : K.lookup f12 = some ⟨oc12, od12, .func (PySem.W.fnOf "_law_many" "_law_many" (defArgs s__law_many) (defBody s__law_many) (defScope s__law_many) .none kV12 dc12 pm12 an12 cd12 ct12), sl12⟩)
    (c12 : PySem.W.codeIn K cd12 "_law_many" = true) (k12 : PySem.W.keepIn K (.ref f12) = true)
    (a13 : PySem.W.nsIn K mainGlobals "_law_turning" = some (some (.ref f13)))
    (l13 : K.lookup f13 = some ⟨oc13, od13, .func (PySem.W.fnOf "_law_turning" "_law_turning" (defArgs s__law_turning) (defBody s__law_turning) (defScope s__law_turning) .none kV13 dc13 pm13 an13 cd13 ct13), sl13⟩)
    (c13 : PySem.W.codeIn K cd13 "_law_turning" = true) (k13 : PySem.W.keepIn K (.ref f13) = true)
    (a14 : PySem.W.nsIn K mainGlobals "_law_whole" = some (some (.ref f14)))
    (l14 : K.lookup f14 = some ⟨oc14, od14, .func (PySem.W.fnOf "_law_whole" "_law_whole" (defArgs s__law_whole) (defBody s__law_whole) (defScope s__law_whole) .none kV14 dc14 pm14 an14 cd14 ct14), sl14⟩)
    (c14 : PySem.W.codeIn K cd14 "_law_whole" = true) (k14 : PySem.W.keepIn K (.ref f14) = true)
    (a15 : PySem.W.nsIn K mainGlobals "_law_list" = some (some (.ref f15)))
    (l15 : K.lookup f15 = some ⟨oc15, od15, .func (PySem.W.fnOf "_law_list" "_law_list" (defArgs s__law_list) (defBody s__law_list) (defScope s__law_list) .none kV15 dc15 pm15 an15 cd15 ct15), sl15⟩)
    (c15 : PySem.W.codeIn K cd15 "_law_list" = true) (k15 : PySem.W.keepIn K (.ref f15) = true)
    (a16 : PySem.W.nsIn K mainGlobals "_law_counts" = some (some (.ref f16)))
    (l16 : K.lookup f16 = some ⟨oc16, od16, .func (PySem.W.fnOf "_law_counts" "_law_counts" (defArgs s__law_counts) (defBody s__law_counts) (defScope s__law_counts) .none kV16 dc16 pm16 an16 cd16 ct16), sl16⟩)
    (c16 : PySem.W.codeIn K cd16 "_law_counts" = true) (k16 : PySem.W.keepIn K (.ref f16) = true)
    (a17 : PySem.W.nsIn K mainGlobals "_law_spoiled" = some (some (.ref f17)))
    (l17 : K.lookup f17 = some ⟨oc17, od17, .func (PySem.W.fnOf "_law_spoiled" "_law_spoiled" (defArgs s__law_spoiled) (defBody s__law_spoiled) (defScope s__law_spoiled) .none kV17 dc17 pm17 an17 cd17 ct17), sl17⟩)
    (c17 : PySem.W.codeIn K cd17 "_law_spoiled" = true) (k17 : PySem.W.keepIn K (.ref f17) = true)
    (a18 : PySem.W.nsIn K mainGlobals "_law_is_square" = some (some (.ref f18)))
    (l18 : K.lookup f18 = some ⟨oc18, od18, .func (PySem.W.fnOf "_law_is_square" "_law_is_square" (defArgs s__law_is_square) (defBody s__law_is_square) (defScope s__law_is_square) .none kV18 dc18 pm18 an18 cd18 ct18), sl18⟩)
    (c18 : PySem.W.codeIn K cd18 "_law_is_square" = true) (k18 : PySem.W.keepIn K (.ref f18) = true)
    (a19 : PySem.W.nsIn K mainGlobals "_law_from" = some (some (.ref f19)))
    (l19 : K.lookup f19 = some ⟨oc19, od19, .func (PySem.W.fnOf "_law_from" "_law_from" (defArgs s__law_from) (defBody s__law_from) (defScope s__law_from) .none kV19 dc19 pm19 an19 cd19 ct19), sl19⟩)
    (c19 : PySem.W.codeIn K cd19 "_law_from" = true) (k19 : PySem.W.keepIn K (.ref f19) = true)
    (a20 : PySem.W.nsIn K mainGlobals "_law_copy" = some (some (.ref f20)))
    (l20 : K.lookup f20 = some ⟨oc20, od20, .func (PySem.W.fnOf "_law_copy" "_law_copy" (defArgs s__law_copy) (defBody s__law_copy) (defScope s__law_copy) .none kV20 dc20 pm20 an20 cd20 ct20), sl20⟩)
    (c20 : PySem.W.codeIn K cd20 "_law_copy" = true) (k20 : PySem.W.keepIn K (.ref f20) = true)
    (a21 : PySem.W.nsIn K mainGlobals "_law_read" = some (some (.ref f21)))
    (l21 : K.lookup f21 = some ⟨oc21, od21, .func (PySem.W.fnOf "_law_read" "_law_read" (defArgs s__law_read) (defBody s__law_read) (defScope s__law_read) .none kV21 dc21 pm21 an21 cd21 ct21), sl21⟩)
    (c21 : PySem.W.codeIn K cd21 "_law_read" = true) (k21 : PySem.W.keepIn K (.ref f21) = true)
    (a22 : PySem.W.nsIn K mainGlobals "_law_refused" = some (some (.ref f22)))
    (l22 : K.lookup f22 = some ⟨oc22, od22, .func (PySem.W.fnOf "_law_refused" "_law_refused" (defArgs s__law_refused) (defBody s__law_refused) (defScope s__law_refused) .none kV22 dc22 pm22 an22 cd22 ct22), sl22⟩)
    (c22 : PySem.W.codeIn K cd22 "_law_refused" = true) (k22 : PySem.W.keepIn K (.ref f22) = true)
    (a23 : PySem.W.nsIn K mainGlobals "_law_doors" = some (some (.ref f23)))
    (l23 : K.lookup f23 = some ⟨oc23, od23, .func (PySem.W.fnOf "_law_doors" "_law_doors" (defArgs s__law_doors) (defBody s__law_doors) (defScope s__law_doors) .none kV23 dc23 pm23 an23 cd23 ct23), sl23⟩)
    (c23 : PySem.W.codeIn K cd23 "_law_doors" = true) (k23 : PySem.W.keepIn K (.ref f23) = true)
    (a24 : PySem.W.nsIn K mainGlobals "_law_right" = some (some (.ref f24)))
    (l24 : K.lookup f24 = some ⟨oc24, od24, .func (PySem.W.fnOf "_law_right" "_law_right" (defArgs s__law_right) (defBody s__law_right) (defScope s__law_right) .none kV24 dc24 pm24 an24 cd24 ct24), sl24⟩)
    (c24 : PySem.W.codeIn K cd24 "_law_right" = true) (k24 : PySem.W.keepIn K (.ref f24) = true)
    (a25 : PySem.W.nsIn K mainGlobals "law" = some (some (.ref f25)))
    (l25 : K.lookup f25 = some ⟨oc25, od25, .func (PySem.W.fnOf "law" "law" (defArgs s_law) (defBody s_law) (defScope s_law) .none kV25 dc25 pm25 an25 cd25 ct25), sl25⟩)
    (c25 : PySem.W.codeIn K cd25 "law" = true) (k25 : PySem.W.keepIn K (.ref f25) = true)
    (cn0 : PySem.W.nsIn K mainGlobals "MOST_LINES" = some (some (.int 96 t0)))
    (z0 : PySem.W.nsIn K mainGlobals "isinstance" = some none)
    (z1 : PySem.W.nsIn K mainGlobals "int" = some none)
    (z2 : PySem.W.nsIn K mainGlobals "bool" = some none)
    (z3 : PySem.W.nsIn K mainGlobals "len" = some none)
    (z4 : PySem.W.nsIn K mainGlobals "list" = some none)
    (z5 : PySem.W.nsIn K mainGlobals "tuple" = some none)
    (z6 : PySem.W.nsIn K mainGlobals "enumerate" = some none)
    (z7 : PySem.W.nsIn K mainGlobals "all" = some none)
    (z8 : PySem.W.nsIn K mainGlobals "zip" = some none)
    (z9 : PySem.W.nsIn K mainGlobals "range" = some none)
    (z10 : PySem.W.nsIn K mainGlobals "sorted" = some none)
    (z11 : PySem.W.nsIn K mainGlobals "max" = some none)
    (z12 : PySem.W.nsIn K mainGlobals "min" = some none)
    (g_NoTurning : PySem.W.nsIn K mainGlobals "NoTurning" = some (some (.ref C_NoTurning)))
    (g_NoPlace : PySem.W.nsIn K mainGlobals "NoPlace" = some (some (.ref C_NoPlace)))
    (g_NoCounts : PySem.W.nsIn K mainGlobals "NoCounts" = some (some (.ref C_NoCounts)))
    (g_PaneError : PySem.W.nsIn K mainGlobals "PaneError" = some (some (.ref C_PaneError)))
    (sb_PaneError : PySem.W.subIn K (.ref C_PaneError) (.type "BaseException") = some true)
    (hd_PaneError : PySem.W.hasDictIn K C_PaneError = true)
    (ty_PaneError : PySem.W.typeIn K (.ref C_PaneError) = some (.type "type"))
    (sb_NoTurning : PySem.W.subIn K (.ref C_NoTurning) (.type "BaseException") = some true)
    (hd_NoTurning : PySem.W.hasDictIn K C_NoTurning = true)
    (ty_NoTurning : PySem.W.typeIn K (.ref C_NoTurning) = some (.type "type"))
    (sb_NoPlace : PySem.W.subIn K (.ref C_NoPlace) (.type "BaseException") = some true)
    (hd_NoPlace : PySem.W.hasDictIn K C_NoPlace = true)
    (ty_NoPlace : PySem.W.typeIn K (.ref C_NoPlace) = some (.type "type"))
    (sb_NoCounts : PySem.W.subIn K (.ref C_NoCounts) (.type "BaseException") = some true)
    (hd_NoCounts : PySem.W.hasDictIn K C_NoCounts = true)
    (ty_NoCounts : PySem.W.typeIn K (.ref C_NoCounts) = some (.type "type"))
    (lk_NoTurning : K.lookup C_NoTurning = some (excClassObj xn_NoTurning xq_NoTurning C_NoTurning xN_NoTurning xb_NoTurning [.ref C_PaneError, .type "ValueError", .type "Exception", .type "BaseException", .type "object"] true xs_NoTurning xu_NoTurning xa_NoTurning xc_NoTurning xd_NoTurning xk0_NoTurning xk1_NoTurning xk2_NoTurning xk3_NoTurning xk5_NoTurning "ValueError.__new__"))
    (f_setattr_NoTurning : PySem.W.findIn K (.ref C_NoTurning) "__setattr__" = some (some (.builtin "object.__setattr__")))
    (k_NoTurning : PySem.W.keepIn K (.ref C_NoTurning) = true)
    (f_found_NoTurning : PySem.W.findIn K (.ref C_NoTurning) "found" = some none)
    (ini_NoTurning : PySem.W.findIn K (.ref C_NoTurning) "__init__" = some (some (.ref I_NoTurning)))
    (int_NoTurning : PySem.W.typeIn K (.ref I_NoTurning) = some (.type "function"))
    (il_NoTurning : K.lookup I_NoTurning = some ⟨Ioc_NoTurning, Iod_NoTurning, .func (PySem.W.fnOf "__init__" "NoTurning.__init__" (defArgs si_NoTurning) (defBody si_NoTurning) (defScope si_NoTurning) .none IkV_NoTurning Idc_NoTurning Ipm_NoTurning Ian_NoTurning Icd_NoTurning Ict_NoTurning), Isl_NoTurning⟩)
    (ic_NoTurning : PySem.W.codeIn K Icd_NoTurning "NoTurning.__init__" = true)
    (ik_NoTurning : PySem.W.keepIn K (.ref I_NoTurning) = true)
    (ct_ : PySem.W.specialIn K (.builtin "object.__class__") "__get__" = some (some (.builtin "getset_descriptor.__get__")))
    (cu_ : PySem.W.takesIn K (.builtin "object.__class__") = some true)
    (f_getattribute_NoTurning : PySem.W.findIn K (.ref C_NoTurning) "__getattribute__" = some (some (.builtin "BaseException.__getattribute__")))
    (f_getattr_NoTurning : PySem.W.findIn K (.ref C_NoTurning) "__getattr__" = some none)
    (f_class_NoTurning : PySem.W.findIn K (.ref C_NoTurning) "__class__" = some (some (.builtin "object.__class__")))
    (cm_NoTurning : PySem.W.mroIn K C_NoTurning (.type "object") = some true)
    (s_NoTurning_PaneError : PySem.W.subIn K (.ref C_NoTurning) (.ref C_PaneError) = some true)
    (s_NoTurning_NoTurning : PySem.W.subIn K (.ref C_NoTurning) (.ref C_NoTurning) = some true)
    (s_NoTurning_NoPlace : PySem.W.subIn K (.ref C_NoTurning) (.ref C_NoPlace) = some false)
    (s_NoTurning_NoCounts : PySem.W.subIn K (.ref C_NoTurning) (.ref C_NoCounts) = some false)
    (lk_NoPlace : K.lookup C_NoPlace = some (excClassObj xn_NoPlace xq_NoPlace C_NoPlace xN_NoPlace xb_NoPlace [.ref C_PaneError, .type "ValueError", .type "Exception", .type "BaseException", .type "object"] true xs_NoPlace xu_NoPlace xa_NoPlace xc_NoPlace xd_NoPlace xk0_NoPlace xk1_NoPlace xk2_NoPlace xk3_NoPlace xk5_NoPlace "ValueError.__new__"))
    (f_setattr_NoPlace : PySem.W.findIn K (.ref C_NoPlace) "__setattr__" = some (some (.builtin "object.__setattr__")))
    (k_NoPlace : PySem.W.keepIn K (.ref C_NoPlace) = true)
    (f_found_NoPlace : PySem.W.findIn K (.ref C_NoPlace) "found" = some none)
    (ini_NoPlace : PySem.W.findIn K (.ref C_NoPlace) "__init__" = some (some (.ref I_NoPlace)))
    (int_NoPlace : PySem.W.typeIn K (.ref I_NoPlace) = some (.type "function"))
    (il_NoPlace : K.lookup I_NoPlace = some ⟨Ioc_NoPlace, Iod_NoPlace, .func (PySem.W.fnOf "__init__" "NoPlace.__init__" (defArgs si_NoPlace) (defBody si_NoPlace) (defScope si_NoPlace) .none IkV_NoPlace Idc_NoPlace Ipm_NoPlace Ian_NoPlace Icd_NoPlace Ict_NoPlace), Isl_NoPlace⟩)
    (ic_NoPlace : PySem.W.codeIn K Icd_NoPlace "NoPlace.__init__" = true)
    (ik_NoPlace : PySem.W.keepIn K (.ref I_NoPlace) = true)
    (f_getattribute_NoPlace : PySem.W.findIn K (.ref C_NoPlace) "__getattribute__" = some (some (.builtin "BaseException.__getattribute__")))
    (f_getattr_NoPlace : PySem.W.findIn K (.ref C_NoPlace) "__getattr__" = some none)
    (f_class_NoPlace : PySem.W.findIn K (.ref C_NoPlace) "__class__" = some (some (.builtin "object.__class__")))
    (cm_NoPlace : PySem.W.mroIn K C_NoPlace (.type "object") = some true)
    (s_NoPlace_PaneError : PySem.W.subIn K (.ref C_NoPlace) (.ref C_PaneError) = some true)
    (s_NoPlace_NoTurning : PySem.W.subIn K (.ref C_NoPlace) (.ref C_NoTurning) = some false)
    (s_NoPlace_NoPlace : PySem.W.subIn K (.ref C_NoPlace) (.ref C_NoPlace) = some true)
    (s_NoPlace_NoCounts : PySem.W.subIn K (.ref C_NoPlace) (.ref C_NoCounts) = some false)
    (lk_NoCounts : K.lookup C_NoCounts = some (excClassObj xn_NoCounts xq_NoCounts C_NoCounts xN_NoCounts xb_NoCounts [.ref C_PaneError, .type "ValueError", .type "Exception", .type "BaseException", .type "object"] true xs_NoCounts xu_NoCounts xa_NoCounts xc_NoCounts xd_NoCounts xk0_NoCounts xk1_NoCounts xk2_NoCounts xk3_NoCounts xk5_NoCounts "ValueError.__new__"))
    (f_setattr_NoCounts : PySem.W.findIn K (.ref C_NoCounts) "__setattr__" = some (some (.builtin "object.__setattr__")))
    (k_NoCounts : PySem.W.keepIn K (.ref C_NoCounts) = true)
    (f_found_NoCounts : PySem.W.findIn K (.ref C_NoCounts) "found" = some none)
    (ini_NoCounts : PySem.W.findIn K (.ref C_NoCounts) "__init__" = some (some (.ref I_NoCounts)))
    (int_NoCounts : PySem.W.typeIn K (.ref I_NoCounts) = some (.type "function"))
    (il_NoCounts : K.lookup I_NoCounts = some ⟨Ioc_NoCounts, Iod_NoCounts, .func (PySem.W.fnOf "__init__" "NoCounts.__init__" (defArgs si_NoCounts) (defBody si_NoCounts) (defScope si_NoCounts) .none IkV_NoCounts Idc_NoCounts Ipm_NoCounts Ian_NoCounts Icd_NoCounts Ict_NoCounts), Isl_NoCounts⟩)
    (ic_NoCounts : PySem.W.codeIn K Icd_NoCounts "NoCounts.__init__" = true)
    (ik_NoCounts : PySem.W.keepIn K (.ref I_NoCounts) = true)
    (f_getattribute_NoCounts : PySem.W.findIn K (.ref C_NoCounts) "__getattribute__" = some (some (.builtin "BaseException.__getattribute__")))
    (f_getattr_NoCounts : PySem.W.findIn K (.ref C_NoCounts) "__getattr__" = some none)
    (f_class_NoCounts : PySem.W.findIn K (.ref C_NoCounts) "__class__" = some (some (.builtin "object.__class__")))
    (cm_NoCounts : PySem.W.mroIn K C_NoCounts (.type "object") = some true)
    (s_NoCounts_PaneError : PySem.W.subIn K (.ref C_NoCounts) (.ref C_PaneError) = some true)
    (s_NoCounts_NoTurning : PySem.W.subIn K (.ref C_NoCounts) (.ref C_NoTurning) = some false)
    (s_NoCounts_NoPlace : PySem.W.subIn K (.ref C_NoCounts) (.ref C_NoPlace) = some false)
    (s_NoCounts_NoCounts : PySem.W.subIn K (.ref C_NoCounts) (.ref C_NoCounts) = some true)
    (ba_PaneError : PySem.W.specialIn K (.ref C_PaneError) "__getattribute__" = some (some (.builtin "type.__getattribute__")))
    (br_PaneError : PySem.W.readsIn K C_PaneError (.type "type") = true)
    (bf_PaneError : PySem.W.findCls K (.ref C_PaneError) (.type "type") "__init__" = some (.val (.builtin "ValueError.__init__")))
    : ∃ fd : FuncData, (∀ (s : Shared) (v : Value), BindsTo s fd ⟨[v], []⟩ [("_law_script", v)]) ∧ ∀ base : Heap, K.In base → base.Ns mainGlobals mg → FnOk P w K mg base CX0 8 fa fd ["_law_script"] (sp_law K) := by
  have e := hfa.symm.trans (PySem.W.mg_of X G a25)
  cases e
  have q_NoTurning := clsA_of g_NoTurning
  subst q_NoTurning
  have q_NoPlace := clsA_of g_NoPlace
  subst q_NoPlace
  have q_NoCounts := clsA_of g_NoCounts
  subst q_NoCounts
  have q_PaneError := clsA_of g_PaneError
  subst q_PaneError
  have T : Tx K mg (fun i => match i with | 0 => f0 | 1 => f1 | 2 => f2 | 3 => f3 | 4 => f4 | 5 => f5 | 6 => f6 | 7 => f7 | 8 => f8 | 9 => f9 | 10 => f10 | 11 => f11 | 12 => f12 | 13 => f13 | 14 => f14 | 15 => f15 | 16 => f16 | 17 => f17 | 18 => f18 | 19 => f19 | 20 => f20 | 21 => f21 | 22 => f22 | 23 => f23 | 24 => f24 | 25 => fa | _ => f0) (fun i => match i with | 0 => PySem.W.fnOf "is_whole" "is_whole" (defArgs s_is_whole) (defBody s_is_whole) (defScope s_is_whole) .none kV0 dc0 pm0 an0 cd0 ct0 | 1 => PySem.W.fnOf "is_within" "is_within" (defArgs s_is_within) (defBody s_is_within) (defScope s_is_within) .none kV1 dc1 pm1 an1 cd1 ct1 | 2 => PySem.W.fnOf "is_turning" "is_turning" (defArgs s_is_turning) (defBody s_is_turning) (defScope s_is_turning) .none kV2 dc2 pm2 an2 cd2 ct2 | 3 => PySem.W.fnOf "need_turning" "need_turning" (defArgs s_need_turning) (defBody s_need_turning) (defScope s_need_turning) .none kV3 dc3 pm3 an3 cd3 ct3 | 4 => PySem.W.fnOf "need_place" "need_place" (defArgs s_need_place) (defBody s_need_place) (defScope s_need_place) .none kV4 dc4 pm4 an4 cd4 ct4 | 5 => PySem.W.fnOf "counted" "counted" (defArgs s_counted) (defBody s_counted) (defScope s_counted) .none kV5 dc5 pm5 an5 cd5 ct5 | 6 => PySem.W.fnOf "counts" "counts" (defArgs s_counts) (defBody s_counts) (defScope s_counts) .none kV6 dc6 pm6 an6 cd6 ct6 | 7 => PySem.W.fnOf "is_square" "is_square" (defArgs s_is_square) (defBody s_is_square) (defScope s_is_square) .none kV7 dc7 pm7 an7 cd7 ct7 | 8 => PySem.W.fnOf "from_counts" "from_counts" (defArgs s_from_counts) (defBody s_from_counts) (defScope s_from_counts) .none kV8 dc8 pm8 an8 cd8 ct8 | 9 => PySem.W.fnOf "_law_cell" "_law_cell" (defArgs s__law_cell) (defBody s__law_cell) (defScope s__law_cell) .none kV9 dc9 pm9 an9 cd9 ct9 | 10 => PySem.W.fnOf "_law_mix" "_law_mix" (defArgs s__law_mix) (defBody s__law_mix) (defScope s__law_mix) .none kV10 dc10 pm10 an10 cd10 ct10 | 11 => PySem.W.fnOf "_law_takes" "_law_takes" (defArgs s__law_takes) (defBody s__law_takes) (defScope s__law_takes) .none kV11 dc11 pm11 an11 cd11 ct11 | 12 => PySem.W.fnOf "_law_many" "_law_many" (defArgs s__law_many) (defBody s__law_many) (defScope s__law_many) .none kV12 dc12 pm12 an12 cd12 ct12 | 13 => PySem.W.fnOf "_law_turning" "_law_turning" (defArgs s__law_turning) (defBody s__law_turning) (defScope s__law_turning) .none kV13 dc13 pm13 an13 cd13 ct13 | 14 => PySem.W.fnOf "_law_whole" "_law_whole" (defArgs s__law_whole) (defBody s__law_whole) (defScope s__law_whole) .none kV14 dc14 pm14 an14 cd14 ct14 | 15 => PySem.W.fnOf "_law_list" "_law_list" (defArgs s__law_list) (defBody s__law_list) (defScope s__law_list) .none kV15 dc15 pm15 an15 cd15 ct15 | 16 => PySem.W.fnOf "_law_counts" "_law_counts" (defArgs s__law_counts) (defBody s__law_counts) (defScope s__law_counts) .none kV16 dc16 pm16 an16 cd16 ct16 | 17 => PySem.W.fnOf "_law_spoiled" "_law_spoiled" (defArgs s__law_spoiled) (defBody s__law_spoiled) (defScope s__law_spoiled) .none kV17 dc17 pm17 an17 cd17 ct17 | 18 => PySem.W.fnOf "_law_is_square" "_law_is_square" (defArgs s__law_is_square) (defBody s__law_is_square) (defScope s__law_is_square) .none kV18 dc18 pm18 an18 cd18 ct18 | 19 => PySem.W.fnOf "_law_from" "_law_from" (defArgs s__law_from) (defBody s__law_from) (defScope s__law_from) .none kV19 dc19 pm19 an19 cd19 ct19 | 20 => PySem.W.fnOf "_law_copy" "_law_copy" (defArgs s__law_copy) (defBody s__law_copy) (defScope s__law_copy) .none kV20 dc20 pm20 an20 cd20 ct20 | 21 => PySem.W.fnOf "_law_read" "_law_read" (defArgs s__law_read) (defBody s__law_read) (defScope s__law_read) .none kV21 dc21 pm21 an21 cd21 ct21 | 22 => PySem.W.fnOf "_law_refused" "_law_refused" (defArgs s__law_refused) (defBody s__law_refused) (defScope s__law_refused) .none kV22 dc22 pm22 an22 cd22 ct22 | 23 => PySem.W.fnOf "_law_doors" "_law_doors" (defArgs s__law_doors) (defBody s__law_doors) (defScope s__law_doors) .none kV23 dc23 pm23 an23 cd23 ct23 | 24 => PySem.W.fnOf "_law_right" "_law_right" (defArgs s__law_right) (defBody s__law_right) (defScope s__law_right) .none kV24 dc24 pm24 an24 cd24 ct24 | 25 => PySem.W.fnOf "law" "law" (defArgs s_law) (defBody s_law) (defScope s_law) .none kV25 dc25 pm25 an25 cd25 ct25 | _ => PySem.W.fnOf "is_whole" "is_whole" (defArgs s_is_whole) (defBody s_is_whole) (defScope s_is_whole) .none kV0 dc0 pm0 an0 cd0 ct0) (fun i => match i with | 0 => t0 | _ => t0) := {
    d_is_whole := df_mk X G a0 l0 c0 k0 (fun _ _ _ _ _ _ us hl => match us, hl with | [_], _ => rfl)
    d_is_within := df_mk X G a1 l1 c1 k1 (fun _ _ _ _ _ _ us hl => match us, hl with | [_, _, _], _ => rfl)
    d_is_turning := df_mk X G a2 l2 c2 k2 (fun _ _ _ _ _ _ us hl => match us, hl with | [_], _ => rfl)
    d_need_turning := df_mk X G a3 l3 c3 k3 (fun _ _ _ _ _ _ us hl => match us, hl with | [_], _ => rfl)
    d_need_place := df_mk X G a4 l4 c4 k4 (fun _ _ _ _ _ _ us hl => match us, hl with | [_, _], _ => rfl)
    d_counted := df_mk X G a5 l5 c5 k5 (fun _ _ _ _ _ _ us hl => match us, hl with | [_, _, _], _ => rfl)
    d_counts := df_mk X G a6 l6 c6 k6 (fun _ _ _ _ _ _ us hl => match us, hl with | [_], _ => rfl)
    d_is_square := df_mk X G a7 l7 c7 k7 (fun _ _ _ _ _ _ us hl => match us, hl with | [_], _ => rfl)
    d_from_counts := df_mk X G a8 l8 c8 k8 (fun _ _ _ _ _ _ us hl => match us, hl with | [_], _ => rfl)
    d__law_cell := df_mk X G a9 l9 c9 k9 (fun _ _ _ _ _ _ us hl => match us, hl with | [_, _], _ => rfl)
    d__law_mix := df_mk X G a10 l10 c10 k10 (fun _ _ _ _ _ _ us hl => match us, hl with | [_, _], _ => rfl)
    d__law_takes := df_mk X G a11 l11 c11 k11 (fun _ _ _ _ _ _ us hl => match us, hl with | [_, _], _ => rfl)
    d__law_many := df_mk X G a12 l12 c12 k12 (fun _ _ _ _ _ _ us hl => match us, hl with | [_], _ => rfl)
    d__law_turning := df_mk X G a13 l13 c13 k13 (fun _ _ _ _ _ _ us hl => match us, hl with | [_, _], _ => rfl)
    d__law_whole := df_mk X G a14 l14 c14 k14 (fun _ _ _ _ _ _ us hl => match us, hl with | [_], _ => rfl)
    d__law_list := df_mk X G a15 l15 c15 k15 (fun _ _ _ _ _ _ us hl => match us, hl with | [_, _], _ => rfl)
    d__law_counts := df_mk X G a16 l16 c16 k16 (fun _ _ _ _ _ _ us hl => match us, hl with | [_], _ => rfl)
    d__law_spoiled := df_mk X G a17 l17 c17 k17 (fun _ _ _ _ _ _ us hl => match us, hl with | [_, _], _ => rfl)
    d__law_is_square := df_mk X G a18 l18 c18 k18 (fun _ _ _ _ _ _ us hl => match us, hl with | [_], _ => rfl)
    d__law_from := df_mk X G a19 l19 c19 k19 (fun _ _ _ _ _ _ us hl => match us, hl with | [_], _ => rfl)
    d__law_copy := df_mk X G a20 l20 c20 k20 (fun _ _ _ _ _ _ us hl => match us, hl with | [_], _ => rfl)
    d__law_read := df_mk X G a21 l21 c21 k21 (fun _ _ _ _ _ _ us hl => match us, hl with | [_], _ => rfl)
    d__law_refused := df_mk X G a22 l22 c22 k22 (fun _ _ _ _ _ _ us hl => match us, hl with | [_, _, _, _], _ => rfl)
    d__law_doors := df_mk X G a23 l23 c23 k23 (fun _ _ _ _ _ _ us hl => match us, hl with | [_, _], _ => rfl)
    d__law_right := df_mk X G a24 l24 c24 k24 (fun _ _ _ _ _ _ us hl => match us, hl with | [_, _], _ => rfl)
    d_law := df_mk X G a25 l25 c25 k25 (fun _ _ _ _ _ _ us hl => match us, hl with | [_], _ => rfl)
    c_MOST_LINES := PySem.W.mg_of X G cn0
    b_isinstance := PySem.W.mg_none_of X G z0
    b_int := PySem.W.mg_none_of X G z1
    b_bool := PySem.W.mg_none_of X G z2
    b_len := PySem.W.mg_none_of X G z3
    b_list := PySem.W.mg_none_of X G z4
    b_tuple := PySem.W.mg_none_of X G z5
    b_enumerate := PySem.W.mg_none_of X G z6
    b_all := PySem.W.mg_none_of X G z7
    b_zip := PySem.W.mg_none_of X G z8
    b_range := PySem.W.mg_none_of X G z9
    b_sorted := PySem.W.mg_none_of X G z10
    b_max := PySem.W.mg_none_of X G z11
    b_min := PySem.W.mg_none_of X G z12
    e_PaneError := ⟨PySem.W.mg_of X G g_PaneError, sb_PaneError, hd_PaneError, ty_PaneError⟩
    e_NoTurning := ⟨PySem.W.mg_of X G g_NoTurning, sb_NoTurning, hd_NoTurning, ty_NoTurning⟩
    e_NoPlace := ⟨PySem.W.mg_of X G g_NoPlace, sb_NoPlace, hd_NoPlace, ty_NoPlace⟩
    e_NoCounts := ⟨PySem.W.mg_of X G g_NoCounts, sb_NoCounts, hd_NoCounts, ty_NoCounts⟩
    g_NoTurning := PySem.W.mg_of X G g_NoTurning
    o_NoTurning := ⟨⟨_, _, _, _, _, _, _, _, _, _, _, _, _, _, _, lk_NoTurning, rfl⟩, f_setattr_NoTurning, sb_NoTurning, ty_NoTurning, k_NoTurning⟩
    n_NoTurning_found := f_found_NoTurning
    i_NoTurning := ini_mk ini_NoTurning int_NoTurning il_NoTurning ic_NoTurning ik_NoTurning (fun _ _ _ _ _ _ us hl => match us, hl with | [_, _], _ => rfl)
    x_NoTurning := xi_mk f_getattribute_NoTurning f_getattr_NoTurning sb_NoTurning hd_NoTurning f_class_NoTurning ct_ cu_ cm_NoTurning
    s_NoTurning_PaneError := s_NoTurning_PaneError
    s_NoTurning_NoTurning := s_NoTurning_NoTurning
    s_NoTurning_NoPlace := s_NoTurning_NoPlace
    s_NoTurning_NoCounts := s_NoTurning_NoCounts
    g_NoPlace := PySem.W.mg_of X G g_NoPlace
    o_NoPlace := ⟨⟨_, _, _, _, _, _, _, _, _, _, _, _, _, _, _, lk_NoPlace, rfl⟩, f_setattr_NoPlace, sb_NoPlace, ty_NoPlace, k_NoPlace⟩
    n_NoPlace_found := f_found_NoPlace
    i_NoPlace := ini_mk ini_NoPlace int_NoPlace il_NoPlace ic_NoPlace ik_NoPlace (fun _ _ _ _ _ _ us hl => match us, hl with | [_, _], _ => rfl)
    x_NoPlace := xi_mk f_getattribute_NoPlace f_getattr_NoPlace sb_NoPlace hd_NoPlace f_class_NoPlace ct_ cu_ cm_NoPlace
    s_NoPlace_PaneError := s_NoPlace_PaneError
    s_NoPlace_NoTurning := s_NoPlace_NoTurning
    s_NoPlace_NoPlace := s_NoPlace_NoPlace
    s_NoPlace_NoCounts := s_NoPlace_NoCounts
    g_NoCounts := PySem.W.mg_of X G g_NoCounts
    o_NoCounts := ⟨⟨_, _, _, _, _, _, _, _, _, _, _, _, _, _, _, lk_NoCounts, rfl⟩, f_setattr_NoCounts, sb_NoCounts, ty_NoCounts, k_NoCounts⟩
    n_NoCounts_found := f_found_NoCounts
    i_NoCounts := ini_mk ini_NoCounts int_NoCounts il_NoCounts ic_NoCounts ik_NoCounts (fun _ _ _ _ _ _ us hl => match us, hl with | [_, _], _ => rfl)
    x_NoCounts := xi_mk f_getattribute_NoCounts f_getattr_NoCounts sb_NoCounts hd_NoCounts f_class_NoCounts ct_ cu_ cm_NoCounts
    s_NoCounts_PaneError := s_NoCounts_PaneError
    s_NoCounts_NoTurning := s_NoCounts_NoTurning
    s_NoCounts_NoPlace := s_NoCounts_NoPlace
    s_NoCounts_NoCounts := s_NoCounts_NoCounts
    bi_PaneError := ⟨PySem.W.mg_of X G g_PaneError, ba_PaneError, br_PaneError, bf_PaneError⟩
  }
  exact ⟨PySem.W.fnOf "law" "law" (defArgs s_law) (defBody s_law) (defScope s_law) .none kV25 dc25 pm25 an25 cd25 ct25, fun s v => .of_eq rfl, fun base _ _ => ok_law T⟩
theorem walk {l : PySem.W.OpenLaw} {q : Program} {loose : List Str} {XP : (Str → Option Value) → Heap → Prop} {YP : World → Heap → Prop} {d : DefRec} {K : Params → PySem.W.Frag} (hn : l.most = some 63) (hdf : d.params.defaults = [])
    (hY : ∀ (w : World) (h : Heap), YP w h → (K w.params).In h)
    (F : ∀ (w : World) (mg : Str → Option Value) (fa : Addr) (h : Heap), (K w.params).In h → h.Ns mainGlobals mg → mg d.name = some (.ref fa) →
      ∃ fd : FuncData, (∀ (s : Shared) (u : Value), BindsTo s fd ⟨[u], []⟩ [("_law_script", u)]) ∧ ∀ base : Heap, (K w.params).In base → base.Ns mainGlobals mg → FnOk l.prog w (K w.params) mg base CX0 8 fa fd ["_law_script"] (sp_law (K w.params))) :
    PySem.W.WalkO q loose XP YP l.row.toRowW d [] (fun f vs => PySem.call f vs) :=
  L2.walk_of (n := 63) (k := 8) (x := "_law_script") (CX := fun _ => CX0) (sp := fun w => sp_law (K w.params)) hn (by decide) hdf ⟨rfl, by decide, by decide⟩ hY F (fun _ H a ns hl hO hS => ⟨a, ns, rfl, lst_only hO hS, hl, fun _ => rfl⟩) fun _ _ _ _ _ z => z
end My
open PySem PySem.W PyProof.Rows in
set_option maxRecDepth 100000 in
set_option maxHeartbeats 0 in
theorem PySem.Challenge.cw_panethread_k22_counts_holds : PySem.Challenge.rw_panethread_k22_counts.Holds := by
  w_on; o_law; k_head; (case hw => w_witness2)
  k_fill
  refine My.walk (l := PySem.Challenge.rw_panethread_k22_counts) rfl rfl (fun w h Y => PySem.W.kIn_of Y) ?F
  case F =>
    intro w mg fa h KX G hmg
    refine' My.all_mk KX G hmg ?a0 ?l0 ?c0 ?k0 ?a1 ?l1 ?c1 ?k1 ?a2 ?l2 ?c2 ?k2 ?a3 ?l3 ?c3 ?k3 ?a4 ?l4 ?c4 ?k4 ?a5 ?l5 ?c5 ?k5 ?a6 ?l6 ?c6 ?k6 ?a7 ?l7 ?c7 ?k7 ?a8 ?l8 ?c8 ?k8 ?a9 ?l9 ?c9 ?k9 ?a10 ?l10 ?c10 ?k10 ?a11 ?l11 ?c11 ?k11 ?a12 ?l12 ?c12 ?k12 ?a13 ?l13 ?c13 ?k13 ?a14 ?l14 ?c14 ?k14 ?a15 ?l15 ?c15 ?k15 ?a16 ?l16 ?c16 ?k16 ?a17 ?l17 ?c17 ?k17 ?a18 ?l18 ?c18 ?k18 ?a19 ?l19 ?c19 ?k19 ?a20 ?l20 ?c20 ?k20 ?a21 ?l21 ?c21 ?k21 ?a22 ?l22 ?c22 ?k22 ?a23 ?l23 ?c23 ?k23 ?a24 ?l24 ?c24 ?k24 ?a25 ?l25 ?c25 ?k25 ?cn0 ?z0 ?z1 ?z2 ?z3 ?z4 ?z5 ?z6 ?z7 ?z8 ?z9 ?z10 ?z11 ?z12 ?g_NoTurning ?g_NoPlace ?g_NoCounts ?g_PaneError ?sb_PaneError ?hd_PaneError ?ty_PaneError ?sb_NoTurning ?hd_NoTurning ?ty_NoTurning ?sb_NoPlace ?hd_NoPlace ?ty_NoPlace ?sb_NoCounts ?hd_NoCounts ?ty_NoCounts ?lk_NoTurning ?f_setattr_NoTurning ?k_NoTurning ?f_found_NoTurning ?ini_NoTurning ?int_NoTurning ?il_NoTurning ?ic_NoTurning ?ik_NoTurning ?ct_ ?cu_ ?f_getattribute_NoTurning ?f_getattr_NoTurning ?f_class_NoTurning ?cm_NoTurning ?s_NoTurning_PaneError ?s_NoTurning_NoTurning ?s_NoTurning_NoPlace ?s_NoTurning_NoCounts ?lk_NoPlace ?f_setattr_NoPlace ?k_NoPlace ?f_found_NoPlace ?ini_NoPlace ?int_NoPlace ?il_NoPlace ?ic_NoPlace ?ik_NoPlace ?f_getattribute_NoPlace ?f_getattr_NoPlace ?f_class_NoPlace ?cm_NoPlace ?s_NoPlace_PaneError ?s_NoPlace_NoTurning ?s_NoPlace_NoPlace ?s_NoPlace_NoCounts ?lk_NoCounts ?f_setattr_NoCounts ?k_NoCounts ?f_found_NoCounts ?ini_NoCounts ?int_NoCounts ?il_NoCounts ?ic_NoCounts ?ik_NoCounts ?f_getattribute_NoCounts ?f_getattr_NoCounts ?f_class_NoCounts ?cm_NoCounts ?s_NoCounts_PaneError ?s_NoCounts_NoTurning ?s_NoCounts_NoPlace ?s_NoCounts_NoCounts ?ba_PaneError ?br_PaneError ?bf_PaneError
    (case g_NoTurning => k_is)
    (case g_NoPlace => k_is)
    (case g_NoCounts => k_is)
    (case g_PaneError => k_is)
    (case a0 => k_is)
    (case l0 => k_is)
    (case c0 => k_is)
    (case k0 => k_is)
    (case a1 => k_is)
    (case l1 => k_is)
    (case c1 => k_is)
    (case k1 => k_is)
    (case a2 => k_is)
    (case l2 => k_is)
    (case c2 => k_is)
    (case k2 => k_is)
    (case a3 => k_is)
    (case l3 => k_is)
    (case c3 => k_is)
    (case k3 => k_is)
    (case a4 => k_is)
    (case l4 => k_is)
    (case c4 => k_is)
    (case k4 => k_is)
    (case a5 => k_is)
    (case l5 => k_is)
    (case c5 => k_is)
    (case k5 => k_is)
    (case a6 => k_is)
    (case l6 => k_is)
    (case c6 => k_is)
    (case k6 => k_is)
    (case a7 => k_is)
    (case l7 => k_is)
    (case c7 => k_is)
    (case k7 => k_is)
    (case a8 => k_is)
    (case l8 => k_is)
    (case c8 => k_is)
    (case k8 => k_is)
    (case a9 => k_is)
    (case l9 => k_is)
    (case c9 => k_is)
    (case k9 => k_is)
    (case a10 => k_is)
    (case l10 => k_is)
    (case c10 => k_is)
    (case k10 => k_is)
    (case a11 => k_is)
    (case l11 => k_is)
    (case c11 => k_is)
    (case k11 => k_is)
    (case a12 => k_is)
    (case l12 => k_is)
    (case c12 => k_is)
    (case k12 => k_is)
    (case a13 => k_is)
    (case l13 => k_is)
    (case c13 => k_is)
    (case k13 => k_is)
    (case a14 => k_is)
    (case l14 => k_is)
    (case c14 => k_is)
    (case k14 => k_is)
    (case a15 => k_is)
    (case l15 => k_is)
    (case c15 => k_is)
    (case k15 => k_is)
    (case a16 => k_is)
    (case l16 => k_is)
    (case c16 => k_is)
    (case k16 => k_is)
    (case a17 => k_is)
    (case l17 => k_is)
    (case c17 => k_is)
    (case k17 => k_is)
    (case a18 => k_is)
    (case l18 => k_is)
    (case c18 => k_is)
    (case k18 => k_is)
    (case a19 => k_is)
    (case l19 => k_is)
    (case c19 => k_is)
    (case k19 => k_is)
    (case a20 => k_is)
    (case l20 => k_is)
    (case c20 => k_is)
    (case k20 => k_is)
    (case a21 => k_is)
    (case l21 => k_is)
    (case c21 => k_is)
    (case k21 => k_is)
    (case a22 => k_is)
    (case l22 => k_is)
    (case c22 => k_is)
    (case k22 => k_is)
    (case a23 => k_is)
    (case l23 => k_is)
    (case c23 => k_is)
    (case k23 => k_is)
    (case a24 => k_is)
    (case l24 => k_is)
    (case c24 => k_is)
    (case k24 => k_is)
    (case a25 => k_is)
    (case l25 => k_is)
    (case c25 => k_is)
    (case k25 => k_is)
    (case cn0 => k_is)
    (case z0 => k_is)
    (case z1 => k_is)
    (case z2 => k_is)
    (case z3 => k_is)
    (case z4 => k_is)
    (case z5 => k_is)
    (case z6 => k_is)
    (case z7 => k_is)
    (case z8 => k_is)
    (case z9 => k_is)
    (case z10 => k_is)
    (case z11 => k_is)
    (case z12 => k_is)
    (case sb_PaneError => k_is)
    (case hd_PaneError => k_is)
    (case ty_PaneError => k_is)
    (case sb_NoTurning => k_is)
    (case hd_NoTurning => k_is)
    (case ty_NoTurning => k_is)
    (case sb_NoPlace => k_is)
    (case hd_NoPlace => k_is)
    (case ty_NoPlace => k_is)
    (case sb_NoCounts => k_is)
    (case hd_NoCounts => k_is)
    (case ty_NoCounts => k_is)
    (case lk_NoTurning => k_is)
    (case f_setattr_NoTurning => k_is)
    (case k_NoTurning => k_is)
    (case f_found_NoTurning => k_is)
    (case ini_NoTurning => k_is)
    (case int_NoTurning => k_is)
    (case il_NoTurning => k_is)
    (case ic_NoTurning => k_is)
    (case ik_NoTurning => k_is)
    (case ct_ => k_is)
    (case cu_ => k_is)
    (case f_getattribute_NoTurning => k_is)
    (case f_getattr_NoTurning => k_is)
    (case f_class_NoTurning => k_is)
    (case cm_NoTurning => k_is)
    (case s_NoTurning_PaneError => k_is)
    (case s_NoTurning_NoTurning => k_is)
    (case s_NoTurning_NoPlace => k_is)
    (case s_NoTurning_NoCounts => k_is)
    (case lk_NoPlace => k_is)
    (case f_setattr_NoPlace => k_is)
    (case k_NoPlace => k_is)
    (case f_found_NoPlace => k_is)
    (case ini_NoPlace => k_is)
    (case int_NoPlace => k_is)
    (case il_NoPlace => k_is)
    (case ic_NoPlace => k_is)
    (case ik_NoPlace => k_is)
    (case f_getattribute_NoPlace => k_is)
    (case f_getattr_NoPlace => k_is)
    (case f_class_NoPlace => k_is)
    (case cm_NoPlace => k_is)
    (case s_NoPlace_PaneError => k_is)
    (case s_NoPlace_NoTurning => k_is)
    (case s_NoPlace_NoPlace => k_is)
    (case s_NoPlace_NoCounts => k_is)
    (case lk_NoCounts => k_is)
    (case f_setattr_NoCounts => k_is)
    (case k_NoCounts => k_is)
    (case f_found_NoCounts => k_is)
    (case ini_NoCounts => k_is)
    (case int_NoCounts => k_is)
    (case il_NoCounts => k_is)
    (case ic_NoCounts => k_is)
    (case ik_NoCounts => k_is)
    (case f_getattribute_NoCounts => k_is)
    (case f_getattr_NoCounts => k_is)
    (case f_class_NoCounts => k_is)
    (case cm_NoCounts => k_is)
    (case s_NoCounts_PaneError => k_is)
    (case s_NoCounts_NoTurning => k_is)
    (case s_NoCounts_NoPlace => k_is)
    (case s_NoCounts_NoCounts => k_is)
    (case ba_PaneError => k_is)
    (case br_PaneError => k_is)
    (case bf_PaneError => k_is)
#print axioms PySem.Challenge.cw_panethread_k22_counts_holds
