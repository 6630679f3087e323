import PyProof.Rows.All
import Wide.All
import OpenK.AllK
import Wide.FinOn
import HandS.ForMost
import HandS.ForExc
import HandS.IsInst
import HandS.Codes
import HandS.Evl
import KE.DataEq
import KE.GoesEnum
import HandS.ExcInit
import HandS.WordsExc
import HandS.ExcOwn
import HandS.TryElse
import HandS.ExcField
import HandS.ExcIs
import KE.KExcIs
import HandS.SetKeys
import HandS.SortRule
import HandS.SortInts
import HandS.TupLe
import PyProof.ReprRoads
import HandS.Ends
import PyProof.ReprLen
import HandS.DeepEq
import HandS.Conv
import HandS.Wide
import HandS.DictComp
import HandS.TupAny
import HandS.TupLen
import PyProof.FString5
import PyProof.StrLawsTight
import HandS.ExcValue
import HandS.Flt
import OpenK.KTop
import HandS.JoinGen
import HandS.NoneIn
import KE.DataMinMax
import KE.DatumOrd
import PyProof.DictMoreH
import HandS.DictTup
import KE.DataCmp
import HandS.Zip
import HandS.TupSets
import HandS.More
import HandS.SortKw
import HandS.Nested
import HandS.EndTab
import KE.KNestM
import HandS.StrMore
import KE.DataMinKey
import HandS.Head2
import PySem.Challenge.RW_panethread_k43_tight_stretches
set_option Elab.async false
set_option linter.all false
set_option maxRecDepth 100000
set_option maxHeartbeats 4000000
namespace HdQ
open PySem PySem.W PySem.Calls PyProof.Rows HandSHeadRun
/-- what is left behind the Hook that k_head chose -/
def Box (_ : Hook) (p : Prop) : Prop := p
theorem box_mk {r : OpenRow} (H : Hook) (hw : r.toRowW.promised) (hc : Box H r.Holds) : r.Holds := hc
/-- the run's equation, the Hook being kmHook -/
def RunM (r : OpenRow) (q : Program) (loose : List PySem.Str) (M : Nat) (K : Params → Frag) (as ts : List Addr) (w : World) : Prop :=
  ∀ os : OsState, (endF (stepQ (denQ tabQ) r.prog w) M r.prog w os).map (fun s => (looksF r.prog (boot_heap w.params) s.abs, seenQ q loose (importedModules r.prog.main.body) (fun s => xlAt q [] s && recOk r.toRowW.records s) s.abs, (as.map (getT s), ts.map (getT s)))) = some (true, openGood q loose, ((K w.params).map fun p => some p.2, ts.map fun _ => some (tabObj #[])))
abbrev RunMOf {p s : Prop} {K : Params → Frag} {as : List Addr} {e : ∀ P, as = (K P).map (·.1)} {ts : List Addr} (_ : Box (kmHook K as e ts) p → s) (r : OpenRow) (q : Program) (loose : List PySem.Str) (M : Nat) (w : World) : Prop := RunM r q loose M K as ts w
abbrev kOfM {p s : Prop} {K : Params → Frag} {as : List Addr} {e : ∀ P, as = (K P).map (·.1)} {ts : List Addr} (_ : Box (kmHook K as e ts) p → s) : Params → Frag := K
abbrev tOfM {p s : Prop} {K : Params → Frag} {as : List Addr} {e : ∀ P, as = (K P).map (·.1)} {ts : List Addr} (_ : Box (kmHook K as e ts) p → s) : List Addr := ts
abbrev kOfK {p s : Prop} {K : Params → Frag} {as : List Addr} {e : ∀ P, as = (K P).map (·.1)} (_ : Box (kHook K as e) p → s) : Params → Frag := K
theorem head_km {r : OpenRow} {q : Program} {K : Params → Frag} {as : List Addr} {e : ∀ P, as = (K P).map (·.1)} {ts : List Addr} {M : Nat} {loose : List PySem.Str} {d : DefRec} {kwd : List (PySem.Str × PySem.Expr)}
    (e0 : opening r.prog = plainProg r.prog.main.scope.names) (f : ∀ s, fenceModules? r.prog s = some s) (run : ∀ w, RunM r q loose M K as ts w)
    (hdef : defOf q r.name = some (d, kwd)) (hp : r.prog.theDef r.name = some (d.params, d.body, d.scope)) (hk : kwWritten? d.params.kwonlyargs d.params.kw_defaults = some kwd)
    (hwr : (!r.writes || r.records.isEmpty) = true) (k1 : r.wellSaid = true) (ok : (chainsOk q && opensWell r.prog && (frees r.toRowW && r.within.isEmpty)) = true) (hb : r.prog.bare) (hw : r.toRowW.promised)
    (call : WalkO q loose (XL q []) (kmHook K as e ts).says r.toRowW d kwd fun f vs => PySem.call f vs) : Box (kmHook K as e ts) r.Holds :=
  head_any (r := r) (q := q) (H := kmHook K as e ts) (ob := fun s => (as.map (getT s), ts.map (getT s))) (M := M) (loose := loose) (d := d) (kwd := kwd)
    (fun s => Prod.ext (List.map_congr_left fun a _ => getT_eq s a) (List.map_congr_left fun a _ => getT_eq s a)) e0 f run hdef hp hk hwr k1 ok hb hw call
end HdQ
local macro_rules | `(tactic| o_head $H) => `(tactic| apply HdQ.box_mk $H)
open PySem PySem.W PyProof.Rows in
set_option maxRecDepth 100000 in
set_option maxHeartbeats 0 in
open_top hdK for PySem.Challenge.rw_panethread_k43_tight_stretches
namespace HdR
open PySem PySem.W PySem.Calls PyProof.Rows
abbrev R9 : PySem.W.OpenRow := PySem.W.OpenLaw.row PySem.Challenge.rw_panethread_k43_tight_stretches
abbrev q9 : PySem.Program := PySem.W.view R9.prog [37]
def l9_0 : List PySem.Str := "_wall" :: "PaneError" :: "NoPlace" :: "NoSpan" :: "NoTurning" :: "NoWindow" :: "is_whole" :: "is_within" :: "need_span" :: "MOST_LINES" :: "is_turning" :: "need_turning" :: "need_place" :: "opposite" :: "mixed" :: "floors_of" :: "lesser" :: "Tally" :: "MOST_LENGTH" :: "need_window" :: "Asks" :: "_law_cell" :: "_law_numbers" :: "_law_turning" :: "_law_size" :: "_law_lengths" :: "_law_tightest" :: "_law_shortest" :: "_law_gains" :: "_law_losses" :: "_law_asked" :: []
def l9 : List PySem.Str := l9_0
theorem run9 (w : PySem.World) : HdQ.RunMOf hdK R9 q9 l9 40000 w := by
  intro os
  kernel_rfl
theorem n9 : (HandSHeadRun.topDef R9.prog 37).name = ("law" : PySem.Str) := by kernel_rfl
theorem e9 : opening R9.prog = plainProg R9.prog.main.scope.names := by kernel_rfl
theorem f9 : ∀ s, fenceModules? R9.prog s = some s := fun s => by kernel_rfl
theorem d9 : defOf q9 R9.name = some ((HandSHeadRun.topDef R9.prog 37), []) := by kernel_rfl
theorem p9 : R9.prog.theDef R9.name = some ((HandSHeadRun.topDef R9.prog 37).params, (HandSHeadRun.topDef R9.prog 37).body, (HandSHeadRun.topDef R9.prog 37).scope) := by kernel_rfl
theorem k9 : kwWritten? (HandSHeadRun.topDef R9.prog 37).params.kwonlyargs (HandSHeadRun.topDef R9.prog 37).params.kw_defaults = some [] := by kernel_rfl
theorem v9 : (!R9.writes || R9.records.isEmpty) = true := by rfl
theorem s9 : R9.wellSaid = true := by decide +kernel
theorem o9 : (chainsOk q9 && opensWell R9.prog && (frees R9.toRowW && R9.within.isEmpty)) = true := by decide +kernel
theorem b9 : R9.prog.bare := ⟨rfl, rfl, rfl, rfl, rfl, by decide +kernel⟩
theorem w9 : R9.toRowW.promised := by w_witness2
theorem a9 : (HandSHeadRun.topDef R9.prog 37).params.defaults = [] := by kernel_rfl
noncomputable abbrev K9 : PySem.Params → PySem.W.Frag := HdQ.kOfM hdK
noncomputable abbrev t9 : List PySem.Addr := HdQ.tOfM hdK
end HdR
namespace Zb
open PySem PySem.Spec PyProof.Rows L2
def seqAt (H : Hp) (p : Addr) : Option (List V) := match H p with
  | some (.lst xs) => some xs
  | some (.tup xs) => some xs
  | some (.frz _ (.lst xs)) => some xs
  | some (.frz _ (.tup xs)) => some xs
  | _ => none
theorem seqAt_sq {K : PySem.W.Frag} {H : Hp} {p : Addr} {xs : List V} (h : seqAt H p = some xs) : SqL K H p xs ∨ SqT K H p xs := by
  unfold seqAt at h
  split at h
  · rename_i e; cases h; exact .inl (.inl (.inl e))
  · rename_i e; cases h; exact .inr (.inl (.inl e))
  · rename_i e; cases h; exact .inl (.inl (.inr ⟨_, e⟩))
  · rename_i e; cases h; exact .inr (.inl (.inr ⟨_, e⟩))
  · cases h
def lstAt (H : Hp) (p : Addr) : Option (List V) := match H p with
  | some (.lst xs) => some xs
  | some (.frz _ (.lst xs)) => some xs
  | _ => none
theorem lstAt_sq {K : PySem.W.Frag} {H : Hp} {p : Addr} {xs : List V} (h : lstAt H p = some xs) : SqL K H p xs := by
  unfold lstAt at h
  split at h
  · rename_i e; cases h; exact .inl (.inl e)
  · rename_i e; cases h; exact .inl (.inr ⟨_, e⟩)
  · cases h
def tupAt (H : Hp) (p : Addr) : Option (List V) := match H p with
  | some (.tup xs) => some xs
  | some (.frz _ (.tup xs)) => some xs
  | _ => none
theorem tupAt_sq {K : PySem.W.Frag} {H : Hp} {p : Addr} {xs : List V} (h : tupAt H p = some xs) : SqT K H p xs := by
  unfold tupAt at h
  split at h
  · rename_i e; cases h; exact .inl (.inl e)
  · rename_i e; cases h; exact .inl (.inr ⟨_, e⟩)
  · cases h
mutual
inductive Rp (H : Hp) : V → PyData → Prop
  | non : Rp H .non .none
  | bl (b : Bool) : Rp H (.bl b) (.bool b)
  | int (i : Int) : Rp H (.int i) (.int i)
  | str (x : Str) : Rp H (.str x) (.str x)
  | lst {a : Addr} {xs : List V} {ds : List PyData} : lstAt H a = some xs → RpA H xs ds → Rp H (.ref a) (.list ds)
  | tup {a : Addr} {xs : List V} {ds : List PyData} : tupAt H a = some xs → RpA H xs ds → Rp H (.ref a) (.tuple ds)
inductive RpA (H : Hp) : List V → List PyData → Prop
  | nil : RpA H [] []
  | cons {v : V} {vs : List V} {d : PyData} {ds : List PyData} : Rp H v d → RpA H vs ds → RpA H (v :: vs) (d :: ds)
end
mutual
theorem Rp.dp {K : PySem.W.Frag} {H : Hp} : ∀ {v : V} {d : PyData}, Rp H v d → Dp K H v d
  | _, _, .non => .non
  | _, _, .bl b => .bl b
  | _, _, .int i => .int i
  | _, _, .str x => .str x
  | _, _, .lst h k => .lst (lstAt_sq h) (RpA.dp k)
  | _, _, .tup h k => .tup (tupAt_sq h) (RpA.dp k)
theorem RpA.dp {K : PySem.W.Frag} {H : Hp} : ∀ {vs : List V} {ds : List PyData}, RpA H vs ds → DpAll K H vs ds
  | _, _, .nil => .nil
  | _, _, .cons h k => .cons (Rp.dp h) (RpA.dp k)
end
def rAdd : R2 := fun x y H Q => match x, y with
  | .int i, .int j => Q (.int (i + j)) H
  | .str a, .str b => a.length + b.length ≤ 16777216 ∧ Q (.str (a ++ b)) H
  | .ref p, .ref q => ∃ xs ys, H p = some (.lst xs) ∧ H q = some (.lst ys) ∧ xs.length + ys.length ≤ 16777216 ∧ ∀ r, H r = none → Q (.ref r) (upd H r (.lst (xs ++ ys)))
  | _, _ => False
def rSub : R2 := fun x y H Q => match x, y with
  | .int i, .int j => Q (.int (i - j)) H
  | _, _ => False
def rMul : R2 := fun x y H Q => match x, y with
  | .int i, .int j => CMul i j ∧ Q (.int (i * j)) H
  | .ref p, .int k => ∃ xs, H p = some (.lst xs) ∧ -1000000 ≤ k ∧ k ≤ 1000000 ∧ xs.length * k.toNat ≤ 16777216 ∧ ∀ r, H r = none → Q (.ref r) (upd H r (.lst (List.replicate k.toNat xs).flatten))
  | .str a, .int k => -1000000 ≤ k ∧ k ≤ 1000000 ∧ a.length * k.toNat ≤ 16777216 ∧ Q (.str (Txt.mul a k)) H
  | _, _ => False
def rMod : R2 := fun x y H Q => match x, y with
  | .int i, .int j => 0 < j ∧ Q (.int (i % j)) H
  | _, _ => False
def rDiv : R2 := fun x y H Q => match x, y with
  | .int i, .int j => 0 < j ∧ j < 1073741824 ∧ Q (.int (i / j)) H
  | _, _ => False
def rPow : R2 := fun x y H Q => match x, y with
  | .int i, .int j => 0 ≤ j ∧ j ≤ 1000000 ∧ i.natAbs < 2 ^ 64 ∧ Q (.int (i ^ j.toNat)) H
  | _, _ => False
def rCmpI (f : Int → Int → Bool) : R2 := fun x y H Q => match x, y with
  | .int i, .int j => Q (.bl (f i j)) H
  | _, _ => False
mutual
theorem Rp.plain {H : Hp} : ∀ {v : V} {d : PyData}, Rp H v d → d.plain = true
  | _, _, .non => rfl
  | _, _, .bl b => rfl
  | _, _, .int i => rfl
  | _, _, .str x => rfl
  | _, _, .lst h k => by simp only [PyData.plain]; exact RpA.plain k
  | _, _, .tup h k => by simp only [PyData.plain]; exact RpA.plain k
theorem RpA.plain {H : Hp} : ∀ {vs : List V} {ds : List PyData}, RpA H vs ds → PyData.plainAll ds = true
  | _, _, .nil => rfl
  | _, _, .cons h k => by simp only [PyData.plainAll, Rp.plain h, RpA.plain k, Bool.and_self]
end
/-- == of data at any depth -/
def rEqU : R2 := fun x y H Q => ∃ d e, Rp H x d ∧ Rp H y e ∧ min d.depth e.depth ≤ 64 ∧ Q (.bl (PyData.eqv d e)) H
def rNeU : R2 := fun x y H Q => ∃ d e, Rp H x d ∧ Rp H y e ∧ min d.depth e.depth ≤ 64 ∧ Q (.bl (!PyData.eqv d e)) H
section
variable {X : Cx}
theorem sl16 : sizeLine = 16777216 := sizeLine_eq
theorem o_add : OpR X (binaryOp .Add) rAdd := by
  intro pins s σ H x y v u Q I rx ry h
  unfold rAdd at h
  split at h
  · exact op_add pins s σ H _ _ v u Q I rx ry ⟨_, _, rfl, rfl, h⟩
  · exact op_add_str pins s σ H _ _ v u Q I rx ry ⟨_, _, rfl, rfl, by rw [sl16]; exact h.1, h.2⟩
  · obtain ⟨xs, ys, h1, h2, h3, h4⟩ := h
    exact op_cat pins s σ H _ _ v u Q I rx ry ⟨_, _, _, _, rfl, rfl, h1, h2, by rw [sl16]; exact h3, h4⟩
  · exact h.elim
theorem o_sub : OpR X (binaryOp .Sub) rSub := by
  intro pins s σ H x y v u Q I rx ry h
  unfold rSub at h
  split at h
  · exact op_sub pins s σ H _ _ v u Q I rx ry ⟨_, _, rfl, rfl, h⟩
  · exact h.elim
/-- a text by its codes -/
def tx (l : List Nat) : Str := ⟨l.toArray⟩
theorem tx_length (l : List Nat) : (tx l).length = l.length := by simp [tx, Str.length]
theorem txt_mul_ok {a : Str} {k : Int} (h1 : -1000000 ≤ k) (h2 : k ≤ 1000000) (h3 : a.length * k.toNat ≤ 16777216) : MulOk a k := by
  refine ⟨?_, fun h4 _ => ?_, fun _ _ => ?_⟩
  · have h5 : ¬ k < -(2 ^ 63 : Int) := by omega
    have h6 : ¬ k ≥ (2 ^ 63 : Int) := by omega
    rw [decide_eq_false h5, decide_eq_false h6]
    rfl
  · have e : (a.length : Int) * k ≤ 16777216 := by
      have e1 : ((a.length * k.toNat : Nat) : Int) ≤ ((16777216 : Nat) : Int) := Int.ofNat_le.mpr h3
      have e2 : ((k.toNat : Nat) : Int) = k := by omega
      rw [Int.natCast_mul, e2] at e1
      exact e1
    have : (a.length : Int) ≤ (2 ^ 63 - 1) / k := by
      rw [Int.le_ediv_iff_mul_le (by omega)]
      omega
    omega
  · unfold Builtin.Str.tooLong
    have : ¬ (a.length * k.toNat > sizeLine) := by rw [sl16]; omega
    exact decide_eq_false this
theorem o_mul : OpR X (binaryOp .Mult) rMul := by
  intro pins s σ H x y v u Q I rx ry h
  unfold rMul at h
  split at h
  · exact op_mul pins s σ H _ _ v u Q I rx ry ⟨_, _, rfl, rfl, h.1, h.2⟩
  · obtain ⟨xs, h1, h2, h3, h4, h5⟩ := h
    exact op_rep pins s σ H _ _ v u Q I rx ry ⟨_, _, _, rfl, rfl, h1, by omega, by omega, by rw [sl16]; exact h4, h5⟩
  · obtain ⟨h1, h2, h3, h4⟩ := h
    obtain ⟨t, rfl⟩ := rx
    obtain ⟨t', rfl⟩ := ry
    exact SB.mul (txt_mul_ok h1 h2 h3) fun t' k => ⟨.str _, H, I.tok k, ⟨_, rfl⟩, h4⟩
  · exact h.elim
theorem o_mod : OpR X (binaryOp .Mod) rMod := by
  intro pins s σ H x y v u Q I rx ry h
  unfold rMod at h
  split at h
  · exact op_mod pins s σ H _ _ v u Q I rx ry ⟨_, _, rfl, rfl, h.1, h.2⟩
  · exact h.elim
theorem o_div : OpR X (binaryOp .FloorDiv) rDiv := by
  intro pins s σ H x y v u Q I rx ry h
  unfold rDiv at h
  split at h
  · exact op_fdiv pins s σ H _ _ v u Q I rx ry ⟨_, _, rfl, rfl, ⟨h.1, h.2.1⟩, h.2.2⟩
  · exact h.elim
theorem o_pow : OpR X (binaryOp .Pow) rPow := by
  intro pins s σ H x y v u Q I rx ry h
  unfold rPow at h
  split at h
  · exact op_pow pins s σ H _ _ v u Q I rx ry ⟨_, _, rfl, rfl, ⟨h.1, h.2.1, h.2.2.1⟩, h.2.2.2⟩
  · exact h.elim
theorem cmpI_of {f : Int → Int → Bool} {op : Value → Value → Sem Value} (ho : OpR X op (rI0 fun i j => .bl (f i j))) : OpR X op (rCmpI f) := by
  intro pins s σ H x y v u Q I rx ry h
  unfold rCmpI at h
  split at h
  · exact ho pins s σ H _ _ v u Q I rx ry ⟨_, _, rfl, rfl, h⟩
  · exact h.elim
theorem o_lt : OpR X (compareOp .Lt) (rCmpI fun i j => decide (i < j)) := cmpI_of op_lt
theorem o_le : OpR X (compareOp .LtE) (rCmpI fun i j => decide (i ≤ j)) := cmpI_of op_le
theorem o_gt : OpR X (compareOp .Gt) (rCmpI fun i j => decide (j < i)) := cmpI_of op_gt
theorem o_ge : OpR X (compareOp .GtE) (rCmpI fun i j => decide (j ≤ i)) := cmpI_of op_ge
theorem o_eq (hu : X.A.units + 64 < cLine) : OpR X (compareOp .Eq) rEqU := by
  intro pins s σ H x y v u Q I rx ry h
  obtain ⟨d, e, h1, h2, h3, q⟩ := h
  obtain ⟨as, r1⟩ := Dp.reads I d x v h1.dp rx
  obtain ⟨bs, r2⟩ := Dp.reads I e y u h2.dp ry
  exact SeqAt.eq_plain r1 r2 h1.plain h2.plain (by omega) ⟨.bl _, H, I, rfl, q⟩
theorem o_ne (hu : X.A.units + 64 < cLine) : OpR X (compareOp .NotEq) rNeU := by
  intro pins s σ H x y v u Q I rx ry h
  obtain ⟨d, e, h1, h2, h3, q⟩ := h
  obtain ⟨as, r1⟩ := Dp.reads I d x v h1.dp rx
  obtain ⟨bs, r2⟩ := Dp.reads I e y u h2.dp ry
  exact SeqAt.ne_plain r1 r2 h1.plain h2.plain (by omega) ⟨.bl _, H, I, rfl, q⟩
def rIxU (K : PySem.W.Frag) : R2 := fun x y H Q => match x, y with
  | .str z, .int i => z.length ≤ 16777216 ∧ ∃ c, atI z.cps.toList i = some c ∧ Q (.str (tx [c])) H
  | .ref p, .int i => ∃ xs, (SqL K H p xs ∨ SqT K H p xs) ∧ ∃ v, atI xs i = some v ∧ Q v H
  | _, _ => False
theorem i_ix {K : PySem.W.Frag} (hK : X.K = K := by rfl) : IxR X (rIxU K) := by
  subst hK
  intro value slice pins s σ H x y v u Q I rx ry h hs
  unfold rIxU at h
  split at h
  · obtain ⟨h1, c, h2, h3⟩ := h
    exact ix_str value slice pins s σ H _ _ v u Q I rx ry ⟨_, _, _, rfl, rfl, by rw [sl16]; exact h1, h2, h3⟩ hs
  · obtain ⟨xs, h1, v, h2, h3⟩ := h
    rcases h1 with h1 | h1
    · exact ix_list value slice pins s σ H _ _ _ u Q I rx ry ⟨_, _, _, _, rfl, rfl, h1, h2, h3⟩ hs
    · exact ix_tup value slice pins s σ H _ _ _ u Q I rx ry ⟨_, _, _, _, rfl, rfl, h1, h2, h3⟩ hs
  · exact h.elim
/-- a[lo:hi] of a text or a list -/
def rSlU (K : PySem.W.Frag) : V → Option Int → Option Int → Hp → VK → Prop := fun x lo hi H Q => match x with
  | .str z => z.length ≤ 16777216 ∧ Q (.str (cutS z lo hi)) H
  | .ref p => ∃ xs, SqL K H p xs ∧ ∀ q, H q = none → Q (.ref q) (upd H q (.lst (cutV xs lo hi)))
  | _ => False
theorem s_sl {K : PySem.W.Frag} (hK : X.K = K := by rfl) : SlR X (rSlU K) := by
  subst hK
  intro pins s σ H x v vl vu lo hi sl Q I rx hs pl pu h
  unfold rSlU at h
  split at h
  · exact sl_str pins s σ H _ v vl vu lo hi sl Q I rx hs pl pu ⟨_, rfl, by rw [sl16]; exact h.1, h.2⟩
  · obtain ⟨xs, h1, h2⟩ := h
    exact sl_list pins s σ H _ v vl vu lo hi sl Q I rx hs pl pu ⟨_, _, rfl, h1, h2⟩
  · exact h.elim
def rLen (K : PySem.W.Frag) : List V → Hp → VK → Prop := fun vs H Q => match vs with
  | [.str z] => z.length ≤ 16777216 ∧ Q (.int z.length) H
  | [.ref p] => (∃ xs, (SqL K H p xs ∨ SqT K H p xs) ∧ Q (.int xs.length) H)
  | _ => False
theorem c_len {K : PySem.W.Frag} (hK : X.K = K := by rfl) : CallR X (.builtin "len") (rLen K) := by
  subst hK
  intro pins s σ H xs us Q I r h
  unfold rLen at h
  split at h
  · exact call_len pins s σ H _ us Q I r ⟨_, _, rfl, ⟨by rw [sl16]; exact h.1, rfl⟩, h.2⟩
  · obtain ⟨ys, h1, h2⟩ := h
    rcases h1 with h1 | h1
    · exact call_len pins s σ H _ us Q I r ⟨_, _, rfl, .inl ⟨_, h1, rfl⟩, h2⟩
    · exact call_len pins s σ H _ us Q I r ⟨_, _, rfl, .inr ⟨_, h1, rfl⟩, h2⟩
  · exact h.elim
def rInU (neg : Bool) : R2 := fun x y H Q => match y with
  | .str b => ∃ a, x = .str a ∧ Q (.bl (if neg then !(!(Builtin.Str.occurrences b a 0 b.length 1).isEmpty) else !(Builtin.Str.occurrences b a 0 b.length 1).isEmpty)) H
  | .ref p => ∃ xs ds d, seqAt H p = some xs ∧ RpA H xs ds ∧ Rp H x d ∧ min (PyData.depthAll ds) d.depth ≤ 60 ∧ Q (.bl (if neg then !(ds.any fun y => PyData.eqv y d) else ds.any fun y => PyData.eqv y d)) H
  | _ => False
theorem seqAt_cases {H : Hp} {p : Addr} {xs : List V} (h : seqAt H p = some xs) : lstAt H p = some xs ∨ tupAt H p = some xs := by
  unfold seqAt at h
  unfold lstAt tupAt
  split at h <;> rename_i e <;> first | (cases h; rw [e]; first | exact .inl rfl | exact .inr rfl) | cases h
def tyO : Option HO → Option String
  | some (.lst _) => some "list"
  | some (.tup _) => some "tuple"
  | some (.dK _) => some "dict"
  | some (.dT _) => some "dict"
  | some (.frz _ (.lst _)) => some "list"
  | some (.frz _ (.tup _)) => some "tuple"
  | some (.frz _ (.dK _)) => some "dict"
  | _ => none
def tyN (H : Hp) : V → Option String
  | .non => some "NoneType"
  | .bl _ => some "bool"
  | .int _ => some "int"
  | .str _ => some "str"
  | .ref p => tyO (H p)
  | _ => none
theorem tyN_ok {K : PySem.W.Frag} {H : Hp} {v : V} {n : String} (h : tyN H v = some n) : TyX K H v (.type n) := by
  cases v with
  | non => cases h; exact .base .non
  | bl b => cases h; exact .base (.bl _)
  | int i => cases h; exact .base (.int _)
  | str x => cases h; exact .base (.str _)
  | ref p =>
    have h : tyO (H p) = some n := h
    unfold tyO at h
    split at h <;> rename_i e
    · cases h; exact .base (.lst e)
    · cases h; exact .base (.tup e)
    · cases h; exact .base (.dK e)
    · cases h; exact .base (.dT e)
    · cases h; exact .base (.frz e)
    · cases h; exact .fTuple e
    · cases h; exact .fDict e
    · cases h
  | _ => cases h
def rIs : List V → Hp → VK → Prop := fun vs H Q => match vs with
  | [x, .ty n] => ∃ t, tyN H x = some t ∧ ∃ b, kitB t n = some b ∧ Q (.bl b) H
  | _ => False
theorem c_is : CallR X (.builtin "isinstance") rIs := by
  intro pins s σ H xs us Q I r h
  unfold rIs at h
  split at h
  · obtain ⟨t, h1, b, h2, h3⟩ := h
    exact call_isi pins s σ H _ us Q I r ⟨_, _, _, _, _, rfl, .ty _, tyN_ok h1, kit_ty h2, h3⟩
  · exact h.elim
def rMax2 : List V → Hp → VK → Prop := fun vs H Q => match vs with
  | [.int i, .int j] => Q (.int (if j > i then j else i)) H
  | _ => False
def rMin2 : List V → Hp → VK → Prop := fun vs H Q => match vs with
  | [.int i, .int j] => Q (.int (if j < i then j else i)) H
  | _ => False
theorem c_max (hc : X.calm = true) : CallR X (.builtin "max") rMax2 := by
  intro pins s σ H xs us Q I r h
  unfold rMax2 at h
  split at h
  · exact call_max2 hc pins s σ H _ us Q I r ⟨_, _, rfl, h⟩
  · exact h.elim
theorem vals_of : ∀ {xs : List V} {us : List Value}, xs.length = us.length → (∀ (j : Nat) x u, xs[j]? = some x → us[j]? = some u → RelV x u) → Vals xs us
  | [], [], _, _ => .nil
  | [], _ :: _, h, _ => by simp at h
  | _ :: _, [], h, _ => by simp at h
  | a :: r, b :: s, h, k => .cons (k 0 a b rfl rfl) (vals_of (by simpa using h) fun j x u h1 h2 => k (j + 1) x u (by simpa using h1) (by simpa using h2))
theorem vals_signs {x : Str} {acc : Array Value} (h : ItemsOf (SignAt x) acc x.cps.size) : Vals (x.cps.toList.map fun c => V.str (tx [c])) acc.toList := by
  refine vals_of (by rw [List.length_map]; simp [h.1]) fun j v u h1 h2 => ?_
  obtain ⟨c, t, hc, rfl⟩ := h.2 j u (by simpa using h2)
  rw [List.getElem?_map, Array.getElem?_toList, hc] at h1
  cases h1
  exact ⟨t, rfl⟩
def rListU (K : PySem.W.Frag) : List V → Hp → VK → Prop := fun vs H Q => match vs with
  | [.str z] => z.length ≤ 16777216 ∧ ∀ p, H p = none → Q (.ref p) (upd H p (.lst (z.cps.toList.map fun c => V.str (tx [c]))))
  | [.ref p] => ∃ ys, (SqL K H p ys ∨ SqT K H p ys) ∧ ∀ l, H l = none → Q (.ref l) (upd H l (.lst ys))
  | _ => False
theorem c_list (hc : X.calm = true) {K : PySem.W.Frag} (hK : X.K = K := by rfl) : CallR X (.type "list") (rListU K) := by
  subst hK
  intro pins s σ H xs us Q I r h
  unfold rListU at h
  split at h
  · rename_i z
    obtain ⟨hz, q⟩ := h
    obtain ⟨u, rfl, t, rfl⟩ := vals1 r
    refine call_list_str (I.ok.hd hc) z t (fun h' tk acc c' kp e hacc => ?_) (by rw [sl16]; exact hz)
    have hl : (z.cps.toList.map fun c => V.str (tx [c])).length ≤ sizeLine := by rw [List.length_map, Array.length_toList, sl16]; exact hz
    exact ⟨.ref s.heap.objs.size, _, I.laid (t' := tk) kp (Nat.le_refl _) (show ObjOk X.prog X.w _ h' _ (.lst _) from ⟨hl, acc.toList, c', vals_signs hacc, by simpa using e⟩), rfl, q _ (I.hok.fresh (Nat.le_refl _))⟩
  · obtain ⟨ys, h1, h2⟩ := h
    exact call_list_of pins s σ H _ us Q I r ⟨_, _, rfl, h1, h2⟩
  · exact h.elim
def rTupU (K : PySem.W.Frag) : List V → Hp → VK → Prop := fun vs H Q => match vs with
  | [.str z] => z.length ≤ 16777216 ∧ ∀ p, H p = none → Q (.ref p) (upd H p (.tup (z.cps.toList.map fun c => V.str (tx [c]))))
  | [.ref p] => ∃ ys, (SqL K H p ys ∧ ∀ l, H l = none → Q (.ref l) (upd H l (.tup ys))) ∨ (SqT K H p ys ∧ Q (.ref p) H)
  | _ => False
end
end Zb
namespace Zb
open PySem PySem.Spec PyProof.Rows L2
open Evl (tCut pss_cut)
def Fr (M : Addr → Prop) (H H' : Hp) : Prop := ∀ b o, ¬ M b → H b = some o → H' b = some o
abbrev Ex (H H' : Hp) : Prop := Fr (fun _ => False) H H'
theorem Fr.refl {M : Addr → Prop} (H : Hp) : Fr M H H := fun _ _ _ e => e
theorem Fr.trans {M : Addr → Prop} {H H1 H2 : Hp} (a : Fr M H H1) (b : Fr M H1 H2) : Fr M H H2 := fun x o n e => b x o n (a x o n e)
theorem Fr.new {M : Addr → Prop} {H : Hp} {p : Addr} {o : HO} (h : H p = none) : Fr M H (upd H p o) := fun b u _ e => by
  rw [upd_ne (ne_of_none e h)]
  exact e
theorem Fr.at {M : Addr → Prop} {H : Hp} {p : Addr} {o : HO} (h : M p) : Fr M H (upd H p o) := fun b u n e => by
  rw [upd_ne fun z => n (by rw [z]; exact h)]
  exact e
theorem Fr.up {M M' : Addr → Prop} {H H' : Hp} (e : Fr M' H H') (h : ∀ b, M' b → M b) : Fr M H H' := fun b o n q => e b o (fun m => n (h b m)) q
theorem Fr.ex {M : Addr → Prop} {H H' : Hp} (e : Ex H H') : Fr M H H' := e.up fun _ z => z.elim
/-- an object that was not there at H may change -/
theorem Fr.mut {M : Addr → Prop} {H H' : Hp} {p : Addr} {o : HO} (e : Fr M H H') (h : H p = none) : Fr M H (upd H' p o) := fun b u n q => by
  rw [upd_ne (ne_of_none q h)]
  exact e b u n q
theorem Fr.get {M : Addr → Prop} {H H' : Hp} {a : Addr} {o : HO} (e : Fr M H H') (n : ¬ M a) (h : H a = some o) : H' a = some o := e a o n h
theorem Ex.get {H H' : Hp} {a : Addr} {o : HO} (e : Ex H H') (h : H a = some o) : H' a = some o := e a o (fun z => z) h
theorem Ex.free {H H' : Hp} (e : Ex H H') {p : Addr} (h : H' p = none) : H p = none := by
  cases q : H p with
  | none => rfl
  | some o =>
    rw [e p o (fun z => z) q] at h
    cases h
theorem Fr.free {M : Addr → Prop} {H H' : Hp} (e : Fr M H H') {p : Addr} (n : ¬ M p) (h : H' p = none) : H p = none := by
  cases q : H p with
  | none => rfl
  | some o =>
    rw [e p o n q] at h
    cases h
theorem upd_old {H : Hp} {p a : Addr} {o u : HO} (hp : H p = none) (ha : H a = some u) : upd H p o a = some u := by
  rw [upd_ne (ne_of_none ha hp)]
  exact ha
theorem upd_free {H : Hp} {p q : Addr} {o : HO} (h : upd H p o q = none) : H q = none := by
  by_cases e : q = p
  · rw [e, upd_same] at h
    cases h
  · rwa [upd_ne e] at h
theorem lst_of {H : Hp} {p : Addr} {xs : List V} (h : H p = some (.lst xs)) : lstAt H p = some xs := by unfold lstAt; rw [h]
theorem tup_of {H : Hp} {p : Addr} {xs : List V} (h : H p = some (.tup xs)) : tupAt H p = some xs := by unfold tupAt; rw [h]
theorem seq_l {H : Hp} {p : Addr} {xs : List V} (h : H p = some (.lst xs)) : seqAt H p = some xs := by unfold seqAt; rw [h]
theorem seq_t {H : Hp} {p : Addr} {xs : List V} (h : H p = some (.tup xs)) : seqAt H p = some xs := by unfold seqAt; rw [h]
section
variable {D : Ends} {σ : L2.St} {H : Hp} {Q : VK} {K : PySem.W.Frag} {R : L2.St → Hp → Prop} {B : Bool → Hp → Prop}
theorem st_seq {t u : TS} (h : t { D with nx := u D } σ H) : tSeq t u D σ H := h
theorem st_next (h : D.nx σ H) : tNext D σ H := h
theorem st_brk (h : D.bk σ H) : tBreak D σ H := h
theorem st_cont (h : D.ct σ H) : tCont D σ H := h
theorem st_drop {te : TE} (h : te σ H (fun _ H1 => D.nx σ H1)) : tDrop te D σ H := h
theorem st_ret {te : TE} (h : te σ H D.rt) : tRet te D σ H := h
theorem st_retN (h : D.rt .non H) : tRetN D σ H := h
theorem st_ifS {c : TT} {t u : TS} (h : c σ H (fun b H1 => if b = true then t D σ H1 else u D σ H1)) : tIfS c t u D σ H := h
theorem st_asg {te : TE} {g : TG} (h : te σ H (fun x H1 => g x σ H1 D.nx)) : tAsg te g D σ H := h
theorem st_name {i : Nat} {v : V} (h : R (σ.set i (some v)) H) : gName i v σ H R := h
theorem st_sub {to ti : TE} {t : TSet} {v : V} (h : to σ H (fun o H1 => ti σ H1 fun i H2 => t o i v H2 fun H3 => R σ H3)) : gSub to ti t v σ H R := h
theorem st_augI {i : Nat} {te : TE} {f : Int → Int → Int} {z : Int} (hx : σ[i]? = some (some (.int z))) (h : te σ H (fun y H1 => ipI f (.int z) y H1 fun z H2 => D.nx (σ.set i (some z)) H2)) : tAug i te (ipI f) D σ H := ⟨_, hx, h⟩
theorem st_ipI {f : Int → Int → Int} {x y : Int} (h : Q (.int (f x y)) H) : ipI f (.int x) (.int y) H Q := ⟨_, _, rfl, rfl, h⟩
theorem st_par {i j : Nat} {ta : TA} (h : ta σ H (fun vs H1 => ∃ v w, vs = [v, w] ∧ D.nx ((σ.set i (some v)).set j (some w)) H1)) : tPar i j ta D σ H := h
theorem st_par2 {v w : V} {P : V → V → Prop} (h : P v w) : ∃ v' w', [v, w] = [v', w'] ∧ P v' w' := ⟨v, w, rfl, h⟩
theorem st_var {i : Nat} {v : V} (hv : σ[i]? = some (some v)) (h : Q v H) : tVar i σ H Q := ⟨v, hv, h⟩
theorem st_c {v : V} (h : Q v H) : tC v σ H Q := h
theorem st_op {r : R2} {ta tb : TE} (h : ta σ H (fun x H1 => tb σ H1 fun y H2 => r x y H2 Q)) : tOp r ta tb σ H Q := h
theorem st_un {r : V → Hp → VK → Prop} {ta : TE} (h : ta σ H (fun x H1 => r x H1 Q)) : tUn r ta σ H Q := h
theorem st_rU {g : Int → V} {i : Int} (h : Q (g i) H) : rU g (.int i) H Q := ⟨i, rfl, h⟩
theorem st_B {t : TE} (h : t σ H (fun x H1 => ∃ c, x = .bl c ∧ B c H1)) : tB t σ H B := h
theorem st_test {t : TE} (h : t σ H (fun x H1 => ∃ c, x = .bl c ∧ B c H1)) : tTest t σ H B := h
theorem st_isb {b : Bool} {P : Bool → Prop} (h : P b) : ∃ c, V.bl b = .bl c ∧ P c := ⟨b, rfl, h⟩
theorem st_and {t u : TT} (h : t σ H (fun c H1 => if c = true then u σ H1 B else B false H1)) : tAnd t u σ H B := h
theorem st_or {t u : TT} (h : t σ H (fun c H1 => if c = true then B true H1 else u σ H1 B)) : tOr t u σ H B := h
theorem st_not {t : TT} (h : t σ H (fun c H1 => B (!c) H1)) : tNot t σ H B := h
theorem st_andV {ta tb : TE} (h : ta σ H (fun x H1 => ∃ c, x = .bl c ∧ if c = true then tb σ H1 Q else Q (.bl false) H1)) : tAndV ta tb σ H Q := h
theorem st_orV {ta tb : TE} (h : ta σ H (fun x H1 => ∃ c, x = .bl c ∧ if c = true then Q (.bl true) H1 else tb σ H1 Q)) : tOrV ta tb σ H Q := h
theorem st_notV {ta : TE} (h : ta σ H (fun x H1 => ∃ c, x = .bl c ∧ Q (.bl (!c)) H1)) : tNotV ta σ H Q := h
theorem st_if {t : TT} {ta tb : TE} (h : t σ H (fun c H1 => if c = true then ta σ H1 Q else tb σ H1 Q)) : tIf t ta tb σ H Q := h
theorem st_nil {P : List V → Hp → Prop} (h : P [] H) : tNil σ H P := h
theorem st_cons {ta : TE} {tr : TA} {P : List V → Hp → Prop} (h : ta σ H (fun x H1 => tr σ H1 fun xs H2 => P (x :: xs) H2)) : tCons ta tr σ H P := h
def NewO (o : List V → HO) (xs : List V) (Q : VK) (H : Hp) : Prop := xs.length ≤ sizeLine ∧ ∀ p, H p = none → Q (.ref p) (upd H p (o xs))
theorem st_tup {t : TA} (h : t σ H (fun xs H1 => NewO .tup xs Q H1)) : tTup t σ H Q := h
theorem st_lst {t : TA} (h : t σ H (fun xs H1 => NewO .lst xs Q H1)) : tLst t σ H Q := h
/-- a new object: from then on the heap is a letter -/
theorem st_new {xs : List V} {o : List V → HO} (hz : xs.length ≤ 16777216) (h : ∀ p H', H p = none → Ex H H' → H' p = some (o xs) → Q (.ref p) H') : NewO o xs Q H :=
  ⟨by rw [sl16]; exact hz, fun p hp => h p _ hp (Fr.new hp) upd_same⟩
theorem st_cb {r : List V → Hp → VK → Prop} {t : TA} (h : t σ H (fun vs H1 => r vs H1 Q)) : tCB r t σ H Q := h
theorem st_call {sp : Sp} {dvs : List V} {E : XK} {t : TA} (h : t σ H (fun vs H1 => sp (vs ++ dvs) H1 Q E)) : tCall sp dvs E t σ H Q := h
theorem st_sl {r : V → Option Int → Option Int → Hp → VK → Prop} {te : TE} {tl th : TO} (h : te σ H (fun x H1 => tl σ H1 fun l H2 => th σ H2 fun u H3 => r x l u H3 Q)) : tSl r te tl th σ H Q := h
theorem st_part {te : TE} {P : Option Int → Hp → Prop} (h : te σ H (fun x H1 => ∃ i, x = .int i ∧ P (some i) H1)) : tPart te σ H P := h
theorem st_isi {i : Int} {P : Int → Prop} (h : P i) : ∃ j, V.int i = .int j ∧ P j := ⟨i, rfl, h⟩
theorem st_nopart {P : Option Int → Hp → Prop} (h : P none H) : tNoPart σ H P := h
theorem st_addI {i j : Int} (h : Q (.int (i + j)) H) : rAdd (.int i) (.int j) H Q := h
theorem st_addS {a b : Str} (hz : a.length + b.length ≤ 16777216) (h : Q (.str (a ++ b)) H) : rAdd (.str a) (.str b) H Q := ⟨hz, h⟩
theorem st_addL {p q : Addr} {xs ys : List V} (h1 : H p = some (.lst xs)) (h2 : H q = some (.lst ys)) (hz : xs.length + ys.length ≤ 16777216) (h : ∀ r H', H r = none → Ex H H' → H' r = some (.lst (xs ++ ys)) → Q (.ref r) H') : rAdd (.ref p) (.ref q) H Q :=
  ⟨xs, ys, h1, h2, hz, fun r hr => h r _ hr (Fr.new hr) upd_same⟩
theorem st_subI {i j : Int} (h : Q (.int (i - j)) H) : rSub (.int i) (.int j) H Q := h
theorem st_mulI {i j : Int} (hc : (-(2 ^ 64) < i ∧ i < 2 ^ 64) ∨ (-(2 ^ 64) < j ∧ j < 2 ^ 64)) (h : Q (.int (i * j)) H) : rMul (.int i) (.int j) H Q := ⟨hc, h⟩
theorem st_mulL {p : Addr} {k : Int} {xs : List V} (h1 : H p = some (.lst xs)) (h2 : -1000000 ≤ k) (h3 : k ≤ 1000000) (hz : xs.length * k.toNat ≤ 16777216) (h : ∀ r H', H r = none → Ex H H' → H' r = some (.lst (List.replicate k.toNat xs).flatten) → Q (.ref r) H') : rMul (.ref p) (.int k) H Q :=
  ⟨xs, h1, h2, h3, hz, fun r hr => h r _ hr (Fr.new hr) upd_same⟩
theorem st_modI {i j : Int} (hc : 0 < j) (h : Q (.int (i % j)) H) : rMod (.int i) (.int j) H Q := ⟨hc, h⟩
theorem st_divI {i j : Int} (hc : 0 < j ∧ j < 1073741824) (h : Q (.int (i / j)) H) : rDiv (.int i) (.int j) H Q := ⟨hc.1, hc.2, h⟩
theorem st_powI {i j : Int} (hc : 0 ≤ j ∧ j ≤ 1000000 ∧ i.natAbs < 2 ^ 64) (h : Q (.int (i ^ j.toNat)) H) : rPow (.int i) (.int j) H Q := ⟨hc.1, hc.2.1, hc.2.2, h⟩
theorem st_cmpI {f : Int → Int → Bool} {i j : Int} (h : Q (.bl (f i j)) H) : rCmpI f (.int i) (.int j) H Q := h
theorem st_eqI {i j : Int} (h : Q (.bl (decide (i = j))) H) : rEqU (.int i) (.int j) H Q := ⟨_, _, .int i, .int j, by simp [PyData.depth], by
  have e : PyData.eqv (.int i) (.int j) = decide (i = j) := by simp only [PyData.eqv]; rfl
  rw [e]; exact h⟩
theorem st_neI {i j : Int} (h : Q (.bl (!decide (i = j))) H) : rNeU (.int i) (.int j) H Q := ⟨_, _, .int i, .int j, by simp [PyData.depth], by
  have e : PyData.eqv (.int i) (.int j) = decide (i = j) := by simp only [PyData.eqv]; rfl
  rw [e]; exact h⟩
theorem st_eqS {i j : Str} (h : Q (.bl (decide (i = j))) H) : rEqU (.str i) (.str j) H Q := ⟨_, _, .str i, .str j, by simp [PyData.depth], by
  have e : PyData.eqv (.str i) (.str j) = decide (i = j) := by simp only [PyData.eqv]; rfl
  rw [e]; exact h⟩
theorem st_neS {i j : Str} (h : Q (.bl (!decide (i = j))) H) : rNeU (.str i) (.str j) H Q := ⟨_, _, .str i, .str j, by simp [PyData.depth], by
  have e : PyData.eqv (.str i) (.str j) = decide (i = j) := by simp only [PyData.eqv]; rfl
  rw [e]; exact h⟩
theorem st_eqB {i j : Bool} (h : Q (.bl (i == j)) H) : rEqU (.bl i) (.bl j) H Q := ⟨_, _, .bl i, .bl j, by simp [PyData.depth], by
  have e : PyData.eqv (.bool i) (.bool j) = (i == j) := by simp only [PyData.eqv]
  rw [e]; exact h⟩
theorem st_neB {i j : Bool} (h : Q (.bl (!(i == j))) H) : rNeU (.bl i) (.bl j) H Q := ⟨_, _, .bl i, .bl j, by simp [PyData.depth], by
  have e : PyData.eqv (.bool i) (.bool j) = (i == j) := by simp only [PyData.eqv]
  rw [e]; exact h⟩
theorem st_eqD {x y : V} {d e : PyData} (h1 : Rp H x d) (h2 : Rp H y e) (hd : min d.depth e.depth ≤ 64) (h : Q (.bl (PyData.eqv d e)) H) : rEqU x y H Q := ⟨d, e, h1, h2, hd, h⟩
theorem st_neD {x y : V} {d e : PyData} (h1 : Rp H x d) (h2 : Rp H y e) (hd : min d.depth e.depth ≤ 64) (h : Q (.bl (!PyData.eqv d e)) H) : rNeU x y H Q := ⟨d, e, h1, h2, hd, h⟩
theorem st_ixL {p : Addr} {i : Int} {v : V} {xs : List V} (h1 : H p = some (.lst xs)) (h2 : atI xs i = some v) (h : Q v H) : rIxU K (.ref p) (.int i) H Q := ⟨xs, seqAt_sq (seq_l h1), v, h2, h⟩
theorem st_ixT {p : Addr} {i : Int} {v : V} {xs : List V} (h1 : H p = some (.tup xs)) (h2 : atI xs i = some v) (h : Q v H) : rIxU K (.ref p) (.int i) H Q := ⟨xs, seqAt_sq (seq_t h1), v, h2, h⟩
theorem st_ixK {p : Addr} {i : Int} {v : V} {xs : List V} (h1 : SqL K H p xs) (h2 : atI xs i = some v) (h : Q v H) : rIxU K (.ref p) (.int i) H Q := ⟨xs, .inl h1, v, h2, h⟩
theorem at_in {α : Type} {xs : List α} {i : Int} (h0 : 0 ≤ i) (h1 : i < xs.length) : ∃ v, atI xs i = some v ∧ xs[i.toNat]? = some v := by
  have hj : i.toNat < xs.length := by omega
  refine ⟨xs[i.toNat], ?_, List.getElem?_eq_getElem hj⟩
  unfold atI ixN
  rw [if_pos h0, if_pos h1]
  exact List.getElem?_eq_getElem hj
theorem st_slS {z : Str} {lo hi : Option Int} (hz : z.length ≤ 16777216) (h : Q (.str (cutS z lo hi)) H) : rSlU K (.str z) lo hi H Q := ⟨hz, h⟩
theorem st_slL {p : Addr} {xs : List V} {lo hi : Option Int} (h1 : lstAt H p = some xs) (h : ∀ q H', H q = none → Ex H H' → H' q = some (.lst (cutV xs lo hi)) → Q (.ref q) H') : rSlU K (.ref p) lo hi H Q := ⟨xs, lstAt_sq h1, fun q hq => h q _ hq (Fr.new hq) upd_same⟩
theorem st_slK {p : Addr} {xs : List V} {lo hi : Option Int} (h1 : SqL K H p xs) (h : ∀ q H', H q = none → Ex H H' → H' q = some (.lst (cutV xs lo hi)) → Q (.ref q) H') : rSlU K (.ref p) lo hi H Q := ⟨xs, h1, fun q hq => h q _ hq (Fr.new hq) upd_same⟩
theorem st_lenS {z : Str} (hz : z.length ≤ 16777216) (h : Q (.int z.length) H) : rLen K [.str z] H Q := ⟨hz, h⟩
theorem st_lenL {p : Addr} {xs : List V} (h1 : H p = some (.lst xs)) (h : Q (.int xs.length) H) : rLen K [.ref p] H Q := ⟨xs, seqAt_sq (seq_l h1), h⟩
theorem st_lenT {p : Addr} {xs : List V} (h1 : H p = some (.tup xs)) (h : Q (.int xs.length) H) : rLen K [.ref p] H Q := ⟨xs, seqAt_sq (seq_t h1), h⟩
theorem st_lenQ {p : Addr} {xs : List V} (h1 : seqAt H p = some xs) (h : Q (.int xs.length) H) : rLen K [.ref p] H Q := ⟨xs, seqAt_sq h1, h⟩
theorem st_lenK {p : Addr} {xs : List V} (h1 : SqL K H p xs) (h : Q (.int xs.length) H) : rLen K [.ref p] H Q := ⟨xs, .inl h1, h⟩
theorem st_max2 {i j : Int} (h : Q (.int (if j > i then j else i)) H) : Zb.rMax2 [.int i, .int j] H Q := h
theorem st_min2 {i j : Int} (h : Q (.int (if j < i then j else i)) H) : Zb.rMin2 [.int i, .int j] H Q := h
theorem st_is {x : V} {n t : String} {b : Bool} (h1 : tyN H x = some t) (h2 : kitB t n = some b) (h : Q (.bl b) H) : rIs [x, .ty n] H Q := ⟨t, h1, b, h2, h⟩
/-- xs[i] = e -/
theorem st_setL {p : Addr} {k : Int} {v : V} {xs : List V} {j : Nat} {R : Hp → Prop} (h1 : H p = some (.lst xs)) (h2 : ixN xs.length k = some j) (h : R (upd H p (.lst (xs.set j v)))) : rSetL (.ref p) (.int k) v H R := ⟨p, xs, k, j, rfl, rfl, h1, h2, h⟩
theorem st_T {A B : Prop} {b : Bool} (hb : b = true) (h : A) : if b = true then A else B := by rw [if_pos hb]; exact h
theorem st_F {A B : Prop} {b : Bool} (hb : b = false) (h : B) : if b = true then A else B := by rw [hb, if_neg Bool.false_ne_true]; exact h
theorem st_br2 {A B : Prop} {p : Prop} [Decidable p] (h1 : p → A) (h2 : ¬ p → B) : if decide p = true then A else B := by
  by_cases q : p
  · rw [decide_eq_true q]; exact h1 q
  · rw [decide_eq_false q, if_neg Bool.false_ne_true]; exact h2 q
end
def Purse (H : Hp) (a : Addr) : Prop := ∃ x y z : Int, H a = some (.lst [.int x, .int y, .int z])
abbrev FrP (p : Addr) (H H' : Hp) : Prop := Fr (fun b => b = p) H H'
theorem FrP.at {H : Hp} {p : Addr} {o : HO} : FrP p H (upd H p o) := Fr.at (M := fun b => b = p) rfl
theorem Purse.ne {H : Hp} {p q : Addr} (h : Purse H p) (hq : H q = none) : q ≠ p := fun e => by
  obtain ⟨x, y, z, h⟩ := h
  rw [e, h] at hq
  cases hq
theorem Purse.ex {H H' : Hp} {p : Addr} (h : Purse H p) (e : Ex H H') : Purse H' p := by
  obtain ⟨x, y, z, h⟩ := h
  exact ⟨x, y, z, e.get h⟩
end Zb
namespace Zb
open PySem PySem.Spec PyProof.Rows L2
open Evl (tCut pss_cut)
structure Runs (J : It) (n : Nat) (S : Hp → Prop) (item : Nat → V → Hp → Hp → Prop) : Prop where
  go : ∀ i H, i < n → S H → J.go i H
  stop : ∀ H, S H → J.stop n H
  yld : ∀ i H x H', i < n → S H → J.yld i H x H' → item i x H H'
theorem runs_range (lo : Int) (n : Nat) : Runs (Itr lo n) n (fun _ => True) (fun i x H H' => H' = H ∧ x = .int (lo + i)) :=
  ⟨fun _ _ h _ => h, fun _ _ => Nat.le_refl _, fun _ _ _ _ _ _ y => y⟩
theorem runs_list (K : PySem.W.Frag) (a : Addr) (xs : List V) : Runs (Itl K a) xs.length (fun H => lstAt H a = some xs) (fun i x H H' => H' = H ∧ xs[i]? = some x) :=
  ⟨fun i H h s => ⟨xs, xs[i], lstAt_sq s, by simp [h]⟩, fun _ s => ⟨xs, lstAt_sq s, Nat.le_refl _⟩, fun _ _ _ _ _ s y => ⟨y.1, y.2 xs (lstAt_sq s)⟩⟩
theorem runs_tup (K : PySem.W.Frag) (a : Addr) (xs : List V) : Runs (Itt K a) xs.length (fun H => tupAt H a = some xs) (fun i x H H' => H' = H ∧ xs[i]? = some x) :=
  ⟨fun i H h s => ⟨xs, xs[i], tupAt_sq s, by simp [h]⟩, fun _ s => ⟨xs, tupAt_sq s, Nat.le_refl _⟩, fun _ _ _ _ _ s y => ⟨y.1, y.2 xs (tupAt_sq s)⟩⟩
theorem runs_enum (K : PySem.W.Frag) (a : Addr) (xs : List V) : Runs (Ite K a) xs.length (fun H => lstAt H a = some xs) (fun i x H H' => ∃ T v, x = .ref T ∧ H T = none ∧ Ex H H' ∧ H' T = some (.tup [.int (i : Nat), v]) ∧ xs[i]? = some v) :=
  ⟨fun i H h s => ⟨xs, xs[i], lstAt_sq s, by simp [h]⟩, fun _ s => ⟨xs, lstAt_sq s, Nat.le_refl _⟩, fun i H x H' _ s y => by
    obtain ⟨T, v, e1, e2, e3, e4⟩ := y
    subst e3
    exact ⟨T, v, e1, e2, Fr.new e2, upd_same, e4 xs (lstAt_sq s)⟩⟩
theorem runs_zip (K : PySem.W.Frag) (a b : Addr) (xs ys : List V) : Runs (Itz K a b) (min xs.length ys.length) (fun H => lstAt H a = some xs ∧ lstAt H b = some ys) (fun i x H H' => ∃ T v u, x = .ref T ∧ H T = none ∧ Ex H H' ∧ H' T = some (.tup [v, u]) ∧ xs[i]? = some v ∧ ys[i]? = some u) :=
  ⟨fun i H h s => ⟨xs, ys, xs[i]'(by omega), ys[i]'(by omega), lstAt_sq s.1, lstAt_sq s.2, by rw [List.getElem?_eq_getElem], by rw [List.getElem?_eq_getElem]⟩, fun _ s => ⟨xs, ys, lstAt_sq s.1, lstAt_sq s.2, by omega⟩, fun i H x H' _ s y => by
    obtain ⟨T, v, u, e1, e2, e3, e4, e5⟩ := y
    subst e3
    exact ⟨T, v, u, e1, e2, Fr.new e2, upd_same, e4 xs (lstAt_sq s.1), e5 ys (lstAt_sq s.2)⟩⟩
def LcGoal (J : It) (g : TG) (tt : TT) (te : TE) (vs : List Nat) (σ : L2.St) (Q : VK) (H1 : Hp) : Prop := ∀ D, H1 D = none → ∃ W : Nat → Nat → Hp → Prop, (∃ m, W 0 m (upd H1 D (.lst []))) ∧ ∀ i m H, W i m H →
      (J.stop i H ∧ Q (.ref D) H) ∨ (J.go i H ∧ ∃ Nx : Hp → Prop, (∀ H', Nx H' → ∃ m', m' < m ∧ W (i + 1) m' H') ∧ ∀ x H', J.yld i H x H' → g x (wipe σ vs) H' fun σ2 H2 => wipe σ2 vs = wipe σ vs ∧ tt σ2 H2 fun b H3 =>
        if b = true then te σ2 H3 fun y H4 => ∃ acc, H4 D = some (.lst acc) ∧ acc.length < sizeLine ∧ Nx (upd H4 D (.lst (acc ++ [y]))) else Nx H3)
def ForGoal (J : It) (g : TG) (tb : TS) (D : Ends) (σ : L2.St) (H : Hp) : Prop := ∃ W : Nat → Nat → L2.St → Hp → Prop, (∃ m, W 0 m σ H) ∧ ∀ i m σ H, W i m σ H →
      (J.stop i H ∧ D.nx σ H) ∨ (J.go i H ∧ ∃ N : L2.St → Hp → Prop, (∀ σ' H', N σ' H' → ∃ m', m' < m ∧ W (i + 1) m' σ' H') ∧ ∀ x H', J.yld i H x H' → g x σ H' fun σ2 H2 => tb { D with nx := N, ct := N, bk := D.nx } σ2 H2)
section
variable {J : It} {n : Nat} {S : Hp → Prop} {item : Nat → V → Hp → Hp → Prop} {g : TG} {σ : L2.St} {H H1 : Hp} {K : PySem.W.Frag}
/-- a for loop by its word Pv -/
theorem for_runs {tb : TS} {D : Ends} (hR : Runs J n S item) (Pv : Nat → L2.St → Hp → Prop) (h0 : Pv 0 σ H) (hS : ∀ i σ H, i ≤ n → Pv i σ H → S H)
    (hs : ∀ i x σ H H', i < n → Pv i σ H → item i x H H' → g x σ H' fun σ2 H2 => tb { D with nx := Pv (i + 1), ct := Pv (i + 1), bk := D.nx } σ2 H2) (hd : ∀ σ H, Pv n σ H → D.nx σ H) :
    ForGoal J g tb D σ H := by
  refine ⟨fun i m σ H => m = n - i ∧ i ≤ n ∧ Pv i σ H, ⟨n, by simp, Nat.zero_le _, h0⟩, ?_⟩
  rintro i m σ H ⟨rfl, hi, p⟩
  by_cases hlt : i < n
  · refine .inr ⟨hR.go i H hlt (hS i σ H hi p), Pv (i + 1), fun σ' H' p' => ⟨n - (i + 1), by omega, rfl, hlt, p'⟩, fun x H' y => ?_⟩
    exact hs i x σ H H' hlt p (hR.yld i H x H' hlt (hS i σ H hi p) y)
  · have e : i = n := by omega
    subst e
    exact .inl ⟨hR.stop H (hS i σ H hi p), hd σ H p⟩
/-- the list of a comprehension on its way -/
structure LcAt (M : Addr → Prop) (H1 : Hp) (D : Addr) (acc : List V) (H : Hp) : Prop where
  new : H1 D = none
  non : ¬ M D
  at_ : H D = some (.lst acc)
  fr : Fr M H1 H
def LcW (M : Addr → Prop) (H1 : Hp) (Pv : Nat → List V → Hp → Prop) (D : Addr) (i : Nat) (H : Hp) : Prop := ∃ acc, LcAt M H1 D acc H ∧ Pv i acc H
/-- Pv does not look at the list itself -/
def LcSt (M : Addr → Prop) (H1 : Hp) (Pv : Nat → List V → Hp → Prop) : Prop := ∀ i acc H' D o, H1 D = none → Fr M H1 H' → Pv i acc H' → Pv i acc (upd H' D o)
theorem lc_yes {M : Addr → Prop} {Pv : Nat → List V → Hp → Prop} {D : Addr} {i : Nat} {acc : List V} {H' H4 : Hp} {y : V} (L : LcAt M H1 D acc H') (hst : LcSt M H1 Pv) (e : Fr M H' H4) (hz : acc.length < 1000000) (p : Pv (i + 1) (acc ++ [y]) H4) :
    ∃ acc, H4 D = some (.lst acc) ∧ acc.length < sizeLine ∧ LcW M H1 Pv D (i + 1) (upd H4 D (.lst (acc ++ [y]))) :=
  ⟨acc, e D _ L.non L.at_, by rw [sl16]; omega, acc ++ [y], ⟨L.new, L.non, upd_same, (L.fr.trans e).mut L.new⟩, hst _ _ _ _ _ L.new (L.fr.trans e) p⟩
theorem lc_no {M : Addr → Prop} {Pv : Nat → List V → Hp → Prop} {D : Addr} {i : Nat} {acc : List V} {H' H4 : Hp} (L : LcAt M H1 D acc H') (e : Fr M H' H4) (p : Pv (i + 1) acc H4) : LcW M H1 Pv D (i + 1) H4 :=
  ⟨acc, ⟨L.new, L.non, e D _ L.non L.at_, L.fr.trans e⟩, p⟩
theorem lc_runs {tt : TT} {te : TE} {vs : List Nat} {Q : VK} (hR : Runs J n S item) (M : Addr → Prop) (Pv : Nat → List V → Hp → Prop) (hM : ∀ b, M b → H1 b ≠ none) (h0 : Pv 0 [] H1) (hst : LcSt M H1 Pv) (hS : ∀ i acc H', Fr M H1 H' → Pv i acc H' → S H')
    (hs : ∀ D i acc x H' H'', i < n → LcAt M H1 D acc H' → Pv i acc H' → item i x H' H'' → g x (wipe σ vs) H'' fun σ2 H2 => wipe σ2 vs = wipe σ vs ∧ tt σ2 H2 fun b H3 => if b = true then te σ2 H3 fun y H4 => ∃ acc, H4 D = some (.lst acc) ∧ acc.length < sizeLine ∧ LcW M H1 Pv D (i + 1) (upd H4 D (.lst (acc ++ [y]))) else LcW M H1 Pv D (i + 1) H3)
    (hd : ∀ D acc H', H1 D = none → Fr M H1 H' → H' D = some (.lst acc) → Pv n acc H' → Q (.ref D) H') :
    LcGoal J g tt te vs σ Q H1 := by
  intro D hD
  refine ⟨fun i m H => m = n - i ∧ i ≤ n ∧ LcW M H1 Pv D i H, ⟨n, by simp, Nat.zero_le _, [], ⟨hD, fun m => hM D m hD, upd_same, Fr.new hD⟩, hst _ _ _ _ _ hD (Fr.refl _) h0⟩, ?_⟩
  rintro i m H ⟨rfl, hi, acc, L, p⟩
  by_cases hlt : i < n
  · refine .inr ⟨hR.go i H hlt (hS i acc H L.fr p), LcW M H1 Pv D (i + 1), fun H' p' => ⟨n - (i + 1), by omega, rfl, hlt, p'⟩, fun x H' y => ?_⟩
    exact hs D i acc x H H' hlt L p (hR.yld i H x H' hlt (hS i acc H L.fr p) y)
  · have e : i = n := by omega
    subst e
    exact .inl ⟨hR.stop H (hS i acc H L.fr p), hd D acc H hD L.fr L.at_ p⟩
abbrev RunsV {α : Type} (J : It) (ys : List α) (val : α → V) (S : Hp → Prop) : Prop := Runs J ys.length S (fun i x H H' => H' = H ∧ ∃ y, ys[i]? = some y ∧ x = val y)
theorem rv_list (K : PySem.W.Frag) (a : Addr) {α : Type} (ys : List α) (val : α → V) : RunsV (Itl K a) ys val (fun H => lstAt H a = some (ys.map val)) :=
  ⟨fun i H h s => ⟨ys.map val, val ys[i], lstAt_sq s, by simp [h]⟩, fun _ s => ⟨ys.map val, lstAt_sq s, by simp⟩, fun i H x H' h s y => by
    have e := y.2 _ (lstAt_sq s)
    rw [List.getElem?_map, List.getElem?_eq_getElem h] at e
    exact ⟨y.1, ys[i], List.getElem?_eq_getElem h, (Option.some.inj e).symm⟩⟩
theorem rv_range (lo : Int) (n : Nat) : RunsV (Itr lo n) (List.range n) (fun i => .int (lo + i)) (fun _ => True) :=
  ⟨fun _ _ h _ => by rw [List.length_range] at h; exact h, fun _ _ => by rw [List.length_range]; exact Nat.le_refl _, fun i _ _ _ h _ y => by
    rw [List.length_range] at h
    exact ⟨y.1, i, by rw [List.getElem?_range h], y.2⟩⟩
theorem lc_pure {α : Type} {ys : List α} {val : α → V} {tt : TT} {te : TE} {vs : List Nat} {Q : VK} (hR : RunsV J ys val S) (hS : ∀ H', Ex H1 H' → S H') (hz : ys.length < 1000000) (p : α → Bool) (f : α → V)
    (hs : ∀ y H', y ∈ ys → Ex H1 H' → ∀ (B : V → Hp → Prop) (A : Hp → Prop), (p y = true → ∀ H'', Ex H' H'' → B (f y) H'') → (p y = false → ∀ H'', Ex H' H'' → A H'') → g (val y) (wipe σ vs) H' fun σ2 H2 => wipe σ2 vs = wipe σ vs ∧ tt σ2 H2 fun b H3 => if b = true then te σ2 H3 B else A H3)
    (hd : ∀ D H', H1 D = none → Ex H1 H' → H' D = some (.lst ((ys.filter p).map f)) → Q (.ref D) H') :
    LcGoal J g tt te vs σ Q H1 := by
  have tk : ∀ {i : Nat} {y : α}, ys[i]? = some y → ys.take (i + 1) = ys.take i ++ [y] := fun {i y} e => by
    rw [List.take_succ, e]
    rfl
  refine lc_runs hR (fun _ => False) (fun i acc _ => acc = ((ys.take i).filter p).map f) (fun _ z => z.elim) (by simp) (fun i acc H' D o _ _ e => e) (fun i acc H' e _ => hS H' e) ?_ ?_
  · rintro D i acc x H' H'' hi L rfl ⟨rfl, y, hy, rfl⟩
    have hl : (((ys.take i).filter p).map f).length < 1000000 := by
      rw [List.length_map]
      have := List.length_filter_le p (ys.take i)
      rw [List.length_take] at this
      omega
    refine hs y H'' (List.mem_of_getElem? hy) L.fr _ _ (fun hp H3 e => ?_) (fun hp H3 e => ?_)
    · refine lc_yes L (fun i acc H' D o _ _ e => e) e hl ?_
      rw [tk hy, List.filter_append, List.map_append, List.filter_cons, if_pos hp]
      rfl
    · refine lc_no L e ?_
      rw [tk hy, List.filter_append, List.map_append, List.filter_cons, if_neg (by rw [hp]; decide)]
      simp
  · rintro D acc H' hD e h rfl
    rw [List.take_length] at h
    exact hd D H' hD e h
/-- no test -/
theorem lc_map {α : Type} {ys : List α} {val : α → V} {te : TE} {vs : List Nat} {Q : VK} (hR : RunsV J ys val S) (hS : ∀ H', Ex H1 H' → S H') (hz : ys.length < 1000000) (f : α → V)
    (hs : ∀ y H', y ∈ ys → Ex H1 H' → ∀ (B : V → Hp → Prop), (∀ H'', Ex H' H'' → B (f y) H'') → g (val y) (wipe σ vs) H' fun σ2 H2 => wipe σ2 vs = wipe σ vs ∧ te σ2 H2 B)
    (hd : ∀ D H', H1 D = none → Ex H1 H' → H' D = some (.lst (ys.map f)) → Q (.ref D) H')
    (hg : ∀ v σ H (P P' : L2.St → Hp → Prop), (∀ σ H, P σ H → P' σ H) → g v σ H P → g v σ H P' := by intro _ _ _ _ _ k h; exact k _ _ h) : LcGoal J g tYes te vs σ Q H1 := by
  refine lc_pure hR hS hz (fun _ => true) f (fun y H' hy e B A h1 h2 => ?_) (fun D H' hD e h => hd D H' hD e ?_)
  · exact hg _ _ _ _ _ (fun σ2 H2 h => ⟨h.1, h.2⟩) (hs y H' hy e B (h1 rfl))
  · rwa [List.filter_eq_self.mpr (fun _ _ => rfl)] at h
theorem st_yes {P : Bool → Hp → Prop} (h : P true H) : tYes σ H P := h
/-- isinstance(b, bool) -/
theorem st_isBool {Q : VK} {b : Bool} (h : Q (.bl true) H) : rIs [.bl b, .ty "bool"] H Q := ⟨"bool", rfl, true, by decide +kernel, h⟩
theorem st_iStr {te : TE} {R : It → Hp → Prop} (h : te σ H (fun v H1 => ∃ x, v = .str x ∧ R (Its x) H1)) : iStr te σ H R := h
theorem st_isStr {x : Str} {P : Str → Prop} (h : P x) : ∃ y, V.str x = .str y ∧ P y := ⟨x, rfl, h⟩
theorem st_iList {tl : TE} {R : It → Hp → Prop} (h : tl σ H (fun x H1 => ∃ a, x = .ref a ∧ (∃ xs, SqL K H1 a xs) ∧ R (Itl K a) H1)) : iList K tl σ H R := h
theorem st_isList {a : Addr} {xs : List V} {P : Addr → Prop} (h1 : lstAt H a = some xs) (h : P a) : ∃ b, V.ref a = .ref b ∧ (∃ xs, SqL K H b xs) ∧ P b := ⟨a, rfl, ⟨xs, lstAt_sq h1⟩, h⟩
theorem st_iTup {tl : TE} {R : It → Hp → Prop} (h : tl σ H (fun x H1 => ∃ a, x = .ref a ∧ (∃ xs, SqT K H1 a xs) ∧ R (Itt K a) H1)) : iTup K tl σ H R := h
theorem st_isTup {a : Addr} {xs : List V} {P : Addr → Prop} (h1 : tupAt H a = some xs) (h : P a) : ∃ b, V.ref a = .ref b ∧ (∃ xs, SqT K H b xs) ∧ P b := ⟨a, rfl, ⟨xs, tupAt_sq h1⟩, h⟩
theorem st_iR1 {ta : TA} {R : It → Hp → Prop} (h : ta σ H (fun vs H1 => ∃ j : Int, vs = [.int j] ∧ -(2 ^ 62) ≤ j ∧ j < 2 ^ 62 ∧ R (Itr 0 j.toNat) H1)) : iRng1 ta σ H R := h
theorem st_isR1 {j : Int} {P : Int → Prop} (h1 : -1000000000000 ≤ j ∧ j < 1000000000000) (h : P j) : ∃ i : Int, [V.int j] = [.int i] ∧ -(2 ^ 62) ≤ i ∧ i < 2 ^ 62 ∧ P i := ⟨j, rfl, by omega, by omega, h⟩
theorem st_iR2 {ta : TA} {R : It → Hp → Prop} (h : ta σ H (fun vs H1 => ∃ i j : Int, vs = [.int i, .int j] ∧ (-(2 ^ 62) ≤ i ∧ i < 2 ^ 62 ∧ -(2 ^ 62) ≤ j ∧ j < 2 ^ 62) ∧ R (Itr i (j - i).toNat) H1)) : iRng2 ta σ H R := h
theorem st_isR2 {i j : Int} {P : Int → Int → Prop} (h1 : -1000000000000 ≤ i ∧ i < 1000000000000 ∧ -1000000000000 ≤ j ∧ j < 1000000000000) (h : P i j) : ∃ i' j' : Int, [V.int i, V.int j] = [.int i', .int j'] ∧ (-(2 ^ 62) ≤ i' ∧ i' < 2 ^ 62 ∧ -(2 ^ 62) ≤ j' ∧ j' < 2 ^ 62) ∧ P i' j' := ⟨i, j, rfl, ⟨by omega, by omega, by omega, by omega⟩, h⟩
theorem st_iEn {ta : TA} {R : It → Hp → Prop} (h : ta σ H (fun vs H1 => ∃ a xs, vs = [.ref a] ∧ SqL K H1 a xs ∧ R (Ite K a) H1)) : iEnum K ta σ H R := h
theorem st_isEn {a : Addr} {xs : List V} {P : Addr → Prop} (h1 : lstAt H a = some xs) (h : P a) : ∃ b xs, [V.ref a] = [.ref b] ∧ SqL K H b xs ∧ P b := ⟨a, xs, rfl, lstAt_sq h1, h⟩
theorem st_iZp {ta : TA} {R : It → Hp → Prop} (h : ta σ H (fun vs H1 => ∃ a b xs ys, vs = [.ref a, .ref b] ∧ SqL K H1 a xs ∧ SqL K H1 b ys ∧ R (Itz K a b) H1)) : iZip K ta σ H R := h
theorem st_isZp {a b : Addr} {xs ys : List V} {P : Addr → Addr → Prop} (h1 : lstAt H a = some xs) (h2 : lstAt H b = some ys) (h : P a b) : ∃ a' b' xs ys, [V.ref a, V.ref b] = [.ref a', .ref b'] ∧ SqL K H a' xs ∧ SqL K H b' ys ∧ P a' b' := ⟨a, b, xs, ys, rfl, lstAt_sq h1, lstAt_sq h2, h⟩
theorem st_lc {wi : TI} {tt : TT} {te : TE} {vs : List Nat} {Q : VK} (h : wi σ H fun J H1 => LcGoal J g tt te vs σ Q H1) : tLc wi g tt te vs σ H Q := h
theorem st_for {wi : TI} {tb : TS} {D : Ends} (h : wi σ H fun J H1 => ForGoal J g tb D σ H1) : tFor wi g tb D σ H := h
end
section
variable {H : Hp} {Q : VK} {σ : L2.St}
theorem st_inC {c : Nat} {z : Str} (h : Q (.bl (decide (c ∈ z.cps.toList))) H) : rInU false (.str (tx [c])) (.str z) H Q := by
  refine ⟨_, rfl, ?_⟩
  show Q (.bl (!(Builtin.Str.occurrences z ⟨#[c]⟩ 0 z.length 1).isEmpty)) H
  rw [PySem.StrLaws.found_one]
  exact h
theorem st_ninC {c : Nat} {z : Str} (h : Q (.bl (!decide (c ∈ z.cps.toList))) H) : rInU true (.str (tx [c])) (.str z) H Q := by
  refine ⟨_, rfl, ?_⟩
  show Q (.bl (!(!(Builtin.Str.occurrences z ⟨#[c]⟩ 0 z.length 1).isEmpty))) H
  rw [PySem.StrLaws.found_one]
  exact h
theorem st_gtup {K : PySem.W.Frag} {a : Addr} {xs : List V} {n : Nat} {t : TGs} {R : L2.St → Hp → Prop} (h1 : H a = some (.tup xs)) (hn : xs.length = n) (h : t xs σ H R) : gTup K n t (.ref a) σ H R := ⟨a, xs, rfl, tupAt_sq (tup_of h1), hn, h⟩
theorem st_glst {K : PySem.W.Frag} {a : Addr} {xs : List V} {n : Nat} {t : TGs} {R : L2.St → Hp → Prop} (h1 : H a = some (.lst xs)) (hn : xs.length = n) (h : t xs σ H R) : gLst K n t (.ref a) σ H R := ⟨a, xs, rfl, lstAt_sq (lst_of h1), hn, h⟩
theorem st_gcons {v : V} {r : List V} {t : TG} {u : TGs} {R : L2.St → Hp → Prop} (h : t v σ H fun σ' H' => u r σ' H' R) : gCons t u (v :: r) σ H R := ⟨v, r, rfl, h⟩
theorem st_gnil {R : L2.St → Hp → Prop} (h : R σ H) : gNil [] σ H R := ⟨rfl, h⟩
theorem st_m1 {r : V → List V → Hp → VK → Prop} {to te : TE} (h : to σ H (fun x H1 => (∃ a, x = .str a) ∧ te σ H1 fun y H2 => r x [y] H2 Q)) : tM1 r to te σ H Q := h
theorem st_isS {a : Str} {P : Prop} (h : P) : (∃ b, V.str a = .str b) ∧ P := ⟨⟨a, rfl⟩, h⟩
theorem st_bm {K : PySem.W.Frag} {T : String} {r : V → List V → Hp → VK → Prop} {to : TE} {t : TA} (h : to σ H (fun x H1 => tyV K T x H1 ∧ t σ H1 fun xs H2 => r x xs H2 Q)) : tBM K T r to t σ H Q := h
theorem st_bm0 {K : PySem.W.Frag} {T : String} {r : V → List V → Hp → VK → Prop} {to : TE} (h : to σ H (fun x H1 => tyV K T x H1 ∧ r x [] H1 Q)) : tBM0 K T r to σ H Q := h
theorem st_tyL {K : PySem.W.Frag} {p : Addr} {xs : List V} {P : Prop} (h1 : H p = some (.lst xs)) (h : P) : tyV K "list" (.ref p) H ∧ P := ⟨.inl ⟨rfl, xs, lstAt_sq (lst_of h1)⟩, h⟩
theorem st_app {p : Addr} {xs : List V} {y : V} (h1 : H p = some (.lst xs)) (hz : xs.length < 16777216) (h : Q .non (upd H p (.lst (xs ++ [y])))) : rAppend (.ref p) [y] H Q := ⟨p, xs, y, rfl, rfl, h1, by rw [sl16]; exact hz, h⟩
theorem st_listS {K : PySem.W.Frag} {z : Str} (hz : z.length ≤ 16777216) (h : ∀ p H', H p = none → Ex H H' → H' p = some (.lst (z.cps.toList.map fun c => V.str (tx [c]))) → Q (.ref p) H') : rListU K [.str z] H Q := ⟨hz, fun p hp => h p _ hp (Fr.new hp) upd_same⟩
theorem st_listQ {K : PySem.W.Frag} {a : Addr} {ys : List V} (h1 : seqAt H a = some ys) (h : ∀ p H', H p = none → Ex H H' → H' p = some (.lst ys) → Q (.ref p) H') : rListU K [.ref a] H Q := ⟨ys, seqAt_sq h1, fun p hp => h p _ hp (Fr.new hp) upd_same⟩
theorem st_tupS {K : PySem.W.Frag} {z : Str} (hz : z.length ≤ 16777216) (h : ∀ p H', H p = none → Ex H H' → H' p = some (.tup (z.cps.toList.map fun c => V.str (tx [c]))) → Q (.ref p) H') : rTupU K [.str z] H Q := ⟨hz, fun p hp => h p _ hp (Fr.new hp) upd_same⟩
theorem st_tupL {K : PySem.W.Frag} {a : Addr} {ys : List V} (h1 : lstAt H a = some ys) (h : ∀ p H', H p = none → Ex H H' → H' p = some (.tup ys) → Q (.ref p) H') : rTupU K [.ref a] H Q := ⟨ys, .inl ⟨lstAt_sq h1, fun p hp => h p _ hp (Fr.new hp) upd_same⟩⟩
def DispEnd (p : Addr) (Q : VK) (ps : List (V × V)) (H2 : Hp) : Prop := H2 p = some (.dK []) ∧ ∃ kvs : List (Key × V), ps = kvs.map (fun kv => (kV kv.1, kv.2)) ∧ kvs.length ≤ 15 ∧ Q (.ref p) (upd H2 p (.dK (mergeK [] kvs)))
theorem st_disp {trs : List (TE × TE)} (h : ∀ p H', H p = none → Ex H H' → H' p = some (.dK []) → tPairs trs σ H' (DispEnd p Q)) : tDisp trs σ H Q := fun p hp => h p _ hp (Fr.new hp) upd_same
theorem st_pair {tk tv : TE} {r : List (TE × TE)} {P : List (V × V) → Hp → Prop} (h : tk σ H fun x H1 => tv σ H1 fun y H2 => tPairs r σ H2 fun ps H3 => P ((x, y) :: ps) H3) : tPairs ((tk, tv) :: r) σ H P := h
theorem st_pairs0 {P : List (V × V) → Hp → Prop} (h : P [] H) : tPairs [] σ H P := h
theorem st_clear {p : Addr} {xs : List V} (h1 : H p = some (.lst xs)) (h : Q .non (upd H p (.lst []))) : rClear (.ref p) [] H Q := ⟨p, xs, rfl, rfl, h1, h⟩
theorem st_isL {p : Addr} {xs : List V} {n : String} {b : Bool} (h1 : H p = some (.lst xs)) (h2 : kitB "list" n = some b) (h : Q (.bl b) H) : rIs [.ref p, .ty n] H Q := ⟨"list", by show tyO (H p) = _; rw [h1]; rfl, b, h2, h⟩
theorem st_isT {p : Addr} {xs : List V} {n : String} {b : Bool} (h1 : H p = some (.tup xs)) (h2 : kitB "tuple" n = some b) (h : Q (.bl b) H) : rIs [.ref p, .ty n] H Q := ⟨"tuple", by show tyO (H p) = _; rw [h1]; rfl, b, h2, h⟩
theorem st_isI {i : Int} {n : String} {b : Bool} (h2 : kitB "int" n = some b) (h : Q (.bl b) H) : rIs [.int i, .ty n] H Q := ⟨"int", rfl, b, h2, h⟩
theorem st_isB {i : Bool} {n : String} {b : Bool} (h2 : kitB "bool" n = some b) (h : Q (.bl b) H) : rIs [.bl i, .ty n] H Q := ⟨"bool", rfl, b, h2, h⟩
theorem st_isS' {i : Str} {n : String} {b : Bool} (h2 : kitB "str" n = some b) (h : Q (.bl b) H) : rIs [.str i, .ty n] H Q := ⟨"str", rfl, b, h2, h⟩
theorem kit_ii : kitB "int" "int" = some true := by decide +kernel
theorem kit_ib : kitB "int" "bool" = some false := by decide +kernel
theorem kit_il : kitB "int" "list" = some false := by decide +kernel
theorem kit_is : kitB "int" "str" = some false := by decide +kernel
theorem kit_it : kitB "int" "tuple" = some false := by decide +kernel
theorem kit_ll : kitB "list" "list" = some true := by decide +kernel
theorem kit_lt : kitB "list" "tuple" = some false := by decide +kernel
theorem kit_tt : kitB "tuple" "tuple" = some true := by decide +kernel
theorem kit_tl : kitB "tuple" "list" = some false := by decide +kernel
theorem kit_ss : kitB "str" "str" = some true := by decide +kernel
theorem kit_bb : kitB "bool" "bool" = some true := by decide +kernel
theorem kit_bi : kitB "bool" "int" = some true := by decide +kernel
theorem cutV_from (xs : List V) (k : Nat) : cutV xs (some (k : Int)) none = xs.drop k := by
  unfold cutV
  rw [HT.sIx_nat, HT.sIx_none]
  by_cases h : k ≤ xs.length
  · rw [Nat.min_eq_left h, List.take_of_length_le (by rw [List.length_drop]; exact Nat.le_refl _)]
  · rw [Nat.min_eq_right (by omega), List.drop_of_length_le (Nat.le_refl _), List.drop_of_length_le (by omega)]
    simp
/-- a table that is read -/
structure TabR (H : Hp) (p : Addr) (rs : List Addr) (row : Nat → List V) : Prop where
  at_ : H p = some (.lst (rs.map V.ref))
  rows : ∀ k r, rs[k]? = some r → H r = some (.lst (row k))
theorem TabR.ex {H H' : Hp} {p : Addr} {rs : List Addr} {row : Nat → List V} (T : TabR H p rs row) (e : Ex H H') : TabR H' p rs row := ⟨e.get T.at_, fun k r h => e.get (T.rows k r h)⟩
theorem at_last {xs : List V} {n : Nat} {v : V} (hl : xs.length = n + 1) (h : xs[n]? = some v) : atI xs (-1) = some v := by
  unfold atI ixN
  rw [if_neg (by decide), hl, if_pos (by omega)]
  have e : (-1 + ((n + 1 : Nat) : Int)).toNat = n := by omega
  show xs[(-1 + ((n + 1 : Nat) : Int)).toNat]? = _
  rw [e]
  exact h
/-- x is a thing whose type is known -/
def Ty (H : Hp) (v : V) : Prop := ∃ t, tyN H v = some t
theorem tyN_ex {H' : Hp} {v : V} {t : String} (e : Ex H H') (h : tyN H v = some t) : tyN H' v = some t := by
  cases v with
  | ref p =>
    have h : tyO (H p) = some t := h
    show tyO (H' p) = some t
    cases q : H p with
    | none => rw [q] at h; cases h
    | some o =>
      rw [e p o (fun z => z) q]
      rw [q] at h
      exact h
  | _ => exact h
theorem Ty.ex {H' : Hp} {v : V} (h : Ty H v) (e : Ex H H') : Ty H' v := by
  obtain ⟨t, h⟩ := h
  exact ⟨t, tyN_ex e h⟩
end
theorem lstAt_ex {H H' : Hp} {a : Addr} {xs : List V} (e : Ex H H') (h : lstAt H a = some xs) : lstAt H' a = some xs := by
  unfold lstAt at h ⊢
  cases q : H a with
  | none => rw [q] at h; cases h
  | some o => rw [e a o (fun z => z) q]; rw [q] at h; exact h
theorem tupAt_ex {H H' : Hp} {a : Addr} {xs : List V} (e : Ex H H') (h : tupAt H a = some xs) : tupAt H' a = some xs := by
  unfold tupAt at h ⊢
  cases q : H a with
  | none => rw [q] at h; cases h
  | some o => rw [e a o (fun z => z) q]; rw [q] at h; exact h
mutual
theorem Rp.ex {H H' : Hp} (e : Ex H H') : ∀ {v : V} {d : PyData}, Rp H v d → Rp H' v d
  | _, _, .non => .non
  | _, _, .bl b => .bl b
  | _, _, .int i => .int i
  | _, _, .str x => .str x
  | _, _, .lst h k => .lst (lstAt_ex e h) (RpA.ex e k)
  | _, _, .tup h k => .tup (tupAt_ex e h) (RpA.ex e k)
theorem RpA.ex {H H' : Hp} (e : Ex H H') : ∀ {vs : List V} {ds : List PyData}, RpA H vs ds → RpA H' vs ds
  | _, _, .nil => .nil
  | _, _, .cons h k => .cons (Rp.ex e h) (RpA.ex e k)
end
theorem rpA_map {H : Hp} {α : Type} {val : α → V} {enc : α → PyData} : ∀ {xs : List α}, (∀ x ∈ xs, Rp H (val x) (enc x)) → RpA H (xs.map val) (xs.map enc)
  | [], _ => .nil
  | a :: r, h => .cons (h a List.mem_cons_self) (rpA_map fun x hx => h x (List.mem_cons_of_mem _ hx))
theorem eqv_int (a b : Int) : PyData.eqv (.int a) (.int b) = decide (a = b) := by simp only [PyData.eqv]; rfl
theorem eqv_str (a b : Str) : PyData.eqv (.str a) (.str b) = decide (a = b) := by simp only [PyData.eqv]; rfl
theorem depth_map {α : Type} {enc : α → PyData} {n : Nat} : ∀ {xs : List α}, (∀ x ∈ xs, (enc x).depth ≤ n) → PyData.depthAll (xs.map enc) ≤ n
  | [], _ => by simp [PyData.depthAll]
  | a :: r, h => by
    simp only [List.map_cons, PyData.depthAll]
    exact Nat.max_le.mpr ⟨h a List.mem_cons_self, depth_map fun x hx => h x (List.mem_cons_of_mem _ hx)⟩
structure Df (K : PySem.W.Frag) (mg : Str → Option Value) (x : Str) (st : Stmt) (ps : List Str) (f : Addr) (fd : FuncData) : Prop where
  g : mg x = some (.ref f)
  F : Fun K x x st f fd
  b : Binds K fd ps []
theorem df_mk {K : PySem.W.Frag} {h : Heap} {mg : Str → Option Value} {x : Str} {st : Stmt} {ps : List Str} {f : Addr} {oc : Value} {od an : Option Addr} {osl : Array (Option Value)} {kV dc pm cd ct : Value} (X : K.In h) (G : h.Ns mainGlobals mg)
    (a : PySem.W.nsIn K mainGlobals x = some (some (.ref f))) (l : K.lookup f = some ⟨oc, od, .func (PySem.W.fnOf x x (defArgs st) (defBody st) (defScope st) .none kV dc pm an cd ct), osl⟩) (c : PySem.W.codeIn K cd x = true) (k : PySem.W.keepIn K (.ref f) = true)
    (hb : ∀ (kV doc pm : Value) (an : Option Addr) (cdv ct : Value) (us : List Value), us.length = ps.length → bindArgs (PySem.W.fnOf x x (defArgs st) (defBody st) (defScope st) .none kV doc pm an cdv ct) ⟨us, []⟩ = pure (ps.zip us)) :
    Df K mg x st ps f (PySem.W.fnOf x x (defArgs st) (defBody st) (defScope st) .none kV dc pm an cd ct) :=
  have F := fun_mk (st := st) l c k
  ⟨PySem.W.mg_of X G a, F, F.binds hb⟩
/-- the script: a list of ints that is read, never written -/
def Scr (K : PySem.W.Frag) (H : Hp) (a : Addr) (ns : List Int) : Prop :=
  (∃ o, H a = some (.frz o (.lst (ns.map V.int)))) ∨ ∃ (o : Obj) (its : Array Value) (n : Nat), K.lookup a = some o ∧ o.cls = .type "list" ∧ o.dict = none ∧ o.data = .seq its n ∧ its.size ≤ sizeLine ∧ Vals (ns.map V.int) its.toList
theorem FrP.fresh {H0 H1 H2 : Hp} {p : Addr} (e : Ex H0 H1) (h : H0 p = none) (f : FrP p H1 H2) : Ex H0 H2 := fun b o _ q => f b o (ne_of_none q h) (e b o (fun z => z) q)
theorem Scr.ex {K : PySem.W.Frag} {H H' : Hp} {a : Addr} {ns : List Int} (h : Scr K H a ns) (e : Ex H H') : Scr K H' a ns := by
  rcases h with ⟨o, h⟩ | h
  · exact .inl ⟨o, e.get h⟩
  · exact .inr h
end Zb
namespace Zb
open PySem PySem.Spec PyProof.Rows L2
def Ites (x : Str) : It := ⟨fun i _ => i < x.cps.size, fun i H v H' => ∃ T c, v = .ref T ∧ H T = none ∧ H' = upd H T (.tup [.int (i : Nat), .str (tx [c])]) ∧ x.cps[i]? = some c, fun i _ => i = x.cps.size⟩
def iEnS (ta : TA) : TI := fun σ H R => ta σ H fun vs H1 => ∃ x, vs = [.str x] ∧ R (Ites x) H1
theorem st_iEnS {ta : TA} {σ : L2.St} {H : Hp} {R : It → Hp → Prop} (h : ta σ H (fun vs H1 => ∃ x, vs = [.str x] ∧ R (Ites x) H1)) : iEnS ta σ H R := h
theorem st_isEnS {x : Str} {P : Str → Prop} (h : P x) : ∃ y, [V.str x] = [.str y] ∧ P y := ⟨x, rfl, h⟩
end Zb
namespace Zb
open PySem PySem.Spec PyProof.Rows L2
def clsA (K : PySem.W.Frag) (nm : Str) : Addr := match PySem.W.nsIn K mainGlobals nm with
  | some (some (.ref C)) => C
  | _ => 0
theorem clsA_of {K : PySem.W.Frag} {nm : Str} {C : Addr} (h : PySem.W.nsIn K mainGlobals nm = some (some (.ref C))) : clsA K nm = C := by unfold clsA; rw [h]
/-- what an isinstance, a field, of an exception in hand wants -/
structure XI (K : PySem.W.Frag) (C : Addr) : Prop where
  hc : (PySem.W.clsIn K C).isSome = true
  ga : PySem.W.findIn K (.ref C) "__getattribute__" = some (some (.builtin "BaseException.__getattribute__"))
  gg : PySem.W.findIn K (.ref C) "__getattr__" = some none
  sb : PySem.W.subIn K (.ref C) (.type "BaseException") = some true
  hd : PySem.W.hasDictIn K C = true
  ca : PySem.W.findIn K (.ref C) "__class__" = some (some (.builtin "object.__class__"))
  cn : PySem.W.specialIn K (.builtin "object.__class__") "__get__" = some (some (.builtin "getset_descriptor.__get__"))
  ct : PySem.W.takesIn K (.builtin "object.__class__") = some true
  cm : PySem.W.mroIn K C (.type "object") = some true
abbrev Cl := Value × Option Nat × (Addr → Value → Option Addr → TS)
def goneD (i : Nat) (D : Ends) : Ends := { nx := fun σ' H' => D.nx (σ'.set i none) H', rt := D.rt, bk := fun σ' H' => D.bk (σ'.set i none) H', ct := fun σ' H' => D.ct (σ'.set i none) H' }
def clD : Option Nat → Ends → Ends
  | none, D => D
  | some i, D => goneD i D
def clS : Option Nat → Addr → L2.St → L2.St
  | none, _, σ => σ
  | some i, a, σ => σ.set i (some (.ref a))
def wG (K : PySem.W.Frag) (Wout : WX) (D : Ends) : List Cl → WX
  | [] => Wout
  | (c, i, ts) :: r => fun cls d σ H => ∃ b, PySem.W.exmOne K cls c = some b ∧ (b = true → ∀ a, H a = none → ts a cls d (clD i D) (clS i a σ) H) ∧ (b = false → wG K Wout D r cls d σ H)
section
variable {X : Cx} {body orelse : List Stmt} {h₀ : ExceptHandler} {hds : List ExceptHandler} {l : List Cl} {pos : Pos} {tb : WX → TS} {u : TS} {Wout : WX}
def tTry (K : PySem.W.Frag) (Wout : WX) (tb : WX → TS) (u : TS) (l : List Cl) : TS := fun D σ H => tb (wG K Wout D l) { D with nx := u D } σ H
end
def XeP (K : PySem.W.Frag) (a : Addr) (cls : Value) (d : Option Addr) (n : Str) (Q : VK) : VK := fun x H1 => x = .ref a ∧ ∃ C, cls = .ref C ∧ XI K C ∧ PySem.W.findIn K (.ref C) n = some none ∧ ∃ (dd : Addr) (fs : List (Str × V)) (v : V), d = some dd ∧ H1 dd = some (.xd fs) ∧ fs.lookup n = some v ∧ Q v H1
def tXe (K : PySem.W.Frag) (a : Addr) (cls : Value) (d : Option Addr) (n : Str) (te : TE) : TE := fun σ H Q => te σ H (XeP K a cls d n Q)
def rIsX (K : PySem.W.Frag) (a : Addr) (cls : Value) (d : Option Addr) : List V → Hp → VK → Prop := fun xs H Q => ∃ (c : V) (cv : Value) (b : Bool) (C dd : Addr) (fs : List (Str × V)), xs = [.ref a, c] ∧ (∀ u, RelV c u → u = cv) ∧ cls = .ref C ∧ XI K C ∧ d = some dd ∧ H dd = some (.xd fs) ∧ PySem.W.kitOne K (.ref C) cv = some b ∧ Q (.bl b) H
structure BI (K : PySem.W.Frag) (mg : Str → Option Value) (nm : Str) : Prop where
  g : mg nm = some (.ref (clsA K nm))
  ga : PySem.W.specialIn K (.ref (clsA K nm)) "__getattribute__" = some (some (.builtin "type.__getattribute__"))
  rd : PySem.W.readsIn K (clsA K nm) (.type "type") = true
  fi : PySem.W.findCls K (.ref (clsA K nm)) (.type "type") "__init__" = some (.val (.builtin "ValueError.__init__"))
section
variable {X : Cx} {e : Expr} {es : List Expr} {ta : TA} {p1 p2 pos : Pos} {nm : Str}
theorem pe_oinit {pl : Sem Bool} (B : BI X.K X.mg nm) (hg : Gl X nm) (ha : PA X (e :: es) ta) (hdb : (nm == ("__debug__" : Str)) = false := by decide)
    (hc : eval (.Call (.Attribute (.Name nm p1) "__init__" p2) (e :: es) [] pos) X.env = (do
      let ov ← eval (.Name nm p1) X.env
      standAt p2.atName
      let (f, first) ← holding [ov] (getMethod ov "__init__" pl)
      callWith pos f first (backTo pos (starEach (e :: es) X.env)) (backToKw pos (keywordEach [] X.env))) := by rfl)
    (he : starEach (e :: es) X.env = (false, eval e X.env) :: starEach es X.env := by rfl) (hpl : (backTo pos (starEach es X.env)).any (·.1) = false := by rfl) :
    PE X (.Call (.Attribute (.Name nm p1) "__init__" p2) (e :: es) [] pos) (tVeI X.K ta) := by
  refine ⟨fun pins s σ H Q I h => ?_⟩
  refine PySem.W.methodCall_KW (ld_glob I hg B.g ?_ hdb) hc
  refine PySem.W.method_cls I.kIn B.ga (PySem.W.cls_value I.kIn B.rd B.fi (by decide +kernel) ?_)
  show wpAny _ _ (callWith pos (Value.builtin "ValueError.__init__") [] (backTo pos (starEach (e :: es) X.env)) []) _ _ _
  refine PyProof.Rows.callWith_method1 (thn (ha.run pos pins _ σ H _ (I.tok _) h) fun us s1 ⟨vs, H1, I1, r1, a, C, ws, ev, hl, T, ea, q⟩ => ?_) he hpl
  subst ev
  cases r1 with
  | @cons _ u0 _ ur ra rw' =>
    obtain rfl : u0 = Value.ref a := ra
    have hlen : ur.length ≤ sizeLine := by
      rw [← Paired.length rw', sizeLine_eq]
      omega
    exact oinit_ok T I1 ea hlen fun s' J => ⟨.non, H1, J, rfl, q⟩
end
/-- its __init__ of one field, of two -/
def spI1 (K : PySem.W.Frag) (f : Str) : Sp := fun vs H Q _ => ∃ (a C : Addr) (y : V), vs = [.ref a, y] ∧ OexC K C ∧ PySem.W.findIn K (.ref C) f = some none ∧ H a = some (exo a C none) ∧
  ∀ dx, H dx = none → dx ≠ a → Q .non (upd (upd H dx (exd dx [(f, y)])) a (exo a C (some dx)))
def spI2 (K : PySem.W.Frag) (f g : Str) : Sp := fun vs H Q _ => ∃ (a C : Addr) (y z : V), vs = [.ref a, y, z] ∧ OexC K C ∧ PySem.W.findIn K (.ref C) f = some none ∧ PySem.W.findIn K (.ref C) g = some none ∧ H a = some (exo a C none) ∧
  ∀ dx, H dx = none → dx ≠ a → Q .non (upd (upd (upd H dx (exd dx [(f, y)])) a (exo a C (some dx))) dx (exd dx [(g, z), (f, y)]))
structure EX (P : Program) (w : World) (K : PySem.W.Frag) (mg : Str → Option Value) (base : Heap) (nm : Str) (ps : List Str) (sp : Sp) : Prop where
  g : mg nm = some (.ref (clsA K nm))
  o : OexC K (clsA K nm)
  i : ∃ (fI : Addr) (fd : FuncData), PySem.W.findIn K (.ref (clsA K nm)) "__init__" = some (some (.ref fI)) ∧ PySem.W.typeIn K (.ref fI) = some (.type "function") ∧ FnOk P w K mg base CX0 1 fI fd ps sp ∧ Binds K fd ps []
def MkG (C : Addr) (sp : Sp) (vs : List V) (Q : XK) (H1 : Hp) : Prop := vs.length ≤ 1000 ∧ ∀ a, H1 a = none → sp (.ref a :: (vs ++ [])) (upd H1 a (exo a C none))
  (fun v H2 => v = .non ∧ ∃ (d : Addr) (fs : List (Str × V)), H2 a = some (exo a C (some d)) ∧ H2 d = some (exd d fs) ∧ H1 d = none ∧ Q (.ref C) (some d) (upd (del H2 a) d (.xd fs))) (fun _ _ _ => False)
def tRaise (C : Addr) (sp : Sp) (W : WX) (ta : TA) : TS := fun _ σ H => ta σ H fun vs H1 => MkG C sp vs (fun cls d H' => W cls d σ H') H1
section
variable {X : Cx} {e : Expr} {es : List Expr} {ta : TA} {p pos pos2 : Pos} {nm : Str} {ps : List Str} {sp : Sp} {W : WX}
theorem ps_raiseG (hc : X.calm = true) (T : EX X.prog X.w X.K X.mg X.base nm ps sp) (hr : Room 2 X.A) (tk : Takes X W) (hg : Gl X nm) (ha : PA X (e :: es) ta)
    (hdb : (nm == ("__debug__" : Str)) = false := by decide) (he : starEach (e :: es) X.env = (false, eval e X.env) :: starEach es X.env := by rfl) (hpl : (backTo pos (starEach es X.env)).any (·.1) = false := by rfl) :
    PS X (.Raise (some (.Call (.Name nm p) (e :: es) [] pos)) none pos2) (tRaise (clsA X.K nm) sp W ta) := by
  obtain ⟨fI, fd, i1, i2, i3, i4⟩ := T.i
  exact ps_raise hc tk (pmk_oex (dvs := []) T.o i1 i2 i3 hr i4 .nil pass0 hg T.g ha hdb he hpl)
end
theorem mk_heap {H1 : Hp} {a dx : Addr} {o1 o2 o3 u : HO} (hn : H1 a = none) (ne : dx ≠ a) : upd (del (upd (upd (upd H1 a o1) dx o2) a o3) a) dx u = upd H1 dx u := by
  funext b
  by_cases h1 : b = dx
  · rw [h1, upd_same, upd_same]
  · rw [upd_ne h1, upd_ne h1]
    by_cases h2 : b = a
    · rw [h2, del_same, hn]
    · rw [del_ne h2, upd_ne h2, upd_ne h1, upd_ne h2]
theorem mk_heap2 {H1 : Hp} {a dx : Addr} {o1 o2 o3 o4 u : HO} (hn : H1 a = none) (ne : dx ≠ a) : upd (del (upd (upd (upd (upd H1 a o1) dx o2) a o3) dx o4) a) dx u = upd H1 dx u := by
  funext b
  by_cases h1 : b = dx
  · rw [h1, upd_same, upd_same]
  · rw [upd_ne h1, upd_ne h1]
    by_cases h2 : b = a
    · rw [h2, del_same, hn]
    · rw [del_ne h2, upd_ne h1, upd_ne h2, upd_ne h1, upd_ne h2]
section
variable {K : PySem.W.Frag} {C : Addr} {Q : XK} {H : Hp} {f g : Str}
theorem st_mk1 {v : V} (T : OexC K C) (hf : PySem.W.findIn K (.ref C) f = some none) (h : ∀ d H', H d = none → Ex H H' → H' d = some (.xd [(f, v)]) → Q (.ref C) (some d) H') : MkG C (spI1 K f) [v] Q H := by
  refine ⟨(by decide : 1 ≤ 1000), fun a ha => ⟨a, C, v, rfl, T, hf, upd_same, fun dx hdx ne => ⟨rfl, dx, [(f, v)], upd_same, ?_, ?_, ?_⟩⟩⟩
  · rw [upd_ne ne]; exact upd_same
  · rw [upd_ne ne] at hdx; exact hdx
  · rw [upd_ne ne] at hdx
    rw [mk_heap ha ne]
    exact h dx _ hdx (Fr.new hdx) upd_same
theorem st_mk2 {v z : V} (T : OexC K C) (hf : PySem.W.findIn K (.ref C) f = some none) (hg : PySem.W.findIn K (.ref C) g = some none) (h : ∀ d H', H d = none → Ex H H' → H' d = some (.xd [(g, z), (f, v)]) → Q (.ref C) (some d) H') : MkG C (spI2 K f g) [v, z] Q H := by
  refine ⟨(by decide : 2 ≤ 1000), fun a ha => ⟨a, C, v, z, rfl, T, hf, hg, upd_same, fun dx hdx ne => ⟨rfl, dx, [(g, z), (f, v)], ?_, upd_same, ?_, ?_⟩⟩⟩
  · rw [upd_ne (Ne.symm ne)]; exact upd_same
  · rw [upd_ne ne] at hdx; exact hdx
  · rw [upd_ne ne] at hdx
    rw [mk_heap2 ha ne]
    exact h dx _ hdx (Fr.new hdx) upd_same
end
structure IniF (K : PySem.W.Frag) (nm qual : Str) (st : Stmt) (ps : List Str) : Prop where
  ex : ∃ (fI : Addr) (fd : FuncData), PySem.W.findIn K (.ref (clsA K nm)) "__init__" = some (some (.ref fI)) ∧ PySem.W.typeIn K (.ref fI) = some (.type "function") ∧ Fun K "__init__" qual st fI fd ∧ Binds K fd ps []
theorem ini_mk {K : PySem.W.Frag} {nm qual : Str} {st : Stmt} {ps : List Str} {f : Addr} {oc : Value} {od an : Option Addr} {osl : Array (Option Value)} {kV dc pm cd ct : Value} (i : PySem.W.findIn K (.ref (clsA K nm)) "__init__" = some (some (.ref f))) (t : PySem.W.typeIn K (.ref f) = some (.type "function"))
    (l : K.lookup f = some ⟨oc, od, .func (PySem.W.fnOf "__init__" qual (defArgs st) (defBody st) (defScope st) .none kV dc pm an cd ct), osl⟩) (c : PySem.W.codeIn K cd qual = true) (k : PySem.W.keepIn K (.ref f) = true)
    (hb : ∀ (kV doc pm : Value) (an : Option Addr) (cdv ct : Value) (us : List Value), us.length = ps.length → bindArgs (PySem.W.fnOf "__init__" qual (defArgs st) (defBody st) (defScope st) .none kV doc pm an cdv ct) ⟨us, []⟩ = pure (ps.zip us)) : IniF K nm qual st ps :=
  have F := fun_mk (st := st) l c k
  ⟨f, _, i, t, F, F.binds hb⟩
theorem ini1_go {K : PySem.W.Frag} {f tx : Str} {a C : Addr} {y : V} {H : Hp} {Q : VK} (hO : OexC K C) (hn : PySem.W.findIn K (.ref C) f = some none) (ha : H a = some (exo a C none))
    (k : ∀ dx, H dx = none → dx ≠ a → Q .non (upd (upd H dx (exd dx [(f, y)])) a (exo a C (some dx)))) :
    tSeq (tDrop (tVeI K (tCons (tVar 0) (tCons (tC (.str tx)) tNil)))) (tOst K f (tVar 0) (tVar 1)) { nx := fun _ H' => Q .non H', rt := Q } [some (.ref a), some y] H :=
  ⟨.ref a, rfl, a, C, [.str tx], rfl, Nat.le_of_ble_eq_true rfl, hO, ha, y, rfl, .ref a, rfl, a, C, rfl, hO, hn, .inl ⟨ha, k⟩⟩
theorem ini2_go {K : PySem.W.Frag} {f g tx : Str} {a C : Addr} {y z : V} {H : Hp} {Q : VK} (hO : OexC K C) (hn : PySem.W.findIn K (.ref C) f = some none) (hg : PySem.W.findIn K (.ref C) g = some none) (ha : H a = some (exo a C none))
    (k : ∀ dx, H dx = none → dx ≠ a → Q .non (upd (upd (upd H dx (exd dx [(f, y)])) a (exo a C (some dx))) dx (exd dx [(g, z), (f, y)]))) :
    tSeq (tDrop (tVeI K (tCons (tVar 0) (tCons (tC (.str tx)) tNil)))) (tSeq (tOst K f (tVar 0) (tVar 1)) (tOst K g (tVar 0) (tVar 2))) { nx := fun _ H' => Q .non H', rt := Q } [some (.ref a), some y, some z] H :=
  ⟨.ref a, rfl, a, C, [.str tx], rfl, Nat.le_of_ble_eq_true rfl, hO, ha, y, rfl, .ref a, rfl, a, C, rfl, hO, hn, .inl ⟨ha, fun dx h1 h2 => ⟨z, rfl, .ref a, rfl, a, C, rfl, hO, hg, .inr ⟨dx, [(f, y)], upd_same, by rw [upd_ne h2]; exact upd_same, Nat.le_of_ble_eq_true rfl, k dx h1 h2⟩⟩⟩⟩
/-- a thing of a kind that is known; a text not too long -/
def Thg (H : Hp) (v : V) : Prop := Ty H v ∧ ∀ z, v = .str z → z.length ≤ 16777216
theorem Thg.ex {H H' : Hp} {v : V} (h : Thg H v) (e : Ex H H') : Thg H' v := ⟨h.1.ex e, h.2⟩
/-- an error of the class nm that holds these fields is let out -/
def RaF (K : PySem.W.Frag) (E : XK) (H : Hp) (nm : Str) (fs : List (Str × V)) : Prop := ∀ d H', H d = none → Ex H H' → H' d = some (.xd fs) → E (.ref (clsA K nm)) (some d) H'
theorem RaF.ex {K : PySem.W.Frag} {E : XK} {H H1 : Hp} {nm : Str} {fs : List (Str × V)} (h : RaF K E H nm fs) (e : Ex H H1) : RaF K E H1 nm fs := fun d H' h1 h2 h3 => h d H' (Ex.free e h1) (e.trans h2) h3
section
variable {D : Ends} {σ : L2.St} {H : Hp} {Q : VK} {K : PySem.W.Frag}
theorem st_raise {C : Addr} {sp : Sp} {W : WX} {ta : TA} (h : ta σ H fun vs H1 => MkG C sp vs (fun cls d H' => W cls d σ H') H1) : tRaise C sp W ta D σ H := h
theorem st_try {Wout : WX} {tb : WX → TS} {u : TS} {l : List Cl} (h : tb (wG K Wout D l) { D with nx := u D } σ H) : tTry K Wout tb u l D σ H := h
theorem st_callS {sp : Sp} {W : WX} {t : TA} (h : t σ H fun vs H1 => sp vs H1 Q (WE W σ)) : tCallS sp (WE W) t σ H Q := h
theorem st_hYn {Wout : WX} {c : Value} {i : Nat} {ts : Addr → Value → Option Addr → TS} {r : List Cl} {cls : Value} {d : Option Addr} (e : PySem.W.exmOne K cls c = some true) (h : ∀ a, H a = none → ts a cls d { nx := fun σ' H' => D.nx (σ'.set i none) H', rt := D.rt, bk := fun σ' H' => D.bk (σ'.set i none) H', ct := fun σ' H' => D.ct (σ'.set i none) H' } (σ.set i (some (.ref a))) H) : wG K Wout D ((c, some i, ts) :: r) cls d σ H := ⟨true, e, fun _ => h, fun z => nomatch z⟩
theorem st_hY0 {Wout : WX} {c : Value} {ts : Addr → Value → Option Addr → TS} {r : List Cl} {cls : Value} {d : Option Addr} (e : PySem.W.exmOne K cls c = some true) (h : ∀ a, H a = none → ts a cls d D σ H) : wG K Wout D ((c, none, ts) :: r) cls d σ H := ⟨true, e, fun _ => h, fun z => nomatch z⟩
theorem st_hN {Wout : WX} {c : Value} {i : Option Nat} {ts : Addr → Value → Option Addr → TS} {r : List Cl} {cls : Value} {d : Option Addr} (e : PySem.W.exmOne K cls c = some false) (h : wG K Wout D r cls d σ H) : wG K Wout D ((c, i, ts) :: r) cls d σ H := ⟨false, e, (fun z => by cases z), fun _ => h⟩
theorem st_xe {a : Addr} {cls : Value} {d : Option Addr} {n : Str} {te : TE} (h : te σ H (XeP K a cls d n Q)) : tXe K a cls d n te σ H Q := h
theorem st_xeP {a C dd : Addr} {n : Str} {fs : List (Str × V)} {v : V} (T : XI K C) (hno : PySem.W.findIn K (.ref C) n = some none) (h1 : H dd = some (.xd fs)) (h2 : fs.lookup n = some v) (h : Q v H) : XeP K a (.ref C) (some dd) n Q (.ref a) H := ⟨rfl, C, rfl, T, hno, dd, fs, v, rfl, h1, h2, h⟩
theorem st_isX {a C C' dd : Addr} {fs : List (Str × V)} {b : Bool} (T : XI K C) (h1 : H dd = some (.xd fs)) (e : PySem.W.kitOne K (.ref C) (.ref C') = some b) (h : Q (.bl b) H) : rIsX K a (.ref C) (some dd) [.ref a, .ref C'] H Q := ⟨.ref C', .ref C', b, C, dd, fs, rfl, fun _ r => r, rfl, T, rfl, h1, e, h⟩
theorem st_isXT {a C dd : Addr} {fs : List (Str × V)} {n : String} {b : Bool} (T : XI K C) (h1 : H dd = some (.xd fs)) (e : PySem.W.kitOne K (.ref C) (.type n) = some b) (h : Q (.bl b) H) : rIsX K a (.ref C) (some dd) [.ref a, .ty n] H Q := ⟨.ty n, .type n, b, C, dd, fs, rfl, fun _ r => r, rfl, T, rfl, h1, e, h⟩
end
end Zb
namespace Zb
open PySem PySem.Spec PyProof.Rows L2
abbrev ixSt (lo hi : Option Int) (k : Int) (n : Nat) : List Nat := Builtin.Str.strSliceIndices lo hi k n
def pick {α : Type} (is : List Nat) (xs : List α) : List α := is.filterMap (xs[·]?)
theorem vals_pick {xs : List V} {its : List Value} (r : Vals xs its) : ∀ is : List Nat, Vals (pick is xs) (pick is its)
  | [] => .nil
  | i :: is => by
    have ih := vals_pick r is
    unfold pick at ih ⊢
    rw [List.filterMap_cons, List.filterMap_cons]
    cases e : xs[i]? with
    | some v =>
      obtain ⟨u, hu, ru⟩ := r.get e
      rw [hu]
      exact .cons ru ih
    | none =>
      have hl := r.length
      rw [List.getElem?_eq_none (by rw [List.getElem?_eq_none_iff] at e; omega)]
      exact ih
theorem pick_get {α : Type} {xs : List α} : ∀ {is : List Nat}, (∀ j ∈ is, j < xs.length) → ∀ i : Nat, (pick is xs)[i]? = is[i]?.bind (xs[·]?)
  | [], _, i => by simp [pick]
  | j :: is, h, i => by
    have hj := h j List.mem_cons_self
    have ih := pick_get (xs := xs) (is := is) fun k hk => h k (List.mem_cons_of_mem _ hk)
    unfold pick at ih ⊢
    rw [List.filterMap_cons, List.getElem?_eq_getElem hj]
    cases i with
    | zero => simp [hj]
    | succ i => simpa using ih i
theorem pick_rev {α : Type} (xs : List α) : pick (ixSt none none (-1) xs.length) xs = xs.reverse := by
  have e : ixSt none none (-1) xs.length = (List.range xs.length).map fun (i : Nat) => ((xs.length : Int) - 1 + (-1) * (i : Int)).toNat := by
    show sliceRange _ _ _ = _
    unfold sliceRange
    have h0 : ¬ ((-1 : Int) > 0) := by decide
    simp only [h0, if_false]
    by_cases h : xs.length = 0
    · rw [h]; rfl
    · have h1 : ((xs.length : Int) - 1) > -1 := by omega
      simp only [h1, if_true]
      have h2 : (((xs.length : Int) - 1 - -1 - -1 - 1) / - -1).toNat = xs.length := by rw [Int.neg_neg, Int.ediv_one]; omega
      rw [h2]
  apply List.ext_getElem?
  intro i
  rw [pick_get (fun j hj => by
    rw [e, List.mem_map] at hj
    obtain ⟨i, hi, rfl⟩ := hj
    rw [List.mem_range] at hi
    show ((xs.length : Int) - 1 + (-1) * (i : Int)).toNat < xs.length
    omega), e, List.getElem?_map]
  by_cases hi : i < xs.length
  · rw [List.getElem?_range hi, List.getElem?_reverse hi]
    show xs[((xs.length : Int) - 1 + (-1) * (i : Int)).toNat]? = _
    congr 1
    omega
  · rw [List.getElem?_eq_none (l := List.range _) (by rw [List.length_range]; omega), List.getElem?_eq_none (l := xs.reverse) (by rw [List.length_reverse]; omega)]
    rfl
/-- the items at 0, 2, .. ; at 1, 3, .. -/
def evL {α : Type} : List α → List α
  | [] => []
  | [a] => [a]
  | a :: _ :: r => a :: evL r
def odL {α : Type} : List α → List α
  | [] => []
  | [_] => []
  | _ :: b :: r => b :: odL r
theorem evL_get {α : Type} : ∀ (xs : List α) (i : Nat), (evL xs)[i]? = xs[2 * i]?
  | [], i => by simp [evL]
  | [a], i => by cases i <;> simp [evL]
  | a :: b :: r, i => by
    cases i with
    | zero => simp [evL]
    | succ i =>
      have ih := evL_get r i
      show (a :: evL r)[i + 1]? = (a :: b :: r)[2 * (i + 1)]?
      rw [List.getElem?_cons_succ, ih, show 2 * (i + 1) = 2 * i + 1 + 1 from rfl, List.getElem?_cons_succ, List.getElem?_cons_succ]
theorem odL_get {α : Type} : ∀ (xs : List α) (i : Nat), (odL xs)[i]? = xs[2 * i + 1]?
  | [], i => by simp [odL]
  | [a], i => by simp [odL]
  | a :: b :: r, i => by
    cases i with
    | zero => simp [odL]
    | succ i =>
      have ih := odL_get r i
      show (b :: odL r)[i + 1]? = (a :: b :: r)[2 * (i + 1) + 1]?
      rw [List.getElem?_cons_succ, ih, show 2 * (i + 1) + 1 = 2 * i + 1 + 1 + 1 from rfl, List.getElem?_cons_succ, List.getElem?_cons_succ]
theorem pick_ev {α : Type} (xs : List α) : pick (ixSt none none 2 xs.length) xs = evL xs := by
  have e : ixSt none none 2 xs.length = (List.range ((xs.length + 1) / 2)).map fun (i : Nat) => ((0 : Int) + 2 * (i : Int)).toNat := by
    show sliceRange _ _ _ = _
    unfold sliceRange
    have h0 : ((2 : Int) > 0) := by decide
    simp only [h0, if_true]
    by_cases h : xs.length = 0
    · rw [h]; rfl
    · have h1 : (0 : Int) < (xs.length : Int) := by omega
      simp only [h1, if_true]
      have h2 : (((xs.length : Int) - 0 + 2 - 1) / 2).toNat = (xs.length + 1) / 2 := by omega
      rw [h2]
  apply List.ext_getElem?
  intro i
  rw [pick_get (fun j hj => by
    rw [e, List.mem_map] at hj
    obtain ⟨i, hi, rfl⟩ := hj
    rw [List.mem_range] at hi
    show ((0 : Int) + 2 * (i : Int)).toNat < xs.length
    omega), e, List.getElem?_map, evL_get]
  by_cases hi : i < (xs.length + 1) / 2
  · rw [List.getElem?_range hi]
    show xs[((0 : Int) + 2 * (i : Int)).toNat]? = _
    congr 1
    omega
  · rw [List.getElem?_eq_none (l := List.range _) (by rw [List.length_range]; omega), List.getElem?_eq_none (l := xs) (by omega)]
    rfl
theorem pick_od {α : Type} (xs : List α) : pick (ixSt (some 1) none 2 xs.length) xs = odL xs := by
  have e : ixSt (some 1) none 2 xs.length = (List.range (xs.length / 2)).map fun (i : Nat) => ((1 : Int) + 2 * (i : Int)).toNat := by
    show sliceRange _ _ _ = _
    unfold sliceRange
    have h0 : ((2 : Int) > 0) := by decide
    have h9 : ¬ ((1 : Int) < 0) := by decide
    simp only [h0, h9, if_true, if_false]
    by_cases h : xs.length = 0
    · rw [h]; rfl
    · have h3 : (max 0 (min 1 (xs.length : Int))) = 1 := by omega
      rw [h3]
      by_cases h1 : (1 : Int) < (xs.length : Int)
      · simp only [h1, if_true]
        have h2 : (((xs.length : Int) - 1 + 2 - 1) / 2).toNat = xs.length / 2 := by omega
        rw [h2]
      · simp only [h1, if_false]
        have h2 : xs.length / 2 = 0 := by omega
        rw [h2]
        rfl
  apply List.ext_getElem?
  intro i
  rw [pick_get (fun j hj => by
    rw [e, List.mem_map] at hj
    obtain ⟨i, hi, rfl⟩ := hj
    rw [List.mem_range] at hi
    show ((1 : Int) + 2 * (i : Int)).toNat < xs.length
    omega), e, List.getElem?_map, odL_get]
  by_cases hi : i < xs.length / 2
  · rw [List.getElem?_range hi]
    show xs[((1 : Int) + 2 * (i : Int)).toNat]? = _
    congr 1
    omega
  · rw [List.getElem?_eq_none (l := List.range _) (by rw [List.length_range]; omega), List.getElem?_eq_none (l := xs) (by omega)]
    rfl
theorem pick_len {α : Type} (is : List Nat) (xs : List α) : (pick is xs).length ≤ is.length := List.length_filterMap_le _ _
theorem ixSt_len (lo hi : Option Int) (k : Int) (n : Nat) : (ixSt lo hi k n).length ≤ n := by
  have h := PySem.sliceRange_length_le (sliceBounds lo hi (some k) n).1 (sliceBounds lo hi (some k) n).2.1 (sliceBounds lo hi (some k) n).2.2 n (fun hc => ?_) (fun hc => ?_)
  · exact h
  · simp only [sliceBounds, Option.getD_some] at hc ⊢
    simp only [hc, if_true]
    constructor
    · cases lo with
      | none => simp
      | some i => dsimp only; omega
    · cases hi with
      | none => simp
      | some i => dsimp only; omega
  · simp only [sliceBounds, Option.getD_some] at hc ⊢
    simp only [hc, if_false]
    constructor
    · cases lo with
      | none => simp
      | some i => dsimp only; omega
    · cases hi with
      | none => simp
      | some i => dsimp only; omega
def rSt (K : PySem.W.Frag) : V → Option Int → Option Int → Int → Hp → VK → Prop := fun x lo hi k H Q => match x with
  | .str z => z.length ≤ 16777216 ∧ k ≠ 0 ∧ k ≠ 1 ∧ Q (.str (tx (pick (ixSt lo hi k z.length) z.cps.toList))) H
  | .ref p => ∃ xs, SqL K H p xs ∧ k ≠ 0 ∧ ∀ q, H q = none → Q (.ref q) (upd H q (.lst (pick (ixSt lo hi k xs.length) xs)))
  | _ => False
def tSt (r : V → Option Int → Option Int → Int → Hp → VK → Prop) (te : TE) (tl th : TO) (ts : TE) : TE := fun σ H Q => te σ H fun x H1 => tl σ H1 fun l H2 => th σ H2 fun u H3 => ts σ H3 fun s H4 => ∃ k, s = .int k ∧ r x l u k H4 Q
section
variable {X : Cx} {e st : Expr} {te ts : TE} {lo hi : Option Expr} {tl th : TO} {pos p2 : Pos} {K : PySem.W.Frag}
theorem pe_slice3 (he : PE X e te) (hl : PO X lo tl) (hu : PO X hi th) (hs : PE X st ts) (hK : X.K = K := by rfl) : PE X (.Subscript e (.Slice lo hi (some st) p2) pos) (tSt (rSt K) te tl th ts) := by
  subst hK
  refine ⟨fun pins s σ H Q I h => ?_⟩
  rw [eval_Subscript]
  refine wpAny_bind (thn (he.run pins s σ H _ I h) fun v s1 ⟨x, H1, I1, r1, q1⟩ => wpAny_bind (wpAny_holding (wpAny_Slice (thn (hl.run pins s1 σ H1 _ I1 q1) fun vl s2 ⟨l, H2, I2, pl, q2⟩ => thn (hu.run pins s2 σ H2 _ I2 q2) fun vu s3 ⟨u, H3, I3, pu, q3⟩ => ?_))))
  rw [evalPart_some]
  refine thn (hs.run pins s3 σ H3 _ I3 q3) fun vk s4 ⟨xk, H4, I4, rk, q4⟩ => ?_
  obtain ⟨k, ek, q⟩ := q4
  subst ek
  obtain ⟨tk, rfl⟩ := rk
  refine wpAny_bind (wpAny_standAt ?_)
  have I5 : Inv X pins σ H4 { s4 with heap := s4.heap.push { cls := .type "slice", data := .fields #[vl, vu, .int k tk] } } := I4.kept (t' := s4.toks) fun b ob q => Heap.get?_push_of_some _ q
  have go : ∀ {T id : String}, typeLookup (.type T) "__getitem__" = pure (some (.builtin id)) → ({ s4 with heap := s4.heap.push { cls := .type "slice", data := .fields #[vl, vu, .int k tk] } } : Shared).TypeIs v T → wpAny (model X.prog X.w) X.A (getItem v (.ref s4.heap.objs.size)) (EP X pins σ Q) X.xe { s4 with heap := s4.heap.push { cls := .type "slice", data := .fields #[vl, vu, .int k tk] } } →
      wpAny (model X.prog X.w) X.A (subscriptTail e (.Slice lo hi (some st) p2) v (.ref s4.heap.objs.size)) (EP X pins σ Q) X.xe { s4 with heap := s4.heap.push { cls := .type "slice", data := .fields #[vl, vu, .int k tk] } } := by
    intro T id hT ht hg
    exact tail_any (ops := [v, .ref s4.heap.objs.size]) ht hT hg (by with_unfolding_all rfl)
  have hsl : ({ s4 with heap := s4.heap.push { cls := .type "slice", data := .fields #[vl, vu, .int k tk] } } : Shared).heap.IsSliceOf s4.heap.objs.size vl vu (.int k tk) := Heap.IsSliceOf.new ..
  cases x with
  | str z =>
    obtain ⟨hz, hk0, hk1, q⟩ := q
    obtain ⟨tz, rfl⟩ := r1
    obtain ⟨l', rfl, rfl⟩ := IsPart.raw pl
    obtain ⟨u', rfl, rfl⟩ := IsPart.raw pu
    refine go F.slot_str_getitem.lookup (typeIs_str _ _ _) ?_
    refine wpAny_getItem_str_slice (l := l') (u := u') (st := some (k, tk)) hsl (by simpa using hk0) ?_
    have c : ¬ ((k == 1 && (ixSt (l'.map (·.1)) (u'.map (·.1)) k z.length).length == z.length) = true) := by
      intro z
      rw [Bool.and_eq_true] at z
      exact hk1 (by simpa using z.1)
    show Made.post (if (k == 1 && (ixSt (l'.map (·.1)) (u'.map (·.1)) k z.length).length == z.length) = true then Made.val (.str z tz)
      else Made.str ⟨((ixSt (l'.map (·.1)) (u'.map (·.1)) k z.length).filterMap (z.cps[·]?)).toArray⟩) (EP X pins σ Q) _
    rw [if_neg c]
    have e1 : (ixSt (l'.map (·.1)) (u'.map (·.1)) k z.length).filterMap (z.cps[·]?) = pick (ixSt (l'.map (·.1)) (u'.map (·.1)) k z.length) z.cps.toList := by
      unfold pick
      congr 1
      funext j
      rw [Array.getElem?_toList]
    rw [e1]
    refine ⟨?_, .str _, H4, I5.tok _, ⟨_, rfl⟩, q⟩
    show (tx (pick _ _)).length ≤ sizeLine
    rw [tx_length, sl16]
    exact Nat.le_trans (pick_len _ _) (Nat.le_trans (ixSt_len _ _ _ _) hz)
  | ref p =>
    obtain ⟨xs, hx, hk0, q⟩ := q
    obtain rfl : v = Value.ref p := r1
    obtain ⟨its, r, ht, hz⟩ := I5.list hx
    have hlen := r.length
    refine go slot_list_getitem.lookup ht.isList.typeIs ?_
    refine wpAny_getItem_list_slice ht.isList hsl pl pu (.int k tk) (by simpa using hk0) ?_ (by rw [List.size_toArray] <;> omega)
    have e1 : slicePick its.toArray l u (some k) = (pick (ixSt l u k xs.length) its).toArray := by
      unfold slicePick pick
      congr 1
      rw [hlen]
      show (ixSt l u k its.toArray.size).filterMap _ = _
      rw [List.size_toArray]
      congr 1
      funext j
      rw [List.getElem?_toArray]
    rw [e1]
    refine ⟨.ref _, _, I5.laid (t' := s4.toks) (o := .lst (pick (ixSt l u k xs.length) xs)) (fun b ob q => Heap.get?_push_of_some _ q) (Nat.le_refl _) ?_, rfl, q _ (I5.hok.fresh (Nat.le_refl _))⟩
    exact ⟨Nat.le_trans (pick_len _ _) (Nat.le_trans (ixSt_len _ _ _ _) hz), _, 0, vals_pick r _, Heap.get?_push_size _ rfl⟩
  | _ => exact q.elim
end
section
variable {K : PySem.W.Frag} {H : Hp} {σ : L2.St} {Q : VK}
theorem st_st3 {r : V → Option Int → Option Int → Int → Hp → VK → Prop} {te ts : TE} {tl th : TO} (h : te σ H fun x H1 => tl σ H1 fun l H2 => th σ H2 fun u H3 => ts σ H3 fun s H4 => ∃ k, s = .int k ∧ r x l u k H4 Q) : tSt r te tl th ts σ H Q := h
theorem st_revS {z : Str} (hz : z.length ≤ 16777216) (h : Q (.str (tx z.cps.toList.reverse)) H) : rSt K (.str z) none none (-1) H Q := ⟨hz, by decide, by decide, by
  have e : z.length = z.cps.toList.length := Array.length_toList.symm
  rw [e, pick_rev]; exact h⟩
theorem st_evS {z : Str} (hz : z.length ≤ 16777216) (h : Q (.str (tx (evL z.cps.toList))) H) : rSt K (.str z) none none 2 H Q := ⟨hz, by decide, by decide, by
  have e : z.length = z.cps.toList.length := Array.length_toList.symm
  rw [e, pick_ev]; exact h⟩
theorem st_odS {z : Str} (hz : z.length ≤ 16777216) (h : Q (.str (tx (odL z.cps.toList))) H) : rSt K (.str z) (some 1) none 2 H Q := ⟨hz, by decide, by decide, by
  have e : z.length = z.cps.toList.length := Array.length_toList.symm
  rw [e, pick_od]; exact h⟩
theorem st_revL {p : Addr} {xs : List V} (hx : SqL K H p xs) (h : ∀ q H', H q = none → Ex H H' → H' q = some (.lst xs.reverse) → Q (.ref q) H') : rSt K (.ref p) none none (-1) H Q := ⟨xs, hx, by decide, fun q hq => by
  rw [pick_rev]; exact h q _ hq (Fr.new hq) upd_same⟩
theorem st_evL {p : Addr} {xs : List V} (hx : SqL K H p xs) (h : ∀ q H', H q = none → Ex H H' → H' q = some (.lst (evL xs)) → Q (.ref q) H') : rSt K (.ref p) none none 2 H Q := ⟨xs, hx, by decide, fun q hq => by
  rw [pick_ev]; exact h q _ hq (Fr.new hq) upd_same⟩
theorem st_odL {p : Addr} {xs : List V} (hx : SqL K H p xs) (h : ∀ q H', H q = none → Ex H H' → H' q = some (.lst (odL xs)) → Q (.ref q) H') : rSt K (.ref p) (some 1) none 2 H Q := ⟨xs, hx, by decide, fun q hq => by
  rw [pick_od]; exact h q _ hq (Fr.new hq) upd_same⟩
end
end Zb
namespace Zb
open PySem PySem.Spec PyProof.Rows L2 PySem.SeqAt
inductive PEq (H : Hp) : V → V → Bool → Prop
  | same (a : Addr) : PEq H (.ref a) (.ref a) true
  | dat {x y : V} {d e : PyData} : Rp H x d → Rp H y e → min d.depth e.depth ≤ 60 → PEq H x y (PyData.eqv d e)
inductive PEqs (H : Hp) : List V → List V → List Bool → Prop
  | nil : PEqs H [] [] []
  | cons {x y : V} {b : Bool} {xs ys : List V} {bs : List Bool} : PEq H x y b → PEqs H xs ys bs → PEqs H (x :: xs) (y :: ys) (b :: bs)
theorem PEqs.len {H : Hp} : ∀ {xs ys : List V} {bs : List Bool}, PEqs H xs ys bs → ys.length = xs.length ∧ bs.length = xs.length
  | _, _, _, .nil => ⟨rfl, rfl⟩
  | _, _, _, .cons _ r => ⟨congrArg (· + 1) r.len.1, congrArg (· + 1) r.len.2⟩
theorem PEqs.at {H : Hp} : ∀ {xs ys : List V} {bs : List Bool}, PEqs H xs ys bs → ∀ j (x y : V), xs[j]? = some x → ys[j]? = some y → PEq H x y (bs.getD j true)
  | _, _, _, .nil, j, x, y, h, _ => by simp at h
  | _, _, _, .cons a r, 0, x, y, h, k => by
    have e1 : _ = x := Option.some.inj h
    have e2 : _ = y := Option.some.inj k
    rw [← e1, ← e2]
    exact a
  | _, _, _, .cons a r, j + 1, x, y, h, k => by
    have h : _ = some x := h
    have := r.at j x y (by simpa using h) (by simpa using k)
    simpa using this
section
variable {X : Cx} {H : Hp} {Q : VK} {σ : L2.St}
def rIsN : R2 := fun x y H Q => y = .non ∧ Q (.bl (decide (x = .non))) H
def rNotN : R2 := fun x y H Q => y = .non ∧ Q (.bl (!decide (x = .non))) H
theorem st_isN {x : V} (h : Q (.bl (decide (x = .non))) H) : Zb.rIsN x .non H Q := ⟨rfl, h⟩
theorem st_notN {x : V} (h : Q (.bl (!decide (x = .non))) H) : Zb.rNotN x .non H Q := ⟨rfl, h⟩
def rInt1 : List V → Hp → VK → Prop := fun vs H Q => match vs with
  | [.int i] => Q (.int i) H
  | [.bl k] => Q (.int (if k then 1 else 0)) H
  | _ => False
theorem c_int : CallR X (.type "int") rInt1 := by
  intro pins s σ H xs us Q I r h
  unfold rInt1 at h
  split at h
  · exact call_int1 pins s σ H _ us Q I r (.inl ⟨_, rfl, h⟩)
  · exact call_int1 pins s σ H _ us Q I r (.inr ⟨_, rfl, h⟩)
  · exact h.elim
theorem st_intI {i : Int} (h : Q (.int i) H) : rInt1 [.int i] H Q := h
theorem st_intB {k : Bool} (h : Q (.int (if k then 1 else 0)) H) : rInt1 [.bl k] H Q := h
theorem runs_rangeC (lo c : Int) (n : Nat) : Runs (Itc lo c n) n (fun _ => True) (fun i x H H' => H' = H ∧ x = .int (lo + (i : Nat) * c)) :=
  ⟨fun _ _ h _ => h, fun _ _ => Nat.le_refl _, fun _ _ _ _ _ _ y => y⟩
theorem st_iR3 {ta : TA} {R : It → Hp → Prop} (h : ta σ H (fun vs H1 => ∃ (i j c : Int) (n : Nat), vs = [.int i, .int j, .int c] ∧ RgC i j c n ∧ R (Itc i c n) H1)) : iRng3 ta σ H R := h
theorem st_isR3 {i j c : Int} (n : Nat) {P : Int → Int → Int → Nat → Prop} (h1 : RgC i j c n) (h : P i j c n) : ∃ (i' j' c' : Int) (n : Nat), [V.int i, .int j, .int c] = [.int i', .int j', .int c'] ∧ RgC i' j' c' n ∧ P i' j' c' n := ⟨i, j, c, n, rfl, h1, h⟩
end
end Zb
namespace Zb
open PySem PySem.Spec PyProof.Rows L2
/-- at these addresses these objects -/
inductive ObjsAt (H : Hp) : List Addr → List HO → Prop
  | nil : ObjsAt H [] []
  | cons {a : Addr} {o : HO} {ts : List Addr} {os : List HO} : H a = some o → ObjsAt H ts os → ObjsAt H (a :: ts) (o :: os)
section
variable {H H' : Hp}
theorem ObjsAt.len : ∀ {ts : List Addr} {os : List HO}, ObjsAt H ts os → ts.length = os.length
  | _, _, .nil => rfl
  | _, _, .cons _ r => congrArg (· + 1) r.len
theorem ObjsAt.ex (e : Ex H H') : ∀ {ts : List Addr} {os : List HO}, ObjsAt H ts os → ObjsAt H' ts os
  | _, _, .nil => .nil
  | _, _, .cons h r => .cons (e.get h) (r.ex e)
theorem ObjsAt.fr {M : Addr → Prop} (e : Fr M H H') : ∀ {ts : List Addr} {os : List HO}, (∀ a ∈ ts, ¬ M a) → ObjsAt H ts os → ObjsAt H' ts os
  | _, _, _, .nil => .nil
  | _, _, hm, .cons h r => .cons (e _ _ (hm _ List.mem_cons_self) h) (r.fr e fun a ha => hm a (List.mem_cons_of_mem _ ha))
theorem ObjsAt.up {D : Addr} {u : HO} : ∀ {ts : List Addr} {os : List HO}, D ∉ ts → ObjsAt H ts os → ObjsAt (upd H D u) ts os
  | _, _, _, .nil => .nil
  | _, _, hn, .cons h r => .cons (by rw [upd_ne (fun z => hn (by rw [← z]; exact List.mem_cons_self))]; exact h) (r.up fun z => hn (List.mem_cons_of_mem _ z))
theorem ObjsAt.app : ∀ {ts us : List Addr} {os ps : List HO}, ObjsAt H ts os → ObjsAt H us ps → ObjsAt H (ts ++ us) (os ++ ps)
  | _, _, _, _, .nil, k => k
  | _, _, _, _, .cons h r, k => .cons h (r.app k)
theorem ObjsAt.one {a : Addr} {o : HO} (h : H a = some o) : ObjsAt H [a] [o] := .cons h .nil
theorem ObjsAt.at : ∀ {ts : List Addr} {os : List HO}, ObjsAt H ts os → ∀ (k : Nat) a o, ts[k]? = some a → os[k]? = some o → H a = some o
  | _, _, .nil, k, a, o, h, _ => by simp at h
  | _, _, .cons h r, 0, a, o, h1, h2 => by
    have e1 : _ = a := Option.some.inj h1
    have e2 : _ = o := Option.some.inj h2
    rw [← e1, ← e2]; exact h
  | _, _, .cons h r, k + 1, a, o, h1, h2 => r.at k a o (by simpa using h1) (by simpa using h2)
theorem ObjsAt.of : ∀ {ts : List Addr} {os : List HO}, ts.length = os.length → (∀ (k : Nat) a o, ts[k]? = some a → os[k]? = some o → H a = some o) → ObjsAt H ts os
  | [], [], _, _ => .nil
  | [], _ :: _, h, _ => by simp at h
  | _ :: _, [], h, _ => by simp at h
  | a :: ts, o :: os, h, k => .cons (k 0 a o rfl rfl) (ObjsAt.of (by simpa using h) fun j x y h1 h2 => k (j + 1) x y (by simpa using h1) (by simpa using h2))
/-- one of them changes -/
theorem ObjsAt.set {a : Addr} {u : HO} {ts : List Addr} {os : List HO} {k : Nat} (h : ObjsAt H ts os) (nd : ts.Nodup) (hk : ts[k]? = some a) : ObjsAt (upd H a u) ts (os.set k u) := by
  refine .of (by rw [List.length_set, h.len]) fun j b o h1 h2 => ?_
  by_cases e : j = k
  · subst e
    rw [hk] at h1
    cases h1
    have hl : j < os.length := by
      rw [← h.len]
      exact (List.getElem?_eq_some_iff.mp hk).1
    rw [List.getElem?_set_self hl] at h2
    cases h2
    exact upd_same
  · rw [List.getElem?_set_ne (Ne.symm e)] at h2
    rw [upd_ne (fun z : b = a => e (nd_ix nd h1 (by rw [z]; exact hk)))]
    exact h.at j b o h1 h2
end
section
variable {J : It} {S : Hp → Prop} {g : TG} {σ : L2.St} {H1 : Hp}
theorem lc_objs {α : Type} {ys : List α} {val : α → V} {tt : TT} {te : TE} {vs : List Nat} {Q : VK} (hR : RunsV J ys val S) (hS : ∀ H', Ex H1 H' → S H') (hz : ys.length < 1000000) (p : α → Bool) (o : α → HO)
    (hs : ∀ y H', y ∈ ys → Ex H1 H' → ∀ (B : V → Hp → Prop) (A : Hp → Prop), (p y = true → ∀ a H'', H' a = none → Ex H' H'' → H'' a = some (o y) → B (.ref a) H'') → (p y = false → ∀ H'', Ex H' H'' → A H'') → g (val y) (wipe σ vs) H' fun σ2 H2 => wipe σ2 vs = wipe σ vs ∧ tt σ2 H2 fun b H3 => if b = true then te σ2 H3 B else A H3)
    (hd : ∀ D H' ts, H1 D = none → Ex H1 H' → H' D = some (.lst (ts.map V.ref)) → ObjsAt H' ts ((ys.filter p).map o) → ts.Nodup → D ∉ ts → (∀ a ∈ ts, H1 a = none) → Q (.ref D) H') : LcGoal J g tt te vs σ Q H1 := by
  intro D hD
  obtain ⟨W, hW⟩ : ∃ W : Nat → Hp → Prop, W = fun i H => ∃ ts : List Addr, H D = some (.lst (ts.map V.ref)) ∧ Ex H1 H ∧ ObjsAt H ts (((ys.take i).filter p).map o) ∧ ts.Nodup ∧ D ∉ ts ∧ ∀ a ∈ ts, H1 a = none := ⟨_, rfl⟩
  have hWi : ∀ i H, W i H ↔ ∃ ts : List Addr, H D = some (.lst (ts.map V.ref)) ∧ Ex H1 H ∧ ObjsAt H ts (((ys.take i).filter p).map o) ∧ ts.Nodup ∧ D ∉ ts ∧ ∀ a ∈ ts, H1 a = none := fun i H => by rw [hW]
  refine ⟨fun i m H => m = ys.length - i ∧ i ≤ ys.length ∧ W i H, ⟨ys.length, by simp, Nat.zero_le _, (hWi _ _).mpr ⟨[], upd_same, Fr.new hD, by rw [List.take_zero]; exact .nil, List.nodup_nil, by simp, by simp⟩⟩, ?_⟩
  rintro i m H ⟨rfl, hi, hw⟩
  obtain ⟨ts, h1, h2, h3, h4, h5, h6⟩ := (hWi _ _).mp hw
  by_cases hlt : i < ys.length
  · refine .inr ⟨hR.go i H hlt (hS H h2), W (i + 1), fun H' p' => ⟨ys.length - (i + 1), by omega, rfl, hlt, p'⟩, fun x H' y => ?_⟩
    obtain ⟨rfl, y0, hy, rfl⟩ := hR.yld i H x H' hlt (hS H h2) y
    have ht : ys.take (i + 1) = ys.take i ++ [y0] := by rw [List.take_add_one, hy]; rfl
    refine hs y0 H' (List.mem_of_getElem? hy) h2 (fun v H4 => ∃ acc, H4 D = some (.lst acc) ∧ acc.length < sizeLine ∧ W (i + 1) (upd H4 D (.lst (acc ++ [v])))) (W (i + 1)) ?_ ?_
    · intro hp a H4 ha e hv
      have hDa : a ≠ D := fun z => by rw [z, h1] at ha; cases ha
      have haN : a ∉ ts := fun z => by
        obtain ⟨k, hk⟩ := List.getElem?_of_mem z
        have hk2 : k < (((ys.take i).filter p).map o).length := by
          rw [← h3.len]; exact (List.getElem?_eq_some_iff.mp hk).1
        have := h3.at k a _ hk (List.getElem?_eq_getElem hk2)
        rw [this] at ha
        cases ha
      have hlen : ts.length < 1000000 := by
        rw [h3.len, List.length_map]
        have := List.length_filter_le p (ys.take i)
        rw [List.length_take] at this
        omega
      refine ⟨ts.map V.ref, e.get h1, by rw [List.length_map, sl16]; omega, (hWi _ _).mpr ⟨ts ++ [a], by rw [upd_same, List.map_append]; rfl, (h2.trans e).mut hD, ?_, ?_, ?_, ?_⟩⟩
      · rw [ht, List.filter_append, List.map_append, List.filter_cons_of_pos hp, List.filter_nil]
        refine .up ?_ ((h3.ex e).app (.one hv))
        rw [List.mem_append, List.mem_singleton]
        rintro (z | z)
        · exact h5 z
        · exact hDa z.symm
      · rw [List.nodup_append]
        exact ⟨h4, by simp, fun b hb c hc => by rw [List.mem_singleton.mp hc]; exact fun z => haN (z ▸ hb)⟩
      · rw [List.mem_append, List.mem_singleton]
        rintro (z | z)
        · exact h5 z
        · exact hDa z.symm
      · intro b hb
        rcases List.mem_append.mp hb with h | h
        · exact h6 b h
        · rw [List.mem_singleton.mp h]; exact Ex.free h2 ha
    · intro hp H4 e
      refine (hWi _ _).mpr ⟨ts, e.get h1, h2.trans e, ?_, h4, h5, h6⟩
      rw [ht, List.filter_append, List.filter_cons_of_neg (by rw [hp]; decide), List.filter_nil, List.append_nil]
      exact h3.ex e
  · have e : i = ys.length := by omega
    subst e
    rw [List.take_length] at h3
    exact .inl ⟨hR.stop H (hS H h2), hd D H ts hD h2 h1 h3 h4 h5 h6⟩
/-- no test -/
theorem lc_objs0 {α : Type} {ys : List α} {val : α → V} {te : TE} {vs : List Nat} {Q : VK} (hR : RunsV J ys val S) (hS : ∀ H', Ex H1 H' → S H') (hz : ys.length < 1000000) (o : α → HO)
    (hs : ∀ y H', y ∈ ys → Ex H1 H' → ∀ (B : V → Hp → Prop), (∀ a H'', H' a = none → Ex H' H'' → H'' a = some (o y) → B (.ref a) H'') → g (val y) (wipe σ vs) H' fun σ2 H2 => wipe σ2 vs = wipe σ vs ∧ te σ2 H2 B)
    (hd : ∀ D H' ts, H1 D = none → Ex H1 H' → H' D = some (.lst (ts.map V.ref)) → ObjsAt H' ts (ys.map o) → ts.Nodup → D ∉ ts → (∀ a ∈ ts, H1 a = none) → Q (.ref D) H')
    (hg : ∀ v σ H (P P' : L2.St → Hp → Prop), (∀ σ H, P σ H → P' σ H) → g v σ H P → g v σ H P' := by intro _ _ _ _ _ k h; exact k _ _ h) : LcGoal J g tYes te vs σ Q H1 := by
  refine lc_objs hR hS hz (fun _ => true) o (fun y H' hy e B A h1 h2 => ?_) (fun D H' ts hD e h h3 h4 h5 h6 => hd D H' ts hD e h ?_ h4 h5 h6)
  · exact hg _ _ _ _ _ (fun σ2 H2 h => ⟨h.1, h.2⟩) (hs y H' hy e B (h1 rfl))
  · rwa [List.filter_eq_self.mpr (fun _ _ => rfl)] at h3
end
section
variable {H : Hp} {Q : VK} {σ : L2.St}
def DGet2P (a : Addr) (y z : V) (Q : VK) (H : Hp) : Prop := ∃ o, DGet H a y o ∧ Q (o.getD z) H
theorem st_dget2 {td ty tx : TE} (h : td σ H fun x H1 => ∃ a, x = .ref a ∧ IsD H1 a ∧ ty σ H1 fun y H2 => tx σ H2 fun z H3 => DGet2P a y z Q H3) : tDGet2 td ty tx σ H Q := h
theorem st_isD {a : Addr} {kvs : List (Key × V)} {P : Addr → Prop} (h1 : H a = some (.dK kvs)) (h : P a) : ∃ b, V.ref a = .ref b ∧ IsD H b ∧ P b := ⟨a, rfl, .inl ⟨kvs, .inl h1⟩, h⟩
def DSetP (a : Addr) (y z : V) (Q : VK) (H3 : Hp) : Prop := ∃ (kvs : List (Key × V)) (k : Key), H3 a = some (.dK kvs) ∧ y = kV k ∧ kvs.length < sizeLine ∧ (∀ v, valV kvs k = some v → Q v H3) ∧ (valV kvs k = none → Q z (upd H3 a (.dK (putK kvs k z))))
theorem st_dsetd {td ty tx : TE} (h : td σ H fun x H1 => ∃ a, x = .ref a ∧ IsD H1 a ∧ ty σ H1 fun y H2 => tx σ H2 fun z H3 => DSetP a y z Q H3) : tDSetd td ty tx σ H Q := h
/-- {} -/
def DNew (Q : VK) (H : Hp) : Prop := ∀ p H', H p = none → Ex H H' → H' p = some (.dK []) → Q (.ref p) H'
theorem st_dnew (h : DNew Q H) : tDNewK σ H Q := fun p hp => h p _ hp (Fr.new hp) upd_same
theorem st_dnewP (h : ∀ p H', H p = none → Ex H H' → H' p = some (.dK []) → Q (.ref p) H') : DNew Q H := h
end
theorem at_nat {α : Type} {xs : List α} {i : Nat} {a : α} (h : xs[i]? = some a) : atI xs (i : Int) = some a := by
  unfold atI
  rw [Evl.ixN_nat (List.getElem?_eq_some_iff.mp h).1]
  exact h
theorem at_mapN {α β : Type} {f : α → β} {xs : List α} {i : Nat} {a : α} (h : xs[i]? = some a) : atI (xs.map f) (i : Int) = some (f a) := at_nat (by rw [List.getElem?_map, h]; rfl)
theorem snoc_ind {α : Type} {P : List α → Prop} (h0 : P []) (hs : ∀ l a, P l → P (l ++ [a])) (l : List α) : P l := by
  have h : ∀ r : List α, P r.reverse := by
    intro r
    induction r with
    | nil => exact h0
    | cons a r ih => rw [List.reverse_cons]; exact hs _ _ ih
  have := h l.reverse
  rwa [List.reverse_reverse] at this
end Zb
namespace Zb
open PySem PySem.Spec PyProof.Rows L2
theorem Ex.trans {H H1 H2 : Hp} (a : Ex H H1) (b : Ex H1 H2) : Ex H H2 := Fr.trans a b
section
variable {X : Cx} {H : Hp} {Q : VK} {σ : L2.St} {K : PySem.W.Frag}
def rIsB : R2 := fun x y H Q => ∃ a b, x = .bl a ∧ y = .bl b ∧ Q (.bl (decide (a = b))) H
def rNotB : R2 := fun x y H Q => ∃ a b, x = .bl a ∧ y = .bl b ∧ Q (.bl (!decide (a = b))) H
theorem st_isB2 {a b : Bool} (h : Q (.bl (decide (a = b))) H) : rIsB (.bl a) (.bl b) H Q := ⟨a, b, rfl, rfl, h⟩
theorem st_notB2 {a b : Bool} (h : Q (.bl (!decide (a = b))) H) : rNotB (.bl a) (.bl b) H Q := ⟨a, b, rfl, rfl, h⟩
theorem st_popAt {l : Addr} {xs : List V} {i : Int} {y : V} (h1 : H l = some (.lst xs)) (h0 : 0 ≤ i) (hi : i < 1000000000) (hy : xs[i.toNat]? = some y) (h : Q y (upd H l (.lst (xs.eraseIdx i.toNat)))) : rPopAt (.ref l) [.int i] H Q := by
  have hl := (List.getElem?_eq_some_iff.mp hy).1
  refine ⟨l, xs, i, i.toNat, y, rfl, rfl, h1, by omega, by omega, ?_, hy, h⟩
  unfold seqIndex?
  have n0 : ¬ i < 0 := by omega
  simp only [n0, if_false]
  rw [if_pos (by simp; omega)]
theorem st_chain {r r' : R2} {ta tb tc : TE} (h : ta σ H fun x H1 => tb σ H1 fun y H2 => r x y H2 fun z H3 => ∃ k, z = .bl k ∧ (if k = true then tc σ H3 fun w' H4 => r' y w' H4 Q else Q (.bl false) H3)) : tChain r r' ta tb tc σ H Q := h
def isIntV : V → Bool
  | .int _ => true
  | .bl _ => true
  | _ => false
theorem kb_int : kitB "NoneType" "int" = some false ∧ kitB "bool" "int" = some true ∧ kitB "int" "int" = some true ∧ kitB "str" "int" = some false ∧ kitB "list" "int" = some false ∧ kitB "tuple" "int" = some false ∧ kitB "dict" "int" = some false := by decide +kernel
theorem st_isIntT {x : V} (h1 : Ty H x) (h : Q (.bl (isIntV x)) H) : rIs [x, .ty "int"] H Q := by
  obtain ⟨t, h1⟩ := h1
  obtain ⟨k1, k2, k3, k4, k5, k6, k7⟩ := kb_int
  refine st_is h1 (b := isIntV x) ?_ h
  cases x with
  | ref p =>
    have h1 : tyO (H p) = some t := h1
    unfold tyO at h1
    split at h1 <;> first | (cases h1; assumption) | cases h1
  | _ => first | (cases h1; assumption) | cases h1
/-- a value as a test -/
def tTru (K : PySem.W.Frag) (ta : TE) : TT := fun σ H B => ta σ H fun x H' => ∃ k, TruV K x H' k ∧ B k H'
theorem pt_tru {a : Expr} {ta : TE} (ha : PE X a ta) (he : ∀ whole, isTrue a X.env whole = (do let v ← whole; standAt a.pos; holding [v] (truthy v))) (hK : X.K = K := by rfl) : PT X a (tTru K ta) := by subst hK; exact pt_truth ha he
theorem st_tru {ta : TE} {B : Bool → Hp → Prop} (h : ta σ H fun x H' => ∃ k, TruV K x H' k ∧ B k H') : tTru K ta σ H B := h
theorem st_truB {b : Bool} {P : Bool → Prop} (h : P b) : ∃ k, TruV K (.bl b) H k ∧ P k := ⟨b, rfl, h⟩
theorem st_truI {i : Int} {P : Bool → Prop} (h : P (i != 0)) : ∃ k, TruV K (.int i) H k ∧ P k := ⟨_, rfl, h⟩
def WhPost (W : Nat → L2.St → Hp → Prop) (m : Nat) (tb : TS) (D : Ends) (σ : L2.St) : Bool → Hp → Prop := fun b H1 => if b = true then ∃ N : L2.St → Hp → Prop, (∀ σ' H', N σ' H' → ∃ m', m' < m ∧ W m' σ' H') ∧ tb { D with nx := N, ct := N, bk := D.nx } σ H1 else D.nx σ H1
def WhGoal (c : TT) (tb : TS) (D : Ends) (σ : L2.St) (H : Hp) : Prop := ∃ W : Nat → L2.St → Hp → Prop, (∃ m, W m σ H) ∧ ∀ m σ H, W m σ H → c σ H (WhPost W m tb D σ)
theorem st_while {c : TT} {tb : TS} {D : Ends} (h : WhGoal c tb D σ H) : tWhile c tb D σ H := h
/-- W: the word of the loop, with a number that falls -/
theorem while_inv {c : TT} {tb : TS} {D : Ends} (W : Nat → L2.St → Hp → Prop) (h0 : ∃ m, W m σ H) (hs : ∀ m σ H, W m σ H → c σ H (WhPost W m tb D σ)) : WhGoal c tb D σ H := ⟨W, h0, hs⟩
theorem wh_T {W : Nat → L2.St → Hp → Prop} {m : Nat} {tb : TS} {D : Ends} {b : Bool} (hb : b = true) (h : tb { D with nx := fun σ' H' => ∃ m', m' < m ∧ W m' σ' H', ct := fun σ' H' => ∃ m', m' < m ∧ W m' σ' H', bk := D.nx } σ H) : WhPost W m tb D σ b H := by
  unfold WhPost
  rw [if_pos hb]
  exact ⟨_, fun _ _ z => z, h⟩
theorem wh_F {W : Nat → L2.St → Hp → Prop} {m : Nat} {tb : TS} {D : Ends} {b : Bool} (hb : b = false) (h : D.nx σ H) : WhPost W m tb D σ b H := by
  unfold WhPost
  rw [hb, if_neg Bool.false_ne_true]
  exact h
end
def tupO (q : Nat × Nat) : HO := .tup [.int (q.1 : Nat), .int (q.2 : Nat)]
abbrev ZP := Addr × (Nat × Nat)
abbrev zV (z : ZP) : V := .ref z.1
/-- each of these stands as its tuple -/
def TP (H : Hp) (zs : List ZP) : Prop := ∀ z ∈ zs, H z.1 = some (tupO z.2)
section
variable {H H' : Hp} {zs ys : List ZP}
theorem TP.ex (h : TP H zs) (e : Ex H H') : TP H' zs := fun z hz => e.get (h z hz)
theorem TP.up {D : Addr} {xs : List V} {u : HO} (h : TP H zs) (hD : H D = some (.lst xs)) : TP (upd H D u) zs := fun z hz => by
  rw [upd_ne fun e => ?_]
  · exact h z hz
  · have := h z hz
    rw [e, hD] at this
    cases this
theorem TP.app (h : TP H zs) (k : TP H ys) : TP H (zs ++ ys) := fun z hz => by
  rcases List.mem_append.mp hz with q | q
  · exact h z q
  · exact k z q
theorem TP.cons {z : ZP} (h : H z.1 = some (tupO z.2)) (k : TP H ys) : TP H (z :: ys) := fun y hy => by
  rcases List.mem_cons.mp hy with q | q
  · rw [q]; exact h
  · exact k y q
def encQ (q : Nat × Nat) : PyData := .tuple [.int (q.1 : Nat), .int (q.2 : Nat)]
theorem TP.rp1 {z : ZP} (h : H z.1 = some (tupO z.2)) : Rp H (zV z) (encQ z.2) := .tup (tup_of h) (.cons (.int _) (.cons (.int _) .nil))
theorem TP.rp (h : TP H zs) : RpA H (zs.map zV) (zs.map fun z => encQ z.2) := rpA_map fun z hz => TP.rp1 (h z hz)
theorem TP.rpL {a : Addr} (h : TP H zs) (ha : H a = some (.lst (zs.map zV))) : Rp H (.ref a) (.list (zs.map fun z => encQ z.2)) := .lst (lst_of ha) h.rp
theorem encQ_depth (q : Nat × Nat) : (encQ q).depth ≤ 2 := by simp [encQ, PyData.depth, PyData.depthAll]
end
end Zb
namespace Zb
open PySem PySem.Spec PyProof.Rows L2
/-- a def's promise, where no list is being shown -/
structure FnG (P : Program) (w : World) (K : PySem.W.Frag) (mg : Str → Option Value) (base : Heap) (CX : CXT) (k : Nat) (f : Addr) (fd : FuncData) (ps : List Str) (sp : Sp) : Prop where
  len : ∀ vs H Q E, sp vs H Q E → vs.length = ps.length
  go : ∀ (A : Around) (outer : List Env) (s : Shared) (H : Hp) (args : Args) (us : List Value) (vs : List V) (Q : VK) (E : XK), A.guards = some [] → Room k A → Env0 P w K mg base A outer s H → BindsTo s fd args (ps.zip us) → Vals vs us → sp vs H Q E →
    codeAny (model P w) A (.call (.ref f) args) (CR CX outer P w H s Q E) s
section
variable {P : Program} {w : World} {K : PySem.W.Frag} {mg : Str → Option Value} {base : Heap} {k : Nat} {f : Addr} {fd : FuncData} {ps : List Str} {sp : Sp}
theorem FnG.of {CX : CXT} (F : FnOk P w K mg base CX k f fd ps sp) : FnG P w K mg base CX k f fd ps sp := ⟨F.len, fun A outer s H args us vs Q E _ => F.run A outer s H args us vs Q E⟩
end
def keyD : Key → PyData
  | .inl i => .int i
  | .inr x => .str x
mutual
inductive Rq (H : Hp) : V → PyData → Prop
  | non : Rq H .non .none
  | bl (b : Bool) : Rq H (.bl b) (.bool b)
  | int (i : Int) : Rq H (.int i) (.int i)
  | str (x : Str) : Rq H (.str x) (.str x)
  | lst {a : Addr} {xs : List V} {ds : List PyData} : lstAt H a = some xs → RqA H xs ds → Rq H (.ref a) (.list ds)
  | tup {a : Addr} {xs : List V} {ds : List PyData} : tupAt H a = some xs → RqA H xs ds → Rq H (.ref a) (.tuple ds)
  | dk {a : Addr} {kvs : List (Key × V)} {ds : List PyData} : H a = some (.dK kvs) → RqA H (kvs.map (·.2)) ds → Rq H (.ref a) (.dict ((kvs.map fun q => keyD q.1).zip ds))
inductive RqA (H : Hp) : List V → List PyData → Prop
  | nil : RqA H [] []
  | cons {v : V} {vs : List V} {d : PyData} {ds : List PyData} : Rq H v d → RqA H vs ds → RqA H (v :: vs) (d :: ds)
end
theorem RqA.len {H : Hp} : ∀ {vs : List V} {ds : List PyData}, RqA H vs ds → vs.length = ds.length
  | _, _, .nil => rfl
  | _, _, .cons _ k => congrArg (· + 1) k.len
theorem Rq.dk0 {H : Hp} {a : Addr} (h : H a = some (.dK [])) : Rq H (.ref a) (.dict []) := .dk h .nil
mutual
theorem Rp.rq {H : Hp} : ∀ {v : V} {d : PyData}, Rp H v d → Rq H v d
  | _, _, .non => .non
  | _, _, .bl b => .bl b
  | _, _, .int i => .int i
  | _, _, .str x => .str x
  | _, _, .lst h k => .lst h (RpA.rq k)
  | _, _, .tup h k => .tup h (RpA.rq k)
theorem RpA.rq {H : Hp} : ∀ {vs : List V} {ds : List PyData}, RpA H vs ds → RqA H vs ds
  | _, _, .nil => .nil
  | _, _, .cons h k => .cons (Rp.rq h) (RpA.rq k)
theorem noDict {H : Hp} : ∀ {v : V} {d : PyData}, Rp H v d → d.hasDict = false
  | _, _, .non => rfl
  | _, _, .bl b => rfl
  | _, _, .int i => rfl
  | _, _, .str x => rfl
  | _, _, .lst h k => by simp only [PyData.hasDict]; exact noDictA k
  | _, _, .tup h k => by simp only [PyData.hasDict]; exact noDictA k
theorem noDictA {H : Hp} : ∀ {vs : List V} {ds : List PyData}, RpA H vs ds → PyData.hasDictAll ds = false
  | _, _, .nil => rfl
  | _, _, .cons h k => by simp only [PyData.hasDictAll, noDict h, noDictA k, Bool.or_self]
end
section
variable {X : Cx} {pins : List (Addr × Obj)} {σ : L2.St} {H : Hp} {s : Shared}
theorem pairs_keys {h : Heap} {P : Program} {w : World} : ∀ {es : List DictEntry} {kvs : List (Key × V)} {vs : List (Key × Value)}, Pairs (mixKind P w) es vs → KV kvs vs → ∃ as, ReadsAll h (es.map (·.key)) (kvs.map fun q => keyD q.1) as
  | _, _, _, .nil, .nil => ⟨_, .nil⟩
  | _, _, _, .cons (e := e) (kv := kv) h1 h2 h3, .cons (a := p) q r => by
    obtain ⟨as, k⟩ := pairs_keys (h := h) h3 r
    have hk : (mixKind P w).is kv.1 e.key = true := h1
    rcases keyIs_shape hk with ⟨i, t, e1, e2⟩ | ⟨x, t, e1, e2⟩
    · refine ⟨_, .cons (as := []) ?_ k⟩
      show Reads h e.key (keyD p.1) []
      rw [q.1, e1, e2]
      exact .int i t
    · refine ⟨_, .cons (as := []) ?_ k⟩
      show Reads h e.key (keyD p.1) []
      rw [q.1, e1, e2]
      exact .str x t
theorem pairs_vals {P : Program} {w : World} : ∀ {es : List DictEntry} {kvs : List (Key × V)} {vs : List (Key × Value)}, Pairs (mixKind P w) es vs → KV kvs vs → Vals (kvs.map (·.2)) (es.map (·.val))
  | _, _, _, .nil, .nil => .nil
  | _, _, _, .cons (e := e) (kv := kv) h1 h2 h3, .cons (a := p) q r => .cons (by show RelV p.2 e.val; rw [h2]; exact q.2) (pairs_vals h3 r)
theorem zip_fst {α β : Type} : ∀ {xs : List α} {ys : List β}, xs.length = ys.length → (xs.zip ys).map (·.1) = xs := fun h => List.map_fst_zip (Nat.le_of_eq h)
theorem zip_snd {α β : Type} : ∀ {xs : List α} {ys : List β}, xs.length = ys.length → (xs.zip ys).map (·.2) = ys := fun h => List.map_snd_zip (Nat.le_of_eq h.symm)
/-- a tracked dict, as an object -/
theorem dk_obj (I : Inv X pins σ H s) {a : Addr} {kvs : List (Key × V)} (h : H a = some (.dK kvs)) : (a == sysModules) = false ∧ ∃ (o : Obj) (es : Array DictEntry) (n : Nat), s.heap.get? a = some o ∧ o.cls = .type "dict" ∧ o.data = .dict es n ∧ (∃ as, ReadsAll s.heap (es.toList.map (·.key)) (kvs.map fun q => keyD q.1) as) ∧ Vals (kvs.map (·.2)) (es.toList.map (·.val)) := by
  obtain ⟨_, hs, vs, rv, o, es, ep, e1, e2, e3, _, e5, _⟩ := dk_of I.hok h
  exact ⟨hs, o, es, ep, e1, e2.1, e3, pairs_keys e5 rv, pairs_vals e5 rv⟩
mutual
theorem Rq.reads (I : Inv X pins σ H s) : ∀ {v : V} {d : PyData} {u : Value}, Rq H v d → RelV v u → ∃ as, Reads s.heap u d as
  | _, _, u, .non, r => by cases r; exact ⟨_, .none⟩
  | _, _, u, .bl b, r => by cases r; exact ⟨_, .bool b⟩
  | _, _, u, .int i, r => by obtain ⟨t, rfl⟩ := r; exact ⟨_, .int i t⟩
  | _, _, u, .str x, r => by obtain ⟨t, rfl⟩ := r; exact ⟨_, .str x t⟩
  | _, _, u, @Rq.lst _ a xs ds h k, r => by
    obtain rfl : u = Value.ref a := r
    obtain ⟨its, rv, p, _⟩ := I.list (lstAt_sq h)
    obtain ⟨as, q1⟩ := RqA.reads I k rv
    obtain ⟨o, n, e1, e2, e3, e4⟩ := p
    exact ⟨_, .list e1 e2 e4 q1⟩
  | _, _, u, @Rq.tup _ a xs ds h k, r => by
    obtain rfl : u = Value.ref a := r
    obtain ⟨its, rv, p, _⟩ := I.tuple (tupAt_sq h)
    obtain ⟨as, q1⟩ := RqA.reads I k rv
    obtain ⟨o, e1, e2, n, e3⟩ := p
    exact ⟨_, .tuple e1 e2 e3 q1⟩
  | _, _, u, @Rq.dk _ a kvs ds h k, r => by
    obtain rfl : u = Value.ref a := r
    obtain ⟨_, o, es, n, e1, e2, e3, ⟨as, kr⟩, rv⟩ := dk_obj I h
    obtain ⟨bs, vr⟩ := RqA.reads I k rv
    have hl : (kvs.map fun q => keyD q.1).length = ds.length := by rw [List.length_map, ← k.len, List.length_map]
    exact ⟨_, .dict e1 e2 e3 (by rw [zip_fst hl]; exact kr) (by rw [zip_snd hl]; exact vr)⟩
theorem RqA.reads (I : Inv X pins σ H s) : ∀ {vs : List V} {ds : List PyData} {us : List Value}, RqA H vs ds → Vals vs us → ∃ as, ReadsAll s.heap us ds as
  | _, _, us, .nil, r => by cases r; exact ⟨_, .nil⟩
  | _, _, us, .cons h k, r => by
    cases r with
    | cons r1 r2 =>
      obtain ⟨as, a1⟩ := Rq.reads I h r1
      obtain ⟨bs, b1⟩ := RqA.reads I k r2
      exact ⟨_, .cons a1 b1⟩
end
end
end Zb
namespace Zb
open PySem PySem.Spec PyProof.Rows L2
def tyD : PyData → String
  | .none => "NoneType"
  | .bool _ => "bool"
  | .int _ => "int"
  | .str _ => "str"
  | .list _ => "list"
  | .tuple _ => "tuple"
  | .dict _ => "dict"
theorem Rq.tyn {H : Hp} {x : V} {d : PyData} (h : Rq H x d) : tyN H x = some (tyD d) := by
  cases h with
  | non => rfl
  | bl b => rfl
  | int i => rfl
  | str y => rfl
  | @lst a xs ds h _ =>
    show tyO (H a) = _
    unfold lstAt at h
    unfold tyO
    split at h <;> first | (rename_i e; rw [e]; rfl) | cases h
  | @tup a xs ds h _ =>
    show tyO (H a) = _
    unfold tupAt at h
    unfold tyO
    split at h <;> first | (rename_i e; rw [e]; rfl) | cases h
  | @dk a kvs ds h _ =>
    show tyO (H a) = _
    rw [h]
    rfl
theorem Rq.ty {H : Hp} {x : V} {d : PyData} (h : Rq H x d) : Ty H x := ⟨_, h.tyn⟩
theorem Rp.ty {H : Hp} {x : V} {d : PyData} (h : Rp H x d) : Ty H x := h.rq.ty
section
variable {H : Hp} {Q : VK} {K : PySem.W.Frag}
def isListD : PyData → Bool
  | .list _ => true
  | _ => false
def isTupD : PyData → Bool
  | .tuple _ => true
  | _ => false
theorem kb_list : kitB "NoneType" "list" = some false ∧ kitB "bool" "list" = some false ∧ kitB "int" "list" = some false ∧ kitB "str" "list" = some false ∧ kitB "list" "list" = some true ∧ kitB "tuple" "list" = some false ∧ kitB "dict" "list" = some false := by decide +kernel
theorem kb_tup : kitB "NoneType" "tuple" = some false ∧ kitB "bool" "tuple" = some false ∧ kitB "int" "tuple" = some false ∧ kitB "str" "tuple" = some false ∧ kitB "list" "tuple" = some false ∧ kitB "tuple" "tuple" = some true ∧ kitB "dict" "tuple" = some false := by decide +kernel
/-- the items of data -/
theorem Rp.listAt {x : V} {ds : List PyData} (h : Rp H x (.list ds)) : ∃ a xs, x = .ref a ∧ lstAt H a = some xs ∧ RpA H xs ds := by
  cases h with
  | lst h k => exact ⟨_, _, rfl, h, k⟩
theorem RpA.len : ∀ {xs : List V} {ds : List PyData}, RpA H xs ds → xs.length = ds.length
  | _, _, .nil => rfl
  | _, _, .cons _ k => congrArg (· + 1) k.len
theorem RpA.at : ∀ {xs : List V} {ds : List PyData}, RpA H xs ds → ∀ (i : Nat) x, xs[i]? = some x → ∃ d, ds[i]? = some d ∧ Rp H x d
  | _, _, .nil, i, x, h => by simp at h
  | _, _, .cons a k, 0, x, h => by
    have e : _ = x := Option.some.inj h
    exact ⟨_, rfl, e ▸ a⟩
  | _, _, .cons a k, i + 1, x, h => k.at i x (by simpa using h)
end
end Zb
namespace Zb
open PySem PySem.Spec PyProof.Rows L2
mutual
/-- v is d, by things that are not frozen; empty dicts may be among them -/
inductive Rn (H : Hp) : V → PyData → Prop
  | non : Rn H .non .none
  | bl (b : Bool) : Rn H (.bl b) (.bool b)
  | int (i : Int) : Rn H (.int i) (.int i)
  | str (x : Str) : Rn H (.str x) (.str x)
  | lst {a : Addr} {xs : List V} {ds : List PyData} : H a = some (.lst xs) → RnA H xs ds → Rn H (.ref a) (.list ds)
  | tup {a : Addr} {xs : List V} {ds : List PyData} : H a = some (.tup xs) → RnA H xs ds → Rn H (.ref a) (.tuple ds)
  | dk {a : Addr} : H a = some (.dK []) → Rn H (.ref a) (.dict [])
inductive RnA (H : Hp) : List V → List PyData → Prop
  | nil : RnA H [] []
  | cons {v : V} {vs : List V} {d : PyData} {ds : List PyData} : Rn H v d → RnA H vs ds → RnA H (v :: vs) (d :: ds)
end
section
variable {H H' : Hp}
mutual
theorem Rn.rq : ∀ {v : V} {d : PyData}, Rn H v d → Rq H v d
  | _, _, .non => .non
  | _, _, .bl b => .bl b
  | _, _, .int i => .int i
  | _, _, .str x => .str x
  | _, _, .lst h k => .lst (lst_of h) (RnA.rq k)
  | _, _, .tup h k => .tup (tup_of h) (RnA.rq k)
  | _, _, .dk h => .dk0 h
theorem RnA.rq : ∀ {vs : List V} {ds : List PyData}, RnA H vs ds → RqA H vs ds
  | _, _, .nil => .nil
  | _, _, .cons h k => .cons (Rn.rq h) (RnA.rq k)
end
mutual
theorem Rn.rp : ∀ {v : V} {d : PyData}, Rn H v d → d.hasDict = false → Rp H v d
  | _, _, .non, _ => .non
  | _, _, .bl b, _ => .bl b
  | _, _, .int i, _ => .int i
  | _, _, .str x, _ => .str x
  | _, _, .lst h k, n => .lst (lst_of h) (RnA.rp k (by simpa only [PyData.hasDict] using n))
  | _, _, .tup h k, n => .tup (tup_of h) (RnA.rp k (by simpa only [PyData.hasDict] using n))
  | _, _, .dk h, n => by simp [PyData.hasDict] at n
theorem RnA.rp : ∀ {vs : List V} {ds : List PyData}, RnA H vs ds → PyData.hasDictAll ds = false → RpA H vs ds
  | _, _, .nil, _ => .nil
  | _, _, .cons h k, n => by
    simp only [PyData.hasDictAll, Bool.or_eq_false_iff] at n
    exact .cons (Rn.rp h n.1) (RnA.rp k n.2)
end
mutual
theorem Rn.ex (e : Ex H H') : ∀ {v : V} {d : PyData}, Rn H v d → Rn H' v d
  | _, _, .non => .non
  | _, _, .bl b => .bl b
  | _, _, .int i => .int i
  | _, _, .str x => .str x
  | _, _, .lst h k => .lst (e.get h) (RnA.ex e k)
  | _, _, .tup h k => .tup (e.get h) (RnA.ex e k)
  | _, _, .dk h => .dk (e.get h)
theorem RnA.ex (e : Ex H H') : ∀ {vs : List V} {ds : List PyData}, RnA H vs ds → RnA H' vs ds
  | _, _, .nil => .nil
  | _, _, .cons h k => .cons (Rn.ex e h) (RnA.ex e k)
end
theorem Rn.listAt {x : V} {ds : List PyData} (h : Rn H x (.list ds)) : ∃ a xs, x = .ref a ∧ H a = some (.lst xs) ∧ RnA H xs ds := by
  cases h with
  | lst h k => exact ⟨_, _, rfl, h, k⟩
theorem Rn.tupAt {x : V} {ds : List PyData} (h : Rn H x (.tuple ds)) : ∃ a xs, x = .ref a ∧ H a = some (.tup xs) ∧ RnA H xs ds := by
  cases h with
  | tup h k => exact ⟨_, _, rfl, h, k⟩
theorem RnA.len : ∀ {xs : List V} {ds : List PyData}, RnA H xs ds → xs.length = ds.length
  | _, _, .nil => rfl
  | _, _, .cons _ k => congrArg (· + 1) k.len
theorem RnA.zipped : ∀ {xs : List V} {ds : List PyData}, RnA H xs ds → ∃ zs : List (V × PyData), xs = zs.map (·.1) ∧ ds = zs.map (·.2) ∧ ∀ z ∈ zs, Rn H z.1 z.2
  | _, _, .nil => ⟨[], rfl, rfl, fun _ h => nomatch h⟩
  | _, _, .cons (v := v) (d := d) a k => by
    obtain ⟨zs, rfl, rfl, h⟩ := RnA.zipped k
    refine ⟨(v, d) :: zs, rfl, rfl, fun z hz => ?_⟩
    rcases List.mem_cons.mp hz with e | e
    · rw [e]; exact a
    · exact h z e
theorem rnA_map {α : Type} {val : α → V} {enc : α → PyData} : ∀ {xs : List α}, (∀ x ∈ xs, Rn H (val x) (enc x)) → RnA H (xs.map val) (xs.map enc)
  | [], _ => .nil
  | x :: xs, h => .cons (h x List.mem_cons_self) (rnA_map fun y hy => h y (List.mem_cons_of_mem _ hy))
theorem TP.rn1 {z : ZP} (h : H z.1 = some (tupO z.2)) : Rn H (zV z) (encQ z.2) := .tup h (.cons (.int _) (.cons (.int _) .nil))
theorem TP.rn {zs : List ZP} (h : TP H zs) : RnA H (zs.map zV) (zs.map fun z => encQ z.2) := rnA_map fun z hz => TP.rn1 (h z hz)
theorem TP.rnL {zs : List ZP} {a : Addr} (h : TP H zs) (ha : H a = some (.lst (zs.map zV))) : Rn H (.ref a) (.list (zs.map fun z => encQ z.2)) := .lst ha h.rn
end
mutual
/-- how many things data holds -/
def szD : PyData → Nat
  | .list ds => 1 + szA ds
  | .tuple ds => 1 + szA ds
  | .dict _ => 1
  | _ => 1
def szA : List PyData → Nat
  | [] => 0
  | d :: ds => szD d + szA ds
end
end Zb
namespace Zb
open PySem PySem.Spec PyProof.Rows L2
mutual
/-- numbers of few figures, texts that are shown by few signs, no dict but the empty one -/
def okD : PyData → Bool
  | .none => true
  | .bool _ => true
  | .int i => decide (i.natAbs < 1000000)
  | .str x => decide ((reprText x).length ≤ 14)
  | .list ds => okA ds
  | .tuple ds => okA ds
  | .dict kvs => kvs.isEmpty
def okA : List PyData → Bool
  | [] => true
  | d :: ds => okD d && okA ds
end
/-- data that may be handed round: d is v, small, with no dict but itself -/
structure Sd (H : Hp) (v : V) (d : PyData) : Prop where
  rn : Rn H v d
  hd : d.hasDict = true → d = .dict []
  ok : okD d = true
  sz : szD d ≤ 999999
  dp : d.depth ≤ 59
theorem Sd.ex {H H' : Hp} {v : V} {d : PyData} (h : Sd H v d) (e : Ex H H') : Sd H' v d := ⟨h.rn.ex e, h.hd, h.ok, h.sz, h.dp⟩
/-- v is small data of n things, k deep -/
def Sm (H : Hp) (v : V) (n k : Nat) : Prop := ∃ d, Rn H v d ∧ d.hasDict = false ∧ okD d = true ∧ szD d ≤ n ∧ d.depth ≤ k
section
variable {H H' : Hp} {v : V} {n k m : Nat}
theorem Sm.up {n' k' : Nat} (h : Sm H v n k) (h1 : n ≤ n') (h2 : k ≤ k') : Sm H v n' k' := by
  obtain ⟨d, a, b, c, e, f⟩ := h
  exact ⟨d, a, b, c, by omega, by omega⟩
theorem Sm.ex (h : Sm H v n k) (e : Ex H H') : Sm H' v n k := by
  obtain ⟨d, a, b⟩ := h
  exact ⟨d, a.ex e, b⟩
theorem Sm.sd (h : Sm H v n k) (h1 : n ≤ 999999) (h2 : k ≤ 59) : ∃ d, Sd H v d := by
  obtain ⟨d, a, b, c, e, f⟩ := h
  exact ⟨d, a, (fun z => by rw [b] at z; cases z), c, by omega, by omega⟩
theorem Sm.non : Sm H .non 1 0 := ⟨_, .non, rfl, rfl, by simp [szD], by simp [PyData.depth]⟩
theorem Sm.bl (b : Bool) : Sm H (.bl b) 1 0 := ⟨_, .bl b, rfl, rfl, by simp [szD], by simp [PyData.depth]⟩
theorem Sm.int {i : Int} (h : i.natAbs < 1000000) : Sm H (.int i) 1 0 := ⟨_, .int i, rfl, by simpa only [okD, decide_eq_true_eq] using h, by simp [szD], by simp [PyData.depth]⟩
theorem Sm.str {x : Str} (h : (reprText x).length ≤ 14) : Sm H (.str x) 1 0 := ⟨_, .str x, rfl, by simpa only [okD, decide_eq_true_eq] using h, by simp [szD], by simp [PyData.depth]⟩
theorem Sm.all : ∀ {xs : List V}, (∀ x ∈ xs, Sm H x n k) → ∃ ds, RnA H xs ds ∧ PyData.hasDictAll ds = false ∧ okA ds = true ∧ szA ds ≤ xs.length * n ∧ PyData.depthAll ds ≤ k
  | [], _ => ⟨[], .nil, rfl, rfl, by simp [szA], by simp [PyData.depthAll]⟩
  | x :: xs, h => by
    obtain ⟨ds, a, b, c, e, f⟩ := Sm.all (xs := xs) fun y hy => h y (List.mem_cons_of_mem _ hy)
    obtain ⟨d, a1, b1, c1, e1, f1⟩ := h x List.mem_cons_self
    refine ⟨d :: ds, .cons a1 a, by simp [PyData.hasDictAll, b, b1], by simp [okA, c, c1], ?_, ?_⟩
    · simp only [szA, List.length_cons, Nat.succ_mul]; omega
    · simp only [PyData.depthAll]; omega
theorem Sm.lst {a : Addr} {xs : List V} (h : H a = some (.lst xs)) (hx : ∀ x ∈ xs, Sm H x n k) (hm : xs.length ≤ m) : Sm H (.ref a) (1 + m * n) (k + 1) := by
  obtain ⟨ds, h1, h2, h3, h4, h5⟩ := Sm.all hx
  refine ⟨.list ds, .lst h h1, by simpa only [PyData.hasDict] using h2, by simpa only [okD] using h3, ?_, by simp only [PyData.depth]; omega⟩
  have := Nat.mul_le_mul_right n hm
  simp only [szD]; omega
theorem Sm.tup {a : Addr} {xs : List V} (h : H a = some (.tup xs)) (hx : ∀ x ∈ xs, Sm H x n k) (hm : xs.length ≤ m) : Sm H (.ref a) (1 + m * n) (k + 1) := by
  obtain ⟨ds, h1, h2, h3, h4, h5⟩ := Sm.all hx
  refine ⟨.tuple ds, .tup h h1, by simpa only [PyData.hasDict] using h2, by simpa only [okD] using h3, ?_, by simp only [PyData.depth]; omega⟩
  have := Nat.mul_le_mul_right n hm
  simp only [szD]; omega
theorem Sd.dk {a : Addr} (h : H a = some (.dK [])) : Sd H (.ref a) (.dict []) := ⟨.dk h, fun _ => rfl, rfl, by simp [szD], by simp [PyData.depth, PyData.depthKv]⟩
theorem Sm.mem {xs : List V} (h : ∀ x ∈ xs, Sm H x n k) (hv : v ∈ xs) : Sm H v n k := h v hv
theorem Sm.cons {xs : List V} (h : Sm H v n k) (t : ∀ x ∈ xs, Sm H x n k) : ∀ x ∈ v :: xs, Sm H x n k := fun x hx => by
  rcases List.mem_cons.mp hx with e | e
  · rw [e]; exact h
  · exact t x e
theorem Sm.nil : ∀ x ∈ ([] : List V), Sm H x n k := fun _ h => nomatch h
theorem Sm.app {xs ys : List V} (h : ∀ x ∈ xs, Sm H x n k) (t : ∀ x ∈ ys, Sm H x n k) : ∀ x ∈ xs ++ ys, Sm H x n k := fun x hx => by
  rcases List.mem_append.mp hx with e | e
  · exact h x e
  · exact t x e
theorem Sm.upA {xs : List V} {n' k' : Nat} (h : ∀ x ∈ xs, Sm H x n k) (h1 : n ≤ n') (h2 : k ≤ k') : ∀ x ∈ xs, Sm H x n' k' := fun x hx => (h x hx).up h1 h2
variable {K : PySem.W.Frag} {Q : VK}
end
def cutL {α : Type} (xs : List α) (lo hi : Option Int) : List α := (xs.drop (HT.sIx xs.length 0 lo)).take (HT.sIx xs.length xs.length hi - HT.sIx xs.length 0 lo)
theorem cutV_map {α : Type} (f : α → V) (xs : List α) (lo hi : Option Int) : cutV (xs.map f) lo hi = (cutL xs lo hi).map f := by
  unfold cutV cutL
  rw [List.map_take, List.map_drop, List.length_map]
theorem cutL_sub {α : Type} (xs : List α) (lo hi : Option Int) : (cutL xs lo hi).Sublist xs := (List.take_sublist _ _).trans (List.drop_sublist _ _)
theorem cutV_mem {xs : List V} {lo hi : Option Int} {x : V} (h : x ∈ cutV xs lo hi) : x ∈ xs := by
  have h2 := cutV_map id xs lo hi
  rw [List.map_id, List.map_id] at h2
  rw [h2] at h
  exact (cutL_sub xs lo hi).subset h
abbrev HZ := Addr × List ZP
abbrev hV (g : HZ) : V := .ref g.1
/-- a few small pairs, each as its tuple -/
structure SP (H : Hp) (zs : List ZP) : Prop where
  tp : TP H zs
  few : zs.length ≤ 2305
  small : ∀ z ∈ zs, z.2.1 ≤ 1000 ∧ z.2.2 ≤ 1000
def HP (H : Hp) (gs : List HZ) : Prop := ∀ g ∈ gs, H g.1 = some (.lst (g.2.map zV)) ∧ SP H g.2
section
variable {H H' : Hp} {gs : List HZ} {zs ys : List ZP}
theorem SP.ex (h : SP H zs) (e : Ex H H') : SP H' zs := ⟨h.tp.ex e, h.few, h.small⟩
theorem SP.up {D : Addr} {xs : List V} {u : HO} (h : SP H zs) (hD : H D = some (.lst xs)) : SP (upd H D u) zs := ⟨h.tp.up hD, h.few, h.small⟩
theorem HP.ex (h : HP H gs) (e : Ex H H') : HP H' gs := fun g hg => ⟨e.get (h g hg).1, (h g hg).2.ex e⟩
/-- one of the lists changes -/
theorem HP.set {g : HZ} {i : Nat} (h : HP H gs) (nd : (gs.map (·.1)).Nodup) (hg : gs[i]? = some g) (hz : SP H zs) : HP (upd H g.1 (.lst (zs.map zV))) (gs.set i (g.1, zs)) := by
  have hgm := List.mem_of_getElem? hg
  have h1 := (h g hgm).1
  intro f hf
  obtain ⟨j, hj⟩ := List.getElem?_of_mem hf
  have hi : i < gs.length := (List.getElem?_eq_some_iff.mp hg).1
  by_cases e : j = i
  · subst e
    rw [List.getElem?_set_self hi] at hj
    cases hj
    exact ⟨upd_same, hz.up h1⟩
  · rw [List.getElem?_set_ne (Ne.symm e)] at hj
    have hfm := List.mem_of_getElem? hj
    have ne : f.1 ≠ g.1 := fun z => e (nd_ix (x := f.1) nd (by rw [List.getElem?_map, hj]; rfl) (by rw [List.getElem?_map, hg]; exact congrArg some z.symm))
    exact ⟨by rw [upd_ne ne]; exact (h f hfm).1, (h f hfm).2.up h1⟩
def encH (g : HZ) : PyData := .list (g.2.map fun z => encQ z.2)
theorem HP.rn {a : Addr} (h : HP H gs) (ha : H a = some (.lst (gs.map hV))) : Rn H (.ref a) (.list (gs.map encH)) := .lst ha (rnA_map fun g hg => (h g hg).2.tp.rnL (h g hg).1)
theorem HP.rp {a : Addr} (h : HP H gs) (ha : H a = some (.lst (gs.map hV))) : Rp H (.ref a) (.list (gs.map encH)) := .lst (lst_of ha) (rpA_map fun g hg => (h g hg).2.tp.rpL (h g hg).1)
theorem encH_depth (g : HZ) : (encH g).depth ≤ 3 := by
  have : PyData.depthAll (g.2.map fun z => encQ z.2) ≤ 2 := depth_map fun z _ => encQ_depth z.2
  simp only [encH, PyData.depth]
  omega
theorem gs_depth (gs : List HZ) : (PyData.list (gs.map encH)).depth ≤ 4 := by
  have : PyData.depthAll (gs.map encH) ≤ 3 := depth_map fun g _ => encH_depth g
  simp only [PyData.depth]
  omega
theorem okA_of {ds : List PyData} (h : ∀ d ∈ ds, okD d = true) : okA ds = true := by
  induction ds with
  | nil => rfl
  | cons d ds ih => simp only [okA, h d List.mem_cons_self, ih fun x hx => h x (List.mem_cons_of_mem _ hx), Bool.and_self]
theorem szA_le {ds : List PyData} {n : Nat} (h : ∀ d ∈ ds, szD d ≤ n) : szA ds ≤ ds.length * n := by
  induction ds with
  | nil => simp [szA]
  | cons d ds ih =>
    have h1 := h d List.mem_cons_self
    have h2 := ih fun x hx => h x (List.mem_cons_of_mem _ hx)
    simp only [szA, List.length_cons, Nat.succ_mul]
    omega
theorem hasDictA_of {ds : List PyData} (h : ∀ d ∈ ds, d.hasDict = false) : PyData.hasDictAll ds = false := by
  induction ds with
  | nil => rfl
  | cons d ds ih => simp only [PyData.hasDictAll, h d List.mem_cons_self, ih fun x hx => h x (List.mem_cons_of_mem _ hx), Bool.or_self]
theorem HP.sd {a : Addr} (h : HP H gs) (ha : H a = some (.lst (gs.map hV))) (hl : gs.length ≤ 100) : Sd H (.ref a) (.list (gs.map encH)) := by
  refine ⟨h.rn ha, fun z => ?_, ?_, ?_, Nat.le_trans (gs_depth gs) (by decide)⟩
  · have : PyData.hasDictAll (gs.map encH) = false := hasDictA_of fun d hd => by
      obtain ⟨g, hg, rfl⟩ := List.mem_map.mp hd
      exact hasDictA_of fun d hd => by
        obtain ⟨z, hz, rfl⟩ := List.mem_map.mp hd
        rfl
    simp only [PyData.hasDict, this] at z
    cases z
  · refine okA_of fun d hd => ?_
    obtain ⟨g, hg, rfl⟩ := List.mem_map.mp hd
    refine okA_of fun d hd => ?_
    obtain ⟨z, hz, rfl⟩ := List.mem_map.mp hd
    have := (h g hg).2.small z hz
    simp only [encQ, okD, okA, Bool.and_true, Bool.and_eq_true, decide_eq_true_eq]
    omega
  · have h1 : szA (gs.map encH) ≤ (gs.map encH).length * 6916 := szA_le fun d hd => by
      obtain ⟨g, hg, rfl⟩ := List.mem_map.mp hd
      have h2 : szA (g.2.map fun z => encQ z.2) ≤ (g.2.map fun z => encQ z.2).length * 3 := szA_le fun d hd => by
        obtain ⟨z, hz, rfl⟩ := List.mem_map.mp hd
        simp [encQ, szD, szA]
      have h3 := (h g hg).2.few
      rw [List.length_map] at h2
      simp only [encH, szD]
      omega
    rw [List.length_map] at h1
    simp only [szD]
    omega
variable {K : PySem.W.Frag} {Q : VK}
end
theorem Sm.cut {H : Hp} {xs : List V} {n k : Nat} {lo hi : Option Int} (h : ∀ x ∈ xs, Sm H x n k) : ∀ x ∈ cutV xs lo hi, Sm H x n k := fun x hx => h x (cutV_mem hx)
/-- any small data -/
def SdE (H : Hp) (v : V) : Prop := ∃ d, Sd H v d
theorem SdE.of {H : Hp} {v : V} {n k : Nat} (h : Sm H v n k) (h1 : n ≤ 999999) (h2 : k ≤ 59) : SdE H v := h.sd h1 h2
theorem SdE.ex {H H' : Hp} {v : V} (h : SdE H v) (e : Ex H H') : SdE H' v := by
  obtain ⟨d, h⟩ := h
  exact ⟨d, h.ex e⟩
theorem allE_nil {P : V → Prop} : ∀ x ∈ ([] : List V), P x := fun _ h => nomatch h
theorem allE_cons {P : V → Prop} {y : V} {ys : List V} (h : P y) (k : ∀ x ∈ ys, P x) : ∀ x ∈ y :: ys, P x := fun x hx => by
  rcases List.mem_cons.mp hx with e | e
  · rw [e]; exact h
  · exact k x e
mutual
/-- a thing is one data -/
theorem Rn.det {H : Hp} : ∀ {v : V} {d d' : PyData}, Rn H v d → Rn H v d' → d = d'
  | _, _, _, .non, .non => rfl
  | _, _, _, .bl _, .bl _ => rfl
  | _, _, _, .int _, .int _ => rfl
  | _, _, _, .str _, .str _ => rfl
  | _, _, _, .lst h k, .lst h' k' => by
    rw [h] at h'
    cases h'
    rw [RnA.det k k']
  | _, _, _, .tup h k, .tup h' k' => by
    rw [h] at h'
    cases h'
    rw [RnA.det k k']
  | _, _, _, .dk _, .dk _ => rfl
  | _, _, _, .lst h _, .tup h' _ => by rw [h] at h'; cases h'
  | _, _, _, .lst h _, .dk h' => by rw [h] at h'; cases h'
  | _, _, _, .tup h _, .lst h' _ => by rw [h] at h'; cases h'
  | _, _, _, .tup h _, .dk h' => by rw [h] at h'; cases h'
  | _, _, _, .dk h, .lst h' _ => by rw [h] at h'; cases h'
  | _, _, _, .dk h, .tup h' _ => by rw [h] at h'; cases h'
theorem RnA.det {H : Hp} : ∀ {vs : List V} {ds ds' : List PyData}, RnA H vs ds → RnA H vs ds' → ds = ds'
  | _, _, _, .nil, .nil => rfl
  | _, _, _, .cons h k, .cons h' k' => by rw [Rn.det h h', RnA.det k k']
end
theorem SdE.sd {H : Hp} {v : V} {d : PyData} (h : SdE H v) (r : Rn H v d) : Sd H v d := by
  obtain ⟨d', h⟩ := h
  rw [r.det h.rn]
  exact h
def SmA (H : Hp) (xs : List V) (n k : Nat) : Prop := ∃ ds, RnA H xs ds ∧ PyData.hasDictAll ds = false ∧ okA ds = true ∧ szA ds ≤ n ∧ PyData.depthAll ds ≤ k
section
variable {H : Hp} {v : V} {xs ys : List V} {n m k : Nat}
theorem SmA.of (h : ∀ x ∈ xs, Sm H x n k) (hm : xs.length ≤ m) : SmA H xs (m * n) k := by
  obtain ⟨ds, a, b, c, d, e⟩ := Sm.all h
  exact ⟨ds, a, b, c, Nat.le_trans d (Nat.mul_le_mul_right n hm), e⟩
theorem SmA.up {n' k' : Nat} (h : SmA H xs n k) (h1 : n ≤ n') (h2 : k ≤ k') : SmA H xs n' k' := by
  obtain ⟨ds, a, b, c, d, e⟩ := h
  exact ⟨ds, a, b, c, by omega, by omega⟩
theorem SmA.nil : SmA H [] 0 k := ⟨[], .nil, rfl, rfl, by simp [szA], by simp [PyData.depthAll]⟩
theorem SmA.cons (h : Sm H v n k) (t : SmA H xs m k) : SmA H (v :: xs) (n + m) k := by
  obtain ⟨ds, a, b, c, d, e⟩ := t
  obtain ⟨x, a1, b1, c1, d1, e1⟩ := h
  refine ⟨x :: ds, .cons a1 a, by simp [PyData.hasDictAll, b, b1], by simp [okA, c, c1], ?_, ?_⟩
  · simp only [szA]; omega
  · simp only [PyData.depthAll]; omega
theorem SmA.app : ∀ {xs : List V} {n : Nat}, SmA H xs n k → SmA H ys m k → SmA H (xs ++ ys) (n + m) k
  | [], n, _, t => t.up (by omega) (Nat.le_refl _)
  | x :: xs, n, ⟨ds, a, b, c, d, e⟩, t => by
    cases a with
    | @cons _ _ d0 ds0 a1 a2 =>
      simp only [PyData.hasDictAll, Bool.or_eq_false_iff] at b
      simp only [okA, Bool.and_eq_true] at c
      simp only [szA] at d
      simp only [PyData.depthAll] at e
      have h := SmA.app (xs := xs) ⟨ds0, a2, b.2, c.2, Nat.le_refl _, by omega⟩ t
      exact (SmA.cons (n := szD d0) ⟨d0, a1, b.1, c.1, Nat.le_refl _, by omega⟩ h).up (by omega) (Nat.le_refl _)
theorem SmA.lst {a : Addr} (h : H a = some (.lst xs)) (t : SmA H xs n k) : Sm H (.ref a) (1 + n) (k + 1) := by
  obtain ⟨ds, h1, h2, h3, h4, h5⟩ := t
  exact ⟨.list ds, .lst h h1, by simpa only [PyData.hasDict] using h2, by simpa only [okD] using h3, by simp only [szD]; omega, by simp only [PyData.depth]; omega⟩
theorem SmA.tup {a : Addr} (h : H a = some (.tup xs)) (t : SmA H xs n k) : Sm H (.ref a) (1 + n) (k + 1) := by
  obtain ⟨ds, h1, h2, h3, h4, h5⟩ := t
  exact ⟨.tuple ds, .tup h h1, by simpa only [PyData.hasDict] using h2, by simpa only [okD] using h3, by simp only [szD]; omega, by simp only [PyData.depth]; omega⟩
theorem ObjsAt.mem {ts : List Addr} {os : List HO} (h : ObjsAt H ts os) {a : Addr} (ha : a ∈ ts) : ∃ o ∈ os, H a = some o := by
  obtain ⟨j, hj⟩ := List.getElem?_of_mem ha
  have hl := h.len
  have hjl := (List.getElem?_eq_some_iff.mp hj).1
  obtain ⟨o, ho⟩ : ∃ o, os[j]? = some o := ⟨os[j]'(by omega), List.getElem?_eq_getElem _⟩
  exact ⟨o, List.mem_of_getElem? ho, h.at j a o hj ho⟩
end
theorem Ex.comp {M : Addr → Prop} {H0 H H' : Hp} (e0 : Ex H0 H) (e : Fr M H H') (n : ∀ b, M b → H0 b = none) : Ex H0 H' := fun b o _ q => e b o (fun m => by rw [n b m] at q; cases q) (e0 b o (fun z => z) q)
end Zb
namespace Zb
open PySem PySem.Spec PyProof.Rows L2
mutual
theorem Rq.ex {H H' : Hp} (e : Ex H H') : ∀ {v : V} {d : PyData}, Rq H v d → Rq H' v d
  | _, _, .non => .non
  | _, _, .bl b => .bl b
  | _, _, .int i => .int i
  | _, _, .str x => .str x
  | _, _, .lst h k => .lst (lstAt_ex e h) (RqA.ex e k)
  | _, _, .tup h k => .tup (tupAt_ex e h) (RqA.ex e k)
  | _, _, .dk h k => .dk (e.get h) (RqA.ex e k)
theorem RqA.ex {H H' : Hp} (e : Ex H H') : ∀ {vs : List V} {ds : List PyData}, RqA H vs ds → RqA H' vs ds
  | _, _, .nil => .nil
  | _, _, .cons h k => .cons (Rq.ex e h) (RqA.ex e k)
end
/-- v is d, and is shown by n signs at most, k deep -/
structure Sh (H : Hp) (v : V) (d : PyData) (n k : Nat) : Prop where
  rq : Rq H v d
  sw : d.showable = true
  dp : d.depth ≤ k
  sz : d.shown.length ≤ n
section
variable {H H' : Hp} {v : V} {d : PyData} {n k : Nat} {Q : VK}
theorem Sh.ex (h : Sh H v d n k) (e : Ex H H') : Sh H' v d n k := ⟨h.rq.ex e, h.sw, h.dp, h.sz⟩
theorem Sh.up {n' k' : Nat} (h : Sh H v d n k) (h1 : n ≤ n') (h2 : k ≤ k') : Sh H v d n' k' := ⟨h.rq, h.sw, by have := h.dp; omega, by have := h.sz; omega⟩
theorem Sh.non : Sh H .non .none 4 0 := ⟨.non, rfl, by simp [PyData.depth], by decide⟩
theorem Sh.bl (b : Bool) : Sh H (.bl b) (.bool b) 5 0 := ⟨.bl b, rfl, by simp [PyData.depth], by cases b <;> decide⟩
theorem Sh.str {x : Str} (hx : ∀ c ∈ x.cps.toList, c < 16 ^ 8) : Sh H (.str x) (.str x) (10 * x.length + 2) 0 := ⟨.str x, rfl, by simp [PyData.depth], PySem.StrLaws.reprText_len x hx⟩
theorem Sh.int {i : Int} {m : Nat} (hm : 0 < m) (h : i.natAbs < 10 ^ m) (h2 : i.natAbs.log2 < 1920) : Sh H (.int i) (.int i) (m + 1) 0 := ⟨.int i, by simpa only [PyData.showable, decide_eq_true_eq] using h2, by simp [PyData.depth], by
  have e := int_text_length_le10 hm h
  have e2 : (Str.ofString (toString i)).length = (toString i).length := PySem.ofString_length _
  show (Str.ofString (toString i)).length ≤ _
  omega⟩
/-- rows of shown things -/
inductive ShA (H : Hp) (k : Nat) : List V → List PyData → Nat → Prop
  | nil : ShA H k [] [] 0
  | cons {v : V} {d : PyData} {n : Nat} {vs : List V} {ds : List PyData} {m : Nat} : Sh H v d n k → ShA H k vs ds m → ShA H k (v :: vs) (d :: ds) (n + 2 + m)
theorem ShA.all : ∀ {vs : List V} {ds : List PyData} {m : Nat}, ShA H k vs ds m → RqA H vs ds ∧ PyData.showableAll ds = true ∧ PyData.depthAll ds ≤ k ∧ ((PyData.shownAll ds).map (·.length)).sum + 2 * ds.length ≤ m
  | _, _, _, .nil => ⟨.nil, rfl, by simp [PyData.depthAll], by simp [PyData.shownAll]⟩
  | _, _, _, .cons h t => by
    obtain ⟨a, b, c, e⟩ := ShA.all t
    refine ⟨.cons h.rq a, by simp [PyData.showableAll, h.sw, b], ?_, ?_⟩
    · have := h.dp
      simp only [PyData.depthAll]; omega
    · have := h.sz
      simp only [PyData.shownAll, List.map_cons, List.sum_cons, List.length_cons]; omega
theorem ShA.lst {a : Addr} {xs : List V} {ds : List PyData} (h : H a = some (.lst xs)) (t : ShA H k xs ds n) : Sh H (.ref a) (.list ds) (n + 3) (k + 1) := by
  obtain ⟨r, s, dp, sz⟩ := t.all
  have h2 := listText_len_le (PyData.shownAll ds)
  have h3 := PyData.shownAll_length ds
  exact ⟨.lst (lst_of h) r, by simpa only [PyData.showable] using s, by simp only [PyData.depth]; omega, by simp only [PyData.shown]; omega⟩
theorem ShA.tup {a : Addr} {xs : List V} {ds : List PyData} (h : H a = some (.tup xs)) (t : ShA H k xs ds n) : Sh H (.ref a) (.tuple ds) (n + 3) (k + 1) := by
  obtain ⟨r, s, dp, sz⟩ := t.all
  have h2 := tupleText_len_le (PyData.shownAll ds)
  have h3 := PyData.shownAll_length ds
  exact ⟨.tup (tup_of h) r, by simpa only [PyData.showable] using s, by simp only [PyData.depth]; omega, by simp only [PyData.shown]; omega⟩
theorem ShA.map {α : Type} {val : α → V} {enc : α → PyData} {m : Nat} : ∀ {xs : List α}, (∀ x ∈ xs, Sh H (val x) (enc x) m k) → ShA H k (xs.map val) (xs.map enc) (xs.length * (m + 2))
  | [], _ => by rw [List.length_nil, Nat.zero_mul]; exact .nil
  | x :: xs, h => by
    have := ShA.cons (h x List.mem_cons_self) (ShA.map fun y hy => h y (List.mem_cons_of_mem _ hy))
    rw [List.length_cons, Nat.succ_mul]
    rwa [show xs.length * (m + 2) + (m + 2) = m + 2 + xs.length * (m + 2) by omega]
theorem Sh.dk0 {a : Addr} (h : H a = some (.dK [])) : Sh H (.ref a) (.dict []) 2 1 := ⟨.dk0 h, rfl, by simp [PyData.depth, PyData.depthKv], by decide +kernel⟩
end
def rIsXs (K : PySem.W.Frag) (a : Addr) (cls : Value) (d : Option Addr) : List V → Hp → VK → Prop := fun xs H Q => ∃ (tp : Addr) (cs : List V) (cvs : List Value) (b : Bool) (C dd : Addr) (fs : List (Str × V)), xs = [.ref a, .ref tp] ∧ H tp = some (.tup cs) ∧ (∀ us, Vals cs us → us = cvs) ∧ cls = .ref C ∧ XI K C ∧ d = some dd ∧ H dd = some (.xd fs) ∧ PySem.W.kitAny K (.ref C) cvs = some b ∧ Q (.bl b) H
section
variable {K : PySem.W.Frag} {H : Hp} {Q : VK}
theorem st_isXs2 {a C C1 C2 dd tp : Addr} {fs : List (Str × V)} {b1 b2 : Bool} (T : XI K C) (h1 : H dd = some (.xd fs)) (ht : H tp = some (.tup [.ref C1, .ref C2])) (e1 : PySem.W.kitOne K (.ref C) (.ref C1) = some b1) (e2 : PySem.W.kitOne K (.ref C) (.ref C2) = some b2) (h : Q (.bl (b1 || b2)) H) : rIsXs K a (.ref C) (some dd) [.ref a, .ref tp] H Q := by
  refine ⟨tp, _, [.ref C1, .ref C2], b1 || b2, C, dd, fs, rfl, ht, fun us r => ?_, rfl, T, rfl, h1, ?_, h⟩
  · cases r with
    | cons r1 rr =>
      cases rr with
      | cons r2 rr =>
        cases rr
        cases r1
        cases r2
        rfl
  · unfold PySem.W.kitAny
    rw [e1]
    cases b1 with
    | true => rfl
    | false =>
      show PySem.W.kitAny K _ [.ref C2] = _
      unfold PySem.W.kitAny
      rw [e2]
      cases b2 <;> rfl
end
def hid (p : Addr) (H : Hp) : Hp := fun b => if b = p then none else H b
theorem hid_get {p a : Addr} {H : Hp} {o : HO} (h : H a = some o) (n : a ≠ p) : hid p H a = some o := by
  unfold hid
  rw [if_neg n]
  exact h
theorem hid_ex (p : Addr) (H : Hp) : Ex (hid p H) H := fun b o _ h => by
  unfold hid at h
  split at h
  · cases h
  · exact h
theorem hid_frp {p : Addr} {H H' : Hp} (e : FrP p H H') : Ex (hid p H) (hid p H') := fun b o _ h => by
  unfold hid at h ⊢
  by_cases n : b = p
  · rw [if_pos n] at h; cases h
  · rw [if_neg n] at h ⊢
    exact e b o n h
end Zb
namespace Zb
open PySem PySem.Spec PyProof.Rows L2
def rEqA (K : PySem.W.Frag) : R2 := fun x y H Q => rEqU x y H Q ∨ rEqV K x y H Q
section
variable {K : PySem.W.Frag} {H : Hp} {Q : VK}
mutual
theorem eqv_self : ∀ d : PyData, d.hasDict = false → PyData.eqv d d = true
  | .none, _ => rfl
  | .bool b, _ => by simp [PyData.eqv]
  | .int i, _ => by simp [PyData.eqv]
  | .str x, _ => by simp [PyData.eqv]
  | .list ds, h => by
    simp only [PyData.eqv]
    exact eqvAll_self ds (by simpa only [PyData.hasDict] using h)
  | .tuple ds, h => by
    simp only [PyData.eqv]
    exact eqvAll_self ds (by simpa only [PyData.hasDict] using h)
  | .dict kvs, h => by simp [PyData.hasDict] at h
theorem eqvAll_self : ∀ ds : List PyData, PyData.hasDictAll ds = false → PyData.eqvAll ds ds = true
  | [], _ => rfl
  | d :: ds, h => by
    simp only [PyData.hasDictAll, Bool.or_eq_false_iff] at h
    simp only [PyData.eqvAll, eqv_self d h.1, eqvAll_self ds h.2, Bool.and_self]
end
end
end Zb
namespace Zb
open PySem PySem.Spec PyProof.Rows L2
def gSl (to : TE) (tl th : TO) : TG := fun v σ H Q => to σ H fun o H1 => tl σ H1 fun l H2 => th σ H2 fun u H3 => ∃ (p q : Addr) (xs ys : List V) (a c : Int), o = .ref p ∧ v = .ref q ∧ l = some a ∧ u = some c ∧ H3 p = some (.lst xs) ∧ H3 q = some (.lst ys) ∧ p ≠ q ∧ 0 ≤ a ∧ a ≤ c ∧ c ≤ xs.length ∧ xs.length + ys.length ≤ 16777216 ∧ Q σ (upd H3 p (.lst (xs.take a.toNat ++ ys ++ xs.drop c.toNat)))
theorem st_gsl {to : TE} {tl th : TO} {v : V} {σ : L2.St} {H : Hp} {R : L2.St → Hp → Prop} (h : to σ H fun o H1 => tl σ H1 fun l H2 => th σ H2 fun u H3 => ∃ (p q : Addr) (xs ys : List V) (a c : Int), o = .ref p ∧ v = .ref q ∧ l = some a ∧ u = some c ∧ H3 p = some (.lst xs) ∧ H3 q = some (.lst ys) ∧ p ≠ q ∧ 0 ≤ a ∧ a ≤ c ∧ c ≤ xs.length ∧ xs.length + ys.length ≤ 16777216 ∧ R σ (upd H3 p (.lst (xs.take a.toNat ++ ys ++ xs.drop c.toNat)))) : gSl to tl th v σ H R := h
abbrev TRg := L2.St → Hp → (Int → Int → Int → Hp → Prop) → Prop
def PRgC (X : Cx) (e : Expr) (t : TRg) : Prop := ∀ (pins : List (Addr × Obj)) (s : Shared) (σ : L2.St) (H : Hp) (Q : Int → Int → Int → Hp → Prop), Inv X pins σ H s → t σ H Q →
  wpAny (model X.prog X.w) X.A (eval e X.env) (fun x s' => ∃ r a b c t u v H', x = .ref r ∧ IsRange s'.heap r a b c t u v ∧ Inv X pins σ H' s' ∧ Q a b c H') X.xe s
def tRgC (ta : TA) : TRg := fun σ H Q => ta σ H fun vs H1 => match vs with
  | [.int n] => Q 0 n 1 H1
  | [.int i, .int j] => Q i j 1 H1
  | [.int i, .int j, .int c] => c ≠ 0 ∧ c.natAbs < 1073741824 ∧ Q i j c H1
  | _ => False
section
variable {X : Cx}
theorem prgC {es : List Expr} {e : Expr} {ta : TA} {p pos : Pos} (hg : Gl X "range") (hm : X.mg "range" = none) (ha : PA X (e :: es) ta) (hs : starEach (e :: es) X.env = (false, eval e X.env) :: starEach es X.env := by rfl)
    (hpl : (backTo pos (starEach es X.env)).any (·.1) = false := by rfl) : PRgC X (.Call (.Name "range" p) (e :: es) [] pos) (tRgC ta) := by
  intro pins s σ H Q I h
  refine Call_ (ld_blt I hg hm boot_range (PyProof.Rows.callWith_type1 (thn (ha.run pos pins s σ H _ I h) fun us s1 ⟨vs, H1, I1, r1, q1⟩ => ?_) hs hpl))
  dsimp only at q1
  split at q1
  · obtain ⟨u, rfl, t, rfl⟩ := vals1 r1
    exact call_range_1 ⟨_, _, _, _, _, _, _, H1, rfl, IsRange.new _ _ _ _ _ _ _, I1.kept fun _ _ z => Heap.get?_push_of_some _ z, q1⟩
  · obtain ⟨u, w, rfl, ⟨t, rfl⟩, t', rfl⟩ := vals2 r1
    exact call_range_2 ⟨_, _, _, _, _, _, _, H1, rfl, IsRange.new _ _ _ _ _ _ _, I1.kept fun _ _ z => Heap.get?_push_of_some _ z, q1⟩
  · obtain ⟨c0, c1, q1⟩ := q1
    cases r1 with
    | cons r rr =>
      obtain ⟨u, w, rfl, ⟨t1, rfl⟩, t2, rfl⟩ := vals2 rr
      obtain ⟨t, rfl⟩ := r
      exact call_range_3 c0 ⟨_, _, _, _, _, _, _, H1, rfl, IsRange.new _ _ _ _ _ _ _, I1.kept fun _ _ z => Heap.get?_push_of_some _ z, q1⟩ (.inl (PyProof.noPylong_small c1))
  · exact q1.elim
def rgL (a c : Int) (n : Nat) : List Int := (List.range n).map fun i : Nat => a + (i : Int) * c
theorem vals_rgL {a c : Int} {n : Nat} {acc : Array Value} (h : ItemsOf (fun i v => ∃ t, v = .int (a + i * c) t) acc n) : Vals ((rgL a c n).map V.int) acc.toList := by
  have e : acc.toList.length = n := by rw [Array.length_toList]; exact h.1
  unfold rgL
  rw [← e, List.map_map]
  refine vals_of_get acc.toList _ fun j u hj => ?_
  obtain ⟨t, rfl⟩ := h.2 j u (by rw [← hj, Array.getElem?_toList])
  exact ⟨t, rfl⟩
def tListRg (t : TRg) : TE := fun σ H Q => t σ H fun a b c H1 => ∃ n : Nat, Builtin.Range.small a b c = true ∧ Builtin.Range.rangeSize a b c = n ∧ n ≤ 16777216 ∧ ∀ q, H1 q = none → Q (.ref q) (upd H1 q (.lst ((rgL a c n).map V.int)))
theorem pe_listRgC {e : Expr} {t : TRg} {p pos : Pos} (hc : X.calm = true) (hg : Gl X "list") (hm : X.mg "list" = none) (he : PRgC X e t) (na : starEach [e] X.env = (false, eval e X.env) :: starEach [] X.env := by rfl) : PE X (.Call (.Name "list" p) [e] [] pos) (tListRg t) := by
  refine ⟨fun pins s σ H Q I h => ?_⟩
  refine Call_ (ld_blt I hg hm boot_list (PyProof.Rows.callWith_type1 (args_cons (thn (he pins s σ H _ I h) fun x s1 ⟨r, a, b, c, t, u, v, H1, ex, hr, I1, n, o1, o2, o3, q⟩ => args_nil ?_) na) na))
  subst ex
  refine call_list_range (n := n) (I1.ok.hd hc) hr o1 o2 o3 fun h' tk acc c' hk e' hi => ?_
  have hl : ((rgL a c n).map V.int).length ≤ sizeLine := by rw [List.length_map, rgL, List.length_map, List.length_range, sl16]; exact o3
  refine ⟨.ref s1.heap.objs.size, _, I1.laid (t' := tk) hk (Nat.le_refl _) (show ObjOk X.prog X.w _ h' _ (.lst _) from ⟨hl, acc.toList, c', vals_rgL hi, ?_⟩), rfl, q _ (I1.hok.fresh (Nat.le_refl _))⟩
  rw [Array.toArray_toList]
  exact e'
end
section
variable {σ : L2.St} {H : Hp} {Q : VK} {K : PySem.W.Frag}
def RgP (Q : VK) (a b c : Int) (H1 : Hp) : Prop := ∃ n : Nat, Builtin.Range.small a b c = true ∧ Builtin.Range.rangeSize a b c = n ∧ n ≤ 16777216 ∧ ∀ q, H1 q = none → Q (.ref q) (upd H1 q (.lst ((rgL a c n).map V.int)))
theorem st_listRg {t : TRg} (h : t σ H (RgP Q)) : tListRg t σ H Q := h
def RgQ (P : Int → Int → Int → Hp → Prop) (vs : List V) (H1 : Hp) : Prop := match vs with
  | [.int n] => P 0 n 1 H1
  | [.int i, .int j] => P i j 1 H1
  | [.int i, .int j, .int c] => c ≠ 0 ∧ c.natAbs < 1073741824 ∧ P i j c H1
  | _ => False
theorem st_rgC {ta : TA} {P : Int → Int → Int → Hp → Prop} (h : ta σ H (RgQ P)) : tRgC ta σ H P := h
theorem st_rg1 {n : Int} {P : Int → Int → Int → Hp → Prop} (h : P 0 n 1 H) : RgQ P [.int n] H := h
theorem st_rg2 {i j : Int} {P : Int → Int → Int → Hp → Prop} (h : P i j 1 H) : RgQ P [.int i, .int j] H := h
theorem st_rg3 {i j : Int} {P : Int → Int → Int → Hp → Prop} (h : P i j (-1) H) : RgQ P [.int i, .int j, .int (-1)] H := ⟨by decide, by decide, h⟩
theorem st_rgUp {a b : Int} (hz : -1000000 ≤ a ∧ a ≤ 1000000 ∧ -1000000 ≤ b ∧ b ≤ 1000000) (h : ∀ q H', H q = none → Ex H H' → H' q = some (.lst ((rgL a 1 (b - a).toNat).map V.int)) → Q (.ref q) H') : RgP Q a b 1 H :=
  ⟨(b - a).toNat, small_one (by omega) (by omega) (by omega) (by omega), rangeSize_nat a b, by omega, fun q hq => h q _ hq (Fr.new hq) upd_same⟩
theorem st_rgDown {a b : Int} (hz : -1000000 ≤ a ∧ a ≤ 1000000 ∧ -1000000 ≤ b ∧ b ≤ 1000000) (h : ∀ q H', H q = none → Ex H H' → H' q = some (.lst ((rgL a (-1) (a - b).toNat).map V.int)) → Q (.ref q) H') : RgP Q a b (-1) H :=
  ⟨(a - b).toNat, PySem.W.small_down (by omega) (by omega) (by omega) (by omega), PySem.W.rangeSize_downNat a b, by omega, fun q hq => h q _ hq (Fr.new hq) upd_same⟩
theorem rgL_up (n : Nat) : rgL 0 1 n = (List.range n).map fun i : Nat => (i : Int) := by
  unfold rgL
  exact List.map_congr_left fun i _ => by omega
end
def iSeq (K : PySem.W.Frag) (tl : TE) : TI := fun σ H R => tl σ H fun x H1 => ∃ a xs, x = .ref a ∧ seqAt H1 a = some xs ∧ ∀ (J : It) (S : Hp → Prop), Runs J xs.length S (fun i x H H' => H' = H ∧ xs[i]? = some x) → (∀ H', H' a = H1 a → S H') → R J H1
theorem lstAt_eq {H H' : Hp} {a : Addr} {xs : List V} (h : lstAt H a = some xs) (e : H' a = H a) : lstAt H' a = some xs := by
  unfold lstAt at h ⊢
  rw [e]
  exact h
theorem tupAt_eq {H H' : Hp} {a : Addr} {xs : List V} (h : tupAt H a = some xs) (e : H' a = H a) : tupAt H' a = some xs := by
  unfold tupAt at h ⊢
  rw [e]
  exact h
theorem pi_seq {X : Cx} {l tg : Expr} {tl : TE} {K : PySem.W.Frag} (hl : PE X l tl) (hK : X.K = K := by rfl) : PI X tg l (iSeq K tl) := by
  subst hK
  refine ⟨fun pins s σ H R I h => ?_⟩
  refine thn (hl.run pins s σ H _ I h) fun v s1 ⟨x, H1, I1, r1, q1⟩ => ?_
  obtain ⟨a, xs, rfl, hq, q⟩ := q1
  cases r1
  have fp : ∀ b ∈ [s1.heap.objs.size], b = s1.heap.objs.size := fun b hb => by simpa using hb
  rcases seqAt_cases hq with hq | hq
  · obtain ⟨its, rv, p, hz⟩ := I1.list (lstAt_sq hq)
    refine wpAny_pyIter_list p.isList ?_
    refine ⟨s1.heap.objs.size, [s1.heap.objs.size], _, _, H1, rfl, I1.kept (t' := s1.toks) fun _ _ e => Heap.get?_push_of_some _ e, turn_list a _, ⟨_, Heap.get?_push_size _ rfl, rfl, rfl⟩, fun b hb => ?_, q _ _ (runs_list X.K a xs) fun H' e => lstAt_eq hq e⟩
    rw [fp b hb]
    exact I1.fpOk (Nat.le_refl _) (I1.hok.fresh (Nat.le_refl _))
  · obtain ⟨its, rv, p, hz⟩ := I1.tuple (tupAt_sq hq)
    refine wpAny_pyIter_tuple (show s1.heap.IsTuple a its.toArray from p) ?_
    refine ⟨s1.heap.objs.size, [s1.heap.objs.size], _, _, H1, rfl, I1.kept (t' := s1.toks) fun _ _ e => Heap.get?_push_of_some _ e, turn_tuple a _, ⟨_, Heap.get?_push_size _ rfl, rfl, rfl⟩, fun b hb => ?_, q _ _ (runs_tup X.K a xs) fun H' e => tupAt_eq hq e⟩
    rw [fp b hb]
    exact I1.fpOk (Nat.le_refl _) (I1.hok.fresh (Nat.le_refl _))
def Itet (K : PySem.W.Frag) (a : Addr) : It :=
  ⟨fun i H => ∃ (xs : List V) (x : V), SqT K H a xs ∧ xs[i]? = some x, fun i H v H' => ∃ T x, v = .ref T ∧ H T = none ∧ H' = upd H T (.tup [.int (i : Nat), x]) ∧ ∀ xs, SqT K H a xs → xs[i]? = some x, fun i H => ∃ xs : List V, SqT K H a xs ∧ xs.length ≤ i⟩
theorem sqT_inj {X : Cx} {pins : List (Addr × Obj)} {σ : L2.St} {H : Hp} {s : Shared} {a : Addr} {xs ys : List V} (I : Inv X pins σ H s) (h1 : SqT X.K H a xs) (h2 : SqT X.K H a ys) : xs = ys := I.tuple_inj h1 h2
theorem turn_enumT {P : Program} {w : World} {K : PySem.W.Frag} {elts : List Expr} {kk : Nat} {tpos : Pos} (a e it : Addr) :
    Turn P w K (.Tuple elts kk tpos) (Itet K a) [e, it] e (fun i h => (∃ old, IsEnum h e it ((i : Nat) : Int) old) ∧ h.IsTupleIter it a i ∧ e ≠ it) where
  mem := by simp
  obj := fun i h st b hb => by
    obtain ⟨⟨old, he⟩, ⟨o, ho, hc, hd⟩, _⟩ := st
    rcases (show b = e ∨ b = it by simpa using hb) with z | z
    · rw [z]; exact ⟨_, he, fun v q => nomatch q⟩
    · rw [z]; exact ⟨o, ho, fun v q => by rw [hd] at q; cases q⟩
  keep := fun i h h' st k => let ⟨⟨old, he⟩, hi, hne⟩ := st; ⟨⟨old, k e (by simp) _ he⟩, hi.at fun _ q => k it (by simp) _ q, hne⟩
  item := by
    intro X hP hw hK hc i pins s σ H E I hf st hg
    subst hP hw hK
    obtain ⟨⟨old, he⟩, hit, hne⟩ := st
    obtain ⟨xs, x, hq, hx⟩ := hg
    obtain ⟨its, rv, p, hz⟩ := I.tuple hq
    obtain ⟨u, hu, ru⟩ := rv.get hx
    have hel : e < s.heap.objs.size := Heap.lt_size he
    have hil : it < s.heap.objs.size := by obtain ⟨_, q, _⟩ := hit; exact Heap.lt_size q
    have hta : a ≠ it := fun z => by
      obtain ⟨o1, g1, c1, _⟩ := hit
      obtain ⟨o2, g2, c2, _⟩ := p
      rw [z] at g2
      rw [g1] at g2
      cases g2
      rw [c1] at c2
      exact absurd c2 (by decide)
    have hte : e ≠ a := fun z => by
      obtain ⟨o2, g2, c2, _⟩ := p
      rw [← z, he] at g2
      cases g2
      exact absurd (show Value.type "enumerate" = Value.type "tuple" from c2) (by decide)
    have D : Draws X.prog X.w X.A.in1 it [it, a] its.toArray.size (fun i v => its.toArray[i]? = some v) (fun i h => h.IsTupleIter it a i ∧ h.IsTuple a its.toArray) := Draws.tuple (A := X.A.in1) (I.ok.hd hc) it a hta its.toArray
    have hlt : i < its.toArray.size := by
      rw [List.size_toArray, ← rv.length]
      exact (List.getElem?_eq_some_iff.mp hx).1
    refine wpAny_pyNext_enum_itemC D he ⟨hit, p⟩ hlt hne (by simp [hne, hte]) fun y h' tk hy ho st2 hT hsz hk => ?_
    have hyu : y = u := by
      have : its.toArray[i]? = some u := by simpa using hu
      rw [this] at hy
      exact (Option.some.inj hy).symm
    subst hyu
    refine ⟨_, rfl, wpAny_letOwnedTupleGo_enum (s := { s with heap := h', toks := tk + 1 }) ho fun h'' he' sb => ?_⟩
    have hT2 : h''.get? s.heap.objs.size = some { cls := .type "tuple", data := .seq #[.int (i : Nat) tk, y] } := (sb.2 _ (Nat.ne_of_gt hel)).trans hT
    have new : ObjOk X.prog X.w (upd H s.heap.objs.size (.tup [.int (i : Nat), x])) h'' s.heap.objs.size (.tup [.int (i : Nat), x]) :=
      ⟨by show 2 ≤ sizeLine; rw [sl16]; decide, [.int (i : Nat) tk, y], .cons ⟨_, rfl⟩ (.cons ru .nil), ⟨_, hT2, rfl, _, rfl⟩⟩
    have I1 : Inv X pins σ (upd H s.heap.objs.size (.tup [.int (i : Nat), x])) { s with heap := h'', toks := tk + 1 } :=
      I.turnedNew (ch := [e, it]) (fun b ob hb q => (sb.2 b (fun z => hb (by simp [z]))).trans (hk b ob (fun z => hb (by simp [z])) (fun z => hb (by simp [z])) q)) hf (Nat.le_refl _) new
    refine ⟨.ref s.heap.objs.size, _, I1, rfl, ⟨_, x, rfl, I.hok.fresh (Nat.le_refl _), rfl, fun ys hy => by rw [sqT_inj I hy hq]; exact hx⟩, ⟨⟨y, ?_⟩, st2.1.at fun o q => (sb.2 it (Ne.symm hne)).trans q, hne⟩, fun b hb => ?_⟩
    · rw [show ((i + 1 : Nat) : Int) = (i : Int) + 1 by omega]; exact he'
    · have hb' : b < s.heap.objs.size := by
        rcases (show b = e ∨ b = it by simpa using hb) with z | z
        · rw [z]; exact hel
        · rw [z]; exact hil
      rw [upd_ne (Nat.ne_of_lt hb')]
      exact (hf b hb).1
  done := by
    intro X hP hw hK hc i pins s σ H E I hf st hg
    subst hP hw hK
    obtain ⟨⟨old, he⟩, hit, hne⟩ := st
    obtain ⟨xs, hq, hx⟩ := hg
    obtain ⟨its, rv, p, hz⟩ := I.tuple hq
    obtain ⟨f0, f1, f2, f3, f4, f5⟩ := hf it (by simp)
    have hl := rv.length
    have hT : s.TypeIs (.ref e) "enumerate" := ⟨_, he, rfl⟩
    unfold pyNext
    refine wpAny_bind (wpAny_attempt (wpAny_callSpecial?_slot (name := Str.ofString "__next__") hT F.slot_enumerate_next (wpAny_call_entry F.slot_enumerate_next hT F.entry_enumerate_next ?_ (F.args_enumerate_next_1 _))))
    show wpAny _ _ (field (.ref e) 2 >>= _) _ _ _
    refine wpAny_bind (wpAny_field he rfl (x := .ref it) rfl ?_)
    refine wpAny_bind (wpAny_nextOf_tuple_end (I.ok.hd hc) hit p (by simp; omega) fun h' x xb hx' => ?_)
    obtain ⟨o, ho, hoc⟩ := hx'
    refine wpAny_bind (wpAny_isInstance (T := "StopIteration") (b := true) ⟨o, ho, hoc⟩ isSubtype_stop ?_)
    exact wpAny_pure ⟨rfl, I.turned (t' := s.toks) (fun b o hb q => xb b o hb q) f0 f1 f3 f4 f5⟩
  self := fun A i s Q E st h => let ⟨⟨_, he⟩, _⟩ := st; wpAny_pyIter_enum he h
theorem meets_enumT (l : Addr) (items : Array Value) (n : Nat) (dct : Option Addr) (sl : Array (Option Value)) :
    Meets (Builtin.«enumerate.__new__» ⟨[.type "enumerate", .ref l], []⟩) (fun _ R s => s.heap.get? l = some { cls := .type "tuple", dict := dct, data := .seq items n, slots := sl } ∧
      R (.ok (.ret (.ref (s.heap.push { cls := .type "tuple_iterator", data := .fields #[.ref l, .int 0 0] }).objs.size)))
        { s with heap := (s.heap.push { cls := .type "tuple_iterator", data := .fields #[.ref l, .int 0 0] }).push { cls := .type "enumerate", data := .fields #[.none, .bool false, .ref s.heap.objs.size, rawInt 0, .none, .none] } }) :=
  .of_wp fun prog w A R s h => by
    obtain ⟨hp, g, d, tk, os⟩ := s
    obtain ⟨hl, h⟩ := h
    have hsub := sub_enumerate
    have hT : Heap.IsTuple (Shared.heap ⟨hp, g, d, tk, os⟩) l items := ⟨_, hl, rfl, n, rfl⟩
    wp_walk using AutoSeq1.wpAny_loadPart' hl
    refine wpAny_stack_any fun st => wpAny_pure ?_
    split
    · rename_i c _ _ _ _ _
      cases (c == Value.type "enumerate")
      · wp_walk using AutoSeq1.wpAny_loadPart' hl, wpAny_pyIter_tuple hT
        exact ⟨_, rfl, h⟩
      · wp_walk using AutoSeq1.wpAny_loadPart' hl, wpAny_pyIter_tuple hT
        exact ⟨_, rfl, h⟩
    · wp_walk using AutoSeq1.wpAny_loadPart' hl, wpAny_pyIter_tuple hT
      exact ⟨_, rfl, h⟩
theorem call_enumT {prog : Program} {w : World} {A : Around} {E : Value → Shared → Prop} {s : Shared} {l : Addr} {items : Array Value} {Q : Value → Shared → Prop} (hL : s.heap.IsTuple l items)
    (h : ∀ h', IsEnum h' (s.heap.objs.size + 1) s.heap.objs.size 0 .none → h'.IsTupleIter s.heap.objs.size l 0 → h'.objs.size = s.heap.objs.size + 2 →
      (∀ b o, s.heap.get? b = some o → h'.get? b = some o) → Q (.ref (s.heap.objs.size + 1)) { s with heap := h' }) : wpAny (model prog w) A (call (.type "enumerate") [.ref l]) Q E s := by
  obtain ⟨⟨c, dct, dt, sl⟩, hl, hc, n, hd⟩ := hL
  replace hc : c = .type "tuple" := hc
  replace hd : dt = .seq items n := hd
  subst hc hd
  obtain ⟨io, hio⟩ : ∃ io : Obj, io = { cls := .type "tuple_iterator", data := .fields #[.ref l, .int 0 0] } := ⟨_, rfl⟩
  obtain ⟨eo, heo⟩ : ∃ eo : Obj, eo = { cls := .type "enumerate", data := .fields #[.none, .bool false, .ref s.heap.objs.size, rawInt 0, .none, .none] } := ⟨_, rfl⟩
  refine callType_new F.called_enumerate (by decide) (F.typeCall_enumerate_1 _) (F.newCall_enumerate_1 _) (fun obj => F.args_object_init_2 obj _) F.entry_enumerate_new (meets_enumT l items n dct sl) ⟨hl, ?_⟩
  rw [← hio, ← heo]
  have hz : (s.heap.push io).objs.size = s.heap.objs.size + 1 := Heap.size_push ..
  show _ ∧ _
  rw [hz]
  have he : IsEnum ((s.heap.push io).push eo) (s.heap.objs.size + 1) s.heap.objs.size 0 .none := by
    have := Heap.get?_push_size (s.heap.push io) (o := eo) (by rw [heo]; rfl)
    rw [hz, heo] at this
    rw [heo]
    exact this
  refine ⟨⟨_, he, rfl⟩, h _ he ⟨_, Heap.get?_push_of_some _ (Heap.get?_push_size _ (by rw [hio]; rfl)), by rw [hio], by rw [hio]; rfl⟩ (by rw [Heap.size_push, hz]) fun b o x => Heap.get?_push_of_some _ (Heap.get?_push_of_some _ x)⟩
theorem runs_enumT (K : PySem.W.Frag) (a : Addr) (xs : List V) : Runs (Itet K a) xs.length (fun H => tupAt H a = some xs) (fun i x H H' => ∃ T v, x = .ref T ∧ H T = none ∧ Ex H H' ∧ H' T = some (.tup [.int (i : Nat), v]) ∧ xs[i]? = some v) :=
  ⟨fun i H h s => ⟨xs, xs[i], tupAt_sq s, by simp [h]⟩, fun _ s => ⟨xs, tupAt_sq s, Nat.le_refl _⟩, fun i H x H' _ s y => by
    obtain ⟨T, v, e1, e2, e3, e4⟩ := y
    subst e3
    exact ⟨T, v, e1, e2, Fr.new e2, upd_same, e4 xs (tupAt_sq s)⟩⟩
/-- enumerate of a list or a tuple -/
def iEnQ (K : PySem.W.Frag) (ta : TA) : TI := fun σ H R => ta σ H fun vs H1 => ∃ a xs, vs = [.ref a] ∧ seqAt H1 a = some xs ∧ ∀ (J : It) (S : Hp → Prop), Runs J xs.length S (fun i x H H' => ∃ T v, x = .ref T ∧ H T = none ∧ Ex H H' ∧ H' T = some (.tup [.int (i : Nat), v]) ∧ xs[i]? = some v) → (∀ H', H' a = H1 a → S H') → R J H1
theorem pi_enumQ {X : Cx} {e : Expr} {ta : TA} {p pos tpos : Pos} {elts : List Expr} {kk : Nat} {K : PySem.W.Frag} (hg : Gl X "enumerate") (hm : X.mg "enumerate" = none) (ha : PA X [e] ta) (hs : starEach [e] X.env = [(false, eval e X.env)] := by rfl) (hK : X.K = K := by rfl) :
    PI X (.Tuple elts kk tpos) (.Call (.Name "enumerate" p) [e] [] pos) (iEnQ K ta) := by
  subst hK
  refine ⟨fun pins s σ H R I h => ?_⟩
  refine Call_ (ld_blt I hg hm boot_enumerate (PyProof.Rows.callWith_type1 (thn (ha.run pos pins s σ H _ I h) fun us s1 ⟨vs, H1, I1, r1, q1⟩ => ?_) hs rfl))
  obtain ⟨a, xs, ex, hq, q⟩ := q1
  subst ex
  obtain ⟨u, rfl, ru⟩ := vals1 r1
  cases ru
  have bnd : ∀ b ∈ [s1.heap.objs.size + 1, s1.heap.objs.size], s1.heap.objs.size ≤ b := fun b hb => by
    rcases (show b = s1.heap.objs.size + 1 ∨ b = s1.heap.objs.size by simpa using hb) with z | z <;> omega
  rcases seqAt_cases hq with hq | hq
  · obtain ⟨its, rv, p', hz⟩ := I1.list (lstAt_sq hq)
    refine call_enumerate_list p'.isList fun h' he hit hsz hk => wpAny_pyIter_enum he ?_
    have I2 : Inv X pins σ H1 { s1 with heap := h' } := I1.kept (t' := s1.toks) hk
    exact ⟨s1.heap.objs.size + 1, [s1.heap.objs.size + 1, s1.heap.objs.size], _, _, H1, rfl, I2, turn_enum a (s1.heap.objs.size + 1) s1.heap.objs.size, ⟨⟨.none, he⟩, hit, Nat.succ_ne_self _⟩, fun b hb => I1.fpOk (bnd b hb) (I1.hok.fresh (bnd b hb)), q _ _ (runs_enum X.K a xs) fun H' e => lstAt_eq hq e⟩
  · obtain ⟨its, rv, p', hz⟩ := I1.tuple (tupAt_sq hq)
    refine call_enumT (show s1.heap.IsTuple a its.toArray from p') fun h' he hit hsz hk => wpAny_pyIter_enum he ?_
    have I2 : Inv X pins σ H1 { s1 with heap := h' } := I1.kept (t' := s1.toks) hk
    exact ⟨s1.heap.objs.size + 1, [s1.heap.objs.size + 1, s1.heap.objs.size], _, _, H1, rfl, I2, turn_enumT a (s1.heap.objs.size + 1) s1.heap.objs.size, ⟨⟨.none, he⟩, hit, Nat.succ_ne_self _⟩, fun b hb => I1.fpOk (bnd b hb) (I1.hok.fresh (bnd b hb)), q _ _ (runs_enumT X.K a xs) fun H' e => tupAt_eq hq e⟩
section
variable {σ : L2.St} {H : Hp} {K : PySem.W.Frag}
theorem st_iSeq {tl : TE} {R : It → Hp → Prop} (h : tl σ H fun x H1 => ∃ a xs, x = .ref a ∧ seqAt H1 a = some xs ∧ ∀ (J : It) (S : Hp → Prop), Runs J xs.length S (fun i x H H' => H' = H ∧ xs[i]? = some x) → (∀ H', H' a = H1 a → S H') → R J H1) : iSeq K tl σ H R := h
theorem st_isSeq {a : Addr} {xs : List V} {R : It → Hp → Prop} (h1 : seqAt H a = some xs) (h : ∀ (J : It) (S : Hp → Prop), Runs J xs.length S (fun i x H H' => H' = H ∧ xs[i]? = some x) → (∀ H', H' a = H a → S H') → R J H) : ∃ a' xs', V.ref a = .ref a' ∧ seqAt H a' = some xs' ∧ ∀ (J : It) (S : Hp → Prop), Runs J xs'.length S (fun i x H H' => H' = H ∧ xs'[i]? = some x) → (∀ H', H' a' = H a' → S H') → R J H := ⟨a, xs, rfl, h1, h⟩
theorem st_iEnQ {ta : TA} {R : It → Hp → Prop} (h : ta σ H fun vs H1 => ∃ a xs, vs = [.ref a] ∧ seqAt H1 a = some xs ∧ ∀ (J : It) (S : Hp → Prop), Runs J xs.length S (fun i x H H' => ∃ T v, x = .ref T ∧ H T = none ∧ Ex H H' ∧ H' T = some (.tup [.int (i : Nat), v]) ∧ xs[i]? = some v) → (∀ H', H' a = H1 a → S H') → R J H1) : iEnQ K ta σ H R := h
theorem st_isEnQ {a : Addr} {xs : List V} {R : It → Hp → Prop} (h1 : seqAt H a = some xs) (h : ∀ (J : It) (S : Hp → Prop), Runs J xs.length S (fun i x H H' => ∃ T v, x = .ref T ∧ H T = none ∧ Ex H H' ∧ H' T = some (.tup [.int (i : Nat), v]) ∧ xs[i]? = some v) → (∀ H', H' a = H a → S H') → R J H) : ∃ a' xs', [V.ref a] = [.ref a'] ∧ seqAt H a' = some xs' ∧ ∀ (J : It) (S : Hp → Prop), Runs J xs'.length S (fun i x H H' => ∃ T v, x = .ref T ∧ H T = none ∧ Ex H H' ∧ H' T = some (.tup [.int (i : Nat), v]) ∧ xs'[i]? = some v) → (∀ H', H' a' = H a' → S H') → R J H := ⟨a, xs, rfl, h1, h⟩
end
def rIsT2 : List V → Hp → VK → Prop := fun vs H Q => ∃ (x : V) (tp : Addr) (n m t : String) (b c : Bool), vs = [x, .ref tp] ∧ H tp = some (.tup [.ty n, .ty m]) ∧ tyN H x = some t ∧ kitB t n = some b ∧ kitB t m = some c ∧ Q (.bl (b || c)) H
theorem kitAny_two {K : PySem.W.Frag} {t n m : String} {b c : Bool} (h1 : kitB t n = some b) (h2 : kitB t m = some c) : PySem.W.kitAny K (.type t) [.type n, .type m] = some (b || c) := by
  refine kitAny_cons (kit_ty h1) (fun hb => ?_) (fun hb => by rw [hb]; rfl)
  refine kitAny_cons (kit_ty h2) (fun hc => ?_) (fun hc => by rw [hc, Bool.or_true])
  rw [hb, hc]
  rfl
theorem c_isT2 {X : Cx} : CallR X (.builtin "isinstance") rIsT2 := by
  intro pins s σ H xs us Q I r h
  obtain ⟨x, tp, n, m, t, b, c, rfl, hT, ht, h1, h2, q⟩ := h
  exact call_isiT pins s σ H _ us Q I r ⟨x, tp, _, _, [.type n, .type m], b || c, rfl, hT, .cons (.ty _) (.cons (.ty _) .nil), tyN_ok ht, kitAny_two h1 h2, q⟩
theorem st_isT2 {H : Hp} {Q : VK} {x : V} {tp : Addr} {n m t : String} {b c : Bool} (hT : H tp = some (.tup [.ty n, .ty m])) (ht : tyN H x = some t) (h1 : kitB t n = some b) (h2 : kitB t m = some c) (h : Q (.bl (b || c)) H) : rIsT2 [x, .ref tp] H Q := ⟨x, tp, n, m, t, b, c, rfl, hT, ht, h1, h2, h⟩
theorem seqAt_eq {H H' : Hp} {a : Addr} {xs : List V} (h : seqAt H a = some xs) (e : H' a = H a) : seqAt H' a = some xs := by
  unfold seqAt at h ⊢
  rw [e]
  exact h
theorem seqAt_ex {H H' : Hp} {a : Addr} {xs : List V} (e : Ex H H') (h : seqAt H a = some xs) : seqAt H' a = some xs := by
  cases q : H a with
  | none => unfold seqAt at h; rw [q] at h; cases h
  | some o => exact seqAt_eq h (by rw [e a o (fun z => z) q, q])
theorem seqAt_same {H H' : Hp} {a : Addr} {xs : List V} (e : Ex H H') (h : seqAt H a = some xs) : H' a = H a := by
  cases q : H a with
  | none => unfold seqAt at h; rw [q] at h; cases h
  | some o => exact e a o (fun z => z) q
theorem seqAt_same' {M : Addr → Prop} {H H' : Hp} {a : Addr} {xs : List V} (e : Fr M H H') (n : ¬ M a) (h : seqAt H a = some xs) : H' a = H a := by
  cases q : H a with
  | none => unfold seqAt at h; rw [q] at h; cases h
  | some o => exact e a o n q
theorem st_isLT {H : Hp} {Q : VK} {x : V} {d : PyData} {tp : Addr} (h1 : Rq H x d) (hT : H tp = some (.tup [.ty "list", .ty "tuple"])) (h : Q (.bl (isListD d || isTupD d)) H) : rIsT2 [x, .ref tp] H Q := by
  obtain ⟨a1, a2, a3, a4, a5, a6, a7⟩ := kb_list
  obtain ⟨b1, b2, b3, b4, b5, b6, b7⟩ := kb_tup
  refine st_isT2 hT h1.tyn (b := isListD d) (c := isTupD d) ?_ ?_ h
  all_goals (cases d <;> assumption)
theorem Rn.seq {H : Hp} {x : V} {d : PyData} (h : Rn H x d) (hd : (isListD d || isTupD d) = true) : ∃ a xs ds, x = .ref a ∧ seqAt H a = some xs ∧ RnA H xs ds ∧ (d = .list ds ∨ d = .tuple ds) := by
  cases h with
  | lst h k => exact ⟨_, _, _, rfl, seq_l h, k, .inl rfl⟩
  | tup h k => exact ⟨_, _, _, rfl, seq_t h, k, .inr rfl⟩
  | _ => cases hd
def rDivW : R2 := fun x y H Q => match x, y with
  | .int i, .int j => 0 < j ∧ j < 1267650600228229401496703205376 ∧ Q (.int (i / j)) H
  | _, _ => False
theorem o_divW {X : Cx} : OpR X (binaryOp .FloorDiv) rDivW := by
  intro pins s σ H x y v u Q I rx ry h
  unfold rDivW at h
  split at h
  · obtain ⟨h1, h2, q⟩ := h
    exact op_fdivW pins s σ H _ _ v u Q I rx ry ⟨_, _, rfl, rfl, wide_div (b := 100) h1 (by omega) (by decide) (by decide), q⟩
  · exact h.elim
theorem st_divW {H : Hp} {Q : VK} {i j : Int} (hc : 0 < j ∧ j < 1267650600228229401496703205376) (h : Q (.int (i / j)) H) : rDivW (.int i) (.int j) H Q := ⟨hc.1, hc.2, h⟩
end Zb
namespace Zb
open PySem PySem.Spec PyProof.Rows L2
theorem rv_of {α : Type} {J : It} {S : Hp → Prop} {ys : List α} {val : α → V} (h : Runs J (ys.map val).length S (fun i x H H' => H' = H ∧ (ys.map val)[i]? = some x)) : RunsV J ys val S := by
  rw [List.length_map] at h
  refine ⟨h.go, h.stop, fun i H x H' hi s y => ?_⟩
  obtain ⟨e1, e2⟩ := h.yld i H x H' hi s y
  rw [List.getElem?_map] at e2
  cases q : ys[i]? with
  | none => rw [q] at e2; cases e2
  | some z =>
    rw [q] at e2
    exact ⟨e1, z, rfl, (Option.some.inj e2).symm⟩
/-- a comprehension, turn by turn, no test -/
theorem lc_turns {J : It} {S : Hp → Prop} {item : Nat → V → Hp → Hp → Prop} {g : TG} {σ : L2.St} {H1 : Hp} {te : TE} {vs : List Nat} {Q : VK} {n : Nat} (hR : Runs J n S item) (hE : ∀ i x H H', item i x H H' → Ex H H') (hS : ∀ H', Ex H1 H' → S H') (hz : n < 1000000) (f : Nat → V)
    (hs : ∀ i x H' H'', i < n → Ex H1 H' → item i x H' H'' → ∀ (B : V → Hp → Prop), (∀ H3, Ex H'' H3 → B (f i) H3) → g x (wipe σ vs) H'' fun σ2 H2 => wipe σ2 vs = wipe σ vs ∧ te σ2 H2 B)
    (hd : ∀ D H', H1 D = none → Ex H1 H' → H' D = some (.lst ((List.range n).map f)) → Q (.ref D) H')
    (hg : ∀ v σ H (P P' : L2.St → Hp → Prop), (∀ σ H, P σ H → P' σ H) → g v σ H P → g v σ H P' := by intro _ _ _ _ _ k h; exact k _ _ h) : LcGoal J g tYes te vs σ Q H1 := by
  refine lc_runs hR (fun _ => False) (fun i acc _ => acc = (List.range i).map f) (fun _ z => z.elim) rfl (fun i acc H' D o _ _ e => e) (fun i acc H' e _ => hS H' e) ?_ ?_
  · rintro D i acc x H' H'' hi L rfl hx
    have e := hE _ _ _ _ hx
    refine hg _ _ _ _ _ (fun σ2 H2 h => ⟨h.1, h.2⟩) (hs i x H' H'' hi L.fr hx (fun v H4 => ∃ acc, H4 D = some (.lst acc) ∧ acc.length < sizeLine ∧ LcW (fun _ => False) H1 (fun i acc _ => acc = (List.range i).map f) D (i + 1) (upd H4 D (.lst (acc ++ [v])))) fun H3 e3 => ?_)
    refine lc_yes L (fun i acc H' D o _ _ e => e) (e.trans e3) (by rw [List.length_map, List.length_range]; omega) ?_
    rw [List.range_succ, List.map_append]
    rfl
  · rintro D acc H' hD e h rfl
    exact hd D H' hD e h
theorem gTup_mono {K : PySem.W.Frag} {n i j : Nat} : ∀ v σ H (P P' : L2.St → Hp → Prop), (∀ σ H, P σ H → P' σ H) → gTup K n (gCons (gName i) (gCons (gName j) gNil)) v σ H P → gTup K n (gCons (gName i) (gCons (gName j) gNil)) v σ H P' := by
  intro v σ H P P' k h
  obtain ⟨a, xs, h1, h2, h3, v1, r1, e1, v2, r2, e2, e3, h4⟩ := h
  exact ⟨a, xs, h1, h2, h3, v1, r1, e1, v2, r2, e2, e3, k _ _ h4⟩
/-- turns of a range that goes down to nought -/
theorem rgc_down {i : Int} {n : Nat} (h0 : i = (n : Int) - 1) (hn : n ≤ 1000000) : RgC i (-1) (-1) n := by
  subst h0
  have := RgC.neg (i := (n : Int) - 1) (j := -1) (by omega) (by omega) (by omega) (by omega)
  rwa [show ((n : Int) - 1 - -1).toNat = n by omega] at this
/-- tuples of like things: the very same ones, or data that are alike -/
inductive Lk (H : Hp) : V → V → Prop
  | same (a : Addr) : Lk H (.ref a) (.ref a)
  | dat {x y : V} {d e : PyData} : Rp H x d → Rp H y e → min d.depth e.depth ≤ 60 → PyData.eqv d e = true → Lk H x y
section
variable {K : PySem.W.Frag} {H : Hp} {Q : VK}
theorem Lk.str (z : Str) : Lk H (.str z) (.str z) := .dat (.str z) (.str z) (by simp [PyData.depth]) (by rw [eqv_str]; exact decide_eq_true rfl)
theorem Lk.bl (z : Bool) : Lk H (.bl z) (.bl z) := .dat (.bl z) (.bl z) (by simp [PyData.depth]) (by cases z <;> rfl)
theorem Lk.int (z : Int) : Lk H (.int z) (.int z) := .dat (.int z) (.int z) (by simp [PyData.depth]) (by rw [eqv_int]; exact decide_eq_true rfl)
theorem st_dinU {ty td : TE} {σ : L2.St} (h : ty σ H fun y H1 => td σ H1 fun x H2 => ∃ a o, x = .ref a ∧ DGet H2 a y o ∧ Q (.bl o.isSome) H2) : tDIn ty td σ H Q := h
theorem st_dninU {ty td : TE} {σ : L2.St} (h : ty σ H fun y H1 => td σ H1 fun x H2 => ∃ a o, x = .ref a ∧ DGet H2 a y o ∧ Q (.bl (!o.isSome)) H2) : tDNotIn ty td σ H Q := h
theorem st_dputU {td ty tv : TE} {D : Ends} {σ : L2.St} (h : tv σ H fun v H1 => td σ H1 fun x H2 => ty σ H2 fun y H3 => ∃ a H4, x = .ref a ∧ DPut H3 a y v H4 ∧ D.nx σ H4) : sDPut td ty tv D σ H := h
theorem st_dnewT {σ : L2.St} (h : ∀ p H', H p = none → Ex H H' → H' p = some (.dT []) → Q (.ref p) H') : tDNewT σ H Q := fun p hp => h p _ hp (Fr.new hp) upd_same
end
end Zb
namespace Zb
open PySem PySem.Spec PyProof.Rows L2
/-- a method of the class cls -/
structure Dm (K : PySem.W.Frag) (cls m qual : Str) (st : Stmt) (ps : List Str) (f : Addr) (fd : FuncData) : Prop where
  g : Meth K (clsA K cls) m f
  F : Fun K m qual st f fd
  b : Binds K fd ps []
theorem dm_mk {K : PySem.W.Frag} {cls m qual : Str} {st : Stmt} {ps : List Str} {f : Addr} {oc : Value} {od an : Option Addr} {osl : Array (Option Value)} {kV dc pm cd ct : Value}
    (a : PySem.W.findIn K (.ref (clsA K cls)) m = some (some (.ref f))) (i : PySem.W.isFn K (.ref f) = true) (l : K.lookup f = some ⟨oc, od, .func (PySem.W.fnOf m qual (defArgs st) (defBody st) (defScope st) .none kV dc pm an cd ct), osl⟩) (c : PySem.W.codeIn K cd qual = true) (k : PySem.W.keepIn K (.ref f) = true)
    (hb : ∀ (kV doc pm : Value) (an : Option Addr) (cdv ct : Value) (us : List Value), us.length = ps.length → bindArgs (PySem.W.fnOf m qual (defArgs st) (defBody st) (defScope st) .none kV doc pm an cdv ct) ⟨us, []⟩ = pure (ps.zip us)) :
    Dm K cls m qual st ps f (PySem.W.fnOf m qual (defArgs st) (defBody st) (defScope st) .none kV dc pm an cd ct) :=
  have F := fun_mk (st := st) l c k
  ⟨⟨a, i, k⟩, F, F.binds hb⟩
section
variable {X : Cx} {K : PySem.W.Frag} {e o value : Expr} {f : Str} {pos pos' : Pos} {ta tv : TE}
theorem pe_fldK (he : PE X e ta) (hb : attributeBase e f X.env (eval e X.env) = eval e X.env) (hK : X.K = K := by rfl) : PE X (.Attribute e f pos) (tFld K ta f) := by subst hK; exact pe_fld he hb
theorem ps_fldK (ha : PE X o ta) (hv : PE X value tv) (hs : swapsWith value (some (.Attribute o f pos')) pos.line X.env = pure false) (hK : X.K = K := by rfl) : PS X (.Assign [.Attribute o f pos'] value pos) (sFld K ta tv f) := by subst hK; exact ps_fld ha hv hs
end
section
variable {K : PySem.W.Frag} {σ : L2.St} {H : Hp} {Q : VK} {D : Ends} {C : Addr}
def FldP (K : PySem.W.Frag) (f : Str) (Q : VK) (x : V) (H1 : Hp) : Prop := ∃ a C dx fs v, x = .ref a ∧ H1 a = some (.ins C dx fs) ∧ Cls K C ∧ NoAttr K C f ∧ fs.lookup f = some v ∧ Q v H1
theorem st_fld {ta : TE} {f : Str} (h : ta σ H (FldP K f Q)) : tFld K ta f σ H Q := h
theorem st_fldP {f : Str} {a dx : Addr} {fs : List (Str × V)} {v : V} (h1 : H a = some (.ins C dx fs)) (c : Cls K C) (n : NoAttr K C f) (l : fs.lookup f = some v) (h : Q v H) : FldP K f Q (.ref a) H := ⟨a, C, dx, fs, v, rfl, h1, c, n, l, h⟩
def FldS (K : PySem.W.Frag) (f : Str) (y : V) (P : Hp → Prop) (x : V) (H2 : Hp) : Prop := ∃ a C dx fs, x = .ref a ∧ H2 a = some (.ins C dx fs) ∧ Cls K C ∧ NoAttr K C f ∧ fs.length < 1000 ∧ P (upd H2 a (.ins C dx (putF f y fs)))
theorem st_fldS {ta tv : TE} {f : Str} (h : tv σ H fun y H1 => ta σ H1 (FldS K f y (D.nx σ))) : sFld K ta tv f D σ H := h
theorem st_fldSP {f : Str} {y : V} {P : Hp → Prop} {a dx : Addr} {fs : List (Str × V)} (h1 : H a = some (.ins C dx fs)) (c : Cls K C) (n : NoAttr K C f) (l : fs.length < 1000) (h : P (upd H a (.ins C dx (putF f y fs)))) : FldS K f y P (.ref a) H := ⟨a, C, dx, fs, rfl, h1, c, n, l, h⟩
theorem putF_nil {f : Str} {y : V} : putF f y [] = [(f, y)] := rfl
theorem putF_ne {f g : Str} {y v : V} {r : List (Str × V)} (h : ¬ g = f) : putF f y ((g, v) :: r) = (g, v) :: putF f y r := by
  show (if g = f then _ else _) = _
  rw [if_neg h]
def MethP (C : Addr) (m : Str) (sp : Sp) (dvs : List V) (E : XK) (t : TA) (σ : L2.St) (Q : VK) (x : V) (H1 : Hp) : Prop := ∃ a dx fs, x = .ref a ∧ H1 a = some (.ins C dx fs) ∧ fs.lookup m = none ∧ t σ H1 fun vs H2 => sp (x :: (vs ++ dvs)) H2 Q E
theorem st_meth {m : Str} {sp : Sp} {dvs : List V} {E : XK} {ta : TE} {t : TA} (h : ta σ H (MethP C m sp dvs E t σ Q)) : tMeth C m sp dvs E ta t σ H Q := h
theorem st_methP {m : Str} {sp : Sp} {dvs : List V} {E : XK} {t : TA} {a dx : Addr} {fs : List (Str × V)} (h1 : H a = some (.ins C dx fs)) (l : fs.lookup m = none) (h : t σ H fun vs H2 => sp (.ref a :: (vs ++ dvs)) H2 Q E) : MethP C m sp dvs E t σ Q (.ref a) H := ⟨a, dx, fs, rfl, h1, l, h⟩
def MakeP (C : Addr) (sp : Sp) (dvs : List V) (E : XK) (Q : VK) (vs : List V) (H1 : Hp) : Prop := ∀ x dx, H1 x = none → H1 dx = none → dx ≠ x → sp (.ref x :: (vs ++ dvs)) (upd (upd H1 dx (.own x)) x (.ins C dx [])) (fun v H2 => v = .non ∧ Q (.ref x) H2) E
theorem st_make {sp : Sp} {dvs : List V} {E : XK} {t : TA} (h : t σ H (MakeP C sp dvs E Q)) : tMake C sp dvs E t σ H Q := h
theorem st_makeP {sp : Sp} {dvs : List V} {E : XK} {vs : List V} (h : ∀ x dx H', H x = none → Ex H H' → H' x = some (.ins C dx []) → sp (.ref x :: (vs ++ dvs)) H' (fun v H2 => v = .non ∧ Q (.ref x) H2) E) : MakeP C sp dvs E Q vs H := fun x dx nx nd ne =>
  h x dx _ nx ((Fr.new nd).trans (Fr.new (by rw [upd_ne (Ne.symm ne)]; exact nx))) upd_same
end
/-- a comprehension whose items are new objects of which something is told -/
theorem lc_mk {J : It} {S : Hp → Prop} {item : Nat → V → Hp → Hp → Prop} {g : TG} {σ : L2.St} {H1 : Hp} {te : TE} {vs : List Nat} {Q : VK} {n : Nat} (hR : Runs J n S item) (hE : ∀ i x H H', item i x H H' → Ex H H') (hS : ∀ H', Ex H1 H' → S H') (hz : n < 1000000) (R : Nat → HO → Prop)
    (hs : ∀ i x H' H'', i < n → Ex H1 H' → item i x H' H'' → ∀ (B : V → Hp → Prop), (∀ a H3 o, H'' a = none → Ex H'' H3 → H3 a = some o → R i o → B (.ref a) H3) → g x (wipe σ vs) H'' fun σ2 H2 => wipe σ2 vs = wipe σ vs ∧ te σ2 H2 B)
    (hd : ∀ D H' ts os, H1 D = none → Ex H1 H' → H' D = some (.lst (ts.map V.ref)) → ObjsAt H' ts os → os.length = n → (∀ i o, os[i]? = some o → R i o) → D ∉ ts → (∀ a ∈ ts, H1 a = none) → Q (.ref D) H')
    (hg : ∀ v σ H (P P' : L2.St → Hp → Prop), (∀ σ H, P σ H → P' σ H) → g v σ H P → g v σ H P' := by intro _ _ _ _ _ k h; exact k _ _ h) : LcGoal J g tYes te vs σ Q H1 := by
  intro D hD
  let W : Nat → Hp → Prop := fun i H => ∃ (ts : List Addr) (os : List HO), H D = some (.lst (ts.map V.ref)) ∧ Ex H1 H ∧ ObjsAt H ts os ∧ os.length = i ∧ (∀ j o, os[j]? = some o → R j o) ∧ D ∉ ts ∧ ∀ a ∈ ts, H1 a = none
  refine ⟨fun i m H => m = n - i ∧ i ≤ n ∧ W i H, ⟨n, by simp, Nat.zero_le _, [], [], upd_same, Fr.new hD, .nil, rfl, by simp, by simp, by simp⟩, ?_⟩
  rintro i m H ⟨rfl, hi, ts, os, h1, h2, h3, h4, h5, h6, h7⟩
  by_cases hlt : i < n
  · refine .inr ⟨hR.go i H hlt (hS H h2), W (i + 1), fun H' p' => ⟨n - (i + 1), by omega, rfl, hlt, p'⟩, fun x H' y => ?_⟩
    have hx := hR.yld i H x H' hlt (hS H h2) y
    have e := hE _ _ _ _ hx
    refine hg _ _ _ _ _ (fun σ2 H2 h => ⟨h.1, h.2⟩) (hs i x H H' hlt h2 hx (fun v H4 => ∃ acc, H4 D = some (.lst acc) ∧ acc.length < sizeLine ∧ W (i + 1) (upd H4 D (.lst (acc ++ [v])))) ?_)
    intro a H3 o ha e3 hv hr
    have h1' := e.get h1
    have hDa : a ≠ D := fun z => by rw [z, h1'] at ha; cases ha
    have haN : a ∉ ts := fun z => by
      obtain ⟨k, hk⟩ := List.getElem?_of_mem z
      have hk2 : k < os.length := by
        rw [← h3.len]; exact (List.getElem?_eq_some_iff.mp hk).1
      have := e.get (h3.at k a _ hk (List.getElem?_eq_getElem hk2))
      rw [this] at ha
      cases ha
    refine ⟨ts.map V.ref, e3.get h1', by rw [List.length_map, h3.len, sl16]; omega, ts ++ [a], os ++ [o], by rw [upd_same, List.map_append]; rfl, ((h2.trans e).trans e3).mut hD, ?_, by rw [List.length_append, h4]; rfl, ?_, ?_, ?_⟩
    · refine .up ?_ (((h3.ex e).ex e3).app (.one hv))
      rw [List.mem_append, List.mem_singleton]
      rintro (z | z)
      · exact h6 z
      · exact hDa z.symm
    · intro j o' ho
      by_cases hj : j < os.length
      · rw [List.getElem?_append_left hj] at ho
        exact h5 j o' ho
      · rw [List.getElem?_append_right (by omega)] at ho
        have hj0 : j - os.length = 0 := by
          have := (List.getElem?_eq_some_iff.mp ho).1
          rw [List.length_singleton] at this
          omega
        rw [hj0] at ho
        cases ho
        rw [show j = i by omega]
        exact hr
    · rw [List.mem_append, List.mem_singleton]
      rintro (z | z)
      · exact h6 z
      · exact hDa z.symm
    · intro b hb
      rcases List.mem_append.mp hb with h | h
      · exact h7 b h
      · rw [List.mem_singleton.mp h]; exact Ex.free (h2.trans e) ha
  · have e : i = n := by omega
    subst e
    exact .inl ⟨hR.stop H (hS H h2), hd D H ts os hD h2 h1 h3 h4 h5 h6 h7⟩
theorem objs_choose {α : Type} {f : α → HO} {P : Nat → α → Prop} : ∀ {os : List HO}, (∀ i o, os[i]? = some o → ∃ c, o = f c ∧ P i c) → ∃ cs : List α, os = cs.map f ∧ ∀ i c, cs[i]? = some c → P i c := by
  intro os
  induction os using snoc_ind with
  | h0 => intro _; exact ⟨[], rfl, by simp⟩
  | hs l a ih =>
    intro h
    obtain ⟨cs, h1, h2⟩ := ih fun i o ho => h i o (by rw [List.getElem?_append_left (List.getElem?_eq_some_iff.mp ho).1]; exact ho)
    obtain ⟨c, h3, h4⟩ := h l.length a (by rw [List.getElem?_append_right (Nat.le_refl _), Nat.sub_self]; rfl)
    have hl : l.length = cs.length := by rw [h1, List.length_map]
    refine ⟨cs ++ [c], by rw [h1, h3, List.map_append]; rfl, fun i d hd => ?_⟩
    by_cases hi : i < cs.length
    · rw [List.getElem?_append_left hi] at hd
      exact h2 i d hd
    · rw [List.getElem?_append_right (by omega)] at hd
      have hi0 : i - cs.length = 0 := by
        have := (List.getElem?_eq_some_iff.mp hd).1
        rw [List.length_singleton] at this
        omega
      rw [hi0] at hd
      cases hd
      rw [show i = l.length by omega]
      exact h4
theorem evL_len {α : Type} : ∀ xs : List α, (evL xs).length = (xs.length + 1) / 2
  | [] => by simp [evL]
  | [_] => by simp [evL]
  | a :: b :: r => by
    show (evL r).length + 1 = (r.length + 2 + 1) / 2
    rw [evL_len r]
    omega
theorem odL_len {α : Type} : ∀ xs : List α, (odL xs).length = xs.length / 2
  | [] => by simp [odL]
  | [_] => by simp [odL]
  | a :: b :: r => by
    show (odL r).length + 1 = (r.length + 2) / 2
    rw [odL_len r]
    omega
/-- what is new in H' -/
def newO (H H' : Hp) : Hp := fun b => if H b = none then H' b else none
theorem newO_get {H H' : Hp} {a : Addr} {o : HO} (h : H' a = some o) (n : H a = none) : newO H H' a = some o := by
  unfold newO
  rw [if_pos n]
  exact h
theorem newO_is {H H' : Hp} {a : Addr} {o : HO} (h : newO H H' a = some o) : H a = none ∧ H' a = some o := by
  unfold newO at h
  by_cases n : H a = none
  · rw [if_pos n] at h; exact ⟨n, h⟩
  · rw [if_neg n] at h; cases h
theorem newO_ex (H H' : Hp) : Ex (newO H H') H' := fun _ _ _ h => (newO_is h).2
theorem newO_mono {H H' H'' : Hp} (e : Ex H' H'') : Ex (newO H H') (newO H H'') := fun b o _ h => newO_get (e.get (newO_is h).2) (newO_is h).1
/-- an old place is changed, a new thing stands -/
theorem newO_fr {H H' G : Hp} (h : ∀ b o, H b = none → H' b = some o → G b = some o) : Ex (newO H H') G := fun b o _ q => h b o (newO_is q).1 (newO_is q).2
theorem objs_in {H G : Hp} : ∀ {ts : List Addr} {os : List HO}, (∀ a ∈ ts, ∀ o, H a = some o → G a = some o) → ObjsAt H ts os → ObjsAt G ts os
  | _, _, _, .nil => .nil
  | _, _, hm, .cons h r => .cons (hm _ List.mem_cons_self _ h) (objs_in (fun a ha => hm a (List.mem_cons_of_mem _ ha)) r)
/-- a comprehension of which something is told item by item -/
theorem lc_rel {J : It} {S : Hp → Prop} {item : Nat → V → Hp → Hp → Prop} {g : TG} {σ : L2.St} {H1 : Hp} {te : TE} {vs : List Nat} {Q : VK} {n : Nat} (hR : Runs J n S item) (hE : ∀ i x H H', item i x H H' → Ex H H') (hS : ∀ H', Ex H1 H' → S H') (hz : n < 1000000) (R : Nat → V → Prop)
    (hs : ∀ i x H' H'', i < n → Ex H1 H' → item i x H' H'' → ∀ (B : V → Hp → Prop), (∀ v H3, R i v → Ex H'' H3 → B v H3) → g x (wipe σ vs) H'' fun σ2 H2 => wipe σ2 vs = wipe σ vs ∧ te σ2 H2 B)
    (hd : ∀ D H' acc, H1 D = none → Ex H1 H' → H' D = some (.lst acc) → acc.length = n → (∀ i v, acc[i]? = some v → R i v) → Q (.ref D) H')
    (hg : ∀ v σ H (P P' : L2.St → Hp → Prop), (∀ σ H, P σ H → P' σ H) → g v σ H P → g v σ H P' := by intro _ _ _ _ _ k h; exact k _ _ h) : LcGoal J g tYes te vs σ Q H1 := by
  refine lc_runs hR (fun _ => False) (fun i acc _ => acc.length = i ∧ ∀ j v, acc[j]? = some v → R j v) (fun _ z => z.elim) ⟨rfl, by simp⟩ (fun i acc H' D o _ _ e => e) (fun i acc H' e _ => hS H' e) ?_ ?_
  · rintro D i acc x H' H'' hi L ⟨hl, hacc⟩ hx
    have e := hE _ _ _ _ hx
    refine hg _ _ _ _ _ (fun σ2 H2 h => ⟨h.1, h.2⟩) (hs i x H' H'' hi L.fr hx (fun v H4 => ∃ acc, H4 D = some (.lst acc) ∧ acc.length < sizeLine ∧ LcW (fun _ => False) H1 (fun i acc _ => acc.length = i ∧ ∀ j v, acc[j]? = some v → R j v) D (i + 1) (upd H4 D (.lst (acc ++ [v])))) fun v H3 hr e3 => ?_)
    refine lc_yes L (fun i acc H' D o _ _ e => e) (e.trans e3) (by omega) ⟨by rw [List.length_append, hl]; rfl, fun j w hw => ?_⟩
    by_cases hj : j < acc.length
    · rw [List.getElem?_append_left hj] at hw
      exact hacc j w hw
    · rw [List.getElem?_append_right (by omega)] at hw
      have hj0 : j - acc.length = 0 := by
        have := (List.getElem?_eq_some_iff.mp hw).1
        rw [List.length_singleton] at this
        omega
      rw [hj0] at hw
      cases hw
      rw [show j = i by omega]
      exact hr
  · rintro D acc H' hD e h ⟨hl, hacc⟩
    exact hd D H' acc hD e h hl hacc
end Zb
namespace Zb
open PySem PySem.Spec PyProof.Rows L2
end Zb
namespace Zb
open PySem PySem.Spec PyProof.Rows L2
open Evl (tCut pss_cut)
/-- an exception of the class cls, its dict at d, kept at a -/
def XkO (a : Addr) (cls : Value) (d : Option Addr) : HO := .ext fun h => ∃ (oe : Obj) (vs : Array Value), h.get? a = some oe ∧ Zc cls d oe ∧ oe.data = .fields vs
def XkP (K : PySem.W.Frag) (n : Str) (Q : VK) : VK := fun x H1 => ∃ (a C dd : Addr) (fs : List (Str × V)) (v : V), x = .ref a ∧ H1 a = some (XkO a (.ref C) (some dd)) ∧ XI K C ∧ PySem.W.findIn K (.ref C) n = some none ∧ H1 dd = some (.xd fs) ∧ fs.lookup n = some v ∧ Q v H1
def tXk (K : PySem.W.Frag) (n : Str) (te : TE) : TE := fun σ H Q => te σ H (XkP K n Q)
section
variable {X : Cx} {K : PySem.W.Frag}
/-- isinstance(e, C), isinstance(e, (C1, ..)), e a kept exception -/
def rIsK (K : PySem.W.Frag) : List V → Hp → VK → Prop := fun xs H Q => ∃ (a : Addr) (c : V) (cv : Value) (b : Bool) (C dd : Addr) (fs : List (Str × V)), xs = [.ref a, c] ∧ H a = some (XkO a (.ref C) (some dd)) ∧ (∀ u, RelV c u → u = cv) ∧ XI K C ∧ H dd = some (.xd fs) ∧ PySem.W.kitOne K (.ref C) cv = some b ∧ Q (.bl b) H
def rIsKs (K : PySem.W.Frag) : List V → Hp → VK → Prop := fun xs H Q => ∃ (a tp : Addr) (cs : List V) (cvs : List Value) (b : Bool) (C dd : Addr) (fs : List (Str × V)), xs = [.ref a, .ref tp] ∧ H a = some (XkO a (.ref C) (some dd)) ∧ H tp = some (.tup cs) ∧ (∀ us, Vals cs us → us = cvs) ∧ XI K C ∧ H dd = some (.xd fs) ∧ PySem.W.kitAny K (.ref C) cvs = some b ∧ Q (.bl b) H
end
section
variable {K : PySem.W.Frag} {σ : L2.St} {H : Hp} {Q : VK}
theorem st_xk {n : Str} {te : TE} (h : te σ H (XkP K n Q)) : tXk K n te σ H Q := h
theorem st_xkP {a C dd : Addr} {n : Str} {fs : List (Str × V)} {v : V} (h0 : H a = some (XkO a (.ref C) (some dd))) (T : XI K C) (hno : PySem.W.findIn K (.ref C) n = some none) (h1 : H dd = some (.xd fs)) (h2 : fs.lookup n = some v) (h : Q v H) : XkP K n Q (.ref a) H := ⟨a, C, dd, fs, v, rfl, h0, T, hno, h1, h2, h⟩
theorem st_isK {a C C' dd : Addr} {fs : List (Str × V)} {b : Bool} (h0 : H a = some (XkO a (.ref C) (some dd))) (T : XI K C) (h1 : H dd = some (.xd fs)) (e : PySem.W.kitOne K (.ref C) (.ref C') = some b) (h : Q (.bl b) H) : rIsK K [.ref a, .ref C'] H Q :=
  ⟨a, .ref C', .ref C', b, C, dd, fs, rfl, h0, fun u r => by cases r; rfl, T, h1, e, h⟩
theorem st_isKT {a C dd : Addr} {fs : List (Str × V)} {n : String} {b : Bool} (h0 : H a = some (XkO a (.ref C) (some dd))) (T : XI K C) (h1 : H dd = some (.xd fs)) (e : PySem.W.kitOne K (.ref C) (.type n) = some b) (h : Q (.bl b) H) : rIsK K [.ref a, .ty n] H Q :=
  ⟨a, .ty n, .type n, b, C, dd, fs, rfl, h0, fun u r => by cases r; rfl, T, h1, e, h⟩
/-- of no class among these -/
inductive KitN (K : PySem.W.Frag) (C : Addr) : List V → Prop
  | nil : KitN K C []
  | cons {D : Addr} {l : List V} : PySem.W.kitOne K (.ref C) (.ref D) = some false → KitN K C l → KitN K C (.ref D :: l)
theorem KitN.any {C : Addr} : ∀ {l : List V}, KitN K C l → ∃ cvs : List Value, (∀ us, Vals l us → us = cvs) ∧ PySem.W.kitAny K (.ref C) cvs = some false
  | _, .nil => ⟨[], fun us r => by cases r; rfl, rfl⟩
  | _, .cons (D := D) h t => by
    obtain ⟨cvs, h1, h2⟩ := t.any
    refine ⟨.ref D :: cvs, fun us r => ?_, ?_⟩
    · cases r with
      | cons r1 rr =>
        cases r1
        rw [h1 _ rr]
    · unfold PySem.W.kitAny
      rw [h]
      exact h2
theorem st_isKs {a C dd tp : Addr} {cs : List V} {fs : List (Str × V)} (h0 : H a = some (XkO a (.ref C) (some dd))) (T : XI K C) (h1 : H dd = some (.xd fs)) (ht : H tp = some (.tup cs)) (k : KitN K C cs) (h : Q (.bl false) H) : rIsKs K [.ref a, .ref tp] H Q := by
  obtain ⟨cvs, k1, k2⟩ := k.any
  exact ⟨a, tp, cs, cvs, false, C, dd, fs, rfl, h0, ht, k1, T, h1, k2, h⟩
end
end Zb
namespace Zb
open PySem PySem.Spec PyProof.Rows L2
open Evl (tCut pss_cut)
def rRv : V → Hp → VK → Prop := fun x H Q => ∃ a xs, x = .ref a ∧ ((lstAt H a = some xs ∧ ∀ q, H q = none → Q (.ref q) (upd H q (.lst xs.reverse))) ∨ (tupAt H a = some xs ∧ ∀ q, H q = none → Q (.ref q) (upd H q (.tup xs.reverse))))
def tRv (te ts : TE) : TE := fun σ H Q => te σ H fun x H1 => ts σ H1 fun s H4 => s = .int (-1) ∧ rRv x H4 Q
section
variable {K : PySem.W.Frag} {σ : L2.St} {H : Hp} {Q : VK}
def RvP (Q : VK) (x s : V) (H4 : Hp) : Prop := s = .int (-1) ∧ rRv x H4 Q
theorem st_rv {te ts : TE} (h : te σ H fun x H1 => ts σ H1 fun s H4 => RvP Q x s H4) : tRv te ts σ H Q := h
theorem st_rvQ {a : Addr} {xs : List V} (h1 : seqAt H a = some xs) (h : ∀ q H', H q = none → Ex H H' → seqAt H' q = some xs.reverse → Q (.ref q) H') : RvP Q (.ref a) (.int (-1)) H :=
  ⟨rfl, a, xs, rfl, (seqAt_cases h1).elim (fun z => .inl ⟨z, fun q hq => h q _ hq (Fr.new hq) (seq_l upd_same)⟩) fun z => .inr ⟨z, fun q hq => h q _ hq (Fr.new hq) (seq_t upd_same)⟩⟩
end
end Zb
namespace SrtO
open PySem PyProof.Rows Srt
end SrtO
namespace Zb
open PySem PySem.Spec PyProof.Rows L2
end Zb
namespace Zb
open PySem PySem.Spec PyProof.Rows L2
/-- x += a text -/
def rIpS : R2 := fun x y H Q => ∃ a b : Str, x = .str a ∧ y = .str b ∧ a.length + b.length ≤ 16777216 ∧ Q (.str (a ++ b)) H
section
variable {σ : L2.St} {H : Hp} {Q : VK} {D : Ends}
theorem st_augS {i : Nat} {te : TE} {z : Str} (hx : σ[i]? = some (some (.str z))) (h : te σ H (fun y H1 => rIpS (.str z) y H1 fun z H2 => D.nx (σ.set i (some z)) H2)) : tAug i te rIpS D σ H := ⟨_, hx, h⟩
theorem st_ipS {x y : Str} (hz : x.length + y.length ≤ 16777216) (h : Q (.str (x ++ y)) H) : rIpS (.str x) (.str y) H Q := ⟨x, y, rfl, rfl, hz, h⟩
end
end Zb
namespace Zb
open PySem PySem.Spec PyProof.Rows L2
section
variable {J : It} {S : Hp → Prop} {g : TG} {σ : L2.St} {H1 : Hp}
/-- a comprehension whose turns each make new things: P, what is told of the one at an address -/
theorem lc_made {α : Type} {ys : List α} {val : α → V} {te : TE} {vs : List Nat} {Q : VK} (hR : RunsV J ys val S) (hS : ∀ H', Ex H1 H' → S H') (hz : ys.length < 1000000) (P : α → Addr → Hp → Prop) (hP : ∀ y a H H', P y a H → Ex H H' → P y a H')
    (hs : ∀ y H', y ∈ ys → Ex H1 H' → ∀ (B : V → Hp → Prop), (∀ a H'', Ex H' H'' → (∀ G : Hp, (∀ b o, H' b = none → H'' b = some o → G b = some o) → P y a G) → B (.ref a) H'') → g (val y) (wipe σ vs) H' fun σ2 H2 => wipe σ2 vs = wipe σ vs ∧ te σ2 H2 B)
    (hd : ∀ D H' (ts : List Addr), H1 D = none → Ex H1 H' → H' D = some (.lst (ts.map V.ref)) → ts.length = ys.length → (∀ (k : Nat) (a : Addr) (y : α), ts[k]? = some a → ys[k]? = some y → P y a H') → Q (.ref D) H')
    (hg : ∀ v σ H (P P' : L2.St → Hp → Prop), (∀ σ H, P σ H → P' σ H) → g v σ H P → g v σ H P' := by intro _ _ _ _ _ k h; exact k _ _ h) : LcGoal J g tYes te vs σ Q H1 := by
  intro D hD
  obtain ⟨W, hW⟩ : ∃ W : Nat → Hp → Prop, W = fun i H => ∃ ts : List Addr, H D = some (.lst (ts.map V.ref)) ∧ Ex H1 H ∧ ts.length = i ∧ ∀ (k : Nat) (a : Addr) (y : α), ts[k]? = some a → ys[k]? = some y → P y a (hid D H) := ⟨_, rfl⟩
  have hWi : ∀ i H, W i H ↔ ∃ ts : List Addr, H D = some (.lst (ts.map V.ref)) ∧ Ex H1 H ∧ ts.length = i ∧ ∀ (k : Nat) (a : Addr) (y : α), ts[k]? = some a → ys[k]? = some y → P y a (hid D H) := fun i H => by rw [hW]
  refine ⟨fun i m H => m = ys.length - i ∧ i ≤ ys.length ∧ W i H, ⟨ys.length, by simp, Nat.zero_le _, (hWi _ _).mpr ⟨[], upd_same, Fr.new hD, rfl, fun k a y h _ => by simp at h⟩⟩, ?_⟩
  rintro i m H ⟨rfl, hi, hw⟩
  obtain ⟨ts, h1, h2, h3, h4⟩ := (hWi _ _).mp hw
  by_cases hlt : i < ys.length
  · refine .inr ⟨hR.go i H hlt (hS H h2), W (i + 1), fun H' p' => ⟨ys.length - (i + 1), by omega, rfl, hlt, p'⟩, fun x H' y => ?_⟩
    obtain ⟨rfl, y0, hy, rfl⟩ := hR.yld i H x H' hlt (hS H h2) y
    refine hg _ _ _ _ _ (fun σ2 H2 h => ⟨h.1, h.2⟩) (hs y0 H' (List.mem_of_getElem? hy) h2 (fun v H4 => ∃ acc, H4 D = some (.lst acc) ∧ acc.length < sizeLine ∧ W (i + 1) (upd H4 D (.lst (acc ++ [v])))) ?_)
    intro a H4 e hn
    have hup : ∀ o, hid D (upd H4 D o) = hid D H4 := fun o => by
      funext b
      unfold hid
      by_cases n : b = D
      · rw [if_pos n, if_pos n]
      · rw [if_neg n, if_neg n, upd_ne n]
    have hst : Ex (hid D H') (hid D H4) := fun b o _ q => by
      unfold hid at q ⊢
      by_cases n : b = D
      · rw [if_pos n] at q; cases q
      · rw [if_neg n] at q ⊢
        exact e.get q
    refine ⟨ts.map V.ref, e.get h1, by rw [List.length_map, sl16]; omega, (hWi _ _).mpr ⟨ts ++ [a], by rw [upd_same, List.map_append]; rfl, (h2.trans e).mut hD, by rw [List.length_append, h3]; rfl, fun k b y hk hky => ?_⟩⟩
    rw [hup]
    by_cases hkl : k < ts.length
    · rw [List.getElem?_append_left hkl] at hk
      exact hP y b _ _ (h4 k b y hk hky) hst
    · rw [List.getElem?_append_right (by omega)] at hk
      have hk0 : k = ts.length := by
        have := (List.getElem?_eq_some_iff.mp hk).1
        rw [List.length_singleton] at this
        omega
      subst hk0
      rw [Nat.sub_self] at hk
      cases hk
      rw [h3, hy] at hky
      cases hky
      exact hn _ fun b o hb ho => hid_get ho fun z => by rw [z, h1] at hb; cases hb
  · have e : i = ys.length := by omega
    subst e
    exact .inl ⟨hR.stop H (hS H h2), hd D H ts hD h2 h1 h3 fun k a y hk hky => hP y a _ _ (h4 k a y hk hky) (hid_ex D H)⟩
end
end Zb
namespace Zb
open PySem PySem.Spec PyProof.Rows L2
section
variable {X : Cx} {CX : CXT} {k : Nat} {f C : Addr} {fd : FuncData} {ps : List Str} {sp : Sp} {E : L2.St → XK} {x m : Str} {p pos apos : Pos} {e o : Expr} {es : List Expr} {ta : TE} {t : TA}
def tMethS (C : Addr) (m : Str) (sp : Sp) (E : L2.St → XK) (ta : TE) (t : TA) : TE := fun σ H Q => ta σ H (MethP C m sp [] (E σ) t σ Q)
def tMakeS (C : Addr) (sp : Sp) (E : L2.St → XK) (t : TA) : TE := fun σ H Q => t σ H (MakeP C sp [] (E σ) Q)
end
section
variable {σ : L2.St} {H : Hp} {Q : VK} {C : Addr} {sp : Sp} {W : WX}
theorem st_methS {m : Str} {ta : TE} {t : TA} (h : ta σ H (MethP C m sp [] (WE W σ) t σ Q)) : tMethS C m sp (WE W) ta t σ H Q := h
theorem st_makeS {t : TA} (h : t σ H (MakeP C sp [] (WE W σ) Q)) : tMakeS C sp (WE W) t σ H Q := h
end
end Zb
namespace Zb
open PySem PySem.Spec PyProof.Rows L2 SrtO
def IsTri (h : Heap) (v : Value) (k : Int × Int × Int) : Prop := ∃ a o t u r n, v = .ref a ∧ h.get? a = some o ∧ o.cls = .type "tuple" ∧ o.data = .seq #[.int k.1 t, .int k.2.1 u, .int k.2.2 r] n
theorem IsTri.keeps {h h' : Heap} {v : Value} {k : Int × Int × Int} (p : IsTri h v k) (kk : ∀ b o, h.get? b = some o → o.cls = .type "tuple" → h'.get? b = some o) : IsTri h' v k := by
  obtain ⟨a, o, t, u, r, n, e, ho, hc, hd⟩ := p
  exact ⟨a, o, t, u, r, n, e, kk _ _ ho hc, hc, hd⟩
def tri3 (q : Int × Int × Int) : HO := .tup [.int q.1, .int q.2.1, .int q.2.2]
abbrev ZT := Addr × (Int × Int × Int)
def T3 (H : Hp) (zs : List ZT) : Prop := ∀ z ∈ zs, H z.1 = some (tri3 z.2)
section
variable {H H' : Hp} {zs ys : List ZT}
theorem T3.ex (h : T3 H zs) (e : Ex H H') : T3 H' zs := fun z hz => e.get (h z hz)
theorem T3.up {D : Addr} {xs : List V} {u : HO} (h : T3 H zs) (hD : H D = some (.lst xs)) : T3 (upd H D u) zs := fun z hz => by
  rw [upd_ne fun e => by have := h z hz; rw [e, hD] at this; cases this]
  exact h z hz
theorem T3.app (h : T3 H zs) (k : T3 H ys) : T3 H (zs ++ ys) := fun z hz => (List.mem_append.mp hz).elim (h z) (k z)
theorem T3.cons {z : ZT} (h : H z.1 = some (tri3 z.2)) (k : T3 H ys) : T3 H (z :: ys) := fun y hy => by
  rcases List.mem_cons.mp hy with rfl | hy
  · exact h
  · exact k y hy
end
def rMin3 : List V → Hp → VK → Prop := fun vs H Q => match vs with
  | [.int i, .int j, .int k] => Q (.int (min (min i j) k)) H
  | _ => False
theorem st_min3 {i j k : Int} {H : Hp} {Q : VK} (h : Q (.int (min (min i j) k)) H) : Zb.rMin3 [.int i, .int j, .int k] H Q := h
end Zb
namespace Zb
open PySem PySem.Spec PyProof.Rows L2
section
variable {X : Cx} {CX : CXT} {k : Nat} {f : Addr} {fd : FuncData} {ps : List Str} {sp : Sp} {E : XK} {e o : Expr} {es : List Expr} {ta : TE} {t : TA} {p1 p2 pos apos : Pos} {nm m : Str}
def MethD (CS : Addr → Prop) (m : Str) (sp : Addr → Sp) (E : XK) (t : TA) (σ : L2.St) (Q : VK) (x : V) (H1 : Hp) : Prop := ∃ a C dx fs, x = .ref a ∧ H1 a = some (.ins C dx fs) ∧ CS C ∧ fs.lookup m = none ∧ t σ H1 fun vs H2 => sp C (x :: vs) H2 Q E
def tMethD (CS : Addr → Prop) (m : Str) (sp : Addr → Sp) (E : XK) (ta : TE) (t : TA) : TE := fun σ H Q => ta σ H (MethD CS m sp E t σ Q)
variable {CS : Addr → Prop} {spD : Addr → Sp}
end
section
variable {σ : L2.St} {H : Hp} {Q : VK} {CS : Addr → Prop} {m : Str} {sp : Addr → Sp} {E : XK}
theorem st_methD {ta : TE} {t : TA} (h : ta σ H (MethD CS m sp E t σ Q)) : tMethD CS m sp E ta t σ H Q := h
end
end Zb
namespace Zb
open PySem PySem.Spec PyProof.Rows L2
section
variable {K : PySem.W.Frag} {H : Hp} {Q : VK}
theorem st_dget {td ty : TE} {σ : L2.St} (h : td σ H fun x H1 => ty σ H1 fun y H2 => ∃ a v, x = .ref a ∧ DGet H2 a y (some v) ∧ Q v H2) : tDGet td ty σ H Q := h
end
end Zb
namespace Zb
open PySem PySem.Spec PyProof.Rows L2
def gvEq : V → Value → Bool
  | .int i, .int j _ => i == j
  | .str x, .str y _ => x == y
  | _, _ => false
theorem gvEq_rel {v : V} {u : Value} (h : gvEq v u = true) : RelV v u := by
  cases v <;> cases u <;> simp only [gvEq, Bool.false_eq_true, beq_iff_eq] at h
  · subst h; exact ⟨_, rfl⟩
  · subst h; exact ⟨_, rfl⟩
def gdAll : List DictEntry → List (Str × V) → Bool
  | [], [] => true
  | e :: es, p :: ps => (match e.key with | .str x _ => x == p.1 | _ => false) && (gvEq p.2 e.val && gdAll es ps)
  | _, _ => false
def valS (kvs : List (Str × V)) (x : Str) : Option V := (kvs.find? fun p => p.1 == x).map (·.2)
theorem gd_find {x : Str} : ∀ {es : List DictEntry} {kvs : List (Str × V)}, gdAll es kvs = true → RelO (valS kvs x) ((es.find? fun e => Value.isStrOf x e.key).map (·.val))
  | [], [], _ => trivial
  | [], _ :: _, h => by cases h
  | _ :: _, [], h => by cases h
  | e :: es, p :: ps, h => by
    unfold gdAll at h
    rw [Bool.and_eq_true, Bool.and_eq_true] at h
    obtain ⟨h1, h2, h3⟩ := h
    obtain ⟨k, t, hk⟩ : ∃ k t, e.key = .str k t := by
      cases q : e.key <;> rw [q] at h1 <;> first | exact ⟨_, _, rfl⟩ | cases h1
    rw [hk] at h1
    have h1 : (k == p.1) = true := h1
    unfold valS
    rw [List.find?_cons, List.find?_cons, hk]
    have e1 : Value.isStrOf x (.str k t) = (p.1 == x) := by
      rw [beq_iff_eq.mp h1]
      unfold Value.isStrOf
      by_cases c : p.1 = x
      · simp [c]
      · have c' : x ≠ p.1 := fun z => c z.symm
        simp [c, c']
    rw [e1]
    cases (p.1 == x) with
    | true => exact gvEq_rel h2
    | false => exact gd_find h3
/-- the dict at a, as the top has written it -/
structure GDat (w : World) (K : PySem.W.Frag) (a : Addr) (kvs : List (Str × V)) : Prop where
  lo : (a == sysModules) = false
  ex : ∃ es n, K.lookup a = some ⟨.type "dict", none, .dict es n, #[]⟩ ∧ PySem.W.KeysLit w.params es.toList ∧ gdAll es.toList kvs = true
section
variable {X : Cx} {pins : List (Addr × Obj)} {σ : L2.St} {H : Hp} {s : Shared} {a : Addr} {kvs : List (Str × V)}
theorem GDat.map (g : GDat X.w X.K a kvs) (I : Inv X pins σ H s) : ∃ f, s.heap.MapOf (PySem.strKind X.prog X.w) a f ∧ ∀ x, RelO (valS kvs x) (f x) := by
  obtain ⟨es, n, h1, h2, h3⟩ := g.ex
  refine ⟨_, PySem.W.mapOf_K I.kIn h1 h2, fun x => ?_⟩
  obtain ⟨l⟩ := es
  have := gd_find (x := x) h3
  unfold PySem.findBy
  rw [List.find?_toArray]
  exact this
end
def tGGet1 (w : World) (K : PySem.W.Frag) (td ty : TE) : TE := fun σ H Q => td σ H fun x H1 => ∃ a kvs, x = .ref a ∧ GDat w K a kvs ∧ ty σ H1 fun y H2 => ∃ k, y = .str k ∧ Q ((valS kvs k).getD .non) H2
def tGGet2 (w : World) (K : PySem.W.Frag) (td ty tx : TE) : TE := fun σ H Q => td σ H fun x H1 => ∃ a kvs, x = .ref a ∧ GDat w K a kvs ∧ ty σ H1 fun y H2 => tx σ H2 fun z H3 => ∃ k, y = .str k ∧ Q ((valS kvs k).getD z) H3
def tGItem (w : World) (K : PySem.W.Frag) (td ty : TE) : TE := fun σ H Q => td σ H fun x H1 => ∃ a kvs, x = .ref a ∧ GDat w K a kvs ∧ ty σ H1 fun y H2 => ∃ k v, y = .str k ∧ valS kvs k = some v ∧ Q v H2
section
variable {w : World} {K : PySem.W.Frag} {σ : L2.St} {H : Hp} {Q : VK} {td ty tx : TE}
theorem st_gget1 (h : td σ H fun x H1 => ∃ a kvs, x = .ref a ∧ GDat w K a kvs ∧ ty σ H1 fun y H2 => ∃ k, y = .str k ∧ Q ((valS kvs k).getD .non) H2) : tGGet1 w K td ty σ H Q := h
theorem st_gget2 (h : td σ H fun x H1 => ∃ a kvs, x = .ref a ∧ GDat w K a kvs ∧ ty σ H1 fun y H2 => tx σ H2 fun z H3 => ∃ k, y = .str k ∧ Q ((valS kvs k).getD z) H3) : tGGet2 w K td ty tx σ H Q := h
theorem st_gitem (h : td σ H fun x H1 => ∃ a kvs, x = .ref a ∧ GDat w K a kvs ∧ ty σ H1 fun y H2 => ∃ k v, y = .str k ∧ valS kvs k = some v ∧ Q v H2) : tGItem w K td ty σ H Q := h
theorem st_gdat {a : Addr} {kvs : List (Str × V)} {P : List (Str × V) → Prop} (g : GDat w K a kvs) (h : P kvs) : ∃ a' kvs', V.ref a = .ref a' ∧ GDat w K a' kvs' ∧ P kvs' := ⟨a, kvs, rfl, g, h⟩
theorem st_gkey {k : Str} {P : Str → Prop} (h : P k) : ∃ k', V.str k = .str k' ∧ P k' := ⟨k, rfl, h⟩
end
theorem st_isXsN {K : PySem.W.Frag} {H : Hp} {Q : VK} {a C dd tp : Addr} {cs : List V} {fs : List (Str × V)} (T : XI K C) (h1 : H dd = some (.xd fs)) (ht : H tp = some (.tup cs)) (k : KitN K C cs) (h : Q (.bl false) H) : rIsXs K a (.ref C) (some dd) [.ref a, .ref tp] H Q := by
  obtain ⟨cvs, k1, k2⟩ := k.any
  exact ⟨tp, cs, cvs, false, C, dd, fs, rfl, ht, k1, rfl, T, rfl, h1, k2, h⟩
def rUpper : V → List V → Hp → VK → Prop := fun x xs H Q => ∃ z, x = .str z ∧ xs = [] ∧ z.length ≤ 5592405 ∧ Q (.str (Txt.upper z)) H
theorem st_upper {z : Str} {H : Hp} {Q : VK} (hz : z.length ≤ 5592405) (h : Q (.str (Txt.upper z)) H) : rUpper (.str z) [] H Q := ⟨z, rfl, rfl, hz, h⟩
end Zb
namespace Zb
open PySem PySem.Spec PyProof.Rows L2
end Zb
namespace Zb
open PySem PySem.Spec PyProof.Rows L2 PySem.W
theorem vals_back : ∀ {xs : List V} {us : List Value} {i : Nat} {u : Value}, Vals xs us → us[i]? = some u → ∃ x, xs[i]? = some x ∧ RelV x u
  | _, _, _, _, .nil, e => by simp at e
  | _, _, 0, _, .cons r _, e => by simp at e; subst e; exact ⟨_, rfl, r⟩
  | _, _, i + 1, u, .cons _ t, e => by
    obtain ⟨x, h1, h2⟩ := vals_back (i := i) (u := u) t (by simpa using e)
    exact ⟨x, by simpa using h1, h2⟩
def tLk : List (R2 × TE) → V → L2.St → Hp → VK → Prop
  | [], _, _, _, _ => False
  | [(r, tb)], x, σ, H, Q => tb σ H fun y H1 => r x y H1 Q
  | (r, tb) :: p :: rest, x, σ, H, Q => tb σ H fun y H1 => r x y H1 fun z H2 => ∃ k, z = .bl k ∧ if k = true then tLk (p :: rest) y σ H2 Q else Q (.bl false) H2
def tChN (ta : TE) (l : List (R2 × TE)) : TE := fun σ H Q => ta σ H fun x H1 => tLk l x σ H1 Q
section
variable {σ : L2.St} {H : Hp} {Q : VK} {x : V} {r : R2} {tb ta : TE} {p : R2 × TE} {l : List (R2 × TE)}
theorem st_chN (h : ta σ H fun x H1 => tLk l x σ H1 Q) : tChN ta l σ H Q := h
theorem st_lk (h : tb σ H fun y H1 => r x y H1 fun z H2 => ∃ k, z = .bl k ∧ if k = true then tLk (p :: l) y σ H2 Q else Q (.bl false) H2) : tLk ((r, tb) :: p :: l) x σ H Q := h
theorem st_lk1 (h : tb σ H fun y H1 => r x y H1 Q) : tLk [(r, tb)] x σ H Q := h
end
section
variable {K : PySem.W.Frag} {σ : L2.St} {H : Hp} {D : Ends} {ta tv : TE} {rd : V → V → Hp → VK → Prop} {f : Str}
def AugP (K : PySem.W.Frag) (tv : TE) (rd : V → V → Hp → VK → Prop) (f : Str) (D : Ends) (σ : L2.St) (x : V) (H1 : Hp) : Prop := ∃ a C dx fs v, x = .ref a ∧ H1 a = some (.ins C dx fs) ∧ Cls K C ∧ NoAttr K C f ∧ fs.lookup f = some v ∧ tv σ H1 fun y H2 => rd v y H2 fun z H3 => ∃ dx' fs', H3 a = some (.ins C dx' fs') ∧ fs'.length < 1000 ∧ D.nx σ (upd H3 a (.ins C dx' (putF f z fs')))
theorem st_aug (h : ta σ H (AugP K tv rd f D σ)) : sFldAug K ta tv rd f D σ H := h
theorem st_augP {a C dx : Addr} {fs : List (Str × V)} {v : V} (h1 : H a = some (.ins C dx fs)) (c : Cls K C) (n : NoAttr K C f) (l : fs.lookup f = some v) (h : tv σ H fun y H2 => rd v y H2 fun z H3 => ∃ dx' fs', H3 a = some (.ins C dx' fs') ∧ fs'.length < 1000 ∧ D.nx σ (upd H3 a (.ins C dx' (putF f z fs')))) : AugP K tv rd f D σ (.ref a) H := ⟨a, C, dx, fs, v, rfl, h1, c, n, l, h⟩
theorem st_inAdd {i j : Int} {Q : VK} (h : Q (.int (i + j)) H) : L2.rAdd (.int i) (.int j) H Q := ⟨i, j, rfl, rfl, h⟩
theorem st_augE {a C dx : Addr} {fs : List (Str × V)} {g : List (Str × V) → List (Str × V)} {P : Hp → Prop} (h1 : H a = some (.ins C dx fs)) (hl : fs.length < 1000) (h : P (upd H a (.ins C dx (g fs)))) : ∃ dx' fs', H a = some (.ins C dx' fs') ∧ fs'.length < 1000 ∧ P (upd H a (.ins C dx' (g fs'))) := ⟨dx, fs, h1, hl, h⟩
end
end Zb
namespace Zb
open PySem PySem.Spec PyProof.Rows L2 PySem.W
def DSetT (a : Addr) (y z : V) (Q : VK) (H : Hp) : Prop := ∃ (kvs : List (List Key × V)) (k : List Key) (b : Addr), H a = some (.dT kvs) ∧ y = .ref b ∧ H b = some (.tup (k.map kV)) ∧ kvs.length < sizeLine ∧ (∀ v, valV kvs k = some v → Q v H) ∧ (valV kvs k = none → Q z (upd H a (.dT (putK kvs k z))))
def tDSetT (td ty tx : TE) : TE := fun σ H Q => td σ H fun x H1 => ∃ a, x = .ref a ∧ IsD H1 a ∧ ty σ H1 fun y H2 => tx σ H2 fun z H3 => DSetT a y z Q H3
section
variable {K : PySem.W.Frag} {H : Hp} {Q : VK} {σ : L2.St}
theorem st_dsetTU {td ty tx : TE} (h : td σ H fun x H1 => ∃ a, x = .ref a ∧ IsD H1 a ∧ ty σ H1 fun y H2 => tx σ H2 fun z H3 => DSetT a y z Q H3) : tDSetT td ty tx σ H Q := h
theorem st_isDT {a : Addr} {kvs : List (List Key × V)} {P : Addr → Prop} (h1 : H a = some (.dT kvs)) (h : P a) : ∃ b, V.ref a = .ref b ∧ IsD H b ∧ P b := ⟨a, rfl, .inr ⟨kvs, .inl h1⟩, h⟩
end
end Zb
namespace Zb
open PySem PySem.Spec PyProof.Rows L2 PySem.W
end Zb
namespace Zb
open PySem PySem.Spec PyProof.Rows L2
open Evl (tCut pss_cut)
/-- C(e, ..), an exception's class with an own __init__, as a value -/
def tExcV (C : Addr) (sp : Sp) (dvs : List V) (ta : TA) : TE := fun σ H Q => ta σ H fun vs H1 => vs.length ≤ 1000 ∧ ∀ a, H1 a = none → sp (.ref a :: (vs ++ dvs)) (upd H1 a (exo a C none))
  (fun v H2 => v = .non ∧ ∃ (d : Addr) (fs : List (Str × V)), H2 a = some (exo a C (some d)) ∧ H2 d = some (exd d fs) ∧ Q (.ref a) (upd (upd H2 a (XkO a (.ref C) (some d))) d (.xd fs))) (fun _ _ _ => False)
section
variable {K : PySem.W.Frag} {C : Addr} {Q : VK} {H : Hp} {f g : Str} {σ : L2.St}
def ExcVP (C : Addr) (sp : Sp) (vs : List V) (Q : VK) (H1 : Hp) : Prop := vs.length ≤ 1000 ∧ ∀ a, H1 a = none → sp (.ref a :: (vs ++ [])) (upd H1 a (exo a C none))
  (fun v H2 => v = .non ∧ ∃ (d : Addr) (fs : List (Str × V)), H2 a = some (exo a C (some d)) ∧ H2 d = some (exd d fs) ∧ Q (.ref a) (upd (upd H2 a (XkO a (.ref C) (some d))) d (.xd fs))) (fun _ _ _ => False)
theorem st_excV {sp : Sp} {ta : TA} (h : ta σ H (ExcVP C sp · Q ·)) : tExcV C sp [] ta σ H Q := h
/-- a made exception at a: of the class, with these fields -/
structure XcV (H : Hp) (a C d : Addr) (fs : List (Str × V)) : Prop where
  at_ : H a = some (XkO a (.ref C) (some d))
  fd : H d = some (.xd fs)
theorem XcV.ex {H H' : Hp} {a C d : Addr} {fs : List (Str × V)} (h : XcV H a C d fs) (e : Ex H H') : XcV H' a C d fs := ⟨e.get h.at_, e.get h.fd⟩
theorem st_exv1 {v : V} (T : OexC K C) (hf : PySem.W.findIn K (.ref C) f = some none) (h : ∀ a d H', H a = none → H d = none → Ex H H' → XcV H' a C d [(f, v)] → Q (.ref a) H') : ExcVP C (spI1 K f) [v] Q H := by
  refine ⟨(by decide : 1 ≤ 1000), fun a ha => ⟨a, C, v, rfl, T, hf, upd_same, fun dx hdx ne => ⟨rfl, dx, [(f, v)], upd_same, ?_, ?_⟩⟩⟩
  · rw [upd_ne ne]; exact upd_same
  · rw [upd_ne ne] at hdx
    refine h a dx _ ha hdx (fun b o _ hb => ?_) ⟨?_, upd_same⟩
    · have n1 : b ≠ a := fun z => by rw [z, ha] at hb; cases hb
      have n2 : b ≠ dx := fun z => by rw [z, hdx] at hb; cases hb
      rw [upd_ne n2, upd_ne n1, upd_ne n1, upd_ne n2, upd_ne n1]
      exact hb
    · rw [upd_ne (Ne.symm ne)]
      exact upd_same
theorem st_exv2 {v z : V} (T : OexC K C) (hf : PySem.W.findIn K (.ref C) f = some none) (hg : PySem.W.findIn K (.ref C) g = some none) (h : ∀ a d H', H a = none → H d = none → Ex H H' → XcV H' a C d [(g, z), (f, v)] → Q (.ref a) H') : ExcVP C (spI2 K f g) [v, z] Q H := by
  refine ⟨(by decide : 2 ≤ 1000), fun a ha => ⟨a, C, v, z, rfl, T, hf, hg, upd_same, fun dx hdx ne => ⟨rfl, dx, [(g, z), (f, v)], ?_, upd_same, ?_⟩⟩⟩
  · rw [upd_ne (Ne.symm ne)]; exact upd_same
  · rw [upd_ne ne] at hdx
    refine h a dx _ ha hdx (fun b o _ hb => ?_) ⟨?_, upd_same⟩
    · have n1 : b ≠ a := fun z => by rw [z, ha] at hb; cases hb
      have n2 : b ≠ dx := fun z => by rw [z, hdx] at hb; cases hb
      rw [upd_ne n2, upd_ne n1, upd_ne n2, upd_ne n1, upd_ne n2, upd_ne n1]
      exact hb
    · rw [upd_ne (Ne.symm ne)]
      exact upd_same
end
/-- at a: an exception of that class, made here or kept behind its clause -/
def HasX (H : Hp) (a C : Addr) : Prop := (∃ (d : Addr) (fs : List (Str × V)), H a = some (XkO a (.ref C) (some d)) ∧ H d = some (.xd fs)) ∨ H a = some (ExO (.ref C) a)
theorem XcV.has {H : Hp} {a C d : Addr} {fs : List (Str × V)} (h : XcV H a C d fs) : HasX H a C := .inl ⟨d, fs, h.at_, h.fd⟩
theorem HasX.ex {H H' : Hp} {a C : Addr} (h : HasX H a C) (e : Ex H H') : HasX H' a C := by
  rcases h with ⟨d, fs, h1, h2⟩ | h
  · exact .inl ⟨d, fs, e.get h1, e.get h2⟩
  · exact .inr (e.get h)
def rIsV (K : PySem.W.Frag) : List V → Hp → VK → Prop := fun xs H Q => ∃ (a : Addr) (c : V) (cv : Value) (b : Bool) (C : Addr), xs = [.ref a, c] ∧ HasX H a C ∧ (∀ u, RelV c u → u = cv) ∧ XI K C ∧ PySem.W.kitOne K (.ref C) cv = some b ∧ Q (.bl b) H
section
variable {K : PySem.W.Frag} {H : Hp} {Q : VK}
theorem st_isV {a C D : Addr} {b : Bool} (h0 : HasX H a C) (T : XI K C) (e : PySem.W.kitOne K (.ref C) (.ref D) = some b) (h : Q (.bl b) H) : rIsV K [.ref a, .ref D] H Q :=
  ⟨a, .ref D, .ref D, b, C, rfl, h0, fun u r => by cases r; rfl, T, e, h⟩
theorem st_isVT {a C : Addr} {n : String} {b : Bool} (h0 : HasX H a C) (T : XI K C) (e : PySem.W.kitOne K (.ref C) (.type n) = some b) (h : Q (.bl b) H) : rIsV K [.ref a, .ty n] H Q :=
  ⟨a, .ty n, .type n, b, C, rfl, h0, fun u r => by cases r; rfl, T, e, h⟩
end
def rDivX : R2 := fun x y H Q => match x, y with
  | .int i, .int j => 0 < j ∧ j < 1606938044258990275541962092341162602522202993782792835301376 ∧ Q (.int (i / j)) H
  | _, _ => False
theorem st_divX {H : Hp} {Q : VK} {i j : Int} (hc : 0 < j ∧ j < 1606938044258990275541962092341162602522202993782792835301376) (h : Q (.int (i / j)) H) : rDivX (.int i) (.int j) H Q := ⟨hc.1, hc.2, h⟩
end Zb
namespace Zb
open PySem PySem.Spec PyProof.Rows L2
end Zb
namespace Zb
open PySem PySem.Spec PyProof.Rows L2
end Zb
namespace Zb
open PySem PySem.Spec PyProof.Rows L2 PySem.SeqAt
/-- what == of an object with itself asks of its class -/
structure EqO (K : PySem.W.Frag) (C : Addr) : Prop where
  m : PySem.W.mroIn K C (.type "object") = some true
  e : PySem.W.findIn K (.ref C) "__eq__" = some (some (.builtin "object.__eq__"))
def rEqO (K : PySem.W.Frag) : R2 := fun x y H Q => rEqA K x y H Q ∨ ∃ (a C dx : Addr) (fs : List (Str × V)), x = .ref a ∧ y = .ref a ∧ H a = some (.ins C dx fs) ∧ EqO K C ∧ Q (.bl true) H
/-- a thing that is equal to itself -/
def SeO (K : PySem.W.Frag) (H : Hp) (x : V) : Prop := ∀ H' (Q : VK), Ex H H' → Q (.bl true) H' → rEqO K x x H' Q
theorem SeO.ex {K : PySem.W.Frag} {H H' : Hp} {x : V} (h : SeO K H x) (e : Ex H H') : SeO K H' x := fun H2 Q e2 q => h H2 Q (e.trans e2) q
theorem st_ckw {r : List V → List V → Hp → VK → Prop} {t tk : TA} {σ : L2.St} {H : Hp} {Q : VK} (h : t σ H fun vs H1 => tk σ H1 fun zs H2 => r vs zs H2 Q) : tCKw r t tk σ H Q := h
end Zb
namespace Zb
open PySem PySem.Spec PyProof.Rows L2 LamX NdefX
open Evl (tCut pss_cut)
/-- a lambda: its words, what it captured, its code object -/
structure LF where
  qual : Str
  params : Arguments
  body : Expr
  scope : Scope
  cl : List (Str × Addr)
  c : Addr
abbrev LF.nf (F : LF) : NF := ⟨"<lambda>", F.qual, F.params, [], F.scope, F.cl, F.c⟩
abbrev LF.fd (F : LF) (pm ctv : Value) : FuncData := PySem.W.kla_fn "<lambda>" F.qual F.params F.body F.scope F.cl pm (.ref F.c) ctv
def LamO (f : Addr) (F : LF) : HO := .ext fun h => ∃ (od : Option Addr) (sl : Array (Option Value)) (pm ctv : Value), h.get? f = some (⟨.type "function", od, .func (F.fd pm ctv), sl⟩ : Obj)
theorem lamO_at {P : Program} {w : World} {H : Hp} {h : Heap} {f : Addr} {F : LF} (hok : HOk P w H h) (e : H f = some (LamO f F)) : ∃ (od : Option Addr) (sl : Array (Option Value)) (pm ctv : Value), h.get? f = some (⟨.type "function", od, .func (F.fd pm ctv), sl⟩ : Obj) := (hok f _ e).1
/-- all but the tables stay -/
abbrev ExT (H H' : Hp) : Prop := LamX.ExtN H H'
/-- a heap without its tables -/
def noT (H : Hp) : Hp := fun b => match H b with
  | some (.tbl _) => none
  | x => x
theorem noT_get {H : Hp} {a : Addr} {o : HO} (h : H a = some o) (n : ∀ ps, o ≠ .tbl ps) : noT H a = some o := by
  unfold noT
  rw [h]
  cases o <;> first | rfl | exact absurd rfl (n _)
theorem noT_of {H : Hp} {a : Addr} {o : HO} (h : noT H a = some o) : H a = some o ∧ ∀ ps, o ≠ .tbl ps := by
  unfold noT at h
  split at h
  · cases h
  · rename_i x hx
    exact ⟨h, fun ps z => hx ps (h.trans (by rw [z]))⟩
theorem noT_ex (H : Hp) : Ex (noT H) H := fun b o _ h => (noT_of h).1
theorem ExT.ex {H H' : Hp} (e : ExT H H') : Ex (noT H) H' := fun b o _ h => e b o (noT_of h).1 (noT_of h).2
theorem ExT.of {H H' : Hp} (e : Ex H H') : ExT H H' := fun b o h _ => e b o (fun z => z) h
theorem ExT.get {H H' : Hp} {a : Addr} {o : HO} (e : ExT H H') (h : H a = some o) (n : ∀ ps, o ≠ .tbl ps := by intro _ z; cases z) : H' a = some o := e a o h n
section
variable {X : Cx} {pins : List (Addr × Obj)} {σ : L2.St} {H : Hp} {s : Shared}
theorem inv_lam {F : LF} {o : Obj} {t' : Nat} {pm ctv : Value} (I : Inv X pins σ H s) (ho : o = { cls := .type "function", data := .func (F.fd pm ctv) }) :
    Inv X pins σ (upd H s.heap.objs.size (LamO s.heap.objs.size F)) { s with heap := s.heap.push o, toks := t' } := by
  subst ho
  have e : (s.heap.push ({ cls := .type "function", data := .func (F.fd pm ctv) } : Obj)).get? s.heap.objs.size = some { cls := .type "function", data := .func (F.fd pm ctv) } := Heap.get?_push_size _ rfl
  exact I.laid (a := s.heap.objs.size) (fun b u q => Heap.get?_push_of_some _ q) (Nat.le_refl _) ⟨⟨_, _, pm, ctv, e⟩, ⟨_, e⟩, fun h1 h2 ⟨od, sl, p, t, z⟩ st => ⟨od, sl, p, t, st _ z⟩⟩
/-- the tables, when one of them has grown by a code object -/
theorem tabs_more {T : List (Addr × Str)} {P c' : Addr} {q : Str} {pos : Pos} {ps : Array Value} (hT : Tabs T H) (hu : ∀ p ∈ T, p.1 = P → p.2 = q) (hP : H P = some (.tbl ps)) (ht : TriplesOk ps.toList) (ha : ∀ (pos : Pos) (cv : Value), codeAmong pos ps.toList = some cv → ∃ c, cv = .ref c ∧ H c = some (CodeO c q)) (nC : H c' = none) :
    Tabs T (upd (upd H P (.tbl (ps ++ #[rawInt pos.line, rawInt pos.col, .ref c']))) c' (CodeO c' q)) ∧ ExT H (upd (upd H P (.tbl (ps ++ #[rawInt pos.line, rawInt pos.col, .ref c']))) c' (CodeO c' q)) := by
  have hE : ExT H (upd (upd H P (.tbl (ps ++ #[rawInt pos.line, rawInt pos.col, .ref c']))) c' (CodeO c' q)) := fun b o e n => by
    have n1 : b ≠ c' := ne_of_none e nC
    have n2 : b ≠ P := fun z => by
      subst z
      rw [hP] at e
      exact n ps (Option.some.inj e).symm
    rw [upd_ne n1, upd_ne n2]
    exact e
  have eL : (ps ++ #[rawInt pos.line, rawInt pos.col, .ref c']).toList = ps.toList ++ [rawInt pos.line, rawInt pos.col, .ref c'] := by simp
  refine ⟨fun p hp => ?_, hE⟩
  by_cases hb : p.1 = P
  · have hq := hu p hp hb
    rw [hb, hq]
    refine ⟨_, (upd_ne (ne_of_none hP nC)).trans upd_same, ?_, fun p' cv h => ?_⟩
    · rw [eL]
      exact PySem.TriplesOk_snoc _ _ _ _ ht
    · rw [eL] at h
      rcases among_app _ ht h with z | z
      · obtain ⟨c0, e1, e2⟩ := ha p' cv z
        exact ⟨c0, e1, hE _ _ e2 codeO_ne⟩
      · exact ⟨c', z, upd_same⟩
  · obtain ⟨ps', a1, a2, a3⟩ := hT p hp
    refine ⟨ps', (upd_ne (ne_of_none a1 nC)).trans ((upd_ne hb).trans a1), a2, fun p' cv h => ?_⟩
    obtain ⟨c0, e1, e2⟩ := a3 p' cv h
    exact ⟨c0, e1, hE _ _ e2 codeO_ne⟩
theorem lam_new {T : List (Addr × Str)} {c P : Addr} {params : Arguments} {body : Expr} {scope : Scope} {pos : Pos} {E : Value → Shared → Prop} {Q : Value → Shared → Prop} (I : Inv X pins σ H s) (TB : TabB X.base X.mg c P) (hcode : X.env.code = .ref c)
    (hm : (P, X.env.qual ++ "<lambda>") ∈ T) (hu : ∀ p ∈ T, p.1 = P → p.2 = X.env.qual ++ "<lambda>") (hT : Tabs T H) (hdef : defaultsOf params X.env = ([], [])) (hfree : ∀ y ∈ scope.names, y.2 = .free → ∃ c, X.env.cells.lookup y.1 = some c)
    (h : ∀ (f c' : Addr) (H1 : Hp) (s' : Shared), Inv X pins σ H1 s' → ExT H H1 → (∀ b, H1 b = none → H b = none) → Tabs T H1 → H f = none → H1 f = some (LamO f ⟨X.env.qual ++ "<lambda>", params, body, scope, cloFrom X.env.cells scope.names [], c'⟩) → H1 c' = some (CodeO c' (X.env.qual ++ "<lambda>")) → Q (.ref f) s') :
    wpAny (model X.prog X.w) X.A (eval (.Lambda params body scope pos) X.env) Q E s := by
  obtain ⟨ps, hP, ht, ha⟩ := hT _ hm
  have bP := TB.bm.keeps I.bk
  have hP' := I.hok P _ hP
  have un : ∀ {b a : Addr} {G : Hp} {o : HO}, upd G a o b = none → G b = none := fun e => upd_free e
  refine PySem.W.kla_eval hdef ?_
  cases hc : codeAmong pos ps.toList with
  | none =>
    refine PySem.W.kla_makeFunction (closure_ok hfree) I.ok.glob (I.mod.glob.keeps I.bk) hcode (TB.code.keeps I.bk) hP' ht hc TB.gP bP ?_
    intro c' ctv h' tk hx hge hlt hrec htb
    obtain ⟨c2, oc, vs, t, e2, hoc, hd, hv⟩ := hrec
    cases e2
    have nC := I.hok.fresh hge
    obtain ⟨T1, hE⟩ := tabs_more (pos := pos) hT hu hP ht ha nC
    have I1 := inv_table (t' := tk) (more := #[rawInt pos.line, rawInt pos.col, .ref c']) (h' := h') I hP (fun b o n e => hx b o n e) htb hge ⟨oc, vs, t, hoc, hd, hv⟩
    have I2 := inv_lam (F := ⟨X.env.qual ++ "<lambda>", params, body, scope, cloFrom X.env.cells scope.names [], c'⟩) (t' := tk) (pm := (X.mg "__name__").getD .none) (ctv := ctv) I1 rfl
    have nF := I1.hok.fresh (Nat.le_refl h'.objs.size)
    have keepF : ∀ b o, upd (upd H P (.tbl (ps ++ #[rawInt pos.line, rawInt pos.col, .ref c']))) c' (CodeO c' (X.env.qual ++ "<lambda>")) b = some o → b ≠ h'.objs.size := fun b o e => ne_of_none e nF
    refine h h'.objs.size c' _ _ I2 (fun b o e n => ?_) (fun b e => un (un (un e))) (T1.ext fun b o e => ?_) (un (un nF)) upd_same ?_
    · have e1 := hE b o e n
      rw [upd_ne (keepF b o e1)]
      exact e1
    · rw [upd_ne (keepF b o e)]
      exact e
    · rw [upd_ne (keepF c' _ upd_same)]
      exact upd_same
  | some cv =>
    obtain ⟨c', e, hco⟩ := ha pos cv hc
    subst e
    refine PySem.W.kla_makeFunctionHit (closure_ok hfree) I.ok.glob (I.mod.glob.keeps I.bk) hcode (TB.code.keeps I.bk) hP' ht hc bP ?_
    intro ctv h' tk hx hsz
    have I1 : Inv X pins σ H { s with heap := h', toks := tk } := I.kept hx
    have nF := I1.hok.fresh (Nat.le_refl h'.objs.size)
    have I2 := inv_lam (F := ⟨X.env.qual ++ "<lambda>", params, body, scope, cloFrom X.env.cells scope.names [], c'⟩) (t' := tk) (pm := (X.mg "__name__").getD .none) (ctv := ctv) I1 rfl
    have keepF : ∀ b o, H b = some o → b ≠ h'.objs.size := fun b o e => ne_of_none e nF
    refine h h'.objs.size c' _ _ I2 (fun b o e _ => ?_) (fun b e => un e) (hT.ext fun b o e => ?_) nF upd_same ?_
    · rw [upd_ne (keepF b o e)]
      exact e
    · rw [upd_ne (keepF b o e)]
      exact e
    · rw [upd_ne (keepF c' _ hco)]
      exact hco
end
/-- the reading of a lambda as a value -/
def tLamb (T : List (Addr × Str)) (mk : Addr → LF) : TE := fun σ H Q => Tabs T H ∧ ∀ (f c' : Addr) (H1 : Hp), ExT H H1 → (∀ b, H1 b = none → H b = none) → Tabs T H1 → H f = none → H1 f = some (LamO f (mk c')) → H1 c' = some (CodeO c' (mk c').qual) → Q (.ref f) H1
section
variable {X : Cx}
theorem pe_lamb {T : List (Addr × Str)} {c P : Addr} {params : Arguments} {body : Expr} {scope : Scope} {pos : Pos} (TB : TabB X.base X.mg c P) (hcode : X.env.code = .ref c) (hm : (P, X.env.qual ++ "<lambda>") ∈ T) (hu : ∀ p ∈ T, p.1 = P → p.2 = X.env.qual ++ "<lambda>")
    (hdef : defaultsOf params X.env = ([], [])) (hfree : ∀ y ∈ scope.names, y.2 = .free → X.env.scope.names.lookup y.1 = some .cell ∨ X.env.scope.names.lookup y.1 = some .free) :
    PE X (.Lambda params body scope pos) (tLamb T fun c' => ⟨X.env.qual ++ "<lambda>", params, body, scope, cloFrom X.env.cells scope.names [], c'⟩) := by
  refine ⟨fun pins s σ H Q I h => ?_⟩
  obtain ⟨hT, h⟩ := h
  refine lam_new I TB hcode hm hu hT hdef (fun y hy e => (hfree y hy e).elim (fun z => I.ok.has _ (.inl z)) fun z => I.ok.has _ (.inr z)) ?_
  intro f c' H1 s' I1 eN nn T1 f0 f1 c1
  exact ⟨.ref f, H1, I1, rfl, h f c' H1 eN nn T1 f0 f1 c1⟩
end
structure LOk (P : Program) (w : World) (K : PySem.W.Frag) (mg : Str → Option Value) (base : Heap) (k : Nat) (f : Addr) (F : LF) (ps fr : List Str) (sp : List (Option V) → List V → Hp → VK → Prop) : Prop where
  len : ∀ ws vs H Q, sp ws vs H Q → vs.length = ps.length
  run : ∀ (A : Around) (outer : List Env) (s : Shared) (H : Hp) (us : List Value) (vs : List V) (ws : List (Option V)) (Q : VK), Room k A → Env0 P w K mg base A outer s H → H f = some (LamO f F) → H F.c = some (CodeO F.c F.qual) →
    CellsAt F.cl fr ws s.heap H → Vals vs us → sp ws vs H Q → codeAny (model P w) A (.call (.ref f) ⟨us, []⟩) (CR CX0 outer P w H s Q E0) s
section
variable {P : Program} {w : World} {K : PySem.W.Frag} {mg : Str → Option Value} {base : Heap} {N ps fr : List Str} {F : LF} {f : Addr} {k : Nat} {sp : List (Option V) → List V → Hp → VK → Prop}
/-- .. by its body -/
theorem lok_of (S : NScope N ps fr F.scope) (hb : ∀ (pm ctv : Value) (us : List Value), us.length = ps.length → bindArgs (F.fd pm ctv) ⟨us, []⟩ = pure (ps.zip us)) (len : ∀ ws vs H Q, sp ws vs H Q → vs.length = ps.length)
    (hbody : ∀ (A : Around) (outer : List Env) (s : Shared) (H : Hp) (vs : List V) (ws : List (Option V)) (Q : VK), Room k (A.deeper (envF F.nf f s.heap.objs.size)) → sp ws vs H Q →
      ∃ t, PE (ncx CX0 P w K mg base N F.nf f A outer s H E0) F.body t ∧ t (startF N vs ws) H Q) : LOk P w K mg base (k + 1) f F ps fr sp := by
  refine ⟨len, fun A outer s H us vs ws Q hr e0 hf hc C r hsp => ?_⟩
  have hl := len _ _ _ _ hsp
  have lim : s.heap.NoLimit := e0.mod.nolimit.keeps fun b o e => (e0.bs b o e).1
  obtain ⟨od, sl, pm, ctv, ho⟩ := lamO_at e0.hok hf
  refine PySem.W.kla_callFunE hr.depth ho rfl S.co S.gen rfl (codeO_at e0.hok hc) ?_
  rw [hb pm ctv us (by rw [← r.length]; exact hl)]
  refine wpAny_pure (wpAny_newFunctionEnv S.nocell (fun ⟨n, _⟩ hy => S.par n (List.of_mem_zip hy).1) ?_ S.kind)
  intro h₁ hns hsb
  refine ⟨lim.fresh _ hsb, ?_⟩
  show codeAny _ _ (.expr F.body (envF F.nf f s.heap.objs.size)) _ _
  obtain ⟨t, ht, hq⟩ := hbody A outer s H vs ws Q (hr.deeper _) hsp
  have kp : ∀ b o, s.heap.get? b = some o → h₁.get? b = some o := fun b o e => hsb.extBut b o (Nat.ne_of_lt (Heap.lt_size e)) (Heap.get?_push_of_some _ e)
  have I : Inv (ncx CX0 P w K mg base N F.nf f A outer s H E0) [] (startF N vs ws) H { s with heap := h₁, toks := s.toks + (ps.zip us).length } := inv_startN (F := F.nf) S hr.hd e0 hl r C hns kp
  refine PySem.W.kla_codeExpr (wpAny_mono (ht.run [] _ (startF N vs ws) H Q I hq) (fun v s' hs => ?_) fun e s' hs => hs)
  obtain ⟨x, H', J, rv, q⟩ := hs
  exact ⟨x, H', J.os, J.bare, J.base, J.hok, rv, q⟩
end
/-- x(..), x a name that holds a lambda: tl, what it does -/
def tCb (f : Addr) (F : LF) (i : Nat) (tl : List V → Hp → VK → Prop) (t : TA) : TE := fun σ H Q => σ[i]? = some (some (.ref f)) ∧ H f = some (LamO f F) ∧ t σ H fun vs H1 => H1 f = some (LamO f F) ∧ H1 F.c = some (CodeO F.c F.qual) ∧ tl vs H1 Q
/-- a call that hands on a lambda which the caller has made: mk, its words; js: the slots of what it captured -/
def tCallCb (mk : Addr → LF) (js : List Nat) (spl : Addr → Addr → List (Option V) → List V → Hp → VK → Prop) (spc : Addr → LF → (List V → Hp → VK → Prop) → Sp) (t : TA) : TE := fun σ H Q => t σ H fun vs H1 => ∃ fl c', spc fl (mk c') (spl fl c' (js.map (slotAt σ))) vs H1 Q E0
structure FunC (K : PySem.W.Frag) (x qual : Str) (st : Stmt) (f : Addr) (fd : FuncData) (c : Addr) : Prop where
  ex : ∃ (oc : Value) (od : Option Addr) (kV doc pm : Value) (an : Option Addr) (ct : Value) (osl : Array (Option Value)),
    fd = PySem.W.fnOf x qual (defArgs st) (defBody st) (defScope st) .none kV doc pm an (.ref c) ct ∧ K.lookup f = some ⟨oc, od, .func fd, osl⟩ ∧ PySem.W.codeIn K (.ref c) qual = true
section
variable {P : Program} {w : World} {K : PySem.W.Frag} {mg : Str → Option Value} {base : Heap}
theorem FunC.ok {x qual : Str} {st : Stmt} {f c : Addr} {fd : FuncData} {N ps : List Str} {k : Nat} {sp : Sp} (F : FunC K x qual st f fd c) (S : FnScope N ps (defScope st)) (len : ∀ vs H Q E, sp vs H Q E → vs.length = ps.length)
    (hbody : ∀ (A : Around) (outer : List Env) (s : Shared) (H : Hp) (vs : List V) (Q : VK) (E : XK), Room k (A.deeper (envOfC qual (defScope st) s.heap.objs.size f (.ref c))) → sp vs H Q E →
      ∃ t, PSs (cxOf CX0 P w K mg base N qual (defScope st) f (.ref c) A outer s H E).nox (defBody st) t ∧ t { nx := fun _ H' => Q .non H', rt := Q } (L2.start N vs) H) : FnOk P w K mg base CX0 (k + 1) f fd ps sp := by
  obtain ⟨oc, od, kV, doc, pm, an, ct, osl, rfl, lk, hcd⟩ := F.ex
  refine fn_of lk hcd S len fun A outer s H vs Q E hr hsp => ?_
  obtain ⟨t, h, q⟩ := hbody A outer s H vs Q E hr hsp
  exact ⟨t, h.nox, q⟩
theorem FunC.okX {x qual : Str} {st : Stmt} {f c : Addr} {fd : FuncData} {N ps : List Str} {k : Nat} {sp : Sp} (F : FunC K x qual st f fd c) (S : FnScope N ps (defScope st)) (len : ∀ vs H Q E, sp vs H Q E → vs.length = ps.length)
    (hbody : ∀ (A : Around) (outer : List Env) (s : Shared) (H : Hp) (vs : List V) (Q : VK) (E : XK), Room k (A.deeper (envOfC qual (defScope st) s.heap.objs.size f (.ref c))) → sp vs H Q E →
      ∃ t, PSs (cxOf (L2.CX P w) P w K mg base N qual (defScope st) f (.ref c) A outer s H E) (defBody st) t ∧ t { nx := fun _ H' => Q .non H', rt := Q } (L2.start N vs) H) : FnOk P w K mg base (L2.CX P w) (k + 1) f fd ps sp := by
  obtain ⟨oc, od, kV, doc, pm, an, ct, osl, rfl, lk, hcd⟩ := F.ex
  exact fn_of lk hcd S len fun A outer s H vs Q E hr hsp => hbody A outer s H vs Q E hr hsp
end
section
variable {σ : L2.St} {H : Hp} {Q : VK}
theorem st_lamb {T : List (Addr × Str)} {mk : Addr → LF} (hT : Tabs T H) (h : ∀ (f c' : Addr) (H1 : Hp), ExT H H1 → (∀ b, H1 b = none → H b = none) → Tabs T H1 → H f = none → H1 f = some (LamO f (mk c')) → H1 c' = some (CodeO c' (mk c').qual) → Q (.ref f) H1) : tLamb T mk σ H Q := ⟨hT, h⟩
def CbP (f : Addr) (F : LF) (tl : List V → Hp → VK → Prop) (Q : VK) (vs : List V) (H1 : Hp) : Prop := H1 f = some (LamO f F) ∧ H1 F.c = some (CodeO F.c F.qual) ∧ tl vs H1 Q
theorem st_cbk {f : Addr} {F : LF} {i : Nat} {tl : List V → Hp → VK → Prop} {t : TA} (h1 : σ[i]? = some (some (.ref f))) (h2 : H f = some (LamO f F)) (h : t σ H (CbP f F tl Q)) : tCb f F i tl t σ H Q := ⟨h1, h2, h⟩
theorem st_cbP {f : Addr} {F : LF} {tl : List V → Hp → VK → Prop} {vs : List V} (h1 : H f = some (LamO f F)) (h2 : H F.c = some (CodeO F.c F.qual)) (h : tl vs H Q) : CbP f F tl Q vs H := ⟨h1, h2, h⟩
end
end Zb
namespace Zb
open PySem PySem.Spec PyProof.Rows L2 LamX NdefX
section
variable {P : Program} {w : World} {K : PySem.W.Frag} {mg : Str → Option Value} {base : Heap} {N ps fr : List Str} {F : LF} {f : Addr} {k : Nat} {t : TE}
/-- a lambda's promise is its body's reading -/
theorem lok_t (S : NScope N ps fr F.scope) (hb : ∀ (pm ctv : Value) (us : List Value), us.length = ps.length → bindArgs (F.fd pm ctv) ⟨us, []⟩ = pure (ps.zip us))
    (hbody : ∀ (A : Around) (outer : List Env) (s : Shared) (H : Hp), Room k (A.deeper (envF F.nf f s.heap.objs.size)) → PE (ncx CX0 P w K mg base N F.nf f A outer s H E0) F.body t) : LOk P w K mg base (k + 1) f F ps fr (fun ws vs H Q => vs.length = ps.length ∧ t (startF N vs ws) H Q) :=
  lok_of S hb (fun _ _ _ _ h => h.1) fun A outer s H vs ws Q hr h => ⟨t, hbody A outer s H hr, h.2⟩
end
def asgE : Stmt → Expr
  | .Assign _ e _ => e
  | .Return (some e) _ => e
  | _ => .Constant .none 0 ⟨0, 0, 0, 0⟩
def bodyS (st : Stmt) (i : Nat) : Stmt := (defBody st).getD i (.Pass ⟨0, 0, 0, 0⟩)
def lamA : Expr → Arguments
  | .Lambda a _ _ _ => a
  | _ => { posonlyargs := [], args := [], vararg := none, kwonlyargs := [], kw_defaults := [], kwarg := none, defaults := [] }
def lamB : Expr → Expr
  | .Lambda _ b _ _ => b
  | e => e
def lamSc : Expr → Scope
  | .Lambda _ _ s _ => s
  | _ => { kind := .function, names := [], isGenerator := false, isCoroutine := false }
section
variable {σ : L2.St} {H : Hp} {Q : VK}
def CbC (mk : Addr → LF) (js : List Nat) (spl : Addr → Addr → List (Option V) → List V → Hp → VK → Prop) (spc : Addr → LF → (List V → Hp → VK → Prop) → Sp) (σ : L2.St) (Q : VK) (vs : List V) (H1 : Hp) : Prop := ∃ fl c', spc fl (mk c') (spl fl c' (js.map (slotAt σ))) vs H1 Q E0
theorem st_callCb {mk : Addr → LF} {js : List Nat} {spl : Addr → Addr → List (Option V) → List V → Hp → VK → Prop} {spc : Addr → LF → (List V → Hp → VK → Prop) → Sp} {t : TA} (h : t σ H (CbC mk js spl spc σ Q)) : tCallCb mk js spl spc t σ H Q := h
end
end Zb
namespace Zb
open PySem PySem.Spec PyProof.Rows L2
end Zb
namespace Zb
open PySem PySem.Spec PyProof.Rows L2 LamX NdefX PySem.W
def kwE (i : Nat) : Expr → Expr
  | .Call _ _ ks _ => match ks[i]? with
    | some k => k.value
    | none => .Constant .none 0 ⟨0, 0, 0, 0⟩
  | e => e
def lexP (a b : Int × Int) : Bool := decide (a.1 < b.1) || (decide (a.1 = b.1) && decide (a.2 < b.2))
theorem lexP_irr (a : Int × Int) : lexP a a = false := by simp [lexP]
theorem lexP_not {a b c : Int × Int} (h1 : lexP b a = true) (h2 : lexP c a = false) : lexP c b = false := by
  obtain ⟨a1, a2⟩ := a
  obtain ⟨b1, b2⟩ := b
  obtain ⟨c1, c2⟩ := c
  simp [lexP] at *
  omega
/-- nothing is less than the best -/
theorem argBest_least (ks : Nat → Int × Int) : ∀ n i, i ≤ n → lexP (ks i) (ks (argBest (fun i j => lexP (ks i) (ks j)) n)) = false
  | 0, i, h => by
    obtain rfl : i = 0 := by omega
    exact lexP_irr _
  | n + 1, i, h => by
    have ih := argBest_least ks n
    simp only [argBest]
    by_cases c : lexP (ks (n + 1)) (ks (argBest (fun i j => lexP (ks i) (ks j)) n)) = true
    · rw [if_pos c]
      by_cases e : i = n + 1
      · rw [e]
        exact lexP_irr _
      · exact lexP_not c (ih i (by omega))
    · rw [if_neg c]
      by_cases e : i = n + 1
      · rw [e]
        exact Bool.eq_false_iff.mpr c
      · exact ih i (by omega)
/-- new things are tuples alone -/
def TupX (H H' : Hp) : Prop := Ex H H' ∧ ∀ b o, H b = none → H' b = some o → ∃ xs, o = .tup xs
theorem TupX.refl (H : Hp) : TupX H H := ⟨Fr.refl _, fun b o h1 h2 => by rw [h1] at h2; cases h2⟩
theorem TupX.snoc {H H' : Hp} {q : Addr} {xs : List V} (h : TupX H H') (n : H' q = none) : TupX H (upd H' q (.tup xs)) := ⟨h.1.trans (Fr.new n), fun b o h1 h2 => by
  by_cases e : b = q
  · rw [e, upd_same] at h2
    exact ⟨xs, (Option.some.inj h2).symm⟩
  · rw [upd_ne e] at h2
    exact h.2 b o h1 h2⟩
def kD (k : Int × Int) : PyData := .tuple [.int k.1, .int k.2]
theorem kD_lt (a b : Int × Int) : dataLt (kD a) (kD b) = lexP a b := by
  obtain ⟨a1, a2⟩ := a
  obtain ⟨b1, b2⟩ := b
  unfold kD
  rw [dataLt_tuple]
  by_cases h : a1 = b1
  · subst h
    rw [dataLt_all_yes rfl (by simp [PyData.eqv])]
    by_cases k : a2 = b2
    · subst k
      rw [dataLt_all_yes rfl (by simp [PyData.eqv])]
      rw [lexP_irr]
      simp only [keyToksAll, PyProof.Rows.lexLt]
      rfl
    · rw [dataLt_all_no rfl (by simp [PyData.eqv, k]), dataLt_int]
      simp [lexP]
  · rw [dataLt_all_no rfl (by simp [PyData.eqv, h]), dataLt_int]
    simp [lexP, h]
/-- min(p, key=f, default=d) -/
def rMinKD (K : PySem.W.Frag) (mk : Addr → LF) (spl : Addr → Addr → List (Option V) → List V → Hp → VK → Prop) : List V → List V → Hp → VK → Prop := fun vs zs H Q => ∃ (p f c' : Addr) (xs : List V) (d : V) (ks : Nat → Int × Int), vs = [.ref p] ∧ zs = [.ref f, d] ∧ H p = some (.lst xs) ∧ H f = some (LamO f (mk c')) ∧ H (mk c').c = some (CodeO (mk c').c (mk c').qual) ∧
  (∀ (i : Nat) x H', xs[i]? = some x → Ex (hid p H) H' → spl f c' [] [x] H' (fun v H'' => ∃ q, v = .ref q ∧ H' q = none ∧ H'' = upd H' q (.tup [.int (ks i).1, .int (ks i).2]))) ∧
  (xs = [] → ∀ H', TupX H H' → Q d H') ∧ (∀ (i : Nat) x H', xs[i]? = some x → (∀ j, j < xs.length → lexP (ks j) (ks i) = false) → TupX H H' → Q x H')
theorem tupX_back {H HF H1 : Hp} {p : Addr} {od : Obj} {u : HO} (e : HF = upd H p (.frz od u)) (hp : H p = some u) (t : TupX HF H1) : TupX H (upd H1 p u) := by
  refine ⟨fun b o _ hb => ?_, fun b o h1 h2 => ?_⟩
  · by_cases z : b = p
    · rw [z, hp] at hb
      rw [z, upd_same]
      exact hb
    · rw [upd_ne z]
      exact t.1.get (by rw [e, upd_ne z]; exact hb)
  · have z : b ≠ p := fun z => by rw [z, hp] at h1; cases h1
    rw [upd_ne z] at h2
    exact t.2 b o (by rw [e, upd_ne z]; exact h1) h2
theorem moved_eq {wr : List Addr} {s s' : Shared} (m : Moved wr (fun a b => b = a) s s') : s' = { s with heap := s'.heap, toks := s'.toks } := by
  obtain ⟨hp, g, d, tk, os⟩ := s'
  have h1 : g = s.gens := m.gens
  have h2 : d = s.drawn := m.drawn
  have h3 : os = s.os := m.os
  rw [h1, h2, h3]
theorem tup_pair {P : Program} {w : World} {H : Hp} {h : Heap} {q : Addr} {x y : Int} (hok : HOk P w H h) (e : H q = some (.tup [.int x, .int y])) : ∃ t1 t2, IsTup h q #[.int x t1, .int y t2] := by
  obtain ⟨_, its, rv, ht⟩ := hok q _ e
  obtain ⟨u1, u2, rfl, r1, r2⟩ := vals2 rv
  obtain ⟨t1, rfl⟩ := r1
  obtain ⟨t2, rfl⟩ := r2
  exact ⟨t1, t2, ht⟩
section
variable {X : Cx} {j : Nat} {mk : Addr → LF} {pl : List Str} {spl : Addr → Addr → List (Option V) → List V → Hp → VK → Prop}
theorem c_minKD (hc : X.calm = true) (hr : Room (j + 1) X.A) (Lk : ∀ fl c', LOk X.prog X.w X.K X.mg X.base j fl (mk c') pl [] (spl fl c')) (hcl : ∀ c', (mk c').cl = []) {K : PySem.W.Frag} (hK : X.K = K := by rfl) : CallRK X (.builtin "min") [Str.ofString "key", Str.ofString "default"] (rMinKD K mk spl) := by
  subst hK
  intro pins s σ H vs zs us ws Q I r rz h
  obtain ⟨p, f, c', xs, d, ks, rfl, rfl, hp, hf, hcc, hturn, h0, hq⟩ := h
  obtain ⟨u1, ud, rfl, ru, e1⟩ := vals2 rz
  obtain rfl : u1 = Value.ref f := ru
  rw [Vals.ref1 r]
  have nfz := I.nofrz hp trivial
  obtain ⟨od, IF⟩ := I.lock hp trivial
  obtain ⟨HF, hHF⟩ : ∃ HF, HF = upd H p (.frz od (.lst xs)) := ⟨_, rfl⟩
  rw [← hHF] at IF
  have fp : HF p = some (.frz od (.lst xs)) := by rw [hHF]; exact upd_same
  have fo : ∀ b, b ≠ p → HF b = H b := fun b hb => by rw [hHF]; exact upd_ne hb
  obtain ⟨ho, hsz, its, n, rv, hob⟩ := IF.hok p _ fp
  have hl : s.heap.IsList p its.toArray := ⟨_, hob, rfl, n, rfl⟩
  have hfp' : f ≠ p := fun z => by rw [z, hp] at hf; cases hf
  have hcp : (mk c').c ≠ p := fun z => by rw [z, hp] at hcc; cases hcc
  have hfr : ∀ b, s.heap.objs.size ≤ b → b ∉ frs X.stack := fun b hb z => by
    rcases List.mem_cons.mp (I.stkSub b z) with z | z
    · exact absurd I.lt (by rw [← z]; exact Nat.not_lt.mpr hb)
    · exact I.nofs hb z
  show wpAny (model X.prog X.w) X.A (call (.builtin "min") [.ref p] [(Str.ofString "key", .ref f), (Str.ofString "default", ud)]) _ _ s
  refine call_min_walkKD (iter_listW (A := X.A.in1) (I.ok.hd hc) hl fun s₂ e W st hfp hw hk => ?_)
  have hSz : s₂.heap.objs.size = s.heap.objs.size + 1 := by rw [e]; exact Heap.size_push _ _
  have hpl : p < s.heap.objs.size := Heap.lt_size hob
  obtain ⟨S, hS⟩ : ∃ S, S = s₂.heap.objs.size := ⟨_, rfl⟩
  obtain ⟨It, hIt⟩ : ∃ It, It = s.heap.objs.size := ⟨_, rfl⟩
  rw [← hS, ← hIt]
  rw [← hIt] at W st hfp hfr hpl
  have hSI : S = It + 1 := by rw [hS, hSz, hIt]
  have I2 : Inv X pins σ HF s₂ := by
    rw [e]
    exact IF.kept (t' := s.toks) fun b u z => Heap.get?_push_of_some _ z
  have fpk : ∀ (H' : Hp) b, b ∈ [S, It] → H' b = none → FpOk X pins H' b := fun H' b hb hn => I.fpOk (by
    rcases List.mem_cons.mp hb with z | z
    · omega
    · have := List.mem_singleton.mp z; omega) hn
  refine ⟨It, [It, p], [It], fun a b => b = a, its.toArray.size, fun i v => its.toArray[i]? = some v, fun i s' => s'.heap.IsListIter It p i ∧ s'.heap.IsList p its.toArray, fun s' => ∃ H', TupX HF H' ∧ Inv X pins σ H' s' ∧ H' S = none ∧ H' It = none,
    fun i k s' => ∃ a t1 t2, k = .ref a ∧ HF a = none ∧ a ≠ S ∧ a ≠ It ∧ a ∉ frs X.stack ∧ IsTup s'.heap a #[.int (ks i).1 t1, .int (ks i).2 t2], fun i j => lexP (ks i) (ks j), rfl, W, st, fun b hb => (by rw [hS]; exact hfp b hb), ?_, ?_, ?_, ?_⟩
  · refine ⟨?_, ?_, ?_, ?_⟩
    · rintro s1 s3 ⟨H1, t1, I1, nS, nI⟩ m
      refine ⟨H1, t1, ?_, nS, nI⟩
      rw [moved_eq m]
      exact I1.turnedL (ch := [S, It]) (fun b o hb z => m.heap b o hb z) fun b hb => fpk H1 b hb (by
        rcases List.mem_cons.mp hb with z | z
        · rw [z]; exact nS
        · rw [List.mem_singleton.mp z]; exact nI)
    · rintro i k s1 s3 ⟨a, t1, t2, rfl, na, nS, nI, nF, ⟨o, ho, r⟩⟩ m
      exact ⟨a, t1, t2, rfl, na, nS, nI, nF, o, m.heap a o (by simp [nS, nI]) ho, r⟩
    · intro i v s1 o Q' E' hi hv hJ hst hSo kk
      obtain ⟨H1, t1, I1, nS, nI⟩ := hJ
      rw [List.getElem?_toArray] at hv
      obtain ⟨x, hx, rx⟩ := vals_back rv hv
      have hE : Ex (hid p H) H1 := fun b o _ hb => by
        have hbp : b ≠ p := fun z => by rw [z] at hb; unfold hid at hb; rw [if_pos rfl] at hb; cases hb
        have hb' : H b = some o := by unfold hid at hb; rw [if_neg hbp] at hb; exact hb
        exact t1.1.get (by rw [fo b hbp]; exact hb')
      have f1 : H1 f = some (LamO f (mk c')) := t1.1.get ((fo f hfp').trans hf)
      have c1 := t1.1.get ((fo _ hcp).trans hcc)
      have C : CellsAt (mk c').cl [] [] s1.heap H1 := by
        rw [hcl]
        exact ⟨rfl, fun y c e => (by cases e), fun x y c e => (by cases e), fun i y e => (by simp at e)⟩
      refine wpAny_call (codeAny_mono ((Lk f c').run X.A.in1 X.stack s1 H1 [v] [x] [] _ hr.in1 I1.env0.in1 f1 c1 C (.cons rx .nil) (hturn i x H1 hx hE)) fun r' s' hq => ?_)
      cases r' with
      | error e => exact (show False from hq).elim
      | ok fl =>
        cases fl with
        | next => exact False.elim hq
        | brk => exact False.elim hq
        | cont => exact False.elim hq
        | ret u =>
          obtain ⟨vv, H2, os, bare, un, hok2, ru2, q, rfl, nq, rfl⟩ := hq
          obtain rfl : u = Value.ref q := ru2
          have I3 := I1.call' (ch := []) os un hok2 bare (fun b z => absurd z (by simp))
          obtain ⟨t3, t4, ht⟩ := tup_pair hok2 upd_same
          obtain ⟨oI, hoI, _⟩ := id hst.1
          have nS' := un.free S o hSo nS (by simp)
          have nI' := un.free It oI hoI nI (by simp)
          have qS : q ≠ S := fun z => by rw [z, upd_same] at nS'; cases nS'
          have qI : q ≠ It := fun z => by rw [z, upd_same] at nI'; cases nI'
          have nqF : HF q = none := Ex.free t1.1 nq
          have qFr : q ∉ frs X.stack := fun z => by
            have := I3.stkFree q z
            rw [upd_same] at this
            cases this
          have pH1 : H1 p = some (.frz od (.lst xs)) := t1.1.get fp
          have pH2 := un.frzs p _ _ pH1
          have g1 : s1.heap.get? p = some od := (I1.hok p _ pH1).1
          have g2 : s'.heap.get? p = some od := (hok2 p _ pH2).1
          refine kk _ s' ⟨_, t1.snoc nq, I3, nS', nI'⟩ ⟨hst.1.at fun o e => un.keep It o e nI (hfr It (Nat.le_refl _)) (by simp), hst.2.at fun o e => by rw [g1] at e; cases e; exact g2⟩ (un.keep S o hSo nS (hfr S (by omega)) (by simp)) ⟨q, t3, t4, rfl, nqF, qS, qI, qFr, ht⟩ ?_
          rintro j' k' ⟨a, a1, a2, rfl, na, naS, naI, naF, oa, ha, hac, na', had⟩
          cases e : H1 a with
          | none => exact ⟨a, a1, a2, rfl, na, naS, naI, naF, oa, un.keep a oa ha e naF (by simp), hac, na', had⟩
          | some o1 =>
            obtain ⟨ys, rfl⟩ := t1.2 a o1 na e
            have e2 := un.tups a ys e
            obtain ⟨_, its1, r1, o1, ho1, hc1, m1, hd1⟩ := I1.hok a _ e
            rw [ha] at ho1
            cases ho1
            rw [had] at hd1
            injection hd1 with hd1 _
            have hd1 : [Value.int (ks j').1 a1, Value.int (ks j').2 a2] = its1 := by
              have := congrArg Array.toList hd1
              simpa using this
            subst hd1
            have hys : ys = [V.int (ks j').1, V.int (ks j').2] := by
              cases r1 with
              | cons ra rb =>
                cases rb with
                | cons rb rc =>
                  cases rc
                  rw [ra.inj (show RelV (V.int (ks j').1) _ from ⟨a1, rfl⟩), rb.inj (show RelV (V.int (ks j').2) _ from ⟨a2, rfl⟩)]
            rw [hys] at e2
            obtain ⟨a3, a4, h4⟩ := tup_pair hok2 e2
            exact ⟨a, a3, a4, rfl, na, naS, naI, naF, h4⟩
    · rintro i j' ki kj s1 Q' E' hJ ⟨a, t1, t2, rfl, na, _, _, _, oa, ha, hca, na', hda⟩ ⟨b, t3, t4, rfl, nb, _, _, _, ob, hb, hcb, nb', hdb⟩ hQ
      rw [← kD_lt] at hQ
      refine rcLt_alike (kD (ks i)) (kD (ks j')) _ s1 _ _ _ _ (Reads.tuple ha hca hda (.cons (.int _ _) (.cons (.int _ _) .nil))) (Reads.tuple hb hcb hdb (.cons (.int _ _) (.cons (.int _ _) .nil))) rfl (by unfold kD; exact fun z => by cases z) ?_ _ _ _ _ hQ
      have := hr.un
      have : min (kD (ks i)).depth (kD (ks j')).depth ≤ 2 := Nat.le_trans (Nat.min_le_left _ _) (by simp [kD, PyData.depth, PyData.depthAll])
      show X.A.units + 1 + _ < _
      omega
  · have nS : HF S = none := I2.hok.fresh (Nat.le_of_eq hS.symm)
    have nI : HF It = none := IF.hok.fresh (Nat.le_of_eq hIt.symm)
    exact ⟨HF, TupX.refl _, I2, nS, nI⟩
  · rintro hn s3 ⟨H1, t1, I1, nS, nI⟩
    have hx : xs = [] := List.eq_nil_of_length_eq_zero (by have h7 := rv.length; rw [List.size_toArray] at hn; omega)
    exact ⟨d, _, I1.unlock (t1.1.get fp) nfz, e1, h0 hx _ (tupX_back hHF hp t1)⟩
  · rintro hn v s3 hv ⟨H1, t1, I1, nS, nI⟩
    rw [List.getElem?_toArray] at hv
    obtain ⟨x, hx, rx⟩ := vals_back rv hv
    refine ⟨x, _, I1.unlock (t1.1.get fp) nfz, rx, hq _ x _ hx (fun j' hj => ?_) (tupX_back hHF hp t1)⟩
    have hsz2 : its.toArray.size = xs.length := by have := rv.length; simp; omega
    exact argBest_least ks (its.toArray.size - 1) j' (by omega)
end
end Zb
set_option Elab.async false
set_option linter.all false
set_option maxRecDepth 100000
set_option maxHeartbeats 4000000
namespace My
open PySem PySem.Spec PyProof.Rows L2 Zb LamX NdefX
open Evl (tCut pss_cut)
def top (i : Nat) : Stmt := PySem.Challenge.pw_panethread_k43_tight_stretches.main.body.getD i (.Pass ⟨0, 0, 0, 0⟩)
abbrev s_is_whole : Stmt := top 8
abbrev N_is_whole : List Str := ["thing"]
theorem sc_is_whole : FnScope N_is_whole ["thing"] (defScope s_is_whole) := ⟨rfl, rfl, rfl, by decide +kernel, rfl, by decide +kernel, by decide +kernel⟩
abbrev s_is_within : Stmt := top 9
abbrev N_is_within : List Str := ["thing", "low", "high"]
theorem sc_is_within : FnScope N_is_within ["thing", "low", "high"] (defScope s_is_within) := ⟨rfl, rfl, rfl, by decide +kernel, rfl, by decide +kernel, by decide +kernel⟩
abbrev s_need_span : Stmt := top 10
abbrev N_need_span : List Str := ["begin", "end", "many"]
theorem sc_need_span : FnScope N_need_span ["begin", "end", "many"] (defScope s_need_span) := ⟨rfl, rfl, rfl, by decide +kernel, rfl, by decide +kernel, by decide +kernel⟩
abbrev s_is_turning : Stmt := top 13
abbrev N_is_turning : List Str := ["thing", "seen", "goal"]
theorem sc_is_turning : FnScope N_is_turning ["thing"] (defScope s_is_turning) := ⟨rfl, rfl, rfl, by decide +kernel, rfl, by decide +kernel, by decide +kernel⟩
abbrev s_need_turning : Stmt := top 14
abbrev N_need_turning : List Str := ["turning"]
theorem sc_need_turning : FnScope N_need_turning ["turning"] (defScope s_need_turning) := ⟨rfl, rfl, rfl, by decide +kernel, rfl, by decide +kernel, by decide +kernel⟩
abbrev s_need_place : Stmt := top 15
abbrev N_need_place : List Str := ["place", "most"]
theorem sc_need_place : FnScope N_need_place ["place", "most"] (defScope s_need_place) := ⟨rfl, rfl, rfl, by decide +kernel, rfl, by decide +kernel, by decide +kernel⟩
abbrev s_opposite : Stmt := top 16
abbrev N_opposite : List Str := ["turning", "found", "start", "goal"]
theorem sc_opposite : FnScope N_opposite ["turning"] (defScope s_opposite) := ⟨rfl, rfl, rfl, by decide +kernel, rfl, by decide +kernel, by decide +kernel⟩
abbrev s_mixed : Stmt := top 18
abbrev N_mixed : List Str := ["one", "other", "found", "at", "number"]
theorem sc_mixed : FnScope N_mixed ["one", "other"] (defScope s_mixed) := ⟨rfl, rfl, rfl, by decide +kernel, rfl, by decide +kernel, by decide +kernel⟩
abbrev s_floors_of : Stmt := top 19
abbrev N_floors_of : List Str := ["ends", "floors", "blocks", "above", "end", "left", "right"]
theorem sc_floors_of : FnScope N_floors_of ["ends"] (defScope s_floors_of) := ⟨rfl, rfl, rfl, by decide +kernel, rfl, by decide +kernel, by decide +kernel⟩
abbrev s_lesser : Stmt := top 20
abbrev N_lesser : List Str := ["block", "end", "low", "high", "amid"]
theorem sc_lesser : FnScope N_lesser ["block", "end"] (defScope s_lesser) := ⟨rfl, rfl, rfl, by decide +kernel, rfl, by decide +kernel, by decide +kernel⟩
abbrev s_need_window : Stmt := top 24
abbrev N_need_window : List Str := ["tall", "wide", "spans", "first", "last", "begin", "end", "starts", "stops"]
theorem sc_need_window : FnScope N_need_window ["tall", "wide", "spans"] (defScope s_need_window) := ⟨rfl, rfl, rfl, by decide +kernel, rfl, by decide +kernel, by decide +kernel⟩
abbrev s__law_cell : Stmt := top 27
abbrev N__law_cell : List Str := ["_law_script", "_law_k"]
theorem sc__law_cell : FnScope N__law_cell ["_law_script", "_law_k"] (defScope s__law_cell) := ⟨rfl, rfl, rfl, by decide +kernel, rfl, by decide +kernel, by decide +kernel⟩
abbrev s__law_numbers : Stmt := top 28
abbrev N__law_numbers : List Str := ["_law_cell_here", "_law_bases", "_law_prime", "_law_great", "_law_number", "_law_found", "_law_base"]
theorem sc__law_numbers : FnScope N__law_numbers ["_law_cell_here", "_law_bases", "_law_prime"] (defScope s__law_numbers) := ⟨rfl, rfl, rfl, by decide +kernel, rfl, by decide +kernel, by decide +kernel⟩
abbrev s__law_turning : Stmt := top 29
abbrev N__law_turning : List Str := ["_law_cell_here", "_law_many", "_law_prime", "_law_pool", "_law_found", "_law_at", "_law_k"]
theorem sc__law_turning : FnScope N__law_turning ["_law_cell_here", "_law_many", "_law_prime"] (defScope s__law_turning) := ⟨rfl, rfl, rfl, by decide +kernel, rfl, by decide +kernel, by decide +kernel⟩
abbrev s__law_size : Stmt := top 30
abbrev N__law_size : List Str := ["_law_cell_here"]
theorem sc__law_size : FnScope N__law_size ["_law_cell_here"] (defScope s__law_size) := ⟨rfl, rfl, rfl, by decide +kernel, rfl, by decide +kernel, by decide +kernel⟩
abbrev s__law_lengths : Stmt := top 31
abbrev N__law_lengths : List Str := ["_law_turning_here", "_law_tall", "_law_wide", "_law_numbered", "_law_found", "_law_begin", "_law_goal", "_law_end", "_law_many"]
theorem sc__law_lengths : FnScope N__law_lengths ["_law_turning_here", "_law_tall"] (defScope s__law_lengths) := ⟨rfl, rfl, rfl, by decide +kernel, rfl, by decide +kernel, by decide +kernel⟩
abbrev s__law_tightest : Stmt := top 32
abbrev N__law_tightest : List Str := ["_law_known", "_law_length", "_law_wide", "_law_found", "_law_later", "_law_begin", "_law_row", "_law_end", "_law_within", "_law_enough"]
theorem sc__law_tightest : FnScope N__law_tightest ["_law_known", "_law_length"] (defScope s__law_tightest) := ⟨rfl, rfl, rfl, by decide +kernel, rfl, by decide +kernel, by decide +kernel⟩
abbrev s__law_shortest : Stmt := top 33
abbrev N__law_shortest : List Str := ["_law_known", "_law_length", "_law_wide", "_law_width", "_law_begin"]
theorem sc__law_shortest : FnScope N__law_shortest ["_law_known", "_law_length"] (defScope s__law_shortest) := ⟨rfl, rfl, rfl, by decide +kernel, rfl, by decide +kernel, by decide +kernel⟩
abbrev s__law_gains : Stmt := top 34
abbrev N__law_gains : List Str := ["_law_known", "_law_begin", "_law_row", "_law_at"]
theorem sc__law_gains : FnScope N__law_gains ["_law_known", "_law_begin"] (defScope s__law_gains) := ⟨rfl, rfl, rfl, by decide +kernel, rfl, by decide +kernel, by decide +kernel⟩
abbrev s__law_losses : Stmt := top 35
abbrev N__law_losses : List Str := ["_law_known", "_law_end", "_law_at"]
theorem sc__law_losses : FnScope N__law_losses ["_law_known", "_law_end"] (defScope s__law_losses) := ⟨rfl, rfl, rfl, by decide +kernel, rfl, by decide +kernel, by decide +kernel⟩
abbrev s_Asks_gains : Stmt := inClass (top 25) 6
abbrev N_Asks_gains : List Str := ["self", "begin", "at"]
theorem sc_Asks_gains : FnScope N_Asks_gains ["self", "begin"] (defScope s_Asks_gains) := ⟨rfl, rfl, rfl, by decide +kernel, rfl, by decide +kernel, by decide +kernel⟩
abbrev s_Asks_losses : Stmt := inClass (top 25) 7
abbrev N_Asks_losses : List Str := ["self", "end", "at"]
theorem sc_Asks_losses : FnScope N_Asks_losses ["self", "end"] (defScope s_Asks_losses) := ⟨rfl, rfl, rfl, by decide +kernel, rfl, by decide +kernel, by decide +kernel⟩
abbrev s_Tally_from_on : Stmt := inClass (top 21) 1
abbrev N_Tally_from_on : List Str := ["self", "begin", "end", "total", "at", "floor"]
theorem sc_Tally_from_on : FnScope N_Tally_from_on ["self", "begin", "end"] (defScope s_Tally_from_on) := ⟨rfl, rfl, rfl, by decide +kernel, rfl, by decide +kernel, by decide +kernel⟩
abbrev s_Tally_below : Stmt := inClass (top 21) 2
abbrev N_Tally_below : List Str := ["self", "begin", "end"]
theorem sc_Tally_below : FnScope N_Tally_below ["self", "begin", "end"] (defScope s_Tally_below) := ⟨rfl, rfl, rfl, by decide +kernel, rfl, by decide +kernel, by decide +kernel⟩
abbrev s_Asks_window : Stmt := inClass (top 25) 1
abbrev N_Asks_window : List Str := ["self", "first", "last", "begin", "end"]
theorem sc_Asks_window : FnScope N_Asks_window ["self", "first", "last", "begin", "end"] (defScope s_Asks_window) := ⟨rfl, rfl, rfl, by decide +kernel, rfl, by decide +kernel, by decide +kernel⟩
abbrev s_Asks_stretch : Stmt := inClass (top 25) 2
abbrev N_Asks_stretch : List Str := ["self", "begin", "end"]
theorem sc_Asks_stretch : FnScope N_Asks_stretch ["self", "begin", "end"] (defScope s_Asks_stretch) := ⟨rfl, rfl, rfl, by decide +kernel, rfl, by decide +kernel, by decide +kernel⟩
abbrev s_Asks_tightest : Stmt := inClass (top 25) 10
abbrev N_Asks_tightest : List Str := ["self", "length", "found", "end", "begin"]
theorem sc_Asks_tightest : FnScope N_Asks_tightest ["self", "length"] (defScope s_Asks_tightest) := ⟨rfl, rfl, rfl, by decide +kernel, rfl, by decide +kernel, by decide +kernel⟩
abbrev s_Asks_shortest : Stmt := inClass (top 25) 11
abbrev N_Asks_shortest : List Str := ["self", "length", "found"]
theorem sc_Asks_shortest : FnScope N_Asks_shortest ["self", "length"] (defScope s_Asks_shortest) := ⟨rfl, rfl, rfl, by decide +kernel, rfl, by decide +kernel, by decide +kernel⟩
abbrev s__law_asked : Stmt := top 36
abbrev N__law_asked : List Str := ["_law_asks", "_law_known", "_law_cell_here", "_law_wide", "_law_kind", "_law_much", "_law_at", "_law_length", "_law_told", "_law_due"]
theorem sc__law_asked : FnScope N__law_asked ["_law_asks", "_law_known", "_law_cell_here"] (defScope s__law_asked) := ⟨rfl, rfl, rfl, by decide +kernel, rfl, by decide +kernel, by decide +kernel⟩
abbrev s_Tally_init : Stmt := inClass (top 21) 0
abbrev N_Tally_init : List Str := ["self", "turning"]
theorem sc_Tally_init : FnScope N_Tally_init ["self", "turning"] (defScope s_Tally_init) := ⟨rfl, rfl, rfl, by decide +kernel, rfl, by decide +kernel, by decide +kernel⟩
abbrev s_Asks_init : Stmt := inClass (top 25) 0
abbrev N_Asks_init : List Str := ["self", "lines", "many"]
theorem sc_Asks_init : FnScope N_Asks_init ["self", "lines", "many"] (defScope s_Asks_init) := ⟨rfl, rfl, rfl, by decide +kernel, rfl, by decide +kernel, by decide +kernel⟩
abbrev s_law : Stmt := top 37
abbrev N_law : List Str := ["_law_script", "_law_turning_here", "_law_talls", "_law_given", "_law_many", "_law_known", "_law_many_cells", "_law_asked_here", "_law_which", "_law_cell_here", "_law_length", "_law_k", "_law_tall"]
theorem sc_law : FnScope N_law ["_law_script"] (defScope s_law) := ⟨rfl, rfl, rfl, by decide +kernel, rfl, by decide +kernel, by decide +kernel⟩
local macro_rules | `(tactic| walk_at "hp") => `(tactic| first
  | assumption
  | exact upd_same
  | (refine upd_old (by assumption) ?_; walk_at "hp")
  | (refine Ex.get (by assumption) ?_; walk_at "hp")
  | (refine Fr.get (by assumption) (by assumption) ?_; walk_at "hp"))
local macro_rules | `(tactic| walk_at "kn") => `(tactic| first
  | exact KitN.nil
  | (refine KitN.cons ?_ ?_; (walk_at "ki"); (walk_at "kn")))
local macro_rules | `(tactic| walk_at "pu") => `(tactic| first
  | assumption
  | (refine Purse.ex ?_ (by assumption); walk_at "pu"))
local macro_rules | `(tactic| walk_at "fr") => `(tactic| first
  | exact Fr.refl _
  | assumption
  | exact Fr.ex (by assumption)
  | (refine Fr.trans ?_ (by assumption); walk_at "fr")
  | (refine Fr.trans ?_ (Fr.ex (by assumption)); walk_at "fr"))
local macro_rules | `(tactic| walk_at "sd") => `(tactic| first
  | omega
  | (simp only [tx_length, List.length_append, List.length_cons, List.length_nil, List.length_map, List.length_take, List.length_drop]; omega)
  | assumption
  | exact rfl
  | decide)
local macro_rules | `(tactic| walk_at "nw") => `(tactic| (intro q H' hq he hv; (try (have hne := Purse.ne (by assumption) hq; have hpu := Purse.ex (by assumption) he))))
local macro_rules | `(tactic| walk_at "nx") => `(tactic| (intro a d H' ha hd he hv; (try (have hpu := Purse.ex (by assumption) he))))
local macro_rules | `(tactic| walk_at "hx") => `(tactic| first
  | assumption
  | exact XcV.has (by assumption)
  | (refine' HasX.ex ?a7 (by assumption); (case a7 => walk_at "hx")))
local macro_rules | `(tactic| walk_at "sm") => `(tactic| first
  | exact Sm.nil
  | assumption
  | (refine Sm.app ?_ ?_ <;> walk_at "sm")
  | (refine Sm.cons ?_ ?_ <;> walk_at "sm")
  | exact Sm.up Sm.non (Nat.le_of_ble_eq_true rfl) (Nat.le_of_ble_eq_true rfl)
  | exact Sm.up (Sm.bl _) (Nat.le_of_ble_eq_true rfl) (Nat.le_of_ble_eq_true rfl)
  | exact Sm.up (Sm.int (by omega)) (Nat.le_of_ble_eq_true rfl) (Nat.le_of_ble_eq_true rfl)
  | exact Sm.up (Sm.str (by decide +kernel)) (Nat.le_of_ble_eq_true rfl) (Nat.le_of_ble_eq_true rfl)
  | (refine Sm.up (Sm.tup (n := 1) (k := 1) (by walk_at "hp") ?_ (Nat.le_refl _)) (Nat.le_of_ble_eq_true rfl) (Nat.le_of_ble_eq_true rfl); walk_at "sm")
  | (refine Sm.up (Sm.lst (n := 1) (k := 1) (by walk_at "hp") ?_ (Nat.le_refl _)) (Nat.le_of_ble_eq_true rfl) (Nat.le_of_ble_eq_true rfl); walk_at "sm"))
local macro_rules | `(tactic| walk_at "ln") => `(tactic| first | omega | (simp only [List.length_append, List.length_cons, List.length_nil, List.length_map, List.length_singleton]; omega))
local macro_rules | `(tactic| walk_at "sn") => `(tactic| first
  | exact Sm.nil
  | assumption
  | exact Sm.upA (by assumption) (Nat.le_of_ble_eq_true rfl) (Nat.le_of_ble_eq_true rfl)
  | exact Sm.up (by assumption) (Nat.le_of_ble_eq_true rfl) (Nat.le_of_ble_eq_true rfl)
  | (refine Sm.app ?_ ?_ <;> walk_at "sn")
  | (refine Sm.cons ?_ ?_ <;> walk_at "sn")
  | (refine Sm.cut ?_ ; walk_at "sn")
  | walk_at "sm"
  | (refine Sm.up (Sm.lst (n := 100) (k := 3) (by walk_at "hp") ?_ (Nat.le_refl _)) (Nat.le_of_ble_eq_true rfl) (Nat.le_of_ble_eq_true rfl); walk_at "sn")
  | (refine Sm.up (Sm.lst (n := 4) (k := 2) (m := 4612) (by walk_at "hp") ?_ (by walk_at "ln")) (Nat.le_of_ble_eq_true rfl) (Nat.le_of_ble_eq_true rfl); walk_at "sn")
  | (refine Sm.up (Sm.tup (n := 4) (k := 2) (m := 4612) (by walk_at "hp") ?_ (by walk_at "ln")) (Nat.le_of_ble_eq_true rfl) (Nat.le_of_ble_eq_true rfl); walk_at "sn"))
local macro_rules | `(tactic| walk_at "sg") => `(tactic| first
  | exact allE_nil
  | (refine allE_cons ?_ ?_ <;> walk_at "sg")
  | exact ⟨_, Sd.dk (by walk_at "hp")⟩
  | (refine SdE.of (n := 1) (k := 1) ?_ (by decide) (by decide); walk_at "sm")
  | (refine SdE.of (Sm.lst (n := 18500) (k := 5) (m := 50) (by walk_at "hp") ?_ (by walk_at "ln")) (by decide) (by decide); walk_at "sn")
  | (refine SdE.of (Sm.tup (n := 18500) (k := 5) (m := 50) (by walk_at "hp") ?_ (by walk_at "ln")) (by decide) (by decide); walk_at "sn"))
local macro_rules | `(tactic| walk_at "s") => `(tactic| first
  | ((with_reducible refine' st_var ?a0 ?_); (case a0 => exact rfl))
  | ((with_reducible refine' st_isR1 ?a0 ?_); (case a0 => constructor <;> walk_at "sd"))
  | ((with_reducible refine' st_isR2 ?a0 ?_); (case a0 => refine ⟨?_, ?_, ?_, ?_⟩ <;> walk_at "sd"))
  | ((with_reducible refine' st_c ?_))
  | ((with_reducible refine' st_op ?_))
  | ((with_reducible refine' st_seq ?_))
  | ((with_reducible refine' st_asg ?_))
  | ((with_reducible refine' st_name ?_))
  | ((with_reducible refine' st_cons ?_))
  | ((with_reducible refine' st_nil ?_))
  | ((with_reducible refine' st_call ?_))
  | ((with_reducible refine' st_cb ?_))
  | ((with_reducible refine' st_ckw ?_))
  | ((with_reducible refine' st_ret ?_))
  | ((with_reducible refine' st_drop ?_))
  | ((with_reducible refine' st_ifS ?_))
  | ((with_reducible refine' st_test ?_))
  | ((with_reducible refine' st_B ?_))
  | ((with_reducible refine' st_isb ?_))
  | ((with_reducible refine' st_and ?_))
  | ((with_reducible refine' st_or ?_))
  | ((with_reducible refine' st_not ?_))
  | ((with_reducible refine' st_andV ?_))
  | ((with_reducible refine' st_orV ?_))
  | ((with_reducible refine' st_notV ?_))
  | ((with_reducible refine' st_if ?_))
  | ((with_reducible refine' st_lst ?_))
  | ((with_reducible refine' st_tup ?_))
  | ((with_reducible refine' st_sl ?_))
  | ((with_reducible refine' st_part ?_))
  | ((with_reducible refine' st_nopart ?_))
  | ((with_reducible refine' st_isi ?_))
  | ((with_reducible refine' st_sub ?_))
  | ((with_reducible refine' st_next ?_))
  | ((with_reducible refine' st_un ?_))
  | ((with_reducible refine' st_rU ?_))
  | ((with_reducible refine' st_augI ?a0 ?_); (case a0 => exact rfl))
  | ((with_reducible refine' st_ipI ?_))
  | ((with_reducible refine' st_par ?_))
  | ((with_reducible refine' st_par2 ?_))
  | ((with_reducible refine' st_addI ?_))
  | ((with_reducible refine' st_subI ?_))
  | ((with_reducible refine' st_cmpI ?_))
  | ((with_reducible refine' st_eqI ?_))
  | ((with_reducible refine' st_neI ?_))
  | ((with_reducible refine' st_eqS ?_))
  | ((with_reducible refine' st_neS ?_))
  | ((with_reducible refine' st_eqB ?_))
  | ((with_reducible refine' st_neB ?_))
  | ((with_reducible refine' st_max2 ?_))
  | ((with_reducible refine' st_min2 ?_))
  | ((with_reducible refine' st_min3 ?_))
  | ((with_reducible refine' st_brk ?_))
  | ((with_reducible refine' st_cont ?_))
  | ((with_reducible refine' st_retN ?_))
  | ((with_reducible refine' st_new ?a0 ?_); (case a0 => exact Nat.le_of_ble_eq_true rfl); walk_at "nw")
  | ((with_reducible refine' st_modI ?a0 ?_); (case a0 => walk_at "sd"))
  | ((with_reducible refine' st_divI ?a0 ?_); (case a0 => constructor <;> walk_at "sd"))
  | ((with_reducible refine' st_mulI ?a0 ?_); (case a0 => walk_at "sd"))
  | ((with_reducible refine' st_powI ?a0 ?_); (case a0 => refine ⟨?_, ?_, ?_⟩ <;> decide))
  | ((with_reducible refine' st_addS ?a0 ?_); (case a0 => walk_at "sd"))
  | ((with_reducible refine' st_ixL ?a0 ?a1 ?_); (case a0 => walk_at "hp"); (case a1 => exact rfl))
  | ((with_reducible refine' st_ixT ?a0 ?a1 ?_); (case a0 => walk_at "hp"); (case a1 => exact rfl))
  | ((with_reducible refine' st_lenL ?a0 ?_); (case a0 => walk_at "hp"))
  | ((with_reducible refine' st_lenT ?a0 ?_); (case a0 => walk_at "hp"))
  | ((with_reducible refine' st_lenS ?a0 ?_); (case a0 => walk_at "sd"))
  | ((with_reducible refine' st_slS ?a0 ?_); (case a0 => walk_at "sd"))
  | ((with_reducible refine' st_slL (lst_of ?a0) ?_); (case a0 => walk_at "hp"); walk_at "nw")
  | ((with_reducible refine' st_addL ?a0 ?a1 ?a2 ?_); (case a0 => walk_at "hp"); (case a1 => walk_at "hp"); (case a2 => walk_at "sd"); walk_at "nw")
  | ((with_reducible refine' st_setL ?a0 ?a1 ?_); (case a0 => walk_at "hp"); (case a1 => exact rfl))
  | ((with_reducible refine' st_yes ?_))
  | ((with_reducible refine' st_isI ?a0 ?_); (case a0 => first | exact kit_ii | exact kit_ib | exact kit_il | exact kit_is | exact kit_it | decide +kernel))
  | ((with_reducible refine' st_isL ?a0 ?a1 ?_); (case a0 => walk_at "hp"); (case a1 => first | exact kit_ll | exact kit_lt | decide +kernel))
  | ((with_reducible refine' st_isT ?a0 ?a1 ?_); (case a0 => walk_at "hp"); (case a1 => first | exact kit_tt | exact kit_tl | decide +kernel))
  | ((with_reducible refine' st_isS' ?a0 ?_); (case a0 => first | exact kit_ss | decide +kernel))
  | ((with_reducible refine' st_isB ?a0 ?_); (case a0 => first | exact kit_bb | exact kit_bi | decide +kernel))
  | ((with_reducible refine' st_clear ?a0 ?_); (case a0 => walk_at "hp"))
  | ((with_reducible refine' st_gtup ?a0 ?a1 ?_); (case a0 => walk_at "hp"); (case a1 => exact rfl))
  | ((with_reducible refine' st_glst ?a0 ?a1 ?_); (case a0 => walk_at "hp"); (case a1 => exact rfl))
  | ((with_reducible refine' st_gcons ?_))
  | ((with_reducible refine' st_gnil ?_))
  | ((with_reducible refine' st_iEnS ?_))
  | ((with_reducible refine' st_isEnS ?_))
  | ((with_reducible refine' st_mulL ?a0 ?a1 ?a2 ?a3 ?_); (case a0 => walk_at "hp"); (case a1 => walk_at "sd"); (case a2 => walk_at "sd"); (case a3 => walk_at "sd"); walk_at "nw")
  | ((with_reducible refine' st_isBool ?_))
  | ((with_reducible refine' st_pair ?_))
  | ((with_reducible refine' st_pairs0 ?_))
  | ((with_reducible refine' st_disp ?_); walk_at "nw")
  | ((with_reducible refine' st_listS ?a0 ?_); (case a0 => walk_at "sd"); walk_at "nw")
  | ((with_reducible refine' st_tupS ?a0 ?_); (case a0 => walk_at "sd"); walk_at "nw")
  | ((with_reducible refine' st_listQ (seq_l ?a0) ?_); (case a0 => walk_at "hp"); walk_at "nw")
  | ((with_reducible refine' st_tupL (lst_of ?a0) ?_); (case a0 => walk_at "hp"); walk_at "nw")
  | ((with_reducible refine' st_for ?_))
  | ((with_reducible refine' st_lc ?_))
  | ((with_reducible refine' st_iStr ?_))
  | ((with_reducible refine' st_isStr ?_))
  | ((with_reducible refine' st_iList ?_))
  | ((with_reducible refine' st_isList (lst_of ?a0) ?_); (case a0 => walk_at "hp"))
  | ((with_reducible refine' st_iTup ?_))
  | ((with_reducible refine' st_isTup (tup_of ?a0) ?_); (case a0 => walk_at "hp"))
  | ((with_reducible refine' st_iR1 ?_))
  | ((with_reducible refine' st_iR2 ?_))
  | ((with_reducible refine' st_iEn ?_))
  | ((with_reducible refine' st_isEn (lst_of ?a0) ?_); (case a0 => walk_at "hp"))
  | ((with_reducible refine' st_iZp ?_))
  | ((with_reducible refine' st_isZp (lst_of ?a0) (lst_of ?a1) ?_); (case a0 => walk_at "hp"); (case a1 => walk_at "hp"))
  | ((with_reducible refine' st_inC ?_))
  | ((with_reducible refine' st_ninC ?_))
  | ((with_reducible refine' st_m1 ?_))
  | ((with_reducible refine' st_isS ?_))
  | ((with_reducible refine' st_bm ?_))
  | ((with_reducible refine' st_bm0 ?_))
  | ((with_reducible refine' st_tyL ?a0 ?_); (case a0 => walk_at "hp"))
  | ((with_reducible refine' st_isN ?_))
  | ((with_reducible refine' st_notN ?_))
  | ((with_reducible refine' st_intB ?_))
  | ((with_reducible refine' st_intI ?_))
  | ((with_reducible refine' st_iR3 ?_))
  | ((with_reducible refine' st_dget2 ?_))
  | ((with_reducible refine' st_dsetTU ?_))
  | ((with_reducible refine' st_isDT ?a0 ?_); (case a0 => walk_at "hp"))
  | ((with_reducible refine' st_dsetd ?_))
  | ((with_reducible refine' st_dnew ?_))
  | ((with_reducible refine' st_dnewP ?_); walk_at "nw")
  | ((with_reducible refine' st_isD ?a0 ?_); (case a0 => walk_at "hp"))
  | ((with_reducible refine' st_isB2 ?_))
  | ((with_reducible refine' st_notB2 ?_))
  | ((with_reducible refine' st_chain ?_))
  | ((with_reducible refine' st_tru ?_))
  | ((with_reducible refine' st_chN ?_))
  | ((with_reducible refine' st_aug ?_))
  | ((with_reducible refine' st_augP ?a0 ?a1 ?a2 ?a3 ?_); (case a0 => walk_at "hp"); (case a1 => walk_at "cl"); (case a2 => walk_at "na"); (case a3 => exact rfl))
  | ((with_reducible refine' st_inAdd ?_))
  | ((with_reducible refine' st_augE ?a0 ?a1 ?_); (case a0 => walk_at "hp"); (case a1 => exact Nat.le_of_ble_eq_true rfl))
  | ((with_reducible refine' st_lk ?_))
  | ((with_reducible refine' st_lk1 ?_))
  | ((with_reducible refine' st_truB ?_))
  | ((with_reducible refine' st_truI ?_))
  | ((with_reducible refine' st_while ?_))
  | ((with_reducible refine' st_st3 ?_))
  | ((with_reducible refine' st_revS ?a0 ?_); (case a0 => walk_at "sd"))
  | ((with_reducible refine' st_evS ?a0 ?_); (case a0 => walk_at "sd"))
  | ((with_reducible refine' st_odS ?a0 ?_); (case a0 => walk_at "sd"))
  | ((with_reducible refine' st_raise ?_))
  | ((with_reducible refine' st_mk1 ?a0 ?a1 ?_); (case a0 => walk_at "xo"); (case a1 => walk_at "nf"); walk_at "nw")
  | ((with_reducible refine' st_mk2 ?a0 ?a1 ?a2 ?_); (case a0 => walk_at "xo"); (case a1 => walk_at "nf"); (case a2 => walk_at "nf"); walk_at "nw")
  | ((with_reducible refine' st_try ?_))
  | ((with_reducible refine' st_callS ?_))
  | ((with_reducible refine' st_hYn ?a0 ?_); (case a0 => walk_at "ex"); intro ax hax)
  | ((with_reducible refine' st_hY0 ?a0 ?_); (case a0 => walk_at "ex"); intro ax hax)
  | ((with_reducible refine' st_hN ?a0 ?_); (case a0 => walk_at "ex"))
  | ((with_reducible refine' st_xe ?_))
  | ((with_reducible refine' st_xeP ?a0 ?a1 ?a2 ?a3 ?_); (case a0 => walk_at "xi"); (case a1 => walk_at "nf"); (case a2 => walk_at "hp"); (case a3 => exact rfl))
  | ((with_reducible refine' st_isX ?a0 ?a1 ?a2 ?_); (case a0 => walk_at "xi"); (case a1 => walk_at "hp"); (case a2 => walk_at "ki"))
  | ((with_reducible refine' st_isXT ?a0 ?a1 ?a2 ?_); (case a0 => walk_at "xi"); (case a1 => walk_at "hp"); (case a2 => walk_at "ki"))
  | ((with_reducible refine' st_isXs2 ?a0 ?a1 ?a2 ?a3 ?a4 ?_); (case a0 => walk_at "xi"); (case a1 => walk_at "hp"); (case a2 => walk_at "hp"); (case a3 => walk_at "ki"); (case a4 => walk_at "ki"))
  | ((with_reducible refine' st_isXsN ?a0 ?a1 ?a2 ?a3 ?_); (case a0 => walk_at "xi"); (case a1 => walk_at "hp"); (case a2 => walk_at "hp"); (case a3 => walk_at "kn"))
  | ((with_reducible refine' st_listRg ?_))
  | ((with_reducible refine' st_rgC ?_))
  | ((with_reducible refine' st_rg1 ?_))
  | ((with_reducible refine' st_rg2 ?_))
  | ((with_reducible refine' st_rg3 ?_))
  | ((with_reducible refine' st_rgUp ?a0 ?_); (case a0 => refine ⟨?_, ?_, ?_, ?_⟩ <;> walk_at "sd"); walk_at "nw")
  | ((with_reducible refine' st_rgDown ?a0 ?_); (case a0 => refine ⟨?_, ?_, ?_, ?_⟩ <;> walk_at "sd"); walk_at "nw")
  | ((with_reducible refine' st_divW ?a0 ?_); (case a0 => constructor <;> walk_at "sd"))
  | ((with_reducible refine' st_iSeq ?_))
  | ((with_reducible refine' st_iEnQ ?_))
  | ((with_reducible refine' st_gsl ?_))
  | ((with_reducible refine' st_augS ?a0 ?_); (case a0 => exact rfl))
  | ((with_reducible refine' st_ipS ?a0 ?_); (case a0 => walk_at "sd"))
  | ((with_reducible refine' st_rv ?_))
  | ((with_reducible refine' st_rvQ ?a0 ?_); (case a0 => first | walk_at "hp" | exact seq_l (by walk_at "hp") | exact seq_t (by walk_at "hp")); walk_at "nw")
  | ((with_reducible refine' st_xk ?_))
  | ((with_reducible refine' st_xkP ?a0 ?a1 ?a2 ?a3 ?a4 ?_); (case a0 => walk_at "hp"); (case a1 => walk_at "xi"); (case a2 => walk_at "nf"); (case a3 => walk_at "hp"); (case a4 => exact rfl))
  | ((with_reducible refine' st_isV ?a0 ?a1 ?a2 ?_); (case a0 => first | assumption | walk_at "hx"); (case a1 => first | assumption | walk_at "xi"); (case a2 => first | assumption | walk_at "ki"))
  | ((with_reducible refine' st_isVT ?a0 ?a1 ?a2 ?_); (case a0 => first | assumption | walk_at "hx"); (case a1 => first | assumption | walk_at "xi"); (case a2 => first | assumption | walk_at "ki"))
  | ((with_reducible refine' st_excV ?_))
  | ((with_reducible refine' st_exv1 ?a0 ?a1 ?_); (case a0 => walk_at "xo"); (case a1 => walk_at "nf"); walk_at "nx")
  | ((with_reducible refine' st_exv2 ?a0 ?a1 ?a2 ?_); (case a0 => walk_at "xo"); (case a1 => walk_at "nf"); (case a2 => walk_at "nf"); walk_at "nx")
  | ((with_reducible refine' st_divX ?a0 ?_); (case a0 => constructor <;> walk_at "sd"))
  | ((with_reducible refine' st_isK ?a0 ?a1 ?a2 ?a3 ?_); (case a0 => walk_at "hp"); (case a1 => walk_at "xi"); (case a2 => walk_at "hp"); (case a3 => walk_at "ki"))
  | ((with_reducible refine' st_isKT ?a0 ?a1 ?a2 ?a3 ?_); (case a0 => walk_at "hp"); (case a1 => walk_at "xi"); (case a2 => walk_at "hp"); (case a3 => walk_at "ki"))
  | ((with_reducible refine' st_isKs ?a0 ?a1 ?a2 ?a3 ?a4 ?_); (case a0 => walk_at "hp"); (case a1 => walk_at "xi"); (case a2 => walk_at "hp"); (case a3 => walk_at "hp"); (case a4 => walk_at "kn"))
  | ((with_reducible refine' st_fld ?_))
  | ((with_reducible refine' st_fldP ?a0 ?a1 ?a2 ?a3 ?_); (case a0 => walk_at "hp"); (case a1 => walk_at "cl"); (case a2 => walk_at "na"); (case a3 => exact rfl))
  | ((with_reducible refine' st_fldS ?_))
  | ((with_reducible refine' st_fldSP ?a0 ?a1 ?a2 ?a3 ?_); (case a0 => walk_at "hp"); (case a1 => walk_at "cl"); (case a2 => walk_at "na"); (case a3 => exact Nat.le_of_ble_eq_true rfl))
  | ((with_reducible refine' st_meth ?_))
  | ((with_reducible refine' st_methP ?a0 ?a1 ?_); (case a0 => walk_at "hp"); (case a1 => exact rfl))
  | ((with_reducible refine' st_make ?_))
  | ((with_reducible refine' st_methS ?_))
  | ((with_reducible refine' st_methD ?_))
  | ((with_reducible refine' st_makeS ?_))
  | ((with_reducible refine' st_dnewT ?_); walk_at "nw")
  | ((with_reducible refine' st_dputU ?_))
  | ((with_reducible refine' st_dget ?_))
  | ((with_reducible refine' st_gget1 ?_))
  | ((with_reducible refine' st_gget2 ?_))
  | ((with_reducible refine' st_gitem ?_))
  | ((with_reducible refine' st_gdat ?a0 ?_); (case a0 => walk_at "gd"))
  | ((with_reducible refine' st_gkey ?_))
  | ((with_reducible refine' st_upper ?a0 ?_); (case a0 => walk_at "sd"))
  | ((with_reducible refine' st_dinU ?_))
  | ((with_reducible refine' st_dninU ?_))
  | ((with_reducible refine' st_T ?a0 ?_); (case a0 => exact rfl))
  | ((with_reducible refine' st_F ?a0 ?_); (case a0 => exact rfl)))
local macro_rules | `(tactic| walk_at "go") => `(tactic| repeat walk_at "s")
local macro_rules | `(tactic| walk_at "s") => `(tactic| first
  | ((with_reducible refine' st_callCb ?_))
  | ((with_reducible refine' st_cbk ?a0 ?a1 ?_); (case a0 => exact rfl); (case a1 => walk_at "hp"))
  | ((with_reducible refine' st_cbP ?a0 ?a1 ?_); (case a0 => walk_at "hp"); (case a1 => walk_at "hp")))
def tabsL (tc : Nat → Addr × Addr) : List (Addr × Str) := [((tc 0).2, ("Asks.shortest" : Str) ++ ".<locals>." ++ "<lambda>")]
abbrev L_Asks_shortest : Expr := kwE 0 (asgE (bodyS s_Asks_shortest 1))
abbrev q_Asks_shortest : Str := ("Asks.shortest" : Str) ++ ".<locals>." ++ "<lambda>"
theorem ndf_Asks_shortest : ndefB (defScope s_Asks_shortest) (lamSc L_Asks_shortest) [] = true := by decide +kernel
theorem nsc_Asks_shortest : nscB ["span"] ["span"] [] (lamSc L_Asks_shortest) = true := by decide +kernel
abbrev si_NoPlace : Stmt := inClass (top 3) 0
theorem sci_NoPlace : FnScope ["self", "found"] ["self", "found"] (defScope si_NoPlace) := ⟨rfl, rfl, rfl, by decide +kernel, rfl, by decide +kernel, by decide +kernel⟩
abbrev si_NoTurning : Stmt := inClass (top 5) 0
theorem sci_NoTurning : FnScope ["self", "found"] ["self", "found"] (defScope si_NoTurning) := ⟨rfl, rfl, rfl, by decide +kernel, rfl, by decide +kernel, by decide +kernel⟩
abbrev si_NoSpan : Stmt := inClass (top 4) 0
theorem sci_NoSpan : FnScope ["self", "begin", "end"] ["self", "begin", "end"] (defScope si_NoSpan) := ⟨rfl, rfl, rfl, by decide +kernel, rfl, by decide +kernel, by decide +kernel⟩
set_option maxRecDepth 100000 in
set_option maxHeartbeats 0 in
theorem facts9 (w : World) {P9 : Prop} (h9 : ∀ {f0 f1 f2 f3 f4 f5 f6 f7 f8 f9 f10 f11 f12 f13 f14 f15 f16 f17 f18 f19 f20 f21 f22 f23 f24 f25 f26 f27 f28 f29 f30 f31 : Addr} {od0 od1 od2 od3 od4 od5 od6 od7 od8 od9 od10 od11 od12 od13 od14 od15 od16 od17 od18 od19 od20 od21 od22 od23 od24 od25 od26 od27 od28 od29 od30 od31 an0 an1 an2 an3 an4 an5 an6 an7 an8 an9 an10 an11 an12 an13 an14 an15 an16 an17 an18 an19 an20 an21 an22 an23 an24 an25 an26 an27 an28 an29 an30 an31 : Option Addr} {sl0 sl1 sl2 sl3 sl4 sl5 sl6 sl7 sl8 sl9 sl10 sl11 sl12 sl13 sl14 sl15 sl16 sl17 sl18 sl19 sl20 sl21 sl22 sl23 sl24 sl25 sl26 sl27 sl28 sl29 sl30 sl31 : Array (Option Value)} {oc0 oc1 oc2 oc3 oc4 oc5 oc6 oc7 oc8 oc9 oc10 oc11 oc12 oc13 oc14 oc15 oc16 oc17 oc18 oc19 oc20 oc21 oc22 oc23 oc24 oc25 oc26 oc27 oc28 oc29 oc30 oc31 kV0 kV1 kV2 kV3 kV4 kV5 kV6 kV7 kV8 kV9 kV10 kV11 kV12 kV13 kV14 kV15 kV16 kV17 kV18 kV19 kV20 kV21 kV22 kV23 kV24 kV25 kV26 kV27 kV28 kV29 kV30 kV31 dc0 dc1 dc2 dc3 dc4 dc5 dc6 dc7 dc8 dc9 dc10 dc11 dc12 dc13 dc14 dc15 dc16 dc17 dc18 dc19 dc20 dc21 dc22 dc23 dc24 dc25 dc26 dc27 dc28 dc29 dc30 dc31 pm0 pm1 pm2 pm3 pm4 pm5 pm6 pm7 pm8 pm9 pm10 pm11 pm12 pm13 pm14 pm15 pm16 pm17 pm18 pm19 pm20 pm21 pm22 pm23 pm24 pm25 pm26 pm27 pm28 pm29 pm30 pm31 cd0 cd1 cd2 cd3 cd4 cd5 cd6 cd7 cd8 cd9 cd10 cd11 cd12 cd13 cd14 cd15 cd16 cd17 cd18 cd19 cd20 cd21 cd22 cd23 cd24 cd25 cd26 cd28 cd29 cd30 cd31 ct0 ct1 ct2 ct3 ct4 ct5 ct6 ct7 ct8 ct9 ct10 ct11 ct12 ct13 ct14 ct15 ct16 ct17 ct18 ct19 ct20 ct21 ct22 ct23 ct24 ct25 ct26 ct27 ct28 ct29 ct30 ct31 : Value} {cc27 PT27 : Addr} {hc27 : Value} {hd27 : Option Addr} {hv27 : Array Value} {hs27 : Array (Option Value)} {t_0 t_1 : Tok} {C_NoSpan C_NoTurning C_NoPlace C_PaneError C_Asks C_Tally I_NoSpan I_NoTurning I_NoPlace : Addr} {xn_NoSpan xn_NoTurning xn_NoPlace xq_NoSpan xq_NoTurning xq_NoPlace : Str} {xN_NoSpan xN_NoTurning xN_NoPlace : Addr} {xb_NoSpan xb_NoTurning xb_NoPlace xu_NoSpan xu_NoTurning xu_NoPlace : List Value} {xs_NoSpan xs_NoTurning xs_NoPlace : List Str} {xa_NoSpan xa_NoTurning xa_NoPlace : Bool} {xc_NoSpan xc_NoTurning xc_NoPlace : Option Bool} {xd_NoSpan xd_NoTurning xd_NoPlace Iod_NoSpan Iod_NoTurning Iod_NoPlace Ian_NoSpan Ian_NoTurning Ian_NoPlace : Option Addr} {xk0_NoSpan xk0_NoTurning xk0_NoPlace xk1_NoSpan xk1_NoTurning xk1_NoPlace xk2_NoSpan xk2_NoTurning xk2_NoPlace xk3_NoSpan xk3_NoTurning xk3_NoPlace xk5_NoSpan xk5_NoTurning xk5_NoPlace : Option Value} {Ioc_NoSpan Ioc_NoTurning Ioc_NoPlace IkV_NoSpan IkV_NoTurning IkV_NoPlace Idc_NoSpan Idc_NoTurning Idc_NoPlace Ipm_NoSpan Ipm_NoTurning Ipm_NoPlace Icd_NoSpan Icd_NoTurning Icd_NoPlace Ict_NoSpan Ict_NoTurning Ict_NoPlace : Value} {Isl_NoSpan Isl_NoTurning Isl_NoPlace : Array (Option Value)} (a0 : PySem.W.nsIn (HdR.K9 w.params) mainGlobals "is_whole" = some (some (.ref f0))) (l0 : (HdR.K9 w.params).lookup f0 = some ⟨oc0, od0, .func (PySem.W.fnOf "is_whole" "is_whole" (defArgs s_is_whole) (defBody s_is_whole) (defScope s_is_whole) .none kV0 dc0 pm0 an0 cd0 ct0), sl0⟩) (c0 : PySem.W.codeIn (HdR.K9 w.params) cd0 "is_whole" = true) (k0 : PySem.W.keepIn (HdR.K9 w.params) (.ref f0) = true) (a1 : PySem.W.nsIn (HdR.K9 w.params) mainGlobals "is_within" = some (some (.ref f1))) (l1 : (HdR.K9 w.params).lookup f1 = some ⟨oc1, od1, .func (PySem.W.fnOf "is_within" "is_within" (defArgs s_is_within) (defBody s_is_within) (defScope s_is_within) .none kV1 dc1 pm1 an1 cd1 ct1), sl1⟩) (c1 : PySem.W.codeIn (HdR.K9 w.params) cd1 "is_within" = true) (k1 : PySem.W.keepIn (HdR.K9 w.params) (.ref f1) = true) (a2 : PySem.W.nsIn (HdR.K9 w.params) mainGlobals "need_span" = some (some (.ref f2))) (l2 : (HdR.K9 w.params).lookup f2 = some ⟨oc2, od2, .func (PySem.W.fnOf "need_span" "need_span" (defArgs s_need_span) (defBody s_need_span) (defScope s_need_span) .none kV2 dc2 pm2 an2 cd2 ct2), sl2⟩) (c2 : PySem.W.codeIn (HdR.K9 w.params) cd2 "need_span" = true) (k2 : PySem.W.keepIn (HdR.K9 w.params) (.ref f2) = true) (a3 : PySem.W.nsIn (HdR.K9 w.params) mainGlobals "is_turning" = some (some (.ref f3))) (l3 : (HdR.K9 w.params).lookup f3 = some ⟨oc3, od3, .func (PySem.W.fnOf "is_turning" "is_turning" (defArgs s_is_turning) (defBody s_is_turning) (defScope s_is_turning) .none kV3 dc3 pm3 an3 cd3 ct3), sl3⟩) (c3 : PySem.W.codeIn (HdR.K9 w.params) cd3 "is_turning" = true) (k3 : PySem.W.keepIn (HdR.K9 w.params) (.ref f3) = true) (a4 : PySem.W.nsIn (HdR.K9 w.params) mainGlobals "need_turning" = some (some (.ref f4))) (l4 : (HdR.K9 w.params).lookup f4 = some ⟨oc4, od4, .func (PySem.W.fnOf "need_turning" "need_turning" (defArgs s_need_turning) (defBody s_need_turning) (defScope s_need_turning) .none kV4 dc4 pm4 an4 cd4 ct4), sl4⟩) (c4 : PySem.W.codeIn (HdR.K9 w.params) cd4 "need_turning" = true) (k4 : PySem.W.keepIn (HdR.K9 w.params) (.ref f4) = true) (a5 : PySem.W.nsIn (HdR.K9 w.params) mainGlobals "need_place" = some (some (.ref f5))) (l5 : (HdR.K9 w.params).lookup f5 = some ⟨oc5, od5, .func (PySem.W.fnOf "need_place" "need_place" (defArgs s_need_place) (defBody s_need_place) (defScope s_need_place) .none kV5 dc5 pm5 an5 cd5 ct5), sl5⟩) (c5 : PySem.W.codeIn (HdR.K9 w.params) cd5 "need_place" = true) (k5 : PySem.W.keepIn (HdR.K9 w.params) (.ref f5) = true) (a6 : PySem.W.nsIn (HdR.K9 w.params) mainGlobals "opposite" = some (some (.ref f6))) (l6 : (HdR.K9 w.params).lookup f6 = some ⟨oc6, od6, .func (PySem.W.fnOf "opposite" "opposite" (defArgs s_opposite) (defBody s_opposite) (defScope s_opposite) .none kV6 dc6 pm6 an6 cd6 ct6), sl6⟩) (c6 : PySem.W.codeIn (HdR.K9 w.params) cd6 "opposite" = true) (k6 : PySem.W.keepIn (HdR.K9 w.params) (.ref f6) = true) (a7 : PySem.W.nsIn (HdR.K9 w.params) mainGlobals "mixed" = some (some (.ref f7))) (l7 : (HdR.K9 w.params).lookup f7 = some ⟨oc7, od7, .func (PySem.W.fnOf "mixed" "mixed" (defArgs s_mixed) (defBody s_mixed) (defScope s_mixed) .none kV7 dc7 pm7 an7 cd7 ct7), sl7⟩) (c7 : PySem.W.codeIn (HdR.K9 w.params) cd7 "mixed" = true) (k7 : PySem.W.keepIn (HdR.K9 w.params) (.ref f7) = true) (a8 : PySem.W.nsIn (HdR.K9 w.params) mainGlobals "floors_of" = some (some (.ref f8))) (l8 : (HdR.K9 w.params).lookup f8 = some ⟨oc8, od8, .func (PySem.W.fnOf "floors_of" "floors_of" (defArgs s_floors_of) (defBody s_floors_of) (defScope s_floors_of) .none kV8 dc8 pm8 an8 cd8 ct8), sl8⟩) (c8 : PySem.W.codeIn (HdR.K9 w.params) cd8 "floors_of" = true) (k8 : PySem.W.keepIn (HdR.K9 w.params) (.ref f8) = true) (a9 : PySem.W.nsIn (HdR.K9 w.params) mainGlobals "lesser" = some (some (.ref f9))) (l9 : (HdR.K9 w.params).lookup f9 = some ⟨oc9, od9, .func (PySem.W.fnOf "lesser" "lesser" (defArgs s_lesser) (defBody s_lesser) (defScope s_lesser) .none kV9 dc9 pm9 an9 cd9 ct9), sl9⟩) (c9 : PySem.W.codeIn (HdR.K9 w.params) cd9 "lesser" = true) (k9 : PySem.W.keepIn (HdR.K9 w.params) (.ref f9) = true) (a10 : PySem.W.nsIn (HdR.K9 w.params) mainGlobals "need_window" = some (some (.ref f10))) (l10 : (HdR.K9 w.params).lookup f10 = some ⟨oc10, od10, .func (PySem.W.fnOf "need_window" "need_window" (defArgs s_need_window) (defBody s_need_window) (defScope s_need_window) .none kV10 dc10 pm10 an10 cd10 ct10), sl10⟩) (c10 : PySem.W.codeIn (HdR.K9 w.params) cd10 "need_window" = true) (k10 : PySem.W.keepIn (HdR.K9 w.params) (.ref f10) = true) (a11 : PySem.W.nsIn (HdR.K9 w.params) mainGlobals "_law_cell" = some (some (.ref f11))) (l11 : (HdR.K9 w.params).lookup f11 = some ⟨oc11, od11, .func (PySem.W.fnOf "_law_cell" "_law_cell" (defArgs s__law_cell) (defBody s__law_cell) (defScope s__law_cell) .none kV11 dc11 pm11 an11 cd11 ct11), sl11⟩) (c11 : PySem.W.codeIn (HdR.K9 w.params) cd11 "_law_cell" = true) (k11 : PySem.W.keepIn (HdR.K9 w.params) (.ref f11) = true) (a12 : PySem.W.nsIn (HdR.K9 w.params) mainGlobals "_law_numbers" = some (some (.ref f12))) (l12 : (HdR.K9 w.params).lookup f12 = some ⟨oc12, od12, .func (PySem.W.fnOf "_law_numbers" "_law_numbers" (defArgs s__law_numbers) (defBody s__law_numbers) (defScope s__law_numbers) .none kV12 dc12 pm12 an12 cd12 ct12), sl12⟩) (c12 : PySem.W.codeIn (HdR.K9 w.params) cd12 "_law_numbers" = true) (k12 : PySem.W.keepIn (HdR.K9 w.params) (.ref f12) = true) (a13 : PySem.W.nsIn (HdR.K9 w.params) mainGlobals "_law_turning" = some (some (.ref f13))) (l13 : (HdR.K9 w.params).lookup f13 = some ⟨oc13, od13, .func (PySem.W.fnOf "_law_turning" "_law_turning" (defArgs s__law_turning) (defBody s__law_turning) (defScope s__law_turning) .none kV13 dc13 pm13 an13 cd13 ct13), sl13⟩) (c13 : PySem.W.codeIn (HdR.K9 w.params) cd13 "_law_turning" = true) (k13 : PySem.W.keepIn (HdR.K9 w.params) (.ref f13) = true) (a14 : PySem.W.nsIn (HdR.K9 w.params) mainGlobals "_law_size" = some (some (.ref f14))) (l14 : (HdR.K9 w.params).lookup f14 = some ⟨oc14, od14, .func (PySem.W.fnOf "_law_size" "_law_size" (defArgs s__law_size) (defBody s__law_size) (defScope s__law_size) .none kV14 dc14 pm14 an14 cd14 ct14), sl14⟩) (c14 : PySem.W.codeIn (HdR.K9 w.params) cd14 "_law_size" = true) (k14 : PySem.W.keepIn (HdR.K9 w.params) (.ref f14) = true) (a15 : PySem.W.nsIn (HdR.K9 w.params) mainGlobals "_law_lengths" = some (some (.ref f15))) (l15 : (HdR.K9 w.params).lookup f15 = some ⟨oc15, od15, .func (PySem.W.fnOf "_law_lengths" "_law_lengths" (defArgs s__law_lengths) (defBody s__law_lengths) (defScope s__law_lengths) .none kV15 dc15 pm15 an15 cd15 ct15), sl15⟩) (c15 : PySem.W.codeIn (HdR.K9 w.params) cd15 "_law_lengths" = true) (k15 : PySem.W.keepIn (HdR.K9 w.params) (.ref f15) = true) (a16 : PySem.W.nsIn (HdR.K9 w.params) mainGlobals "_law_tightest" = some (some (.ref f16))) (l16 : (HdR.K9 w.params).lookup f16 = some ⟨oc16, od16, .func (PySem.W.fnOf "_law_tightest" "_law_tightest" (defArgs s__law_tightest) (defBody s__law_tightest) (defScope s__law_tightest) .none kV16 dc16 pm16 an16 cd16 ct16), sl16⟩) (c16 : PySem.W.codeIn (HdR.K9 w.params) cd16 "_law_tightest" = true) (k16 : PySem.W.keepIn (HdR.K9 w.params) (.ref f16) = true) (a17 : PySem.W.nsIn (HdR.K9 w.params) mainGlobals "_law_shortest" = some (some (.ref f17))) (l17 : (HdR.K9 w.params).lookup f17 = some ⟨oc17, od17, .func (PySem.W.fnOf "_law_shortest" "_law_shortest" (defArgs s__law_shortest) (defBody s__law_shortest) (defScope s__law_shortest) .none kV17 dc17 pm17 an17 cd17 ct17), sl17⟩) (c17 : PySem.W.codeIn (HdR.K9 w.params) cd17 "_law_shortest" = true) (k17 : PySem.W.keepIn (HdR.K9 w.params) (.ref f17) = true) (a18 : PySem.W.nsIn (HdR.K9 w.params) mainGlobals "_law_gains" = some (some (.ref f18))) (l18 : (HdR.K9 w.params).lookup f18 = some ⟨oc18, od18, .func (PySem.W.fnOf "_law_gains" "_law_gains" (defArgs s__law_gains) (defBody s__law_gains) (defScope s__law_gains) .none kV18 dc18 pm18 an18 cd18 ct18), sl18⟩) (c18 : PySem.W.codeIn (HdR.K9 w.params) cd18 "_law_gains" = true) (k18 : PySem.W.keepIn (HdR.K9 w.params) (.ref f18) = true) (a19 : PySem.W.nsIn (HdR.K9 w.params) mainGlobals "_law_losses" = some (some (.ref f19))) (l19 : (HdR.K9 w.params).lookup f19 = some ⟨oc19, od19, .func (PySem.W.fnOf "_law_losses" "_law_losses" (defArgs s__law_losses) (defBody s__law_losses) (defScope s__law_losses) .none kV19 dc19 pm19 an19 cd19 ct19), sl19⟩) (c19 : PySem.W.codeIn (HdR.K9 w.params) cd19 "_law_losses" = true) (k19 : PySem.W.keepIn (HdR.K9 w.params) (.ref f19) = true) (a20 : PySem.W.findIn (HdR.K9 w.params) (.ref C_Asks) "gains" = some (some (.ref f20))) (i20 : PySem.W.isFn (HdR.K9 w.params) (.ref f20) = true) (l20 : (HdR.K9 w.params).lookup f20 = some ⟨oc20, od20, .func (PySem.W.fnOf "gains" "Asks.gains" (defArgs s_Asks_gains) (defBody s_Asks_gains) (defScope s_Asks_gains) .none kV20 dc20 pm20 an20 cd20 ct20), sl20⟩) (c20 : PySem.W.codeIn (HdR.K9 w.params) cd20 "Asks.gains" = true) (k20 : PySem.W.keepIn (HdR.K9 w.params) (.ref f20) = true) (a21 : PySem.W.findIn (HdR.K9 w.params) (.ref C_Asks) "losses" = some (some (.ref f21))) (i21 : PySem.W.isFn (HdR.K9 w.params) (.ref f21) = true) (l21 : (HdR.K9 w.params).lookup f21 = some ⟨oc21, od21, .func (PySem.W.fnOf "losses" "Asks.losses" (defArgs s_Asks_losses) (defBody s_Asks_losses) (defScope s_Asks_losses) .none kV21 dc21 pm21 an21 cd21 ct21), sl21⟩) (c21 : PySem.W.codeIn (HdR.K9 w.params) cd21 "Asks.losses" = true) (k21 : PySem.W.keepIn (HdR.K9 w.params) (.ref f21) = true) (a22 : PySem.W.findIn (HdR.K9 w.params) (.ref C_Tally) "from_on" = some (some (.ref f22))) (i22 : PySem.W.isFn (HdR.K9 w.params) (.ref f22) = true) (l22 : (HdR.K9 w.params).lookup f22 = some ⟨oc22, od22, .func (PySem.W.fnOf "from_on" "Tally.from_on" (defArgs s_Tally_from_on) (defBody s_Tally_from_on) (defScope s_Tally_from_on) .none kV22 dc22 pm22 an22 cd22 ct22), sl22⟩) (c22 : PySem.W.codeIn (HdR.K9 w.params) cd22 "Tally.from_on" = true) (k22 : PySem.W.keepIn (HdR.K9 w.params) (.ref f22) = true) (a23 : PySem.W.findIn (HdR.K9 w.params) (.ref C_Tally) "below" = some (some (.ref f23))) (i23 : PySem.W.isFn (HdR.K9 w.params) (.ref f23) = true) (l23 : (HdR.K9 w.params).lookup f23 = some ⟨oc23, od23, .func (PySem.W.fnOf "below" "Tally.below" (defArgs s_Tally_below) (defBody s_Tally_below) (defScope s_Tally_below) .none kV23 dc23 pm23 an23 cd23 ct23), sl23⟩) (c23 : PySem.W.codeIn (HdR.K9 w.params) cd23 "Tally.below" = true) (k23 : PySem.W.keepIn (HdR.K9 w.params) (.ref f23) = true) (a24 : PySem.W.findIn (HdR.K9 w.params) (.ref C_Asks) "window" = some (some (.ref f24))) (i24 : PySem.W.isFn (HdR.K9 w.params) (.ref f24) = true) (l24 : (HdR.K9 w.params).lookup f24 = some ⟨oc24, od24, .func (PySem.W.fnOf "window" "Asks.window" (defArgs s_Asks_window) (defBody s_Asks_window) (defScope s_Asks_window) .none kV24 dc24 pm24 an24 cd24 ct24), sl24⟩) (c24 : PySem.W.codeIn (HdR.K9 w.params) cd24 "Asks.window" = true) (k24 : PySem.W.keepIn (HdR.K9 w.params) (.ref f24) = true) (a25 : PySem.W.findIn (HdR.K9 w.params) (.ref C_Asks) "stretch" = some (some (.ref f25))) (i25 : PySem.W.isFn (HdR.K9 w.params) (.ref f25) = true) (l25 : (HdR.K9 w.params).lookup f25 = some ⟨oc25, od25, .func (PySem.W.fnOf "stretch" "Asks.stretch" (defArgs s_Asks_stretch) (defBody s_Asks_stretch) (defScope s_Asks_stretch) .none kV25 dc25 pm25 an25 cd25 ct25), sl25⟩) (c25 : PySem.W.codeIn (HdR.K9 w.params) cd25 "Asks.stretch" = true) (k25 : PySem.W.keepIn (HdR.K9 w.params) (.ref f25) = true) (a26 : PySem.W.findIn (HdR.K9 w.params) (.ref C_Asks) "tightest" = some (some (.ref f26))) (i26 : PySem.W.isFn (HdR.K9 w.params) (.ref f26) = true) (l26 : (HdR.K9 w.params).lookup f26 = some ⟨oc26, od26, .func (PySem.W.fnOf "tightest" "Asks.tightest" (defArgs s_Asks_tightest) (defBody s_Asks_tightest) (defScope s_Asks_tightest) .none kV26 dc26 pm26 an26 cd26 ct26), sl26⟩) (c26 : PySem.W.codeIn (HdR.K9 w.params) cd26 "Asks.tightest" = true) (k26 : PySem.W.keepIn (HdR.K9 w.params) (.ref f26) = true) (a27 : PySem.W.findIn (HdR.K9 w.params) (.ref C_Asks) "shortest" = some (some (.ref f27))) (i27 : PySem.W.isFn (HdR.K9 w.params) (.ref f27) = true) (l27 : (HdR.K9 w.params).lookup f27 = some ⟨oc27, od27, .func (PySem.W.fnOf "shortest" "Asks.shortest" (defArgs s_Asks_shortest) (defBody s_Asks_shortest) (defScope s_Asks_shortest) .none kV27 dc27 pm27 an27 (.ref cc27) ct27), sl27⟩) (c27 : PySem.W.codeIn (HdR.K9 w.params) (.ref cc27) "Asks.shortest" = true) (k27 : PySem.W.keepIn (HdR.K9 w.params) (.ref f27) = true) (h27 : (HdR.K9 w.params).lookup cc27 = some ⟨hc27, hd27, .fields hv27, hs27⟩) (p27 : (hv27[11]? : Option Value) = some (.ref PT27)) (g27 : PySem.W.codeHdIn (HdR.K9 w.params) cc27 PT27 = true) (n27 : (HdR.K9 w.params).lookup PT27 = none) (t27 : PT27 ∈ HdR.t9) (a28 : PySem.W.nsIn (HdR.K9 w.params) mainGlobals "_law_asked" = some (some (.ref f28))) (l28 : (HdR.K9 w.params).lookup f28 = some ⟨oc28, od28, .func (PySem.W.fnOf "_law_asked" "_law_asked" (defArgs s__law_asked) (defBody s__law_asked) (defScope s__law_asked) .none kV28 dc28 pm28 an28 cd28 ct28), sl28⟩) (c28 : PySem.W.codeIn (HdR.K9 w.params) cd28 "_law_asked" = true) (k28 : PySem.W.keepIn (HdR.K9 w.params) (.ref f28) = true) (a29 : PySem.W.findIn (HdR.K9 w.params) (.ref C_Tally) "__init__" = some (some (.ref f29))) (i29 : PySem.W.isFn (HdR.K9 w.params) (.ref f29) = true) (l29 : (HdR.K9 w.params).lookup f29 = some ⟨oc29, od29, .func (PySem.W.fnOf "__init__" "Tally.__init__" (defArgs s_Tally_init) (defBody s_Tally_init) (defScope s_Tally_init) .none kV29 dc29 pm29 an29 cd29 ct29), sl29⟩) (c29 : PySem.W.codeIn (HdR.K9 w.params) cd29 "Tally.__init__" = true) (k29 : PySem.W.keepIn (HdR.K9 w.params) (.ref f29) = true) (a30 : PySem.W.findIn (HdR.K9 w.params) (.ref C_Asks) "__init__" = some (some (.ref f30))) (i30 : PySem.W.isFn (HdR.K9 w.params) (.ref f30) = true) (l30 : (HdR.K9 w.params).lookup f30 = some ⟨oc30, od30, .func (PySem.W.fnOf "__init__" "Asks.__init__" (defArgs s_Asks_init) (defBody s_Asks_init) (defScope s_Asks_init) .none kV30 dc30 pm30 an30 cd30 ct30), sl30⟩) (c30 : PySem.W.codeIn (HdR.K9 w.params) cd30 "Asks.__init__" = true) (k30 : PySem.W.keepIn (HdR.K9 w.params) (.ref f30) = true) (a31 : PySem.W.nsIn (HdR.K9 w.params) mainGlobals "law" = some (some (.ref f31))) (l31 : (HdR.K9 w.params).lookup f31 = some ⟨oc31, od31, .func (PySem.W.fnOf "law" "law" (defArgs s_law) (defBody s_law) (defScope s_law) .none kV31 dc31 pm31 an31 cd31 ct31), sl31⟩) (c31 : PySem.W.codeIn (HdR.K9 w.params) cd31 "law" = true) (k31 : PySem.W.keepIn (HdR.K9 w.params) (.ref f31) = true) (cn0 : PySem.W.nsIn (HdR.K9 w.params) mainGlobals "MOST_LINES" = some (some (.int 96 t_0))) (cn1 : PySem.W.nsIn (HdR.K9 w.params) mainGlobals "MOST_LENGTH" = some (some (.int 96 t_1))) (z0 : PySem.W.nsIn (HdR.K9 w.params) mainGlobals "isinstance" = some none) (z1 : PySem.W.nsIn (HdR.K9 w.params) mainGlobals "int" = some none) (z2 : PySem.W.nsIn (HdR.K9 w.params) mainGlobals "bool" = some none) (z3 : PySem.W.nsIn (HdR.K9 w.params) mainGlobals "len" = some none) (z4 : PySem.W.nsIn (HdR.K9 w.params) mainGlobals "list" = some none) (z5 : PySem.W.nsIn (HdR.K9 w.params) mainGlobals "tuple" = some none) (z6 : PySem.W.nsIn (HdR.K9 w.params) mainGlobals "enumerate" = some none) (z7 : PySem.W.nsIn (HdR.K9 w.params) mainGlobals "zip" = some none) (z8 : PySem.W.nsIn (HdR.K9 w.params) mainGlobals "range" = some none) (z9 : PySem.W.nsIn (HdR.K9 w.params) mainGlobals "max" = some none) (z10 : PySem.W.nsIn (HdR.K9 w.params) mainGlobals "min" = some none) (g_NoSpan : PySem.W.nsIn (HdR.K9 w.params) mainGlobals "NoSpan" = some (some (.ref C_NoSpan))) (g_NoTurning : PySem.W.nsIn (HdR.K9 w.params) mainGlobals "NoTurning" = some (some (.ref C_NoTurning))) (g_NoPlace : PySem.W.nsIn (HdR.K9 w.params) mainGlobals "NoPlace" = some (some (.ref C_NoPlace))) (g_PaneError : PySem.W.nsIn (HdR.K9 w.params) mainGlobals "PaneError" = some (some (.ref C_PaneError))) (lk_NoSpan : (HdR.K9 w.params).lookup C_NoSpan = some (excClassObj xn_NoSpan xq_NoSpan C_NoSpan xN_NoSpan xb_NoSpan [.ref C_PaneError, .type "ValueError", .type "Exception", .type "BaseException", .type "object"] true xs_NoSpan xu_NoSpan xa_NoSpan xc_NoSpan xd_NoSpan xk0_NoSpan xk1_NoSpan xk2_NoSpan xk3_NoSpan xk5_NoSpan "ValueError.__new__")) (f_setattr_NoSpan : PySem.W.findIn (HdR.K9 w.params) (.ref C_NoSpan) "__setattr__" = some (some (.builtin "object.__setattr__"))) (sb_NoSpan : PySem.W.subIn (HdR.K9 w.params) (.ref C_NoSpan) (.type "BaseException") = some true) (ty_NoSpan : PySem.W.typeIn (HdR.K9 w.params) (.ref C_NoSpan) = some (.type "type")) (k_NoSpan : PySem.W.keepIn (HdR.K9 w.params) (.ref C_NoSpan) = true) (f_begin_NoSpan : PySem.W.findIn (HdR.K9 w.params) (.ref C_NoSpan) "begin" = some none) (f_end_NoSpan : PySem.W.findIn (HdR.K9 w.params) (.ref C_NoSpan) "end" = some none) (ini_NoSpan : PySem.W.findIn (HdR.K9 w.params) (.ref C_NoSpan) "__init__" = some (some (.ref I_NoSpan))) (int_NoSpan : PySem.W.typeIn (HdR.K9 w.params) (.ref I_NoSpan) = some (.type "function")) (il_NoSpan : (HdR.K9 w.params).lookup I_NoSpan = some ⟨Ioc_NoSpan, Iod_NoSpan, .func (PySem.W.fnOf "__init__" "NoSpan.__init__" (defArgs si_NoSpan) (defBody si_NoSpan) (defScope si_NoSpan) .none IkV_NoSpan Idc_NoSpan Ipm_NoSpan Ian_NoSpan Icd_NoSpan Ict_NoSpan), Isl_NoSpan⟩) (ic_NoSpan : PySem.W.codeIn (HdR.K9 w.params) Icd_NoSpan "NoSpan.__init__" = true) (ik_NoSpan : PySem.W.keepIn (HdR.K9 w.params) (.ref I_NoSpan) = true) (lk_NoTurning : (HdR.K9 w.params).lookup C_NoTurning = some (excClassObj xn_NoTurning xq_NoTurning C_NoTurning xN_NoTurning xb_NoTurning [.ref C_PaneError, .type "ValueError", .type "Exception", .type "BaseException", .type "object"] true xs_NoTurning xu_NoTurning xa_NoTurning xc_NoTurning xd_NoTurning xk0_NoTurning xk1_NoTurning xk2_NoTurning xk3_NoTurning xk5_NoTurning "ValueError.__new__")) (f_setattr_NoTurning : PySem.W.findIn (HdR.K9 w.params) (.ref C_NoTurning) "__setattr__" = some (some (.builtin "object.__setattr__"))) (sb_NoTurning : PySem.W.subIn (HdR.K9 w.params) (.ref C_NoTurning) (.type "BaseException") = some true) (ty_NoTurning : PySem.W.typeIn (HdR.K9 w.params) (.ref C_NoTurning) = some (.type "type")) (k_NoTurning : PySem.W.keepIn (HdR.K9 w.params) (.ref C_NoTurning) = true) (f_found_NoTurning : PySem.W.findIn (HdR.K9 w.params) (.ref C_NoTurning) "found" = some none) (ini_NoTurning : PySem.W.findIn (HdR.K9 w.params) (.ref C_NoTurning) "__init__" = some (some (.ref I_NoTurning))) (int_NoTurning : PySem.W.typeIn (HdR.K9 w.params) (.ref I_NoTurning) = some (.type "function")) (il_NoTurning : (HdR.K9 w.params).lookup I_NoTurning = some ⟨Ioc_NoTurning, Iod_NoTurning, .func (PySem.W.fnOf "__init__" "NoTurning.__init__" (defArgs si_NoTurning) (defBody si_NoTurning) (defScope si_NoTurning) .none IkV_NoTurning Idc_NoTurning Ipm_NoTurning Ian_NoTurning Icd_NoTurning Ict_NoTurning), Isl_NoTurning⟩) (ic_NoTurning : PySem.W.codeIn (HdR.K9 w.params) Icd_NoTurning "NoTurning.__init__" = true) (ik_NoTurning : PySem.W.keepIn (HdR.K9 w.params) (.ref I_NoTurning) = true) (lk_NoPlace : (HdR.K9 w.params).lookup C_NoPlace = some (excClassObj xn_NoPlace xq_NoPlace C_NoPlace xN_NoPlace xb_NoPlace [.ref C_PaneError, .type "ValueError", .type "Exception", .type "BaseException", .type "object"] true xs_NoPlace xu_NoPlace xa_NoPlace xc_NoPlace xd_NoPlace xk0_NoPlace xk1_NoPlace xk2_NoPlace xk3_NoPlace xk5_NoPlace "ValueError.__new__")) (f_setattr_NoPlace : PySem.W.findIn (HdR.K9 w.params) (.ref C_NoPlace) "__setattr__" = some (some (.builtin "object.__setattr__"))) (sb_NoPlace : PySem.W.subIn (HdR.K9 w.params) (.ref C_NoPlace) (.type "BaseException") = some true) (ty_NoPlace : PySem.W.typeIn (HdR.K9 w.params) (.ref C_NoPlace) = some (.type "type")) (k_NoPlace : PySem.W.keepIn (HdR.K9 w.params) (.ref C_NoPlace) = true) (f_found_NoPlace : PySem.W.findIn (HdR.K9 w.params) (.ref C_NoPlace) "found" = some none) (ini_NoPlace : PySem.W.findIn (HdR.K9 w.params) (.ref C_NoPlace) "__init__" = some (some (.ref I_NoPlace))) (int_NoPlace : PySem.W.typeIn (HdR.K9 w.params) (.ref I_NoPlace) = some (.type "function")) (il_NoPlace : (HdR.K9 w.params).lookup I_NoPlace = some ⟨Ioc_NoPlace, Iod_NoPlace, .func (PySem.W.fnOf "__init__" "NoPlace.__init__" (defArgs si_NoPlace) (defBody si_NoPlace) (defScope si_NoPlace) .none IkV_NoPlace Idc_NoPlace Ipm_NoPlace Ian_NoPlace Icd_NoPlace Ict_NoPlace), Isl_NoPlace⟩) (ic_NoPlace : PySem.W.codeIn (HdR.K9 w.params) Icd_NoPlace "NoPlace.__init__" = true) (ik_NoPlace : PySem.W.keepIn (HdR.K9 w.params) (.ref I_NoPlace) = true) (ba_PaneError : PySem.W.specialIn (HdR.K9 w.params) (.ref C_PaneError) "__getattribute__" = some (some (.builtin "type.__getattribute__"))) (br_PaneError : PySem.W.readsIn (HdR.K9 w.params) C_PaneError (.type "type") = true) (bf_PaneError : PySem.W.findCls (HdR.K9 w.params) (.ref C_PaneError) (.type "type") "__init__" = some (.val (.builtin "ValueError.__init__"))) (g_Asks : PySem.W.nsIn (HdR.K9 w.params) mainGlobals "Asks" = some (some (.ref C_Asks))) (pg_Asks : PySem.W.plainGet (HdR.K9 w.params) C_Asks Str.empty = true) (hd_Asks : PySem.W.hasDictIn (HdR.K9 w.params) C_Asks = true) (po_Asks : PySem.W.plainOver (HdR.K9 w.params) C_Asks = true) (sa_Asks : PySem.W.findIn (HdR.K9 w.params) (.ref C_Asks) "__setattr__" = some (some (.builtin "object.__setattr__"))) (na_Asks_tall : PySem.W.findIn (HdR.K9 w.params) (.ref C_Asks) "tall" = some none) (na_Asks_wide : PySem.W.findIn (HdR.K9 w.params) (.ref C_Asks) "wide" = some none) (na_Asks_tally : PySem.W.findIn (HdR.K9 w.params) (.ref C_Asks) "tally" = some none) (na_Asks_goals : PySem.W.findIn (HdR.K9 w.params) (.ref C_Asks) "goals" = some none) (na_Asks_starts : PySem.W.findIn (HdR.K9 w.params) (.ref C_Asks) "starts" = some none) (mk_Asks : PySem.W.makesIn (HdR.K9 w.params) C_Asks = true) (kc_Asks : PySem.W.keepIn (HdR.K9 w.params) (.ref C_Asks) = true) (g_Tally : PySem.W.nsIn (HdR.K9 w.params) mainGlobals "Tally" = some (some (.ref C_Tally))) (pg_Tally : PySem.W.plainGet (HdR.K9 w.params) C_Tally Str.empty = true) (hd_Tally : PySem.W.hasDictIn (HdR.K9 w.params) C_Tally = true) (po_Tally : PySem.W.plainOver (HdR.K9 w.params) C_Tally = true) (sa_Tally : PySem.W.findIn (HdR.K9 w.params) (.ref C_Tally) "__setattr__" = some (some (.builtin "object.__setattr__"))) (na_Tally_many : PySem.W.findIn (HdR.K9 w.params) (.ref C_Tally) "many" = some none) (na_Tally_floors : PySem.W.findIn (HdR.K9 w.params) (.ref C_Tally) "floors" = some none) (mk_Tally : PySem.W.makesIn (HdR.K9 w.params) C_Tally = true) (kc_Tally : PySem.W.keepIn (HdR.K9 w.params) (.ref C_Tally) = true), P9) : P9 := by
  dsimp only [HdR.K9, HdQ.kOfM, HdQ.kOfK] at h9
  refine' h9 ?a0 ?l0 ?c0 ?k0 ?a1 ?l1 ?c1 ?k1 ?a2 ?l2 ?c2 ?k2 ?a3 ?l3 ?c3 ?k3 ?a4 ?l4 ?c4 ?k4 ?a5 ?l5 ?c5 ?k5 ?a6 ?l6 ?c6 ?k6 ?a7 ?l7 ?c7 ?k7 ?a8 ?l8 ?c8 ?k8 ?a9 ?l9 ?c9 ?k9 ?a10 ?l10 ?c10 ?k10 ?a11 ?l11 ?c11 ?k11 ?a12 ?l12 ?c12 ?k12 ?a13 ?l13 ?c13 ?k13 ?a14 ?l14 ?c14 ?k14 ?a15 ?l15 ?c15 ?k15 ?a16 ?l16 ?c16 ?k16 ?a17 ?l17 ?c17 ?k17 ?a18 ?l18 ?c18 ?k18 ?a19 ?l19 ?c19 ?k19 ?a20 ?i20 ?l20 ?c20 ?k20 ?a21 ?i21 ?l21 ?c21 ?k21 ?a22 ?i22 ?l22 ?c22 ?k22 ?a23 ?i23 ?l23 ?c23 ?k23 ?a24 ?i24 ?l24 ?c24 ?k24 ?a25 ?i25 ?l25 ?c25 ?k25 ?a26 ?i26 ?l26 ?c26 ?k26 ?a27 ?i27 ?l27 ?c27 ?k27 ?h27 ?p27 ?g27 ?n27 ?t27 ?a28 ?l28 ?c28 ?k28 ?a29 ?i29 ?l29 ?c29 ?k29 ?a30 ?i30 ?l30 ?c30 ?k30 ?a31 ?l31 ?c31 ?k31 ?cn0 ?cn1 ?z0 ?z1 ?z2 ?z3 ?z4 ?z5 ?z6 ?z7 ?z8 ?z9 ?z10 ?g_NoSpan ?g_NoTurning ?g_NoPlace ?g_PaneError ?lk_NoSpan ?f_setattr_NoSpan ?sb_NoSpan ?ty_NoSpan ?k_NoSpan ?f_begin_NoSpan ?f_end_NoSpan ?ini_NoSpan ?int_NoSpan ?il_NoSpan ?ic_NoSpan ?ik_NoSpan ?lk_NoTurning ?f_setattr_NoTurning ?sb_NoTurning ?ty_NoTurning ?k_NoTurning ?f_found_NoTurning ?ini_NoTurning ?int_NoTurning ?il_NoTurning ?ic_NoTurning ?ik_NoTurning ?lk_NoPlace ?f_setattr_NoPlace ?sb_NoPlace ?ty_NoPlace ?k_NoPlace ?f_found_NoPlace ?ini_NoPlace ?int_NoPlace ?il_NoPlace ?ic_NoPlace ?ik_NoPlace ?ba_PaneError ?br_PaneError ?bf_PaneError ?g_Asks ?pg_Asks ?hd_Asks ?po_Asks ?sa_Asks ?na_Asks_tall ?na_Asks_wide ?na_Asks_tally ?na_Asks_goals ?na_Asks_starts ?mk_Asks ?kc_Asks ?g_Tally ?pg_Tally ?hd_Tally ?po_Tally ?sa_Tally ?na_Tally_many ?na_Tally_floors ?mk_Tally ?kc_Tally
  (case g_NoSpan => k_is)
  (case g_NoTurning => k_is)
  (case g_NoPlace => k_is)
  (case g_PaneError => k_is)
  (case g_Asks => k_is)
  (case g_Tally => k_is)
  (case a0 => k_is)
  (case l0 => k_is)
  (case c0 => k_is)
  (case k0 => k_is)
  (case a1 => k_is)
  (case l1 => k_is)
  (case c1 => k_is)
  (case k1 => k_is)
  (case a2 => k_is)
  (case l2 => k_is)
  (case c2 => k_is)
  (case k2 => k_is)
  (case a3 => k_is)
  (case l3 => k_is)
  (case c3 => k_is)
  (case k3 => k_is)
  (case a4 => k_is)
  (case l4 => k_is)
  (case c4 => k_is)
  (case k4 => k_is)
  (case a5 => k_is)
  (case l5 => k_is)
  (case c5 => k_is)
  (case k5 => k_is)
  (case a6 => k_is)
  (case l6 => k_is)
  (case c6 => k_is)
  (case k6 => k_is)
  (case a7 => k_is)
  (case l7 => k_is)
  (case c7 => k_is)
  (case k7 => k_is)
  (case a8 => k_is)
  (case l8 => k_is)
  (case c8 => k_is)
  (case k8 => k_is)
  (case a9 => k_is)
  (case l9 => k_is)
  (case c9 => k_is)
  (case k9 => k_is)
  (case a10 => k_is)
  (case l10 => k_is)
  (case c10 => k_is)
  (case k10 => k_is)
  (case a11 => k_is)
  (case l11 => k_is)
  (case c11 => k_is)
  (case k11 => k_is)
  (case a12 => k_is)
  (case l12 => k_is)
  (case c12 => k_is)
  (case k12 => k_is)
  (case a13 => k_is)
  (case l13 => k_is)
  (case c13 => k_is)
  (case k13 => k_is)
  (case a14 => k_is)
  (case l14 => k_is)
  (case c14 => k_is)
  (case k14 => k_is)
  (case a15 => k_is)
  (case l15 => k_is)
  (case c15 => k_is)
  (case k15 => k_is)
  (case a16 => k_is)
  (case l16 => k_is)
  (case c16 => k_is)
  (case k16 => k_is)
  (case a17 => k_is)
  (case l17 => k_is)
  (case c17 => k_is)
  (case k17 => k_is)
  (case a18 => k_is)
  (case l18 => k_is)
  (case c18 => k_is)
  (case k18 => k_is)
  (case a19 => k_is)
  (case l19 => k_is)
  (case c19 => k_is)
  (case k19 => k_is)
  (case a20 => k_is)
  (case i20 => k_is)
  (case l20 => k_is)
  (case c20 => k_is)
  (case k20 => k_is)
  (case a21 => k_is)
  (case i21 => k_is)
  (case l21 => k_is)
  (case c21 => k_is)
  (case k21 => k_is)
  (case a22 => k_is)
  (case i22 => k_is)
  (case l22 => k_is)
  (case c22 => k_is)
  (case k22 => k_is)
  (case a23 => k_is)
  (case i23 => k_is)
  (case l23 => k_is)
  (case c23 => k_is)
  (case k23 => k_is)
  (case a24 => k_is)
  (case i24 => k_is)
  (case l24 => k_is)
  (case c24 => k_is)
  (case k24 => k_is)
  (case a25 => k_is)
  (case i25 => k_is)
  (case l25 => k_is)
  (case c25 => k_is)
  (case k25 => k_is)
  (case a26 => k_is)
  (case i26 => k_is)
  (case l26 => k_is)
  (case c26 => k_is)
  (case k26 => k_is)
  (case a27 => k_is)
  (case i27 => k_is)
  (case l27 => k_is)
  (case c27 => k_is)
  (case k27 => k_is)
  (case h27 => k_is)
  (case p27 => exact rfl)
  (case g27 => kernel_rfl)
  (case n27 => kernel_rfl)
  (case t27 => exact (by decide))
  (case a28 => k_is)
  (case l28 => k_is)
  (case c28 => k_is)
  (case k28 => k_is)
  (case a29 => k_is)
  (case i29 => k_is)
  (case l29 => k_is)
  (case c29 => k_is)
  (case k29 => k_is)
  (case a30 => k_is)
  (case i30 => k_is)
  (case l30 => k_is)
  (case c30 => k_is)
  (case k30 => k_is)
  (case a31 => k_is)
  (case l31 => k_is)
  (case c31 => k_is)
  (case k31 => k_is)
  (case cn0 => k_is)
  (case cn1 => k_is)
  (case z0 => k_is)
  (case z1 => k_is)
  (case z2 => k_is)
  (case z3 => k_is)
  (case z4 => k_is)
  (case z5 => k_is)
  (case z6 => k_is)
  (case z7 => k_is)
  (case z8 => k_is)
  (case z9 => k_is)
  (case z10 => k_is)
  (case lk_NoSpan => k_is)
  (case f_setattr_NoSpan => k_is)
  (case sb_NoSpan => k_is)
  (case ty_NoSpan => k_is)
  (case k_NoSpan => k_is)
  (case f_begin_NoSpan => k_is)
  (case f_end_NoSpan => k_is)
  (case ini_NoSpan => k_is)
  (case int_NoSpan => k_is)
  (case il_NoSpan => k_is)
  (case ic_NoSpan => k_is)
  (case ik_NoSpan => k_is)
  (case lk_NoTurning => k_is)
  (case f_setattr_NoTurning => k_is)
  (case sb_NoTurning => k_is)
  (case ty_NoTurning => k_is)
  (case k_NoTurning => k_is)
  (case f_found_NoTurning => k_is)
  (case ini_NoTurning => k_is)
  (case int_NoTurning => k_is)
  (case il_NoTurning => k_is)
  (case ic_NoTurning => k_is)
  (case ik_NoTurning => k_is)
  (case lk_NoPlace => k_is)
  (case f_setattr_NoPlace => k_is)
  (case sb_NoPlace => k_is)
  (case ty_NoPlace => k_is)
  (case k_NoPlace => k_is)
  (case f_found_NoPlace => k_is)
  (case ini_NoPlace => k_is)
  (case int_NoPlace => k_is)
  (case il_NoPlace => k_is)
  (case ic_NoPlace => k_is)
  (case ik_NoPlace => k_is)
  (case ba_PaneError => k_is)
  (case br_PaneError => k_is)
  (case bf_PaneError => k_is)
  (case pg_Asks => k_is)
  (case hd_Asks => k_is)
  (case po_Asks => k_is)
  (case sa_Asks => k_is)
  (case na_Asks_tall => k_is)
  (case na_Asks_wide => k_is)
  (case na_Asks_tally => k_is)
  (case na_Asks_goals => k_is)
  (case na_Asks_starts => k_is)
  (case mk_Asks => k_is)
  (case kc_Asks => k_is)
  (case pg_Tally => k_is)
  (case hd_Tally => k_is)
  (case po_Tally => k_is)
  (case sa_Tally => k_is)
  (case na_Tally_many => k_is)
  (case na_Tally_floors => k_is)
  (case mk_Tally => k_is)
  (case kc_Tally => k_is)
/-- what the top has written -/
structure Tx (K : PySem.W.Frag) (mg : Str → Option Value) (ad : Nat → Addr) (fd : Nat → FuncData) (tk : Nat → Tok) (base : Heap) (tc : Nat → Addr × Addr) : Prop where
  d_is_whole : Df K mg "is_whole" s_is_whole ["thing"] (ad 0) (fd 0)
  d_is_within : Df K mg "is_within" s_is_within ["thing", "low", "high"] (ad 1) (fd 1)
  d_need_span : Df K mg "need_span" s_need_span ["begin", "end", "many"] (ad 2) (fd 2)
  d_is_turning : Df K mg "is_turning" s_is_turning ["thing"] (ad 3) (fd 3)
  d_need_turning : Df K mg "need_turning" s_need_turning ["turning"] (ad 4) (fd 4)
  d_need_place : Df K mg "need_place" s_need_place ["place", "most"] (ad 5) (fd 5)
  d_opposite : Df K mg "opposite" s_opposite ["turning"] (ad 6) (fd 6)
  d_mixed : Df K mg "mixed" s_mixed ["one", "other"] (ad 7) (fd 7)
  d_floors_of : Df K mg "floors_of" s_floors_of ["ends"] (ad 8) (fd 8)
  d_lesser : Df K mg "lesser" s_lesser ["block", "end"] (ad 9) (fd 9)
  d_need_window : Df K mg "need_window" s_need_window ["tall", "wide", "spans"] (ad 10) (fd 10)
  d__law_cell : Df K mg "_law_cell" s__law_cell ["_law_script", "_law_k"] (ad 11) (fd 11)
  d__law_numbers : Df K mg "_law_numbers" s__law_numbers ["_law_cell_here", "_law_bases", "_law_prime"] (ad 12) (fd 12)
  d__law_turning : Df K mg "_law_turning" s__law_turning ["_law_cell_here", "_law_many", "_law_prime"] (ad 13) (fd 13)
  d__law_size : Df K mg "_law_size" s__law_size ["_law_cell_here"] (ad 14) (fd 14)
  d__law_lengths : Df K mg "_law_lengths" s__law_lengths ["_law_turning_here", "_law_tall"] (ad 15) (fd 15)
  d__law_tightest : Df K mg "_law_tightest" s__law_tightest ["_law_known", "_law_length"] (ad 16) (fd 16)
  d__law_shortest : Df K mg "_law_shortest" s__law_shortest ["_law_known", "_law_length"] (ad 17) (fd 17)
  d__law_gains : Df K mg "_law_gains" s__law_gains ["_law_known", "_law_begin"] (ad 18) (fd 18)
  d__law_losses : Df K mg "_law_losses" s__law_losses ["_law_known", "_law_end"] (ad 19) (fd 19)
  d_Asks_gains : Dm K "Asks" "gains" "Asks.gains" s_Asks_gains ["self", "begin"] (ad 20) (fd 20)
  d_Asks_losses : Dm K "Asks" "losses" "Asks.losses" s_Asks_losses ["self", "end"] (ad 21) (fd 21)
  d_Tally_from_on : Dm K "Tally" "from_on" "Tally.from_on" s_Tally_from_on ["self", "begin", "end"] (ad 22) (fd 22)
  d_Tally_below : Dm K "Tally" "below" "Tally.below" s_Tally_below ["self", "begin", "end"] (ad 23) (fd 23)
  d_Asks_window : Dm K "Asks" "window" "Asks.window" s_Asks_window ["self", "first", "last", "begin", "end"] (ad 24) (fd 24)
  d_Asks_stretch : Dm K "Asks" "stretch" "Asks.stretch" s_Asks_stretch ["self", "begin", "end"] (ad 25) (fd 25)
  d_Asks_tightest : Dm K "Asks" "tightest" "Asks.tightest" s_Asks_tightest ["self", "length"] (ad 26) (fd 26)
  d_Asks_shortest : Dm K "Asks" "shortest" "Asks.shortest" s_Asks_shortest ["self", "length"] (ad 27) (fd 27)
  fc_Asks_shortest : FunC K "shortest" "Asks.shortest" s_Asks_shortest (ad 27) (fd 27) (tc 0).1
  tb_Asks_shortest : TabB base mg (tc 0).1 (tc 0).2
  d__law_asked : Df K mg "_law_asked" s__law_asked ["_law_asks", "_law_known", "_law_cell_here"] (ad 28) (fd 28)
  d_Tally_init : Dm K "Tally" "__init__" "Tally.__init__" s_Tally_init ["self", "turning"] (ad 29) (fd 29)
  d_Asks_init : Dm K "Asks" "__init__" "Asks.__init__" s_Asks_init ["self", "lines", "many"] (ad 30) (fd 30)
  d_law : Df K mg "law" s_law ["_law_script"] (ad 31) (fd 31)
  c_MOST_LINES : mg "MOST_LINES" = some (.int 96 (tk 0))
  c_MOST_LENGTH : mg "MOST_LENGTH" = some (.int 96 (tk 1))
  b_isinstance : mg "isinstance" = none
  b_int : mg "int" = none
  b_bool : mg "bool" = none
  b_len : mg "len" = none
  b_list : mg "list" = none
  b_tuple : mg "tuple" = none
  b_enumerate : mg "enumerate" = none
  b_zip : mg "zip" = none
  b_range : mg "range" = none
  b_max : mg "max" = none
  b_min : mg "min" = none
  g_NoSpan : mg "NoSpan" = some (.ref (clsA K "NoSpan"))
  o_NoSpan : OexC K (clsA K "NoSpan")
  n_NoSpan_begin : PySem.W.findIn K (.ref (clsA K "NoSpan")) "begin" = some none
  n_NoSpan_end : PySem.W.findIn K (.ref (clsA K "NoSpan")) "end" = some none
  i_NoSpan : IniF K "NoSpan" "NoSpan.__init__" si_NoSpan ["self", "begin", "end"]
  g_NoTurning : mg "NoTurning" = some (.ref (clsA K "NoTurning"))
  o_NoTurning : OexC K (clsA K "NoTurning")
  n_NoTurning_found : PySem.W.findIn K (.ref (clsA K "NoTurning")) "found" = some none
  i_NoTurning : IniF K "NoTurning" "NoTurning.__init__" si_NoTurning ["self", "found"]
  g_NoPlace : mg "NoPlace" = some (.ref (clsA K "NoPlace"))
  o_NoPlace : OexC K (clsA K "NoPlace")
  n_NoPlace_found : PySem.W.findIn K (.ref (clsA K "NoPlace")) "found" = some none
  i_NoPlace : IniF K "NoPlace" "NoPlace.__init__" si_NoPlace ["self", "found"]
  bi_PaneError : BI K mg "PaneError"
  mg_Asks : mg "Asks" = some (.ref (clsA K "Asks"))
  cl_Asks : Cls K (clsA K "Asks")
  na_Asks_tall : NoAttr K (clsA K "Asks") "tall"
  na_Asks_wide : NoAttr K (clsA K "Asks") "wide"
  na_Asks_tally : NoAttr K (clsA K "Asks") "tally"
  na_Asks_goals : NoAttr K (clsA K "Asks") "goals"
  na_Asks_starts : NoAttr K (clsA K "Asks") "starts"
  m_Asks : Mk K (clsA K "Asks") (ad 30)
  mg_Tally : mg "Tally" = some (.ref (clsA K "Tally"))
  cl_Tally : Cls K (clsA K "Tally")
  na_Tally_many : NoAttr K (clsA K "Tally") "many"
  na_Tally_floors : NoAttr K (clsA K "Tally") "floors"
  m_Tally : Mk K (clsA K "Tally") (ad 29)
local macro_rules | `(tactic| walk_at "ex") => `(tactic| first
  | assumption)
local macro_rules | `(tactic| walk_at "ki") => `(tactic| first
  | assumption)
local macro_rules | `(tactic| walk_at "xi") => `(tactic| first
  | assumption)
local macro_rules | `(tactic| walk_at "xo") => `(tactic| first
  | exact Tx.o_NoSpan (by assumption)
  | exact Tx.o_NoTurning (by assumption)
  | exact Tx.o_NoPlace (by assumption))
local macro_rules | `(tactic| walk_at "nf") => `(tactic| first
  | exact Tx.n_NoSpan_begin (by assumption)
  | exact Tx.n_NoSpan_end (by assumption)
  | exact Tx.n_NoTurning_found (by assumption)
  | exact Tx.n_NoPlace_found (by assumption))
local macro_rules | `(tactic| walk_at "cl") => `(tactic| first
  | exact Tx.cl_Asks (by assumption)
  | exact Tx.cl_Tally (by assumption))
local macro_rules | `(tactic| walk_at "na") => `(tactic| first
  | exact Tx.na_Asks_tall (by assumption)
  | exact Tx.na_Asks_wide (by assumption)
  | exact Tx.na_Asks_tally (by assumption)
  | exact Tx.na_Asks_goals (by assumption)
  | exact Tx.na_Asks_starts (by assumption)
  | exact Tx.na_Tally_many (by assumption)
  | exact Tx.na_Tally_floors (by assumption))
section
variable {P : Program} {w : World} {K : PySem.W.Frag} {mg : Str → Option Value} {base : Heap} {ad : Nat → Addr} {fd : Nat → FuncData} {tk : Nat → Tok} {tc : Nat → Addr × Addr}
theorem tabs_m_Asks_shortest : ((tc 0).2, q_Asks_shortest) ∈ tabsL tc := by
  unfold tabsL
  simp
theorem tabs_u_Asks_shortest (T : Tx K mg ad fd tk base tc) : ∀ p ∈ tabsL tc, p.1 = (tc 0).2 → p.2 = q_Asks_shortest := by
  intro p hp e
  simp only [tabsL, List.mem_cons, List.not_mem_nil, or_false] at hp
  rcases hp with rfl
  all_goals first
  | rfl
theorem ex_NoSpan (T : Tx K mg ad fd tk base tc) : EX P w K mg base "NoSpan" ["self", "begin", "end"] (spI2 K "begin" "end") := by
  obtain ⟨f, fd, i1, i2, F, b⟩ := T.i_NoSpan.ex
  refine ⟨T.g_NoSpan, T.o_NoSpan, f, fd, i1, i2, F.ok sci_NoSpan (fun vs H Q E h => ?_) (fun cdv A outer s H vs Q E hr h => ?_), b⟩
  · obtain ⟨a, C, y0, y1, rfl, _⟩ := h
    rfl
  · obtain ⟨a, C, y0, y1, rfl, hO, hn0, hn1, ha, k⟩ := h
    refine ⟨_, (pss_cons (ps_expr (pe_oinit T.bi_PaneError rfl (pa_cons (pv 0) (pa_cons pe_str pa_nil))))
      (pss_cons (ps_ost (pv 0) (pv 1)) (pss_one (ps_ost (pv 0) (pv 2))))), ?_⟩
    exact ini2_go hO hn0 hn1 ha k
theorem ex_NoTurning (T : Tx K mg ad fd tk base tc) : EX P w K mg base "NoTurning" ["self", "found"] (spI1 K "found") := by
  obtain ⟨f, fd, i1, i2, F, b⟩ := T.i_NoTurning.ex
  refine ⟨T.g_NoTurning, T.o_NoTurning, f, fd, i1, i2, F.ok sci_NoTurning (fun vs H Q E h => ?_) (fun cdv A outer s H vs Q E hr h => ?_), b⟩
  · obtain ⟨a, C, y0, rfl, _⟩ := h
    rfl
  · obtain ⟨a, C, y0, rfl, hO, hn0, ha, k⟩ := h
    refine ⟨_, (pss_cons (ps_expr (pe_oinit T.bi_PaneError rfl (pa_cons (pv 0) (pa_cons pe_str pa_nil))))
      (pss_one (ps_ost (pv 0) (pv 1)))), ?_⟩
    exact ini1_go hO hn0 ha k
theorem ex_NoPlace (T : Tx K mg ad fd tk base tc) : EX P w K mg base "NoPlace" ["self", "found"] (spI1 K "found") := by
  obtain ⟨f, fd, i1, i2, F, b⟩ := T.i_NoPlace.ex
  refine ⟨T.g_NoPlace, T.o_NoPlace, f, fd, i1, i2, F.ok sci_NoPlace (fun vs H Q E h => ?_) (fun cdv A outer s H vs Q E hr h => ?_), b⟩
  · obtain ⟨a, C, y0, rfl, _⟩ := h
    rfl
  · obtain ⟨a, C, y0, rfl, hO, hn0, ha, k⟩ := h
    refine ⟨_, (pss_cons (ps_expr (pe_oinit T.bi_PaneError rfl (pa_cons (pv 0) (pa_cons pe_str pa_nil))))
      (pss_one (ps_ost (pv 0) (pv 1)))), ?_⟩
    exact ini1_go hO hn0 ha k
def isWholeV : V → Bool
  | .int _ => true
  | _ => false
def sp_is_whole : Sp := fun vs H Q _ => ∃ x, vs = [x] ∧ Ty H x ∧ Q (.bl (isWholeV x)) H
theorem ok_is_whole (T : Tx K mg ad fd tk base tc) : FnOk P w K mg base CX0 1 (ad 0) (fd 0) ["thing"] sp_is_whole := by
  refine T.d_is_whole.F.ok sc_is_whole (fun vs H Q E h => ?_) (fun cdv A outer s H vs Q E hr h => ?_)
  · obtain ⟨x, rfl, _⟩ := h
    rfl
  · obtain ⟨x, rfl, ht, k⟩ := h
    refine ⟨_, (pss_one (ps_ret (pe_and (pe_callB c_is (by rfl) T.b_isinstance (by decide +kernel) (pa_cons (pv 0) (pa_cons (pe_bltn (v := .ty "int") rfl T.b_int (by decide +kernel) rfl) pa_nil))) (pe_one (pe_not (pe_callB c_is (by rfl) T.b_isinstance (by decide +kernel) (pa_cons (pv 0) (pa_cons (pe_bltn (v := .ty "bool") rfl T.b_bool (by decide +kernel) rfl) pa_nil)))))))), ?_⟩
    walk_at "go"
    refine st_isIntT ht ?_
    walk_at "go"
    cases x with
    | int i =>
      refine st_T rfl ?_
      walk_at "go"
      exact k
    | bl b =>
      refine st_T rfl ?_
      walk_at "go"
      exact k
    | _ =>
      refine st_F rfl ?_
      walk_at "go"
      exact k
def withinV (x : V) (lo hi : Int) : Bool := match x with
  | .int i => decide (lo ≤ i ∧ i ≤ hi)
  | _ => false
def sp_is_within : Sp := fun vs H Q _ => ∃ (x : V) (lo hi : Int), vs = [x, .int lo, .int hi] ∧ Ty H x ∧ Q (.bl (withinV x lo hi)) H
theorem ok_is_within (T : Tx K mg ad fd tk base tc) : FnOk P w K mg base CX0 2 (ad 1) (fd 1) ["thing", "low", "high"] sp_is_within := by
  refine T.d_is_within.F.ok sc_is_within (fun vs H Q E h => ?_) (fun cdv A outer s H vs Q E hr h => ?_)
  · obtain ⟨x, lo, hi, rfl, _⟩ := h
    rfl
  · obtain ⟨x, lo, hi, rfl, ht, k⟩ := h
    refine ⟨_, (pss_one (ps_ret (pe_and (pe_call (ok_is_whole T) (hr.mono (by decide)) rfl T.d_is_whole.g T.d_is_whole.F.kp T.d_is_whole.b .nil pass0 (pa_cons (pv 0) pa_nil)) (pe_one (pe_chain o_le o_le (pv 1) (pv 0) (pv 2)))))), ?_⟩
    walk_at "go"
    refine ⟨x, rfl, ht, ?_⟩
    cases x with
    | int i =>
      walk_at "go"
      refine st_br2 (fun c => ?_) (fun c => ?_)
      · walk_at "go"
        have e : withinV (.int i) lo hi = decide (i ≤ hi) := by
          unfold withinV
          simp [c]
        rw [e] at k
        exact k
      · have e : withinV (.int i) lo hi = false := by
          unfold withinV
          simp [c]
        rw [e] at k
        exact k
    | _ =>
      walk_at "go"
      exact k
/-- a stretch of m places -/
def spanV (b e : V) (m : Int) : Bool := match b with
  | .int i => decide (0 ≤ i ∧ i ≤ m) && withinV e i m
  | _ => false
def sp_need_span (K : PySem.W.Frag) : Sp := fun vs H Q E => ∃ (b e : V) (m : Int), vs = [b, e, .int m] ∧ Ty H b ∧ Ty H e ∧ (spanV b e m = false → RaF K E H "NoSpan" [("end", e), ("begin", b)]) ∧ (spanV b e m = true → Q .non H)
theorem nat_span {i j m : Nat} (h1 : i ≤ j) (h2 : j ≤ m) : spanV (.int (i : Nat)) (.int (j : Nat)) m = true := by
  show (decide (0 ≤ ((i : Nat) : Int) ∧ ((i : Nat) : Int) ≤ (m : Int)) && decide (((i : Nat) : Int) ≤ ((j : Nat) : Int) ∧ ((j : Nat) : Int) ≤ (m : Int))) = true
  rw [Bool.and_eq_true, decide_eq_true_eq, decide_eq_true_eq]
  omega
theorem ok_need_span (T : Tx K mg ad fd tk base tc) : FnOk P w K mg base (L2.CX P w) 3 (ad 2) (fd 2) ["begin", "end", "many"] (sp_need_span K) := by
  refine T.d_need_span.F.okX sc_need_span (fun vs H Q E h => ?_) (fun cdv A outer s H vs Q E hr h => ?_)
  · obtain ⟨b, e, m, rfl, _⟩ := h
    rfl
  · obtain ⟨b, e, m, rfl, hb, he, k0, k1⟩ := h
    refine ⟨_, (pss_one (ps_if (PW.pt (pw_or (pt_not (pt_val (pe_call (ok_is_within T) (hr.mono (by decide)) rfl T.d_is_within.g T.d_is_within.F.kp T.d_is_within.b .nil pass0 (pa_cons (pv 0) (pa_cons pe_int (pa_cons (pv 2) pa_nil)))))) (pw_or1 (pt_not (pt_val (pe_call (ok_is_within T) (hr.mono (by decide)) rfl T.d_is_within.g T.d_is_within.F.kp T.d_is_within.b .nil pass0 (pa_cons (pv 1) (pa_cons (pv 0) (pa_cons (pv 2) pa_nil))))))))) (pss_one (ps_raiseG rfl (ex_NoSpan T) (hr.mono (by decide)) (takes_of rfl rfl rfl rfl) rfl (pa_cons (pv 0) (pa_cons (pv 1) pa_nil)))) pss_nil)), ?_⟩
    walk_at "go"
    refine ⟨b, 0, m, rfl, hb, ?_⟩
    cases b with
    | int i =>
      have h1 : withinV (.int i) 0 m = decide (0 ≤ i ∧ i ≤ m) := rfl
      have h2 : spanV (.int i) e m = (decide (0 ≤ i ∧ i ≤ m) && withinV e i m) := rfl
      rw [h2] at k0 k1
      rw [h1]
      by_cases q : 0 ≤ i ∧ i ≤ m
      · rw [decide_eq_true q] at k0 k1 ⊢
        rw [Bool.true_and] at k0 k1
        walk_at "go"
        refine ⟨e, i, m, rfl, he, ?_⟩
        cases hb : withinV e i m with
        | true =>
          walk_at "go"
          exact k1 hb
        | false =>
          have k2 := k0 hb
          walk_at "go"
          rename_i d2 H2 hd2 e2 hv2
          exact k2 d2 H2 hd2 e2 hv2
      · rw [decide_eq_false q] at k0 ⊢
        have k2 := k0 rfl
        walk_at "go"
        rename_i d2 H2 hd2 e2 hv2
        exact k2 d2 H2 hd2 e2 hv2
    | _ =>
      have k2 := k0 rfl
      refine ⟨false, rfl, ?_⟩
      walk_at "go"
      rename_i d2 H2 hd2 e2 hv2
      exact k2 d2 H2 hd2 e2 hv2
/-- an item, nought behind the end -/
def gT (e : List Nat) (i : Nat) : Nat := e.getD i 0
theorem gT_at {e : List Nat} {i : Nat} (h : i < e.length) : gT e i = e[i] := by
  unfold gT
  rw [List.getD_eq_getElem?_getD, List.getElem?_eq_getElem h]
  rfl
theorem gT_some {e : List Nat} {i : Nat} (h : i < e.length) : e[i]? = some (gT e i) := by rw [gT_at h]; exact List.getElem?_eq_getElem h
theorem gT_of {e : List Nat} {i v : Nat} (h : e[i]? = some v) : gT e i = v := by unfold gT; rw [List.getD_eq_getElem?_getD, h]; rfl
theorem gT_ext {a b : List Nat} (hl : a.length = b.length) (h : ∀ i, i < a.length → gT a i = gT b i) : a = b := by
  refine List.ext_getElem hl fun i h1 h2 => ?_
  have := h i h1
  rwa [gT_at h1, gT_at h2] at this
theorem gT_map {f : Nat → Nat} {n i : Nat} (h : i < n) : gT ((List.range n).map f) i = f i := by
  refine gT_of ?_
  rw [List.getElem?_map, List.getElem?_range h]
  rfl
/-- a turning -/
structure IsT (l : List Nat) : Prop where
  nd : l.Nodup
  lt : ∀ x ∈ l, x < l.length
theorem IsT.g_lt {l : List Nat} (h : IsT l) {i : Nat} (hi : i < l.length) : gT l i < l.length := h.lt _ (by rw [gT_at hi]; exact List.getElem_mem hi)
theorem IsT.mem {l : List Nat} (h : IsT l) {v : Nat} (hv : v < l.length) : v ∈ l := by
  refine Decidable.byContradiction fun hn => ?_
  have h1 : l ⊆ (List.range l.length).erase v := fun x hx => by
    refine (List.mem_erase_of_ne (fun e => hn (by rw [← e]; exact hx))).mpr ?_
    exact List.mem_range.mpr (h.lt x hx)
  have h2 := h.nd.length_le_of_subset h1
  rw [List.length_erase_of_mem (List.mem_range.mpr hv), List.length_range] at h2
  omega
theorem isT_range (n : Nat) : IsT (List.range n) := ⟨List.nodup_range, fun x hx => by rw [List.length_range]; exact List.mem_range.mp hx⟩
theorem IsT.of_perm {l m : List Nat} (h : IsT m) (p : l.Perm m) : IsT l := ⟨p.nodup_iff.mpr h.nd, fun x hx => by rw [p.length_eq]; exact h.lt x (p.mem_iff.mp hx)⟩
theorem IsT.of_perm_range {l : List Nat} {n : Nat} (p : l.Perm (List.range n)) : IsT l := (isT_range n).of_perm p
theorem IsT.idx_lt {l : List Nat} (h : IsT l) {v : Nat} (hv : v < l.length) : l.idxOf v < l.length := List.idxOf_lt_length_iff.mpr (h.mem hv)
theorem IsT.g_idx {l : List Nat} (h : IsT l) {v : Nat} (hv : v < l.length) : gT l (l.idxOf v) = v := by
  rw [gT_at (h.idx_lt hv)]
  exact List.getElem_idxOf _
theorem IsT.idx_g {l : List Nat} (h : IsT l) {i : Nat} (hi : i < l.length) : l.idxOf (gT l i) = i := by
  rw [gT_at hi]
  exact h.nd.idxOf_getElem i hi
theorem IsT.inj {l : List Nat} (h : IsT l) {i j : Nat} (hi : i < l.length) (hj : j < l.length) (e : gT l i = gT l j) : i = j := by
  rw [← h.idx_g hi, ← h.idx_g hj, e]
/-- the opposite turning -/
def invT (l : List Nat) : List Nat := (List.range l.length).map fun v => l.idxOf v
theorem invT_len (l : List Nat) : (invT l).length = l.length := by rw [invT, List.length_map, List.length_range]
theorem invT_g {l : List Nat} {v : Nat} (h : v < l.length) : gT (invT l) v = l.idxOf v := gT_map h
/-- two neighbours exchanged -/
def swapAt (e : List Nat) (s : Nat) : List Nat := e.take s ++ [gT e (s + 1), gT e s] ++ e.drop (s + 2)
theorem swapAt_len {e : List Nat} {s : Nat} (h : s + 1 < e.length) : (swapAt e s).length = e.length := by
  unfold swapAt
  rw [List.length_append, List.length_append, List.length_take, List.length_drop]
  simp only [List.length_cons, List.length_nil]
  omega
/-- words of swaps -/
def OkW (n : Nat) (w : List Nat) : Prop := ∀ s ∈ w, s + 1 < n
theorem OkW.cons {n s : Nat} {w : List Nat} (h : OkW n (s :: w)) : s + 1 < n ∧ OkW n w := ⟨h s List.mem_cons_self, fun t ht => h t (List.mem_cons_of_mem _ ht)⟩
def swapsT (e : List Nat) (w : List Nat) : List Nat := w.foldl swapAt e
def Down : List Nat → List Nat → Prop
  | _, [] => True
  | e, s :: w => s + 1 < e.length ∧ gT e (s + 1) < gT e s ∧ Down (swapAt e s) w
def Up : List Nat → List Nat → Prop
  | _, [] => True
  | e, s :: w => s + 1 < e.length ∧ gT e s < gT e (s + 1) ∧ Up (swapAt e s) w
theorem Down.ok : ∀ {w e : List Nat}, Down e w → OkW e.length w
  | [], _, _, s, hs => by cases hs
  | t :: w, e, ⟨h1, _, h3⟩, s, hs => by
    rcases List.mem_cons.mp hs with q | q
    · rw [q]; exact h1
    · have := h3.ok s q
      rwa [swapAt_len h1] at this
theorem Up.ok : ∀ {w e : List Nat}, Up e w → OkW e.length w
  | [], _, _, s, hs => by cases hs
  | t :: w, e, ⟨h1, _, h3⟩, s, hs => by
    rcases List.mem_cons.mp hs with q | q
    · rw [q]; exact h1
    · have := h3.ok s q
      rwa [swapAt_len h1] at this
theorem Down.app : ∀ {v w e : List Nat}, Down e v → Down (swapsT e v) w → Down e (v ++ w)
  | [], _, _, _, h => h
  | s :: v, w, e, ⟨h1, h2, h3⟩, h => ⟨h1, h2, h3.app h⟩
theorem Up.app : ∀ {v w e : List Nat}, Up e v → Up (swapsT e v) w → Up e (v ++ w)
  | [], _, _, _, h => h
  | s :: v, w, e, ⟨h1, h2, h3⟩, h => ⟨h1, h2, h3.app h⟩
/-- how these stand -/
def nV (x : Nat) : V := .int (x : Nat)
def encN (x : Nat) : PyData := .int (x : Nat)
def TurnD (d : PyData) : Prop := ∃ l : List Nat, (d = .list (l.map encN) ∨ d = .tuple (l.map encN)) ∧ IsT l ∧ l.length ≤ 96
theorem encN_inj {a b : List Nat} (h : a.map encN = b.map encN) : a = b := by
  induction a generalizing b with
  | nil => cases b with
    | nil => rfl
    | cons y b => cases h
  | cons x a ih => cases b with
    | nil => cases h
    | cons y b =>
      rw [List.map_cons, List.map_cons] at h
      injection h with h1 h2
      injection h1 with h1
      rw [ih h2, Int.ofNat_inj.mp h1]
theorem wiN {H : Hp} {x : V} {d : PyData} (h : Rn H x d) (hi : Int) : withinV x 0 hi = true ↔ ∃ v : Nat, d = encN v ∧ (v : Int) ≤ hi := by
  cases h with
  | int i =>
    simp only [withinV, decide_eq_true_eq]
    constructor
    · intro ⟨h1, h2⟩
      exact ⟨i.toNat, by unfold encN; rw [show ((i.toNat : Nat) : Int) = i by omega], by omega⟩
    · rintro ⟨v, e, h⟩
      unfold encN at e
      injection e with e
      omega
  | _ => exact ⟨fun h => (by cases h), fun ⟨v, e, _⟩ => (by cases e)⟩
def sp_is_turning : Sp := fun vs H Q _ => ∃ (x : V) (d : PyData), vs = [x] ∧ Rn H x d ∧ ∀ b H', Ex H H' → (b = true ↔ TurnD d) → Q (.bl b) H'
theorem ok_is_turning (T : Tx K mg ad fd tk base tc) : FnOk P w K mg base CX0 3 (ad 3) (fd 3) ["thing"] sp_is_turning := by
  refine T.d_is_turning.F.ok sc_is_turning (fun vs H Q E h => ?_) (fun cdv A outer s H vs Q E hr h => ?_)
  · obtain ⟨x, d, rfl, _⟩ := h
    rfl
  · obtain ⟨x, d, rfl, hx, k⟩ := h
    refine ⟨_, (pss_cons (ps_if (PW.pt (pw_or (pt_not (pt_val (pe_callB c_isT2 (by rfl) T.b_isinstance (by decide +kernel) (pa_cons (pv 0) (pa_cons (pe_tup (pa_cons (pe_bltn (v := .ty "list") rfl T.b_list (by decide +kernel) rfl) (pa_cons (pe_bltn (v := .ty "tuple") rfl T.b_tuple (by decide +kernel) rfl) pa_nil))) pa_nil))))) (pw_or1 (pt_cmpR o_gt (pe_callB (c_len (K := K)) (by rfl) T.b_len (by decide +kernel) (pa_cons (pv 0) pa_nil)) (pe_glob (v := .int 96) rfl T.c_MOST_LINES ⟨_, rfl⟩) (nomark _))))) (pss_one (ps_ret pe_bl)) pss_nil)
      (pss_cons (ps_set (i := 1) sc_is_turning.nd rfl (Or.inl rfl) (pe_op o_mul (pe_lst (pa_cons pe_bl pa_nil)) (pe_callB (c_len (K := K)) (by rfl) T.b_len (by decide +kernel) (pa_cons (pv 0) pa_nil))))
      (pss_cons (ps_for PassesOwn.never rfl (pi_seq (pv 0)) (pg_name (i := 2) sc_is_turning.nd rfl (Or.inl rfl)) (pss_cons (ps_if (PW.pt (pw_or (pt_not (pt_val (pe_call (ok_is_within T) (hr.mono (by decide)) rfl T.d_is_within.g T.d_is_within.F.kp T.d_is_within.b .nil pass0 (pa_cons (pv 2) (pa_cons pe_int (pa_cons (pe_op o_sub (pe_callB (c_len (K := K)) (by rfl) T.b_len (by decide +kernel) (pa_cons (pv 0) pa_nil)) pe_int) pa_nil)))))) (pw_or1 (pt_tru (pe_ix (i_ix (K := K)) (pv 1) (pv 2) (fun _ _ => rfl)) (by intro _; rfl) (K := K))))) (pss_one (ps_ret pe_bl)) pss_nil)
      (pss_one (ps_asg pe_bl (pg_sub (pv 1) (pv 2) set_list)))))
      (pss_one (ps_ret pe_bl))))), ?_⟩
    have no : ∀ H', Ex H H' → (¬ TurnD d) → Q (.bl false) H' := fun H' e n => k false H' e ⟨(fun z => nomatch z), (fun z => (n z).elim)⟩
    walk_at "go"
    rename_i t1 H1 n1 e1 v1
    refine st_isLT (hx.ex e1).rq (by walk_at "hp") ?_
    refine ⟨_, rfl, ?_⟩
    cases hd : (isListD d || isTupD d) with
    | false =>
      refine st_T rfl ?_
      walk_at "go"
      refine no _ e1 (fun h => ?_)
      obtain ⟨l, h, _⟩ := h
      rcases h with h | h
      · rw [h] at hd; cases hd
      · rw [h] at hd; cases hd
    | true =>
    obtain ⟨a, xs, ds, hv, hs, hr, hd2⟩ := (hx.ex e1).seq hd
    subst hv
    have hl := hr.len
    have td : TurnD d ↔ ∃ l : List Nat, ds = l.map encN ∧ IsT l ∧ l.length ≤ 96 := by
      constructor
      · rintro ⟨l, h, h1, h2⟩
        refine ⟨l, ?_, h1, h2⟩
        rcases hd2 with e | e <;> rcases h with q | q <;> rw [e] at q <;> first | (injection q) | cases q
      · rintro ⟨l, h, h1, h2⟩
        refine ⟨l, ?_, h1, h2⟩
        rw [← h]
        exact hd2
    refine st_F rfl ?_
    walk_at "go"
    refine st_lenQ hs ?_
    walk_at "go"
    refine st_br2 (fun c => ?_) (fun c => ?_)
    · walk_at "go"
      refine no _ e1 (fun h => ?_)
      obtain ⟨l, h, _, h2⟩ := td.mp h
      rw [hl, h, List.length_map] at c
      omega
    walk_at "go"
    rename_i t2 H2 n2 e2 v2
    refine st_lenQ (seqAt_ex e2 hs) ?_
    walk_at "go"
    rename_i q H3 n3 e3 v3
    have ea3 := seqAt_ex (e2.trans e3) hs
    obtain ⟨n, hn⟩ : ∃ n, n = xs.length := ⟨_, rfl⟩
    rw [← hn] at c
    have hqa : q ≠ a := fun e => by
      have := seqAt_ex e2 hs
      unfold seqAt at this
      rw [← e, n3] at this
      cases this
    refine st_isSeq ea3 fun J S hJ hS => ?_
    obtain ⟨zs, rfl, rfl, hz⟩ := hr.zipped
    rw [List.length_map] at hn
    have hv3 : H3 q = some (.lst (((List.range n).map fun v => decide (v ∈ ([] : List Nat))).map V.bl)) := by
      rw [v3]
      congr 2
      rw [List.map_map, List.length_map, ← hn, Int.toNat_natCast]
      refine List.ext_getElem? fun i => ?_
      rw [List.getElem?_map]
      by_cases hi : i < n
      · rw [List.getElem?_range hi, List.getElem?_eq_getElem (by simp; exact hi)]
        simp
      · rw [List.getElem?_eq_none (by simp; omega), List.getElem?_eq_none (by simp; omega)]
        rfl
    have hJ2 := hJ
    rw [List.length_map, ← hn] at hJ2
    refine for_runs hJ2 (fun i σ H' => FrP q H3 H' ∧ (∃ l : List Nat, (zs.map (·.2)).take i = l.map encN ∧ l.Nodup ∧ (∀ v ∈ l, v < n) ∧ H' q = some (.lst (((List.range n).map fun v => decide (v ∈ l)).map V.bl))) ∧ ∃ y, σ = [some (.ref a), some (.ref q), y]) ⟨Fr.refl _, ⟨[], rfl, List.nodup_nil, by simp, hv3⟩, _, rfl⟩ (fun i σ H' _ h => hS H' (seqAt_same' h.1 (fun z => hqa z.symm) ea3)) ?_ ?_
    · rintro i x σ H0 H4 hi ⟨f4, ⟨l, h1, h2, h3, h4⟩, y, rfl⟩ ⟨rfl, hxi⟩
      obtain ⟨z, hzi⟩ : ∃ z, zs[i]? = some z := ⟨zs[i]'(by omega), List.getElem?_eq_getElem _⟩
      rw [List.getElem?_map, hzi] at hxi
      have hxz : x = z.1 := (Option.some.inj hxi).symm
      subst hxz
      have ex4 : Ex H H4 := e1.trans (e2.trans (Ex.comp (M := fun b => b = q) e3 f4 fun b hb => by rw [hb]; exact n3))
      have rz := ((hz z (List.mem_of_getElem? hzi)).ex e2).ex (Ex.comp (M := fun b => b = q) e3 f4 fun b hb => by rw [hb]; exact n3)
      have sa4 := seqAt_eq ea3 (seqAt_same' f4 (fun z => hqa z.symm) ea3)
      have dz : (zs.map (·.2))[i]? = some z.2 := by rw [List.getElem?_map, hzi]; rfl
      walk_at "go"
      refine st_lenQ sa4 ?_
      walk_at "go"
      rw [List.length_map, ← hn]
      refine ⟨z.1, 0, _, rfl, rz.rq.ty, ?_⟩
      cases hb : withinV z.1 0 ((n : Nat) - 1) with
      | false =>
        walk_at "go"
        refine no _ ex4 fun h => ?_
        obtain ⟨m, e, hm, _⟩ := td.mp h
        have hml : m.length = n := by
          have := congrArg List.length e
          rw [List.length_map, List.length_map] at this
          omega
        rw [e, List.getElem?_map] at dz
        cases q : m[i]? with
        | none => rw [q] at dz; cases dz
        | some v =>
          rw [q] at dz
          have hv := hm.lt v (List.mem_of_getElem? q)
          have := (wiN rz ((n : Nat) - 1)).mpr ⟨v, (Option.some.inj dz).symm, by omega⟩
          rw [hb] at this
          cases this
      | true =>
      obtain ⟨v, hv, hvn⟩ := (wiN rz _).mp hb
      have zv : z.1 = .int (v : Nat) := by
        rw [hv] at rz
        unfold encN at rz
        cases hz1 : z.1 <;> rw [hz1] at rz <;> cases rz
        rfl
      walk_at "go"
      rw [zv]
      refine st_ixL h4 (at_mapN (by rw [List.getElem?_map, List.getElem?_range (by omega)]; rfl)) ?_
      walk_at "go"
      by_cases hm : v ∈ l
      · refine st_T (decide_eq_true hm) ?_
        walk_at "go"
        refine no _ ex4 fun h => ?_
        obtain ⟨m, e, hmT, _⟩ := td.mp h
        rw [e, List.getElem?_map] at dz
        have h5 : m.take i = l := encN_inj (by rw [List.map_take, ← e, h1])
        cases q : m[i]? with
        | none => rw [q] at dz; cases dz
        | some u =>
          rw [q, hv] at dz
          have huv : u = v := by
            have := Option.some.inj dz
            unfold encN at this
            injection this with this
            omega
          subst huv
          have hmi := (List.getElem?_eq_some_iff.mp q)
          obtain ⟨hlt, hget⟩ := hmi
          rw [← h5] at hm
          obtain ⟨j, hj, hj2⟩ := List.getElem_of_mem hm
          rw [List.length_take] at hj
          rw [List.getElem_take] at hj2
          have h6 := hmT.nd
          rw [List.nodup_iff_pairwise_ne, List.pairwise_iff_getElem] at h6
          exact h6 j i (by omega) hlt (by omega) (by rw [hj2, hget])
      · refine st_F (decide_eq_false hm) ?_
        walk_at "go"
        refine st_setL h4 (by rw [List.length_map, List.length_map, List.length_range]; exact Evl.ixN_nat (by omega)) ?_
        refine ⟨f4.trans FrP.at, ⟨l ++ [v], ?_, ?_, ?_, ?_⟩, _, rfl⟩
        · rw [List.take_add_one, h1, dz, hv, List.map_append]
          rfl
        · rw [List.nodup_append]
          exact ⟨h2, by simp, fun b hb c hc => by rw [List.mem_singleton.mp hc]; exact fun z => hm (z ▸ hb)⟩
        · intro u hu
          rcases List.mem_append.mp hu with h | h
          · exact h3 u h
          · rw [List.mem_singleton.mp h]; omega
        · rw [upd_same]
          congr 2
          refine List.ext_getElem? fun j => ?_
          rw [List.getElem?_set, List.getElem?_map, List.getElem?_map, List.getElem?_map, List.getElem?_map]
          by_cases hj : j < n
          · rw [List.getElem?_range hj]
            by_cases q : v = j
            · subst q
              rw [if_pos rfl, if_pos (by simp; omega)]
              simp
            · rw [if_neg q]
              simp
              exact fun e => absurd e.symm q
          · rw [List.getElem?_eq_none (by simp; omega), if_neg (by omega)]
            rfl
    · rintro σ H4 ⟨f4, ⟨l, h1, h2, h3, h4⟩, y, rfl⟩
      have ex4 : Ex H H4 := e1.trans (e2.trans (Ex.comp (M := fun b => b = q) e3 f4 fun b hb => by rw [hb]; exact n3))
      walk_at "go"
      refine k true _ ex4 ⟨fun _ => td.mpr ⟨l, ?_, ⟨h2, ?_⟩, ?_⟩, fun _ => rfl⟩
      · rw [← h1, List.take_of_length_le (by rw [List.length_map]; omega)]
      all_goals
        have hll : l.length = n := by
          have := congrArg List.length h1
          rw [List.take_of_length_le (by rw [List.length_map]; omega), List.length_map, List.length_map] at this
          omega
      · rw [hll]; exact h3
      · rw [hll]; omega
def sp_need_turning (K : PySem.W.Frag) : Sp := fun vs H Q E => ∃ (x : V) (d : PyData), vs = [x] ∧ Rn H x d ∧ (¬ TurnD d → RaF K E H "NoTurning" [("found", x)]) ∧ (TurnD d → ∀ H', Ex H H' → Q .non H')
theorem ok_need_turning (T : Tx K mg ad fd tk base tc) : FnOk P w K mg base (L2.CX P w) 4 (ad 4) (fd 4) ["turning"] (sp_need_turning K) := by
  refine T.d_need_turning.F.okX sc_need_turning (fun vs H Q E h => ?_) (fun cdv A outer s H vs Q E hr h => ?_)
  · obtain ⟨x, d, rfl, _⟩ := h
    rfl
  · obtain ⟨x, d, rfl, hx, k0, k1⟩ := h
    refine ⟨_, (pss_one (ps_if (pt_not (pt_val (pe_call (ok_is_turning T) (hr.mono (by decide)) rfl T.d_is_turning.g T.d_is_turning.F.kp T.d_is_turning.b .nil pass0 (pa_cons (pv 0) pa_nil)))) (pss_one (ps_raiseG rfl (ex_NoTurning T) (hr.mono (by decide)) (takes_of rfl rfl rfl rfl) rfl (pa_cons (pv 0) pa_nil))) pss_nil)), ?_⟩
    walk_at "go"
    refine ⟨x, d, rfl, hx, fun b H1 e1 hb => ?_⟩
    cases b with
    | true =>
      walk_at "go"
      exact k1 (hb.mp rfl) _ e1
    | false =>
      have k2 := k0 (fun h => Bool.false_ne_true (hb.mpr h))
      walk_at "go"
      rename_i d2 H2 hd2 e2 hv2
      exact k2 d2 H2 (Ex.free e1 hd2) (e1.trans e2) hv2
theorem within_nat {x : V} {m : Nat} (h : withinV x 0 m = true) : ∃ i : Nat, x = .int (i : Nat) ∧ i ≤ m := by
  cases x with
  | int z =>
    have : 0 ≤ z ∧ z ≤ (m : Int) := by simpa [withinV] using h
    exact ⟨z.toNat, by rw [show ((z.toNat : Nat) : Int) = z by omega], by omega⟩
  | _ => cases h
theorem nat_within {i m : Nat} (h : i ≤ m) : withinV (.int (i : Nat)) 0 m = true := by
  unfold withinV
  exact decide_eq_true (by omega)
theorem nat_no {i m : Nat} (h : i ≤ m) {C : Prop} (k : withinV (.int (i : Nat)) 0 m = false) : C := by rw [nat_within h] at k; cases k
def sp_need_place (K : PySem.W.Frag) : Sp := fun vs H Q E => ∃ (x : V) (m : Int), vs = [x, .int m] ∧ Ty H x ∧ (withinV x 0 m = false → RaF K E H "NoPlace" [("found", x)]) ∧ (withinV x 0 m = true → Q .non H)
theorem ok_need_place (T : Tx K mg ad fd tk base tc) : FnOk P w K mg base (L2.CX P w) 3 (ad 5) (fd 5) ["place", "most"] (sp_need_place K) := by
  refine T.d_need_place.F.okX sc_need_place (fun vs H Q E h => ?_) (fun cdv A outer s H vs Q E hr h => ?_)
  · obtain ⟨x, m, rfl, _⟩ := h
    rfl
  · obtain ⟨x, m, rfl, hx, k0, k1⟩ := h
    refine ⟨_, (pss_one (ps_if (pt_not (pt_val (pe_call (ok_is_within T) (hr.mono (by decide)) rfl T.d_is_within.g T.d_is_within.F.kp T.d_is_within.b .nil pass0 (pa_cons (pv 0) (pa_cons pe_int (pa_cons (pv 1) pa_nil)))))) (pss_one (ps_raiseG rfl (ex_NoPlace T) (hr.mono (by decide)) (takes_of rfl rfl rfl rfl) rfl (pa_cons (pv 0) pa_nil))) pss_nil)), ?_⟩
    walk_at "go"
    refine ⟨x, 0, m, rfl, hx, ?_⟩
    cases hb : withinV x 0 m with
    | true =>
      walk_at "go"
      exact k1 hb
    | false =>
      have k2 := k0 hb
      walk_at "go"
      rename_i d2 H2 hd2 e2 hv2
      exact k2 d2 H2 hd2 e2 hv2
theorem TurnD.seq {H : Hp} {x : V} {d : PyData} {l : List Nat} (hx : Rn H x d) (hd : d = .list (l.map encN) ∨ d = .tuple (l.map encN)) : ∃ a, x = .ref a ∧ seqAt H a = some (l.map nV) := by
  have : ∀ (xs : List V) (l : List Nat), RnA H xs (l.map encN) → xs = l.map nV := by
    intro xs l
    induction l generalizing xs with
    | nil => intro h; cases h; rfl
    | cons v l ih =>
      intro h
      cases h with
      | cons h1 h2 =>
        rw [List.map_cons, ← ih _ h2]
        congr 1
        unfold encN at h1
        cases h1
        rfl
  rcases hd with rfl | rfl
  · obtain ⟨a, xs, rfl, h1, h2⟩ := hx.listAt
    exact ⟨a, rfl, by rw [seq_l h1, this _ _ h2]⟩
  · obtain ⟨a, xs, rfl, h1, h2⟩ := hx.tupAt
    exact ⟨a, rfl, by rw [seq_t h1, this _ _ h2]⟩
theorem nV_at {l : List Nat} {i : Nat} {v : V} (h : (l.map nV)[i]? = some v) : i < l.length ∧ v = nV (gT l i) := by
  rw [List.getElem?_map] at h
  cases q : l[i]? with
  | none => rw [q] at h; cases h
  | some x =>
    rw [q] at h
    refine ⟨(List.getElem?_eq_some_iff.mp q).1, ?_⟩
    rw [gT_of q]
    exact (Option.some.inj h).symm
theorem at_nV {l : List Nat} {i : Nat} (h : i < l.length) : atI (l.map nV) (i : Int) = some (nV (gT l i)) := at_mapN (gT_some h)
theorem gT_set {l : List Nat} {j v i : Nat} (hj : j < l.length) : gT (l.set j v) i = if i = j then v else gT l i := by
  unfold gT
  rw [List.getD_eq_getElem?_getD, List.getElem?_set, List.getD_eq_getElem?_getD]
  by_cases h : j = i
  · subst h
    rw [if_pos rfl, if_pos rfl, if_pos hj]
    rfl
  · rw [if_neg h, if_neg (fun e => h e.symm)]
def sp_opposite (K : PySem.W.Frag) : Sp := fun vs H Q E => ∃ (x : V) (d : PyData), vs = [x] ∧ Rn H x d ∧ (¬ TurnD d → RaF K E H "NoTurning" [("found", x)]) ∧ (∀ l : List Nat, (d = .list (l.map encN) ∨ d = .tuple (l.map encN)) → IsT l → l.length ≤ 96 → ∀ q H', Ex H H' → H q = none → H' q = some (.lst ((invT l).map nV)) → Q (.ref q) H')
theorem ok_opposite (T : Tx K mg ad fd tk base tc) : FnOk P w K mg base (L2.CX P w) 5 (ad 6) (fd 6) ["turning"] (sp_opposite K) := by
  refine T.d_opposite.F.okX sc_opposite (fun vs H Q E h => ?_) (fun cdv A outer s H vs Q E hr h => ?_)
  · obtain ⟨x, d, rfl, _⟩ := h
    rfl
  · obtain ⟨x, d, rfl, hx, k0, k1⟩ := h
    refine ⟨_, (pss_cons (ps_expr (pe_call (ok_need_turning T) (hr.mono (by decide)) rfl T.d_need_turning.g T.d_need_turning.F.kp T.d_need_turning.b .nil (passes_call (takes_of rfl rfl rfl rfl) (fun _ _ _ _ h => h)) (pa_cons (pv 0) pa_nil)))
      (pss_cons (ps_set (i := 1) sc_opposite.nd rfl (Or.inl rfl) (pe_op o_mul (pe_lst (pa_cons pe_int pa_nil)) (pe_callB (c_len (K := K)) (by rfl) T.b_len (by decide +kernel) (pa_cons (pv 0) pa_nil))))
      (pss_cons (ps_for (passes_of rfl) rfl (pi_enumQ rfl T.b_enumerate (pa_cons (pv 0) pa_nil)) (pg_tup rfl (pgs_cons (pg_name (i := 2) sc_opposite.nd rfl (Or.inl rfl)) (pgs_cons (pg_name (i := 3) sc_opposite.nd rfl (Or.inl rfl)) pgs_nil))) (pss_one (ps_asg (pv 2) (pg_sub (pv 1) (pv 3) set_list))))
      (pss_one (ps_ret (pv 1)))))), ?_⟩
    walk_at "go"
    refine ⟨x, d, rfl, hx, k0, fun hT H1 e1 => ?_⟩
    obtain ⟨l, hd, hl, hl2⟩ := hT
    have k2 := k1 l hd hl hl2
    obtain ⟨a, rfl, hs⟩ := TurnD.seq hx hd
    have hs1 := seqAt_ex e1 hs
    clear k0 k1
    walk_at "go"
    rename_i t2 H2 n2 e2 v2
    refine st_lenQ (seqAt_ex e2 hs1) ?_
    rw [List.length_map]
    walk_at "go"
    rename_i q H3 n3 e3 v3
    have hs3 := seqAt_ex (e2.trans e3) hs1
    have hqa : q ≠ a := fun e => by
      have := seqAt_ex e2 hs1
      unfold seqAt at this
      rw [← e, n3] at this
      cases this
    refine st_isEnQ hs3 fun J S hJ hS => ?_
    rw [List.length_map] at hJ
    have v3' : H3 q = some (.lst ((List.replicate l.length 0).map nV)) := by
      rw [v3, Int.toNat_natCast]
      congr 2
      rw [List.map_replicate]
      clear k2 hd hl hl2 hx hs hs1 v3 hs3 hJ
      induction l.length with
      | zero => rfl
      | succ n ih => rw [List.replicate_succ, List.flatten_cons, ih, List.replicate_succ]; rfl
    have e13 := e1.trans (e2.trans e3)
    have n03 : H q = none := Ex.free (e1.trans e2) n3
    refine for_runs hJ (fun i σ H' => FrP q H3 H' ∧ (∃ rs : List Nat, rs.length = l.length ∧ (∀ j, j < i → gT rs (gT l j) = j) ∧ H' q = some (.lst (rs.map nV))) ∧ ∃ y z, σ = [some (.ref a), some (.ref q), y, z]) ⟨Fr.refl _, ⟨_, List.length_replicate, fun j h => absurd h (Nat.not_lt_zero _), v3'⟩, _, _, rfl⟩ (fun i σ H' _ h => hS H' (seqAt_same' h.1 (fun z => hqa z.symm) hs3)) ?_ ?_
    · rintro i x σ H4 H5 hi ⟨f4, ⟨rs, h1, h2, h3⟩, y, z, rfl⟩ ⟨T, v, rfl, nT, eT, vT, hv⟩
      obtain ⟨hil, rfl⟩ := nV_at hv
      have h3' := eT.get h3
      walk_at "go"
      have hlt := hl.g_lt hil
      have hxl : ixN (List.map nV rs).length (((gT l i : Nat) : Nat) : Int) = some (gT l i) := by
        rw [List.length_map]
        exact Evl.ixN_nat (by omega)
      refine st_setL h3' hxl ?_
      refine ⟨(f4.trans (Fr.ex eT)).trans FrP.at, ⟨rs.set (gT l i) i, by rw [List.length_set]; exact h1, fun j hj => ?_, ?_⟩, _, _, rfl⟩
      · rw [gT_set (by omega)]
        by_cases q : gT l j = gT l i
        · have : j = i := hl.inj (by omega) hil q
          subst this
          rw [if_pos rfl]
        · rw [if_neg q]
          refine h2 j ?_
          have : j ≠ i := fun e => q (by rw [e])
          omega
      · rw [upd_same, List.map_set]
        rfl
    · rintro σ H4 ⟨f4, ⟨rs, h1, h2, h3⟩, y, z, rfl⟩
      walk_at "go"
      have : rs = invT l := gT_ext (by rw [invT_len, h1]) fun v hv => by
        rw [h1] at hv
        rw [invT_g hv]
        have := h2 (l.idxOf v) (hl.idx_lt hv)
        rwa [hl.g_idx hv] at this
      subst this
      exact k2 q _ (Ex.comp (M := fun b => b = q) e13 f4 fun b hb => by rw [hb]; exact n03) n03 h3
/-- how many lines begin at b or behind it and end ahead of e -/
def cntT (l : List Nat) (b e : Nat) : Nat := (l.drop b).countP (· < e)
theorem cntT_end {l : List Nat} {b : Nat} (h : l.length ≤ b) (e : Nat) : cntT l b e = 0 := by
  unfold cntT
  rw [List.drop_eq_nil_of_le h]
  rfl
theorem cntT_at {l : List Nat} {b : Nat} (h : b < l.length) (e : Nat) : cntT l b e = cntT l (b + 1) e + (if gT l b < e then 1 else 0) := by
  unfold cntT
  rw [List.drop_eq_getElem_cons h, List.countP_cons, gT_at h]
  simp only [decide_eq_true_eq]
theorem countP_lt_succ (e : Nat) : ∀ l : List Nat, l.countP (· < e + 1) = l.countP (· < e) + l.count e
  | [] => rfl
  | x :: l => by
    have ih := countP_lt_succ e l
    rw [List.countP_cons, List.countP_cons, List.count_cons, ih]
    simp only [decide_eq_true_eq, beq_iff_eq]
    by_cases h1 : x < e
    · rw [if_pos h1, if_pos (by omega), if_neg (by omega)]; omega
    · by_cases h2 : x = e
      · rw [if_neg h1, if_pos (by omega), if_pos h2]; omega
      · rw [if_neg h1, if_neg (by omega), if_neg h2]; omega
theorem count_drop {l : List Nat} (hl : IsT l) {b e : Nat} (he : e < l.length) : (l.drop b).count e = if b ≤ l.idxOf e then 1 else 0 := by
  have hi := hl.idx_lt he
  have hg := hl.g_idx he
  by_cases h : b ≤ l.idxOf e
  · rw [if_pos h]
    have hm : e ∈ l.drop b := by
      refine List.mem_drop_iff_getElem.mpr ⟨l.idxOf e - b, by omega, ?_⟩
      have : b + (l.idxOf e - b) = l.idxOf e := by omega
      simp only [this]
      rw [← gT_at hi]
      exact hg
    have h1 := List.count_pos_iff.mpr hm
    have h2 := List.nodup_iff_count.mp (hl.nd.sublist (List.drop_sublist b l)) e
    omega
  · rw [if_neg h, List.count_eq_zero]
    intro hm
    obtain ⟨j, hj, hje⟩ := List.mem_drop_iff_getElem.mp hm
    have h3 := hl.idx_g (i := b + j) (by omega)
    rw [gT_at (by omega), hje] at h3
    omega
/-- the least of so many -/
def IsMin (n : Nat) (f : Nat → Nat) (v : Nat) : Prop := (∃ k, k ≤ n ∧ f k = v) ∧ ∀ k, k ≤ n → v ≤ f k
theorem IsMin.uniq {n : Nat} {f : Nat → Nat} {v w : Nat} (h : IsMin n f v) (k : IsMin n f w) : v = w := by
  obtain ⟨⟨a, ha, rfl⟩, h2⟩ := h
  obtain ⟨⟨b, hb, rfl⟩, k2⟩ := k
  have := h2 b hb
  have := k2 a ha
  omega
theorem IsMin.two {n : Nat} {f g : Nat → Nat} {v w : Nat} (h : IsMin n f v) (k : IsMin n g w) : IsMin n (fun i => min (f i) (g i)) (min v w) := by
  obtain ⟨⟨a, ha, h1⟩, h2⟩ := h
  obtain ⟨⟨b, hb, k1⟩, k2⟩ := k
  refine ⟨?_, fun i hi => by have := h2 i hi; have := k2 i hi; show min v w ≤ min (f i) (g i); omega⟩
  by_cases q : v ≤ w
  · exact ⟨a, ha, by have := k2 a ha; show min (f a) (g a) = min v w; omega⟩
  · exact ⟨b, hb, by have := h2 b hb; show min (f b) (g b) = min v w; omega⟩
theorem rnL {H : Hp} {p : Addr} {xs : List Nat} (h : H p = some (.lst (xs.map nV))) : Rn H (.ref p) (.list (xs.map encN)) := .lst h (rnA_map fun _ _ => .int _)
/-- rising, not strictly -/
def Up0 (l : List Nat) : Prop := l.Pairwise (· ≤ ·)
theorem up_drop {l : List Nat} (h : Up0 l) {i : Nat} (hi : i < l.length) : ∀ y ∈ l.drop i, gT l i ≤ y := by
  intro y hy
  rw [List.drop_eq_getElem_cons hi] at hy
  rw [gT_at hi]
  rcases List.mem_cons.mp hy with q | q
  · rw [q]; exact Nat.le_refl _
  · have h2 : (l.drop i).Pairwise (· ≤ ·) := List.Pairwise.sublist (List.drop_sublist i l) h
    rw [List.drop_eq_getElem_cons hi] at h2
    exact (List.pairwise_cons.mp h2).1 y q
theorem drop_mem {l : List Nat} {i y : Nat} (h : y ∈ l.drop (i + 1)) : y ∈ l.drop i := by
  by_cases hi : i < l.length
  · rw [List.drop_eq_getElem_cons hi]; exact List.mem_cons_of_mem _ h
  · rw [List.drop_eq_nil_of_le (by omega)] at h; cases h
theorem up_app1 {c : List Nat} {x : Nat} (h : Up0 c) (k : ∀ y ∈ c, y ≤ x) : Up0 (c ++ [x]) := by
  unfold Up0
  rw [List.pairwise_append]
  exact ⟨h, List.pairwise_singleton _ _, fun a ha b hb => by rw [List.mem_singleton.mp hb]; exact k a ha⟩
/-- what is found so far -/
def MixG (a b : List Nat) (i t : Nat) (c : List Nat) : Prop := t ≤ b.length ∧ c.Perm (a.take i ++ b.take t) ∧ (Up0 a → Up0 b → Up0 c ∧ ∀ x ∈ c, (∀ y ∈ a.drop i, x ≤ y) ∧ ∀ y ∈ b.drop t, x ≤ y)
theorem MixG.right {a b c : List Nat} {i t : Nat} (h : MixG a b i t c) (hi : i < a.length) (ht : t < b.length) (hlt : gT b t < gT a i) : MixG a b i (t + 1) (c ++ [gT b t]) := by
  obtain ⟨h1, h2, h3⟩ := h
  refine ⟨ht, ?_, fun ua ub => ?_⟩
  · rw [List.take_add_one, gT_some ht, ← List.append_assoc]
    exact h2.append_right _
  · obtain ⟨h4, h5⟩ := h3 ua ub
    refine ⟨up_app1 h4 fun y hy => (h5 y hy).2 _ (by rw [List.drop_eq_getElem_cons ht, gT_at ht]; exact List.mem_cons_self), fun x hx => ?_⟩
    rcases List.mem_append.mp hx with q | q
    · exact ⟨(h5 x q).1, fun y hy => (h5 x q).2 y (drop_mem hy)⟩
    · rw [List.mem_singleton.mp q]
      refine ⟨fun y hy => ?_, fun y hy => up_drop ub ht y (drop_mem hy)⟩
      have := up_drop ua hi y hy
      omega
theorem MixG.left {a b c : List Nat} {i t : Nat} (h : MixG a b i t c) (hi : i < a.length) (ht : t < b.length → gT a i ≤ gT b t) : MixG a b (i + 1) t (c ++ [gT a i]) := by
  obtain ⟨h1, h2, h3⟩ := h
  refine ⟨h1, ?_, fun ua ub => ?_⟩
  · rw [List.take_add_one, gT_some hi]
    show (c ++ [gT a i]).Perm (a.take i ++ [gT a i] ++ b.take t)
    refine (h2.append_right _).trans ?_
    rw [List.append_assoc, List.append_assoc]
    exact (List.perm_append_comm).append_left _
  · obtain ⟨h4, h5⟩ := h3 ua ub
    refine ⟨up_app1 h4 fun y hy => (h5 y hy).1 _ (by rw [List.drop_eq_getElem_cons hi, gT_at hi]; exact List.mem_cons_self), fun x hx => ?_⟩
    rcases List.mem_append.mp hx with q | q
    · exact ⟨fun y hy => (h5 x q).1 y (drop_mem hy), (h5 x q).2⟩
    · rw [List.mem_singleton.mp q]
      refine ⟨fun y hy => up_drop ua hi y (drop_mem hy), fun y hy => ?_⟩
      by_cases q2 : t < b.length
      · have := up_drop ub q2 y hy
        have := ht q2
        omega
      · rw [List.drop_eq_nil_of_le (by omega)] at hy
        cases hy
theorem MixG.done {a b c : List Nat} {t : Nat} (h : MixG a b a.length t c) : (c ++ b.drop t).Perm (a ++ b) ∧ (Up0 a → Up0 b → Up0 (c ++ b.drop t)) := by
  obtain ⟨h1, h2, h3⟩ := h
  rw [List.take_length] at h2
  refine ⟨?_, fun ua ub => ?_⟩
  · have := h2.append_right (b.drop t)
    rwa [List.append_assoc, List.take_append_drop] at this
  · obtain ⟨h4, h5⟩ := h3 ua ub
    unfold Up0
    rw [List.pairwise_append]
    exact ⟨h4, List.Pairwise.sublist (List.drop_sublist t b) ub, fun x hx y hy => (h5 x hx).2 y hy⟩
theorem MixG.len {a b c : List Nat} {i t : Nat} (h : MixG a b i t c) : c.length ≤ a.length + b.length := by
  have := h.2.1.length_eq
  rw [List.length_append, List.length_take, List.length_take] at this
  omega
def sp_mixed : Sp := fun vs H Q _ => ∃ (p q : Addr) (a b : List Nat), vs = [.ref p, .ref q] ∧ H p = some (.lst (a.map nV)) ∧ H q = some (.lst (b.map nV)) ∧ a.length ≤ 1000 ∧ b.length ≤ 1000 ∧ ∀ (c : List Nat) r H', Ex H H' → H r = none → H' r = some (.lst (c.map nV)) → c.Perm (a ++ b) → (Up0 a → Up0 b → Up0 c) → Q (.ref r) H'
theorem ok_mixed (T : Tx K mg ad fd tk base tc) : FnOk P w K mg base CX0 1 (ad 7) (fd 7) ["one", "other"] sp_mixed := by
  refine T.d_mixed.F.ok sc_mixed (fun vs H Q E h => ?_) (fun cdv A outer s H vs Q E hr h => ?_)
  · obtain ⟨p, q, a, b, rfl, _⟩ := h
    rfl
  · obtain ⟨p, q, a, b, rfl, hp, hq, hla, hlb, k⟩ := h
    refine ⟨_, (pss_cons (ps_set (i := 2) sc_mixed.nd rfl (Or.inl rfl) (pe_lst pa_nil))
      (pss_cons (ps_set (i := 3) sc_mixed.nd rfl (Or.inl rfl) pe_int)
      (pss_cons (ps_for PassesOwn.never rfl (pi_list (pv 0)) (pg_name (i := 4) sc_mixed.nd rfl (Or.inl rfl)) (pss_cons (ps_while PassesOwn.never (PW.pt (pw_and (pt_cmpR o_lt (pv 3) (pe_callB (c_len (K := K)) (by rfl) T.b_len (by decide +kernel) (pa_cons (pv 1) pa_nil)) (nomark _)) (pw_and1 (pt_cmpR o_lt (pe_ix (i_ix (K := K)) (pv 1) (pv 3) (fun _ _ => rfl)) (pv 4) (nomark _))))) (pss_cons (ps_expr (pe_bm PySem.F.plainAttrs_list PySem.F.slot_list_append PySem.F.type_list_append mt_append (pv 2) (pa_cons (pe_ix (i_ix (K := K)) (pv 1) (pv 3) (fun _ _ => rfl)) pa_nil)))
      (pss_one (ps_aug (i := 3) sc_mixed.nd rfl (Or.inl rfl) pe_int ip_add))))
      (pss_one (ps_expr (pe_bm PySem.F.plainAttrs_list PySem.F.slot_list_append PySem.F.type_list_append mt_append (pv 2) (pa_cons (pv 4) pa_nil))))))
      (pss_one (ps_ret (pe_op o_add (pv 2) (pe_slice (s_sl (K := K)) (pv 1) (po_some (pv 3)) po_none))))))), ?_⟩
    walk_at "go"
    rename_i F H1 n1 e1 v1
    have hp1 := e1.get hp
    have hq1 := e1.get hq
    have hFp : p ≠ F := fun z => by rw [← z, hp] at n1; cases n1
    have hFq : q ≠ F := fun z => by rw [← z, hq] at n1; cases n1
    have ex : ∀ {H'}, FrP F H1 H' → Ex H H' := fun f => Ex.comp (M := fun x => x = F) e1 f fun x hx => by rw [hx]; exact n1
    refine for_runs (runs_list K p _) (fun i σ H' => (∃ (c : List Nat) (t : Nat), FrP F H1 H' ∧ H' F = some (.lst (c.map nV)) ∧ MixG a b i t c ∧ ∃ y, σ = [some (.ref p), some (.ref q), some (.ref F), some (.int (t : Nat)), y])) ⟨[], 0, Fr.refl _, v1, ⟨Nat.zero_le _, by simp, fun _ _ => ⟨List.Pairwise.nil, fun x hx => (List.not_mem_nil hx).elim⟩⟩, _, rfl⟩ (fun i σ H' _ h => by obtain ⟨_, _, f, _⟩ := h; exact lst_of (f.get hFp hp1)) ?_ ?_
    · rintro i x σ H0 H3 hi ⟨c, t, f3, v3, g3, y, rfl⟩ ⟨rfl, hx⟩
      obtain ⟨hia, rfl⟩ := nV_at hx
      unfold nV
      walk_at "go"
      refine while_inv (fun m σ H' => ∃ (c : List Nat) (t : Nat), m = b.length - t ∧ FrP F H1 H' ∧ H' F = some (.lst (c.map nV)) ∧ MixG a b i t c ∧ σ = [some (.ref p), some (.ref q), some (.ref F), some (.int (t : Nat)), some (.int (gT a i : Nat))]) ⟨_, c, t, rfl, f3, v3, g3, rfl⟩ ?_
      rintro m σ H4 ⟨c, t, rfl, f4, v4, g4, rfl⟩
      have hq4 := f4.get hFq hq1
      have hcl := g4.len
      walk_at "go"
      rw [List.length_map]
      have fin : (t < b.length → gT a i ≤ gT b t) → FrP F H1 (upd H4 F (.lst (c.map nV ++ [V.int (gT a i : Nat)]))) ∧ upd H4 F (.lst (c.map nV ++ [V.int (gT a i : Nat)])) F = some (.lst ((c ++ [gT a i]).map nV)) ∧ MixG a b (i + 1) t (c ++ [gT a i]) := fun h => ⟨f4.trans FrP.at, by rw [upd_same, List.map_append]; rfl, g4.left hia h⟩
      refine st_br2 (fun c1 => ?_) (fun c1 => ?_)
      rotate_left
      · obtain ⟨z1, z2, z3⟩ := fin fun h => by omega
        refine wh_F rfl ?_
        walk_at "go"
        refine st_app v4 (by rw [List.length_map]; omega) ?_
        exact ⟨_, t, z1, z2, z3, _, rfl⟩
      have htb : t < b.length := by omega
      walk_at "go"
      refine st_ixL hq4 (at_nV htb) ?_
      unfold nV
      walk_at "go"
      by_cases q1 : gT b t < gT a i
      rotate_left
      · obtain ⟨z1, z2, z3⟩ := fin fun h => by omega
        rw [decide_eq_false (by omega)]
        refine wh_F rfl ?_
        walk_at "go"
        refine st_app v4 (by rw [List.length_map]; omega) ?_
        exact ⟨_, t, z1, z2, z3, _, rfl⟩
      rw [decide_eq_true (by omega)]
      refine wh_T rfl ?_
      have v4' : H4 F = some (.lst (c.map nV)) := v4
      have hq4' : H4 q = some (.lst (b.map nV)) := hq4
      walk_at "go"
      refine st_ixL hq4' (at_nV htb) ?_
      walk_at "go"
      refine st_app v4' (by rw [List.length_map]; omega) ?_
      walk_at "go"
      refine ⟨b.length - (t + 1), by omega, c ++ [gT b t], t + 1, rfl, f4.trans FrP.at, ?_, g4.right hia htb q1, ?_⟩
      · rw [upd_same, List.map_append]; rfl
      · rw [show ((t + 1 : Nat) : Int) = ((t : Nat) : Int) + 1 by omega]
        rfl
    · rintro σ H3 ⟨c, t, f3, v3, g3, y, rfl⟩
      rw [List.length_map] at g3
      have hq3 := f3.get hFq hq1
      have hcl := g3.len
      obtain ⟨g4, g5⟩ := g3.done
      have e03 := ex f3
      walk_at "go"
      rename_i D4 H4 n4 e4 v4
      rw [cutV_from, ← List.map_drop] at v4
      have v34 := e4.get v3
      refine st_addL v34 v4 (by rw [List.length_map, List.length_map, List.length_drop]; omega) ?_
      intro r H5 n5 e5 v5
      refine k (c ++ b.drop t) r H5 (e03.trans (e4.trans e5)) (Ex.free (e03.trans e4) n5) ?_ g4 g5
      rw [v5, List.map_append]
def rowO (r : List Nat) : HO := .lst (r.map nV)
/-- a table of numbers -/
structure Tbl (H : Hp) (p : Addr) (rs : List Addr) (tb : List (List Nat)) : Prop where
  at_ : H p = some (.lst (rs.map V.ref))
  rows : ObjsAt H rs (tb.map rowO)
theorem Tbl.ex {H H' : Hp} {p : Addr} {rs : List Addr} {tb : List (List Nat)} (T : Tbl H p rs tb) (e : Ex H H') : Tbl H' p rs tb := ⟨e.get T.at_, T.rows.ex e⟩
theorem Tbl.len {H : Hp} {p : Addr} {rs : List Addr} {tb : List (List Nat)} (T : Tbl H p rs tb) : rs.length = tb.length := by rw [T.rows.len, List.length_map]
theorem Tbl.row {H : Hp} {p : Addr} {rs : List Addr} {tb : List (List Nat)} (T : Tbl H p rs tb) {i : Nat} (h : i < tb.length) : ∃ r, rs[i]? = some r ∧ H r = some (.lst ((tb[i]).map nV)) := by
  have hl := T.len
  refine ⟨rs[i]'(by omega), List.getElem?_eq_getElem _, T.rows.at i _ _ (List.getElem?_eq_getElem _) ?_⟩
  rw [List.getElem?_map, List.getElem?_eq_getElem h]
  rfl
def encR (r : List Nat) : PyData := .list (r.map encN)
theorem rows_rn {H : Hp} : ∀ {rs : List Addr} {tb : List (List Nat)}, ObjsAt H rs (tb.map rowO) → RnA H (rs.map V.ref) (tb.map encR)
  | [], [], _ => .nil
  | [], _ :: _, h => by cases h
  | _ :: _, [], h => by cases h
  | r :: rs, t :: tb, h => by
    cases h with
    | cons h1 h2 => exact .cons (.lst h1 (rnA_map fun _ _ => .int _)) (rows_rn h2)
theorem Tbl.rn {H : Hp} {p : Addr} {rs : List Addr} {tb : List (List Nat)} (T : Tbl H p rs tb) : Rn H (.ref p) (.list (tb.map encR)) := .lst T.at_ (rows_rn T.rows)
theorem tbl_nd (tb : List (List Nat)) : (PyData.list (tb.map encR)).hasDict = false := by
  simp only [PyData.hasDict]
  refine hasDictA_of fun d hd => ?_
  obtain ⟨r, _, rfl⟩ := List.mem_map.mp hd
  unfold encR
  simp only [PyData.hasDict]
  refine hasDictA_of fun d hd => ?_
  obtain ⟨_, _, rfl⟩ := List.mem_map.mp hd
  rfl
theorem Tbl.rp {H : Hp} {p : Addr} {rs : List Addr} {tb : List (List Nat)} (T : Tbl H p rs tb) : Rp H (.ref p) (.list (tb.map encR)) := T.rn.rp (tbl_nd tb)
theorem up_le {b : List Nat} (h : Up0 b) {i j : Nat} (hij : i ≤ j) (hj : j < b.length) : gT b i ≤ gT b j := by
  by_cases q : i = j
  · rw [q]; exact Nat.le_refl _
  · rw [gT_at (by omega), gT_at hj]
    exact List.pairwise_iff_getElem.mp h i j (by omega) hj (by omega)
theorem count_cut {b : List Nat} {e m : Nat} (hm : m ≤ b.length) (h1 : ∀ i, i < m → gT b i < e) (h2 : ∀ i, m ≤ i → i < b.length → e ≤ gT b i) : b.countP (· < e) = m := by
  have h3 : (b.take m).countP (· < e) = (b.take m).length := List.countP_eq_length.mpr fun x hx => by
    obtain ⟨i, hi, rfl⟩ := List.getElem_of_mem hx
    rw [List.length_take] at hi
    rw [List.getElem_take, ← gT_at (by omega)]
    simpa using h1 i (by omega)
  have h4 : (b.drop m).countP (· < e) = 0 := List.countP_eq_zero.mpr fun x hx => by
    obtain ⟨i, hi, rfl⟩ := List.getElem_of_mem hx
    rw [List.length_drop] at hi
    rw [List.getElem_drop, ← gT_at (by omega)]
    have := h2 (m + i) (by omega) (by omega)
    simp
    omega
  rw [← List.take_append_drop m b, List.countP_append, h3, h4, List.length_take]
  omega
/-- how many of all blocks from i on fulfil p -/
def restP (p : Nat → Bool) (bs : List (List Nat)) (i : Nat) : Nat := ((bs.drop i).map (fun b => b.countP p)).sum
theorem restP_end {p : Nat → Bool} {bs : List (List Nat)} {i : Nat} (h : bs.length ≤ i) : restP p bs i = 0 := by
  unfold restP
  rw [List.drop_eq_nil_of_le h]
  rfl
theorem restP_at {p : Nat → Bool} {bs : List (List Nat)} {i : Nat} (h : i < bs.length) : restP p bs i = (bs[i]).countP p + restP p bs (i + 1) := by
  unfold restP
  rw [List.drop_eq_getElem_cons h, List.map_cons, List.sum_cons]
structure NextF (bs cs : List (List Nat)) : Prop where
  len : cs.length = (bs.length + 1) / 2
  two : ∀ i c, cs[i]? = some c → ∀ (h : 2 * i < bs.length), (∀ (h2 : 2 * i + 1 < bs.length), c.Perm (bs[2 * i] ++ bs[2 * i + 1]) ∧ (Up0 bs[2 * i] → Up0 bs[2 * i + 1] → Up0 c)) ∧ (¬ 2 * i + 1 < bs.length → c = bs[2 * i])
theorem NextF.rest {bs cs : List (List Nat)} (h : NextF bs cs) (p : Nat → Bool) : ∀ (d i : Nat), d = cs.length - i → restP p cs i = restP p bs (2 * i)
  | 0, i, hd => by
    have := h.len
    rw [restP_end (by omega), restP_end (by omega)]
  | d + 1, i, hd => by
    have hl := h.len
    have hi : i < cs.length := by omega
    have h0 : 2 * i < bs.length := by omega
    obtain ⟨h1, h2⟩ := h.two i cs[i] (List.getElem?_eq_getElem hi) h0
    rw [restP_at hi, h.rest p d (i + 1) (by omega), restP_at h0]
    by_cases q : 2 * i + 1 < bs.length
    · obtain ⟨h3, _⟩ := h1 q
      rw [restP_at q, h3.countP_eq, List.countP_append, show 2 * (i + 1) = 2 * i + 1 + 1 by omega]
      omega
    · rw [h2 q, restP_end (i := 2 * i + 1) (by omega), restP_end (by omega)]
theorem NextF.up {bs cs : List (List Nat)} (h : NextF bs cs) (hu : ∀ b ∈ bs, Up0 b) : ∀ c ∈ cs, Up0 c := by
  intro c hc
  obtain ⟨i, hi⟩ := List.getElem?_of_mem hc
  have hl := h.len
  have hic := (List.getElem?_eq_some_iff.mp hi).1
  have h0 : 2 * i < bs.length := by omega
  obtain ⟨h1, h2⟩ := h.two i c hi h0
  by_cases q : 2 * i + 1 < bs.length
  · exact (h1 q).2 (hu _ (List.getElem_mem _)) (hu _ (List.getElem_mem _))
  · rw [h2 q]; exact hu _ (List.getElem_mem _)
theorem le_sum_mem : ∀ {l : List Nat} {x : Nat}, x ∈ l → x ≤ l.sum
  | a :: l, x, h => by
    rw [List.sum_cons]
    rcases List.mem_cons.mp h with q | q
    · omega
    · have := le_sum_mem q; omega
theorem block_le {bs : List (List Nat)} {b : List Nat} (h : b ∈ bs) : b.length ≤ restP (fun _ => true) bs 0 := by
  unfold restP
  rw [List.drop_zero]
  have h1 : b.countP (fun _ => true) = b.length := by simp
  rw [← h1]
  exact le_sum_mem (List.mem_map.mpr ⟨b, h, rfl⟩)
def ones (l : List Nat) : List (List Nat) := l.map fun x => [x]
theorem rest_ones (p : Nat → Bool) (l : List Nat) : ∀ (d i : Nat), d = l.length - i → restP p (ones l) i = (l.drop i).countP p
  | 0, i, hd => by
    rw [restP_end (by unfold ones; rw [List.length_map]; omega), List.drop_eq_nil_of_le (by omega)]
    rfl
  | d + 1, i, hd => by
    have hi : i < l.length := by omega
    have ho : i < (ones l).length := by unfold ones; rw [List.length_map]; exact hi
    rw [restP_at ho, rest_ones p l d (i + 1) (by omega), List.drop_eq_getElem_cons hi]
    have e : (ones l)[i]'ho = [l[i]] := by simp [ones]
    rw [e, List.countP_cons, List.countP_cons, List.countP_nil]
    omega
/-- floors, the last one so far on top -/
structure FlO (l : List Nat) (fs : List (List (List Nat))) : Prop where
  ne : 0 < fs.length
  fst : fs[0]? = some (ones l)
  nxt : ∀ j bs cs, fs[j]? = some bs → fs[j + 1]? = some cs → 2 ≤ bs.length ∧ NextF bs cs
theorem FlO.all {l : List Nat} {fs : List (List (List Nat))} (h : FlO l fs) : ∀ (j : Nat) bs, fs[j]? = some bs → (∀ b ∈ bs, Up0 b) ∧ restP (fun _ => true) bs 0 = l.length
  | 0, bs, hb => by
    rw [h.fst] at hb
    cases hb
    refine ⟨fun b hb => ?_, ?_⟩
    · obtain ⟨x, _, rfl⟩ := List.mem_map.mp hb
      exact List.pairwise_singleton _ _
    · rw [rest_ones _ l _ 0 rfl, List.drop_zero]
      simp
  | j + 1, cs, hc => by
    have hj : j < fs.length := by have := (List.getElem?_eq_some_iff.mp hc).1; omega
    obtain ⟨h1, h2⟩ := h.all j _ (List.getElem?_eq_getElem hj)
    obtain ⟨_, n⟩ := h.nxt j _ cs (List.getElem?_eq_getElem hj) hc
    exact ⟨n.up h1, by rw [n.rest _ _ 0 rfl]; exact h2⟩
theorem FlO.blk {l : List Nat} {fs : List (List (List Nat))} (h : FlO l fs) {j : Nat} {bs : List (List Nat)} (hb : fs[j]? = some bs) {b : List Nat} (hm : b ∈ bs) : Up0 b ∧ b.length ≤ l.length := by
  obtain ⟨h1, h2⟩ := h.all j bs hb
  have := block_le hm
  exact ⟨h1 b hm, by omega⟩
theorem FlO.len {l : List Nat} {fs : List (List (List Nat))} (h : FlO l fs) : ∀ (j : Nat) bs, fs[j]? = some bs → bs.length + j ≤ l.length
  | 0, bs, hb => by
    rw [h.fst] at hb
    cases hb
    unfold ones
    rw [List.length_map]
    omega
  | j + 1, cs, hc => by
    have hj : j < fs.length := by have := (List.getElem?_eq_some_iff.mp hc).1; omega
    have h1 := h.len j _ (List.getElem?_eq_getElem hj)
    obtain ⟨h2, n⟩ := h.nxt j _ cs (List.getElem?_eq_getElem hj) hc
    have := n.len
    omega
/-- the floors as they stand -/
structure FlG (H : Hp) (qs : List Addr) (fs : List (List (List Nat))) : Prop where
  len : qs.length = fs.length
  tb : ∀ (j : Nat) q, qs[j]? = some q → ∃ rs bs, fs[j]? = some bs ∧ Tbl H q rs bs
theorem FlG.ex {H H' : Hp} {qs : List Addr} {fs : List (List (List Nat))} (h : FlG H qs fs) (e : Ex H H') : FlG H' qs fs := ⟨h.len, fun j q hq => by obtain ⟨rs, bs, h1, h2⟩ := h.tb j q hq; exact ⟨rs, bs, h1, h2.ex e⟩⟩
theorem ObjsAt.ex' {H : Hp} {F : Addr} : ∀ {ts : List Addr} {os : List HO}, (∀ x ∈ ts, x ≠ F) → ObjsAt H ts os → ObjsAt (hid F H) ts os
  | _, _, _, .nil => .nil
  | _, _, hm, .cons h r => .cons (hid_get h (hm _ List.mem_cons_self)) (ObjsAt.ex' (fun a ha => hm a (List.mem_cons_of_mem _ ha)) r)
def sp_floors_of : Sp := fun vs H Q _ => ∃ (a : Addr) (l : List Nat), vs = [.ref a] ∧ seqAt H a = some (l.map nV) ∧ l.length ≤ 96 ∧ ∀ fa qs fs H', Ex H H' → H fa = none → H' fa = some (.lst (qs.map V.ref)) → FlG (newO H H') qs fs → FlO l fs → (∀ bs, fs[fs.length - 1]? = some bs → bs.length ≤ 1) → Q (.ref fa) H'
theorem ok_floors_of (T : Tx K mg ad fd tk base tc) : FnOk P w K mg base CX0 2 (ad 8) (fd 8) ["ends"] sp_floors_of := by
  refine T.d_floors_of.F.ok sc_floors_of (fun vs H Q E h => ?_) (fun cdv A outer s H vs Q E hr h => ?_)
  · obtain ⟨a, l, rfl, _⟩ := h
    rfl
  · obtain ⟨a, l, rfl, ha, hl, k⟩ := h
    refine ⟨_, (pss_cons (ps_set (i := 1) sc_floors_of.nd rfl (Or.inl rfl) (pe_lst (pa_cons (pe_lc (own := [("end", 4)]) (g := gName 4) rfl sc_floors_of.nd (pi_seq (pv 0)) (blkOk_by (own := [("end", 4)]) (N := N_floors_of) (sc := defScope s_floors_of) (by decide +kernel)) (fun _ _ _ _ _ => pg_name (i := 4) sc_floors_of.nd rfl (Or.inl rfl)) (fun _ _ _ _ _ => pts_nil) (fun _ _ _ _ _ => (pe_lst (pa_cons (pv 4) pa_nil)))) pa_nil)))
      (pss_cons (ps_while PassesOwn.never (pt_cmpR o_gt (pe_callB (c_len (K := K)) (by rfl) T.b_len (by decide +kernel) (pa_cons (pe_ix (i_ix (K := K)) (pv 1) (pe_un un_neg pe_int) (fun _ _ => rfl)) pa_nil)) pe_int (nomark _)) (pss_cons (ps_set (i := 2) sc_floors_of.nd rfl (Or.inl rfl) (pe_ix (i_ix (K := K)) (pv 1) (pe_un un_neg pe_int) (fun _ _ => rfl)))
      (pss_cons (ps_setLc (i := 3) (own := [("left", 5), ("right", 6)]) (g := gTup K 2 (gCons (gName 5) (gCons (gName 6) gNil))) rfl sc_floors_of.nd rfl rfl (sw_true rfl rfl rfl (by decide +kernel)) (pi_zip rfl T.b_zip (pa_cons (pe_slice3 (pv 2) po_none po_none pe_int (K := K)) (pa_cons (pe_slice3 (pv 2) (po_some pe_int) po_none pe_int (K := K)) pa_nil))) (blkOk_by (own := [("left", 5), ("right", 6)]) (N := N_floors_of) (sc := defScope s_floors_of) (by decide +kernel)) (fun _ _ _ _ _ => (pg_tup rfl (pgs_cons (pg_name (i := 5) sc_floors_of.nd rfl (Or.inl rfl)) (pgs_cons (pg_name (i := 6) sc_floors_of.nd rfl (Or.inl rfl)) pgs_nil)))) (fun _ _ _ _ _ => pts_nil) (fun _ _ _ _ _ => (pe_call (ok_mixed T) (hr.mono (by decide)) rfl T.d_mixed.g T.d_mixed.F.kp T.d_mixed.b .nil pass0 (pa_cons (pv 5) (pa_cons (pv 6) pa_nil)))))
      (pss_cut (ps_if (pt_cmpR (o_eq hr.units) (pe_op o_mod (pe_callB (c_len (K := K)) (by rfl) T.b_len (by decide +kernel) (pa_cons (pv 2) pa_nil)) pe_int) pe_int (nomark _)) (pss_one (ps_expr (pe_bm PySem.F.plainAttrs_list PySem.F.slot_list_append PySem.F.type_list_append mt_append (pv 3) (pa_cons (pe_callTy (c_list rfl (K := K)) (by rfl) T.b_list (by decide +kernel) (pa_cons (pe_ix (i_ix (K := K)) (pv 2) (pe_un un_neg pe_int) (fun _ _ => rfl)) pa_nil)) pa_nil)))) pss_nil)
      (pss_one (ps_expr (pe_bm PySem.F.plainAttrs_list PySem.F.slot_list_append PySem.F.type_list_append mt_append (pv 1) (pa_cons (pv 3) pa_nil))))))))
      (pss_one (ps_ret (pv 1))))), ?_⟩
    walk_at "go"
    refine st_isSeq ha fun J S hJ hS => ?_
    refine lc_objs0 (rv_of hJ) (fun H' e => hS H' (seqAt_same e ha)) (by omega) (fun x => rowO [x]) ?_ ?_
    · intro x H' hx e B h2
      refine ⟨rfl, ?_⟩
      walk_at "go"
      rename_i q H2 n2 e2 v2
      exact h2 q H2 n2 e2 v2
    intro D H1 ts nD e1 vD oD ndD hDn fD
    walk_at "go"
    rename_i F H2 nF e2 vF
    have e12 := e1.trans e2
    have v12 := e2.get vD
    have nF0 : H F = none := Ex.free e1 nF
    have hDF : D ≠ F := fun z => by rw [← z, vD] at nF; cases nF
    have hid0 : Ex H2 (hid F H2) → True := fun _ => trivial
    have eH1 : Ex H1 (hid F H2) := fun b o _ h => hid_get (e2.get h) (fun z => by rw [z, nF] at h; cases h)
    have oD' : ObjsAt H1 ts ((ones l).map rowO) := by
      have : (ones l).map rowO = l.map fun x => rowO [x] := by rw [ones, List.map_map]; rfl
      rw [this]
      exact oD
    have nD0 : H D = none := nD
    have eN : ∀ {G : Hp} {a : Addr} {o : HO}, G a = some o → H a = none → newO H G a = some o := fun h n => newO_get h n
    have G0 : FlG (newO H (hid F H2)) [D] [ones l] := ⟨rfl, fun j q hq => by
      cases j with
      | zero =>
        have : D = q := by simpa using hq
        subst this
        exact ⟨ts, ones l, rfl, newO_get (eH1.get vD) nD0, objs_in (fun b hb o h => newO_get h (fD b hb)) (oD'.ex eH1)⟩
      | succ j => simp at hq⟩
    have O0 : FlO l [ones l] := ⟨by simp, rfl, fun j bs cs _ h => by simp at h⟩
    refine while_inv (fun m σ H' => ∃ (qs : List Addr) (fs : List (List (List Nat))) (bs : List (List Nat)), H' F = some (.lst (qs.map V.ref)) ∧ Ex H (hid F H') ∧ FlG (newO H (hid F H')) qs fs ∧ FlO l fs ∧ fs[fs.length - 1]? = some bs ∧ m = bs.length ∧ ∃ y2 y3, σ = [some (.ref a), some (.ref F), y2, y3, none, none, none]) ⟨_, [D], [ones l], ones l, vF, e1.trans eH1, G0, O0, rfl, rfl, _, _, rfl⟩ ?_
    rintro m σ H3 ⟨qs, fs, bs, hF, eH, hG, hO, hbs, rfl, y2, y3, rfl⟩
    have hne := hO.ne
    have hql := hG.len
    obtain ⟨q, hq⟩ : ∃ q, qs[fs.length - 1]? = some q := ⟨qs[fs.length - 1]'(by omega), List.getElem?_eq_getElem _⟩
    obtain ⟨rs, bs', hb', hT0⟩ := hG.tb _ q hq
    have hT := hT0.ex (newO_ex H (hid F H3))
    have : bs' = bs := by rw [hb'] at hbs; exact Option.some.inj hbs
    subst this
    have hlst : atI (qs.map V.ref) (-1) = some (.ref q) := at_last (n := fs.length - 1) (by rw [List.length_map]; omega) (by rw [List.getElem?_map, hq]; rfl)
    have hqF : q ≠ F := fun z => by
      have := hT.at_
      rw [z] at this
      unfold hid at this
      rw [if_pos rfl] at this
      cases this
    have hq3 := (hid_ex F H3).get hT.at_
    have hrl := hT.len
    have hlen := hO.len _ _ hbs
    walk_at "go"
    refine st_ixL hF hlst ?_
    walk_at "go"
    rw [List.length_map, hrl]
    by_cases c1 : 1 < bs'.length
    rotate_left
    · rw [decide_eq_false (by omega)]
      refine wh_F rfl ?_
      walk_at "go"
      exact k F qs fs H3 (eH.trans (hid_ex F H3)) nF0 hF (hG.ex (newO_mono (hid_ex F H3))) hO fun bs2 h => by rw [hbs] at h; cases h; omega
    rw [decide_eq_true (by omega)]
    refine wh_T rfl ?_
    walk_at "go"
    refine st_ixL hF hlst ?_
    walk_at "go"
    refine st_evL (lstAt_sq (lst_of hq3)) ?_
    intro ev H4 n4 e4 v4
    walk_at "go"
    refine st_odL (lstAt_sq (lst_of (e4.get hq3))) ?_
    intro od H5 n5 e5 v5
    have v45 := e5.get v4
    walk_at "go"
    have hT5 := ((hT.ex (hid_ex F H3)).ex e4).ex e5
    have len1 : (evL (rs.map V.ref)).length = (bs'.length + 1) / 2 := by rw [evL_len, List.length_map, hrl]
    have len2 : (odL (rs.map V.ref)).length = bs'.length / 2 := by rw [odL_len, List.length_map, hrl]
    refine lc_mk (runs_zip K ev od _ _) (fun i x H H' h => by obtain ⟨_, _, _, _, _, h, _⟩ := h; exact h) (fun H' e => ⟨lst_of (e.get v45), lst_of (e.get v5)⟩) (by omega) (fun i o => ∃ c, o = rowO c ∧ ∀ (h2 : 2 * i + 1 < bs'.length), c.Perm (bs'[2 * i] ++ bs'[2 * i + 1]) ∧ (Up0 bs'[2 * i] → Up0 bs'[2 * i + 1] → Up0 c)) ?_ ?_ gTup_mono
    · rintro i x H6 H7 hi e6 ⟨T, v, u, rfl, nT, eT, vT, hv, hu⟩ B hB
      rw [len1, len2] at hi
      have hi2 : 2 * i + 1 < bs'.length := by omega
      obtain ⟨r1, hr1, hv1⟩ := (hT5.ex (e6.trans eT)).row (i := 2 * i) (by omega)
      obtain ⟨r2, hr2, hv2⟩ := (hT5.ex (e6.trans eT)).row (i := 2 * i + 1) hi2
      rw [evL_get, List.getElem?_map, hr1] at hv
      rw [odL_get, List.getElem?_map, hr2] at hu
      cases hv
      cases hu
      have q1 := (hO.blk hbs (List.getElem_mem (l := bs') (n := 2 * i) (by omega))).2
      have q2 := (hO.blk hbs (List.getElem_mem (l := bs') (n := 2 * i + 1) hi2)).2
      walk_at "go"
      refine ⟨rfl, ?_⟩
      walk_at "go"
      refine ⟨r1, r2, _, _, rfl, hv1, hv2, by omega, by omega, fun c r H8 e8 n8 v8 p8 u8 => ?_⟩
      exact hB r H8 _ n8 e8 v8 ⟨c, rfl, fun _ => ⟨p8, u8⟩⟩
    intro A H6 as os nA e6 vA oA hol hor hAn fA
    obtain ⟨cs, rfl, hcs⟩ := objs_choose hor
    rw [List.length_map, len1, len2] at hol
    have e36 : Ex H3 H6 := e4.trans (e5.trans e6)
    have nA3 : H3 A = none := Ex.free (e4.trans e5) nA
    have hFA : A ≠ F := fun z => by rw [z, hF] at nA3; cases nA3
    have e03 : Ex H H3 := eH.trans (hid_ex F H3)
    have nA0 : H A = none := Ex.free e03 nA3
    have asF : ∀ x ∈ as, x ≠ F ∧ H x = none := fun x hx => by
      have h1 := Ex.free (e4.trans e5) (fA x hx)
      refine ⟨fun z => ?_, Ex.free e03 h1⟩
      rw [z, hF] at h1
      cases h1
    have hal : as.length = cs.length := by rw [oA.len, List.length_map]
    walk_at "go"
    refine ⟨fun σ' H' => ∃ (as' : List Addr) (ds : List (List Nat)), Ex H3 H' ∧ H' A = some (.lst (as'.map V.ref)) ∧ ObjsAt H' as' (ds.map rowO) ∧ A ∉ as' ∧ (∀ x ∈ as', x ≠ F ∧ H x = none) ∧ NextF bs' ds ∧ σ' = [some (.ref a), some (.ref F), some (.ref q), some (.ref A), none, none, none], ?_, ?_⟩
    · have hq6 := e36.get hq3
      have twoI : ∀ i c, cs[i]? = some c → ∀ (h : 2 * i < bs'.length), (∀ (h2 : 2 * i + 1 < bs'.length), c.Perm (bs'[2 * i] ++ bs'[2 * i + 1]) ∧ (Up0 bs'[2 * i] → Up0 bs'[2 * i + 1] → Up0 c)) ∧ (¬ 2 * i + 1 < bs'.length → c = bs'[2 * i]) := fun i c hc h => ⟨fun h2 => hcs i c hc h2, fun h2 => by have := (List.getElem?_eq_some_iff.mp hc).1; omega⟩
      refine st_ifS ?_
      walk_at "go"
      rw [List.length_map, hrl]
      refine st_br2 (fun c2 => ?_) (fun c2 => ?_)
      · have hlast : bs'.length - 1 < bs'.length := by omega
        obtain ⟨r1, hr1, hv1⟩ := (hT5.ex e6).row hlast
        walk_at "go"
        refine st_ixL hq6 (at_last (n := bs'.length - 1) (by rw [List.length_map, hrl]; omega) (v := .ref r1) (by rw [List.getElem?_map, hr1]; rfl)) ?_
        walk_at "go"
        rename_i r2 H7 n7 e7 v7
        have vA7 := e7.get vA
        refine st_app vA7 (by rw [List.length_map]; omega) ?_
        have hrA : r2 ≠ A := fun z => by rw [z, vA] at n7; cases n7
        refine ⟨as ++ [r2], cs ++ [bs'[bs'.length - 1]], (e36.trans e7).mut nA3, by rw [upd_same, List.map_append]; rfl, ?_, ?_, ?_, ⟨?_, ?_⟩, rfl⟩
        · rw [List.map_append]
          refine ObjsAt.app ((oA.ex e7).up hAn) (.one ?_)
          rw [upd_ne hrA]
          exact v7
        · rw [List.mem_append, List.mem_singleton]
          rintro (z | z)
          · exact hAn z
          · exact hrA z.symm
        · intro x hx
          rcases List.mem_append.mp hx with z | z
          · exact asF x z
          · rw [List.mem_singleton.mp z]
            refine ⟨fun z2 => ?_, Ex.free (e03.trans e36) n7⟩
            rw [z2, e36.get hF] at n7
            cases n7
        · rw [List.length_append, List.length_singleton]; omega
        · intro i c hc h
          by_cases hi : i < cs.length
          · rw [List.getElem?_append_left hi] at hc
            exact twoI i c hc h
          · rw [List.getElem?_append_right (by omega)] at hc
            have hi0 : i - cs.length = 0 := by
              have := (List.getElem?_eq_some_iff.mp hc).1
              rw [List.length_singleton] at this
              omega
            rw [hi0] at hc
            cases hc
            have hb : bs'.length - 1 = 2 * i := by omega
            exact ⟨fun h2 => by omega, fun _ => by simp only [hb]⟩
      · walk_at "go"
        exact ⟨as, cs, e36, vA, oA, hAn, asF, ⟨by omega, twoI⟩, rfl⟩
    rintro σ' H7 ⟨as', ds, e37, vA7, oA7, hAn7, asF7, hN, rfl⟩
    have hF7 := e37.get hF
    walk_at "go"
    refine st_app hF7 (by rw [List.length_map]; omega) ?_
    have hh : hid F (upd H7 F (.lst (qs.map V.ref ++ [V.ref A]))) = hid F H7 := by
      funext b
      unfold hid
      by_cases h : b = F
      · rw [if_pos h, if_pos h]
      · rw [if_neg h, if_neg h, upd_ne h]
    have eh : Ex (hid F H3) (hid F H7) := hid_frp (Fr.ex e37)
    have hTA : Tbl (newO H (hid F H7)) A as' ds := ⟨newO_get (hid_get vA7 hFA) nA0, objs_in (fun b hb o h => newO_get h (asF7 b hb).2) (ObjsAt.ex' (fun x hx => (asF7 x hx).1) oA7)⟩
    refine ⟨ds.length, by have := hN.len; omega, qs ++ [A], fs ++ [ds], ds, by rw [upd_same, List.map_append]; rfl, by rw [hh]; exact eH.trans eh, ?_, ⟨?_, ?_, ?_⟩, ?_, rfl, _, _, rfl⟩
    · rw [hh]
      refine ⟨by rw [List.length_append, List.length_append, hql]; rfl, fun j q' hq' => ?_⟩
      by_cases hj : j < qs.length
      · rw [List.getElem?_append_left hj] at hq'
        obtain ⟨rs2, bs2, g1, g2⟩ := hG.tb j q' hq'
        exact ⟨rs2, bs2, by rw [List.getElem?_append_left (by omega)]; exact g1, g2.ex (newO_mono eh)⟩
      · rw [List.getElem?_append_right (by omega)] at hq'
        have hj0 : j - qs.length = 0 := by
          have := (List.getElem?_eq_some_iff.mp hq').1
          rw [List.length_singleton] at this
          omega
        rw [hj0] at hq'
        cases hq'
        exact ⟨as', ds, by rw [List.getElem?_append_right (by omega), show j - fs.length = 0 by omega]; rfl, hTA⟩
    · rw [List.length_append]; omega
    · rw [List.getElem?_append_left hne]; exact hO.fst
    · intro j b1 c1' h1 h2
      by_cases hj : j + 1 < fs.length
      · rw [List.getElem?_append_left (by omega)] at h1
        rw [List.getElem?_append_left hj] at h2
        exact hO.nxt j b1 c1' h1 h2
      · have hj2 : j + 1 = fs.length := by
          have := (List.getElem?_eq_some_iff.mp h2).1
          rw [List.length_append, List.length_singleton] at this
          omega
        rw [List.getElem?_append_left (by omega), show j = fs.length - 1 by omega, hbs] at h1
        rw [List.getElem?_append_right (by omega), show j + 1 - fs.length = 0 by omega] at h2
        cases h1
        cases h2
        exact ⟨by omega, hN⟩
    · rw [List.length_append, List.length_singleton, Nat.add_sub_cancel, List.getElem?_append_right (Nat.le_refl _), Nat.sub_self]
      rfl
def sp_lesser : Sp := fun vs H Q _ => ∃ (p : Addr) (b : List Nat) (e : Nat), vs = [.ref p, .int (e : Nat)] ∧ H p = some (.lst (b.map nV)) ∧ Up0 b ∧ b.length ≤ 1000 ∧ Q (.int (b.countP (· < e) : Nat)) H
theorem ok_lesser (T : Tx K mg ad fd tk base tc) : FnOk P w K mg base CX0 1 (ad 9) (fd 9) ["block", "end"] sp_lesser := by
  refine T.d_lesser.F.ok sc_lesser (fun vs H Q E h => ?_) (fun cdv A outer s H vs Q E hr h => ?_)
  · obtain ⟨p, b, e, rfl, _⟩ := h
    rfl
  · obtain ⟨p, b, e, rfl, hp, hu, hl, k⟩ := h
    refine ⟨_, (pss_cons (ps_set (i := 2) sc_lesser.nd rfl (Or.inl rfl) pe_int)
      (pss_cons (ps_set (i := 3) sc_lesser.nd rfl (Or.inl rfl) (pe_callB (c_len (K := K)) (by rfl) T.b_len (by decide +kernel) (pa_cons (pv 0) pa_nil)))
      (pss_cons (ps_while PassesOwn.never (pt_cmpR o_lt (pv 2) (pv 3) (nomark _)) (pss_cons (ps_set (i := 4) sc_lesser.nd rfl (Or.inl rfl) (pe_op o_div (pe_op o_add (pv 2) (pv 3)) pe_int))
      (pss_one (ps_if (pt_cmpR o_lt (pe_ix (i_ix (K := K)) (pv 0) (pv 4) (fun _ _ => rfl)) (pv 1) (nomark _)) (pss_one (ps_set (i := 2) sc_lesser.nd rfl (Or.inl rfl) (pe_op o_add (pv 4) pe_int))) (pss_one (ps_set (i := 3) sc_lesser.nd rfl (Or.inl rfl) (pv 4)))))))
      (pss_one (ps_ret (pv 2)))))), ?_⟩
    walk_at "go"
    rw [List.length_map]
    refine while_inv (fun m σ H' => H' = H ∧ ∃ (lo hi : Nat), m = hi - lo ∧ lo ≤ hi ∧ hi ≤ b.length ∧ (∀ i, i < lo → gT b i < e) ∧ (∀ i, hi ≤ i → i < b.length → e ≤ gT b i) ∧ ∃ y, σ = [some (.ref p), some (.int (e : Nat)), some (.int (lo : Nat)), some (.int (hi : Nat)), y]) ⟨b.length, rfl, 0, b.length, rfl, Nat.zero_le _, Nat.le_refl _, fun i h => absurd h (Nat.not_lt_zero _), fun i h1 h2 => by omega, _, rfl⟩ ?_
    rintro m σ H1 ⟨rfl, lo, hi, rfl, h1, h2, h3, h4, y, rfl⟩
    walk_at "go"
    by_cases q : lo < hi
    rotate_left
    · rw [decide_eq_false (by omega)]
      refine wh_F rfl ?_
      have : lo = hi := by omega
      subst this
      rw [count_cut h2 h3 h4] at k
      walk_at "go"
      exact k
    rw [decide_eq_true (by omega)]
    refine wh_T rfl ?_
    walk_at "go"
    obtain ⟨a, ha⟩ : ∃ a : Nat, (((lo : Nat) : Int) + (hi : Nat)) / 2 = (a : Nat) := ⟨(lo + hi) / 2, by omega⟩
    rw [ha]
    have ha2 : lo ≤ a ∧ a < hi := by omega
    refine st_ixL hp (at_nV (by omega)) ?_
    unfold nV
    walk_at "go"
    refine st_br2 (fun c => ?_) (fun c => ?_)
    · walk_at "go"
      refine ⟨hi - (a + 1), by omega, rfl, a + 1, hi, rfl, by omega, h2, fun i hi2 => ?_, h4, some (.int (a : Nat)), ?_⟩
      · have := up_le hu (i := i) (j := a) (by omega) (by omega)
        omega
      · rw [show ((a + 1 : Nat) : Int) = ((a : Nat) : Int) + 1 by omega]
        rfl
    · walk_at "go"
      refine ⟨a - lo, by omega, rfl, lo, a, rfl, ha2.1, by omega, h3, fun i h5 h6 => ?_, _, rfl⟩
      have := up_le hu (i := a) (j := i) h5 h6
      omega
def TalAt (K : PySem.W.Frag) (H : Hp) (p : Addr) (l : List Nat) : Prop := ∃ (dx fa : Addr) (qs : List Addr) (fs : List (List (List Nat))), H p = some (.ins (clsA K "Tally") dx [("many", .int (l.length : Nat)), ("floors", .ref fa)]) ∧ H fa = some (.lst (qs.map V.ref)) ∧ FlG H qs fs ∧ FlO l fs ∧ (∀ bs, fs[fs.length - 1]? = some bs → bs.length ≤ 1) ∧ IsT l ∧ l.length ≤ 96
theorem TalAt.ex {K : PySem.W.Frag} {H H' : Hp} {p : Addr} {l : List Nat} (h : TalAt K H p l) (e : Ex H H') : TalAt K H' p l := by
  obtain ⟨dx, fa, qs, fs, h1, h2, h3, h4, h5⟩ := h
  exact ⟨dx, fa, qs, fs, e.get h1, e.get h2, h3.ex e, h4, h5⟩
def AsksAt (K : PySem.W.Frag) (H : Hp) (p : Addr) (l : List Nat) (m : Nat) : Prop := ∃ (dx tp ga sa : Addr), H p = some (.ins (clsA K "Asks") dx [("tall", .int (m : Nat)), ("wide", .int ((l.length - m : Nat) : Nat)), ("tally", .ref tp), ("goals", .ref ga), ("starts", .ref sa)]) ∧ TalAt K H tp l ∧ H ga = some (.lst (l.map nV)) ∧ H sa = some (.lst ((invT l).map nV)) ∧ IsT l ∧ l.length ≤ 96 ∧ m ≤ l.length
theorem AsksAt.ex {K : PySem.W.Frag} {H H' : Hp} {p : Addr} {l : List Nat} {m : Nat} (h : AsksAt K H p l m) (e : Ex H H') : AsksAt K H' p l m := by
  obtain ⟨dx, tp, ga, sa, h1, h2, h3, h4, h5⟩ := h
  exact ⟨dx, tp, ga, sa, e.get h1, h2.ex e, e.get h3, e.get h4, h5⟩
/-- how long a window is -/
def winV (l : List Nat) (m f la b e : Nat) : Int := ((e : Nat) : Int) - (b : Nat) - (cntT l (m - f + b) (m - la + e) : Nat)
structure WinOk (m w f la b e : Nat) : Prop where
  h1 : f ≤ la
  h2 : la ≤ m
  h3 : b ≤ e
  h4 : e ≤ w
  h5 : f = 0 ∨ b = 0
  h6 : la = m ∨ e = w
def sp_need_window (K : PySem.W.Frag) : Sp := fun vs H Q E => ∃ (t : Addr) (m w f la b e : Nat), vs = [.int (m : Nat), .int (w : Nat), .ref t] ∧ H t = some (.tup [.int (f : Nat), .int (la : Nat), .int (b : Nat), .int (e : Nat)]) ∧ WinOk m w f la b e ∧ Q .non H
theorem use_span {K : PySem.W.Frag} {G : Hp} {i j m : Nat} {Q : VK} {E : XK} (h1 : i ≤ j) (h2 : j ≤ m) (kk : Q .non G) : sp_need_span K [.int (i : Nat), .int (j : Nat), .int (m : Nat)] G Q E :=
  ⟨_, _, _, rfl, ⟨_, rfl⟩, ⟨_, rfl⟩, (fun h => by rw [nat_span h1 h2] at h; cases h), fun _ => kk⟩
theorem ok_need_window (T : Tx K mg ad fd tk base tc) : FnOk P w K mg base CX0 4 (ad 10) (fd 10) ["tall", "wide", "spans"] (sp_need_window K) := by
  refine T.d_need_window.F.ok sc_need_window (fun vs H Q E h => ?_) (fun cdv A outer s H vs Q E hr h => ?_)
  · obtain ⟨t, m, w, f, la, b, e, rfl, _⟩ := h
    rfl
  · obtain ⟨t, m, w, f, la, b, e, rfl, ht, hk, k⟩ := h
    refine ⟨_, (pss_cons (ps_asg (pv 2) (pg_tup rfl (pgs_cons (pg_name (i := 3) sc_need_window.nd rfl (Or.inl rfl)) (pgs_cons (pg_name (i := 4) sc_need_window.nd rfl (Or.inl rfl)) (pgs_cons (pg_name (i := 5) sc_need_window.nd rfl (Or.inl rfl)) (pgs_cons (pg_name (i := 6) sc_need_window.nd rfl (Or.inl rfl)) pgs_nil))))))
      (pss_cons (ps_expr (pe_call (ok_need_span T) (hr.mono (by decide)) rfl T.d_need_span.g T.d_need_span.F.kp T.d_need_span.b .nil passL (pa_cons (pv 3) (pa_cons (pv 4) (pa_cons (pv 0) pa_nil)))))
      (pss_cons (ps_expr (pe_call (ok_need_span T) (hr.mono (by decide)) rfl T.d_need_span.g T.d_need_span.F.kp T.d_need_span.b .nil passL (pa_cons (pv 5) (pa_cons (pv 6) (pa_cons (pv 1) pa_nil)))))
      (pss_cons (ps_set (i := 7) sc_need_window.nd rfl (Or.inl rfl) (pe_or (pe_cmpR (o_eq hr.units) (pv 3) pe_int (nomark _)) (pe_one (pe_cmpR (o_eq hr.units) (pv 5) pe_int (nomark _)))))
      (pss_cons (ps_set (i := 8) sc_need_window.nd rfl (Or.inl rfl) (pe_or (pe_cmpR (o_eq hr.units) (pv 4) (pv 0) (nomark _)) (pe_one (pe_cmpR (o_eq hr.units) (pv 6) (pv 1) (nomark _)))))
      (pss_one (ps_if (PW.pt (pw_or (pt_not (pt_tru (pv 7) (by intro _; rfl) (K := K))) (pw_or1 (pt_not (pt_tru (pv 8) (by intro _; rfl) (K := K)))))) (pss_one ps_never) pss_nil))))))), ?_⟩
    obtain ⟨h1, h2, h3, h4, h5, h6⟩ := hk
    walk_at "go"
    refine use_span h1 h2 ?_
    walk_at "go"
    refine use_span h3 h4 ?_
    walk_at "go"
    by_cases q1 : f = 0
    · rw [decide_eq_true (by omega)]
      walk_at "go"
      by_cases q2 : la = m
      · rw [decide_eq_true (by omega)]
        walk_at "go"
        exact k
      · rw [decide_eq_false (by omega)]
        walk_at "go"
        rw [decide_eq_true (by omega)]
        walk_at "go"
        exact k
    · rw [decide_eq_false (by omega)]
      walk_at "go"
      by_cases q2 : la = m
      · rw [decide_eq_true (p := ((la : Nat) : Int) = (m : Nat)) (by omega)]
        walk_at "go"
        rw [decide_eq_true (p := ((b : Nat) : Int) = 0) (by omega)]
        walk_at "go"
        exact k
      · rw [decide_eq_false (p := ((la : Nat) : Int) = (m : Nat)) (by omega)]
        walk_at "go"
        rw [decide_eq_true (p := ((b : Nat) : Int) = 0) (by omega)]
        walk_at "go"
        rw [decide_eq_true (p := ((e : Nat) : Int) = (w : Nat)) (by omega)]
        walk_at "go"
        exact k
def sp__law_cell (K : PySem.W.Frag) : Sp := fun vs H Q _ => ∃ (a : Addr) (ns : List Int) (j : Int), vs = [.ref a, .int j] ∧ SqL K H a (ns.map V.int) ∧ 0 ≤ j ∧ ns.length ≤ 63 ∧ ∀ z : Int, Q (.int z) H
theorem ok__law_cell (T : Tx K mg ad fd tk base tc) : FnOk P w K mg base CX0 1 (ad 11) (fd 11) ["_law_script", "_law_k"] (sp__law_cell K) := by
  refine T.d__law_cell.F.ok sc__law_cell (fun vs H Q E h => ?_) (fun cdv A outer s H vs Q E hr h => ?_)
  · obtain ⟨a, ns, j, rfl, _⟩ := h
    rfl
  · obtain ⟨a, ns, j, rfl, hs, hj, hl, k⟩ := h
    refine ⟨_, (pss_cons (ps_if (pt_cmpR (o_eq hr.units) (pe_callB (c_len (K := K)) (by rfl) T.b_len (by decide +kernel) (pa_cons (pv 0) pa_nil)) pe_int (nomark _)) (pss_one (ps_ret pe_int)) pss_nil)
      (pss_one (ps_ret (pe_ix (i_ix (K := K)) (pv 0) (pe_op o_mod (pv 1) (pe_callB (c_len (K := K)) (by rfl) T.b_len (by decide +kernel) (pa_cons (pv 0) pa_nil))) (fun _ _ => rfl))))), ?_⟩
    walk_at "go"
    refine st_lenK hs ?_
    walk_at "go"
    rw [List.length_map]
    refine st_br2 (fun c => ?_) (fun c => ?_)
    · walk_at "go"
      exact k 0
    · walk_at "go"
      refine st_lenK hs ?_
      rw [List.length_map]
      walk_at "go"
      have m0 := Int.emod_nonneg j (b := ((ns.length : Nat) : Int)) (by omega)
      have m1 := Int.emod_lt_of_pos j (b := ((ns.length : Nat) : Int)) (by omega)
      obtain ⟨v, h2, h3⟩ := at_in (xs := ns.map V.int) m0 (by rw [List.length_map]; exact m1)
      rw [List.getElem?_map] at h3
      cases q : ns[(j % ((ns.length : Nat) : Int)).toNat]? with
      | none => rw [q] at h3; cases h3
      | some z =>
        rw [q] at h3
        cases h3
        exact st_ixK hs h2 (k z)
/-- each number below its base -/
def Digs (bs ns : List Int) : Prop := ns.length = bs.length ∧ ∀ (i : Nat) (n : Int), ns[i]? = some n → ∃ b : Int, bs[i]? = some b ∧ 0 ≤ n ∧ n < b
def sp__law_numbers : Sp := fun vs H Q _ => ∃ (c : Int) (p : Addr) (bs : List Int) (pr : Int), vs = [.int c, .ref p, .int pr] ∧ H p = some (.lst (bs.map V.int)) ∧ (∀ b ∈ bs, 0 < b ∧ b < 1267650600228229401496703205376) ∧ bs.length ≤ 1000 ∧ (0 < pr ∧ pr < 4294967296) ∧ ∀ q H' (ns : List Int), Ex H H' → H q = none → H' q = some (.lst (ns.map V.int)) → Digs bs ns → Q (.ref q) H'
theorem ok__law_numbers (T : Tx K mg ad fd tk base tc) : FnOk P w K mg base CX0 1 (ad 12) (fd 12) ["_law_cell_here", "_law_bases", "_law_prime"] sp__law_numbers := by
  refine T.d__law_numbers.F.ok sc__law_numbers (fun vs H Q E h => ?_) (fun cdv A outer s H vs Q E hr h => ?_)
  · obtain ⟨c, p, bs, pr, rfl, _⟩ := h
    rfl
  · obtain ⟨c, p, bs, pr, rfl, hp, hb, hl, hpr, k⟩ := h
    refine ⟨_, (pss_cons (ps_set (i := 3) sc__law_numbers.nd rfl (Or.inl rfl) (pe_cmpR o_ge (pv 0) (pe_op o_pow pe_int pe_int) (nomark _)))
      (pss_cons (ps_set (i := 4) sc__law_numbers.nd rfl (Or.inl rfl) (pe_op o_add (pe_op o_mod (pe_op o_mul (pe_op o_mod (pv 0) (pv 2)) pe_int) (pv 2)) pe_int))
      (pss_cons (ps_set (i := 5) sc__law_numbers.nd rfl (Or.inl rfl) (pe_lst pa_nil))
      (pss_cons (ps_for PassesOwn.never rfl (pi_list (pv 1)) (pg_name (i := 6) sc__law_numbers.nd rfl (Or.inl rfl)) (pss_cons (ps_set (i := 4) sc__law_numbers.nd rfl (Or.inl rfl) (pe_op o_mod (pe_op o_add (pe_op o_mul (pv 4) pe_int) pe_int) (pv 2)))
      (pss_one (ps_if (pt_tru (pv 3) (by intro _; rfl) (K := K)) (pss_cons (ps_expr (pe_bm PySem.F.plainAttrs_list PySem.F.slot_list_append PySem.F.type_list_append mt_append (pv 5) (pa_cons (pe_op o_mod (pv 0) (pv 6)) pa_nil)))
      (pss_one (ps_set (i := 0) sc__law_numbers.nd rfl (Or.inl rfl) (pe_op o_divW (pv 0) (pv 6))))) (pss_one (ps_expr (pe_bm PySem.F.plainAttrs_list PySem.F.slot_list_append PySem.F.type_list_append mt_append (pv 5) (pa_cons (pe_op o_mod (pe_op o_mod (pe_op o_mul (pv 4) (pe_op o_add (pe_op o_divW (pv 4) pe_int) pe_int)) pe_int) (pv 6)) pa_nil))))))))
      (pss_one (ps_ret (pv 5))))))), ?_⟩
    obtain ⟨hpr0, hpr1⟩ := hpr
    have m0 := Int.emod_nonneg c (b := pr) (by omega)
    have m1 := Int.emod_lt_of_pos c (b := pr) hpr0
    walk_at "go"
    generalize c % pr = z0 at m0 m1 ⊢
    have m2 := Int.emod_nonneg (z0 * 48271) (b := pr) (by omega)
    have m3 := Int.emod_lt_of_pos (z0 * 48271) (b := pr) hpr0
    walk_at "go"
    generalize z0 * 48271 % pr = z1 at m2 m3 ⊢
    rename_i q H1 n1 e1 v1
    have hp1 := e1.get hp
    have hqp : q ≠ p := fun z => by rw [z, hp] at n1; cases n1
    refine for_runs (runs_list K p _) (fun i σ H' => (FrP q H1 H' ∧ ∃ ns : List Int, H' q = some (.lst (ns.map V.int)) ∧ ns.length = i ∧ ∀ (j : Nat) (n : Int), ns[j]? = some n → ∃ b : Int, bs[j]? = some b ∧ 0 ≤ n ∧ n < b) ∧ ∃ (c' : Int) (num : Int) (y : Option V), (0 ≤ num ∧ num < 8589934592) ∧ σ = [some (.int c'), some (.ref p), some (.int pr), some (.bl (decide (1000000000000000000 ≤ c))), some (.int num), some (.ref q), y]) ⟨⟨Fr.refl _, [], v1, rfl, fun j n h => by simp at h⟩, c, _, _, by omega, rfl⟩ (fun i σ H' _ h => lst_of (h.1.1.get (fun z => hqp z.symm) hp1)) ?_ ?_
    · rintro i x σ H0 H3 hi ⟨⟨f3, ns, h1, h2, h3⟩, c', num, y, hnum, rfl⟩ ⟨rfl, hv⟩
      rw [List.length_map] at hi
      obtain ⟨b, hbi⟩ : ∃ b, bs[i]? = some b := ⟨bs[i]'(by omega), List.getElem?_eq_getElem _⟩
      rw [List.getElem?_map, hbi] at hv
      cases hv
      have hb' := hb b (List.mem_of_getElem? hbi)
      have fin : ∀ n : Int, 0 ≤ n → n < b → ∀ (j : Nat) (m : Int), (ns ++ [n])[j]? = some m → ∃ b : Int, bs[j]? = some b ∧ 0 ≤ m ∧ m < b := fun n n0 n1 j m h => by
        by_cases hj : j < ns.length
        · rw [List.getElem?_append_left hj] at h
          exact h3 j m h
        · rw [List.getElem?_append_right (by omega)] at h
          have : j - ns.length = 0 := by
            have := (List.getElem?_eq_some_iff.mp h).1
            rw [List.length_singleton] at this
            omega
          rw [this] at h
          cases h
          refine ⟨b, ?_, n0, n1⟩
          rw [show j = i by omega]
          exact hbi
      have g0 := Int.emod_nonneg (num * 69621 + 4099) (b := pr) (by omega)
      have g1 := Int.emod_lt_of_pos (num * 69621 + 4099) (b := pr) hpr0
      walk_at "go"
      generalize (num * 69621 + 4099) % pr = num' at g0 g1 ⊢
      refine st_br2 (fun c1 => ?_) (fun c1 => ?_)
      · walk_at "go"
        refine st_app h1 (by rw [List.length_map]; omega) ?_
        walk_at "go"
        exact ⟨⟨f3.trans FrP.at, ns ++ [c' % b], by rw [upd_same, List.map_append]; rfl, by rw [List.length_append, h2]; rfl, fin _ (Int.emod_nonneg _ (by omega)) (Int.emod_lt_of_pos _ (by omega))⟩, _, _, _, by omega, rfl⟩
      · walk_at "go"
        have q0 : 0 ≤ num' / 977 + 3 := by omega
        generalize num' / 977 + 3 = w at q0 ⊢
        walk_at "go"
        refine st_app h1 (by rw [List.length_map]; omega) ?_
        exact ⟨⟨f3.trans FrP.at, ns ++ [num' * w % 2147483629 % b], by rw [upd_same, List.map_append]; rfl, by rw [List.length_append, h2]; rfl, fin _ (Int.emod_nonneg _ (by omega)) (Int.emod_lt_of_pos _ (by omega))⟩, _, _, _, by omega, rfl⟩
    · rintro σ H3 ⟨⟨f3, ns, h1, h2, h3⟩, c', num, y, hnum, rfl⟩
      rw [List.length_map] at h2
      walk_at "go"
      exact k q H3 ns (Ex.comp (M := fun b => b = q) e1 f3 fun b hb => by rw [hb]; exact n1) n1 h1 ⟨h2, h3⟩
theorem erase_nV (l : List Nat) (j : Nat) : (l.map nV).eraseIdx j = (l.eraseIdx j).map nV := by
  rw [List.eraseIdx_eq_take_drop_succ, List.eraseIdx_eq_take_drop_succ, List.map_append, List.map_take, List.map_drop]
theorem erase_perm {l : List Nat} {j : Nat} (h : j < l.length) : (l[j] :: l.eraseIdx j).Perm l := by
  have e : l = l.take j ++ l[j] :: l.drop (j + 1) := by
    conv => lhs; rw [← List.take_append_drop j l, List.drop_eq_getElem_cons h]
  rw [List.eraseIdx_eq_take_drop_succ]
  conv => rhs; rw [e]
  exact List.perm_middle.symm
theorem down_at {n i : Nat} {b : Int} (h : ((List.range n).map fun k : Nat => ((n : Nat) : Int) - (k : Nat))[i]? = some b) : b = (n : Int) - i ∧ i < n := by
  rw [List.getElem?_map] at h
  by_cases q : i < n
  · rw [List.getElem?_range q] at h
    exact ⟨(Option.some.inj h).symm, q⟩
  · rw [List.getElem?_eq_none (by rw [List.length_range]; omega)] at h
    cases h
def sp__law_turning : Sp := fun vs H Q _ => ∃ (c : Int) (n : Nat) (pr : Int), vs = [.int c, .int (n : Nat), .int pr] ∧ n ≤ 96 ∧ (0 < pr ∧ pr < 4294967296) ∧ ∀ (l : List Nat) q H', Ex H H' → H q = none → H' q = some (.lst (l.map nV)) → IsT l → l.length = n → Q (.ref q) H'
theorem ok__law_turning (T : Tx K mg ad fd tk base tc) : FnOk P w K mg base CX0 2 (ad 13) (fd 13) ["_law_cell_here", "_law_many", "_law_prime"] sp__law_turning := by
  refine T.d__law_turning.F.ok sc__law_turning (fun vs H Q E h => ?_) (fun cdv A outer s H vs Q E hr h => ?_)
  · obtain ⟨c, n, pr, rfl, _⟩ := h
    rfl
  · obtain ⟨c, n, pr, rfl, hn, hpr, k⟩ := h
    refine ⟨_, (pss_cons (ps_set (i := 3) sc__law_turning.nd rfl (Or.inl rfl) (pe_listRgC rfl (by rfl) T.b_list (prgC (by rfl) T.b_range (pa_cons (pv 1) pa_nil))))
      (pss_cons (ps_set (i := 4) sc__law_turning.nd rfl (Or.inl rfl) (pe_lst pa_nil))
      (pss_cons (ps_for PassesOwn.never rfl (pi_list (pe_call (ok__law_numbers T) (hr.mono (by decide)) rfl T.d__law_numbers.g T.d__law_numbers.F.kp T.d__law_numbers.b .nil pass0 (pa_cons (pv 0) (pa_cons (pe_lc (own := [("_law_k", 6)]) (g := gName 6) rfl sc__law_turning.nd (pi_range1 rfl T.b_range (pa_cons (pv 1) pa_nil)) (blkOk_by (own := [("_law_k", 6)]) (N := N__law_turning) (sc := defScope s__law_turning) (by decide +kernel)) (fun _ _ _ _ _ => pg_name (i := 6) sc__law_turning.nd rfl (Or.inl rfl)) (fun _ _ _ _ _ => pts_nil) (fun _ _ _ _ _ => (pe_op o_sub (pv 1) (pv 6)))) (pa_cons (pv 2) pa_nil))))) (pg_name (i := 5) sc__law_turning.nd rfl (Or.inl rfl)) (pss_one (ps_expr (pe_bm PySem.F.plainAttrs_list PySem.F.slot_list_append PySem.F.type_list_append mt_append (pv 4) (pa_cons (pe_bm PySem.F.plainAttrs_list PySem.F.slot_list_pop PySem.F.type_list_pop mt_popAt (pv 3) (pa_cons (pv 5) pa_nil)) pa_nil)))))
      (pss_one (ps_ret (pv 4)))))), ?_⟩
    walk_at "go"
    rename_i L H1 n1 e1 v1 F H2 n2 e2 v2
    rw [show ((n : Nat) : Int) - 0 = (n : Nat) by omega, Int.toNat_natCast] at v1
    rw [Int.toNat_natCast]
    refine lc_map (rv_range 0 n) (fun _ _ => trivial) (by rw [List.length_range]; omega) (fun k => V.int (((n : Nat) : Int) - (k : Nat))) ?_ ?_
    · intro y H' hy e B h2
      refine ⟨rfl, ?_⟩
      walk_at "go"
      rw [show (0 : Int) + ((y : Nat) : Int) = (y : Nat) by omega]
      exact h2 _ (Fr.refl _)
    intro b H3 n3 e3 v3
    have e13 := e2.trans e3
    have v3' : H3 b = some (.lst (((List.range n).map fun k : Nat => ((n : Nat) : Int) - (k : Nat)).map V.int)) := by
      rw [v3, List.map_map]
      rfl
    walk_at "go"
    refine ⟨c, b, _, pr, rfl, v3', fun x hx => ?_, ?_, hpr, fun d H4 ns e4 n4 v4 hd => ?_⟩
    · obtain ⟨i, hi⟩ := List.getElem?_of_mem hx
      obtain ⟨h1, h2⟩ := down_at hi
      omega
    · rw [List.length_map, List.length_range]; omega
    have hnl : ns.length = n := by rw [hd.1, List.length_map, List.length_range]
    have v1' : H1 L = some (.lst ((List.range n).map nV)) := by
      rw [v1, rgL_up, List.map_map]
      rfl
    have vL := (e13.trans e4).get v1'
    have vF := (e3.trans e4).get v2
    have FL : F ≠ L := fun z => by rw [z, v1] at n2; cases n2
    have n0L : H L = none := n1
    have n0F : H F = none := Ex.free e1 n2
    have e04 := e1.trans (e13.trans e4)
    have dL : L ≠ d := fun z => by rw [← z, e13.get v1'] at n4; cases n4
    have dF : F ≠ d := fun z => by rw [← z, e3.get v2] at n4; cases n4
    let M : Addr → Prop := fun b => b = L ∨ b = F
    have ex : ∀ {H'}, Fr M H4 H' → Ex H H' := fun f => Ex.comp (M := M) e04 f fun b hb => by
      rcases hb with h | h
      · rw [h]; exact n0L
      · rw [h]; exact n0F
    walk_at "go"
    refine for_runs (runs_list K d _) (fun i σ H' => (Fr M H4 H' ∧ ∃ ls fs : List Nat, H' L = some (.lst (ls.map nV)) ∧ H' F = some (.lst (fs.map nV)) ∧ (fs ++ ls).Perm (List.range n) ∧ fs.length = i) ∧ ∃ y, σ = [some (.int c), some (.int (n : Nat)), some (.int pr), some (.ref L), some (.ref F), y, none]) ⟨⟨Fr.refl _, _, [], vL, vF, .refl _, rfl⟩, _, rfl⟩ (fun i σ H' _ h => lst_of (h.1.1.get (fun z => by rcases z with z | z; exact dL z.symm; exact dF z.symm) v4)) ?_ ?_
    · rintro i x σ H0 H5 hi ⟨⟨f5, ls, fs, h1, h2, h3, h4⟩, y, rfl⟩ ⟨rfl, hx⟩
      rw [List.length_map, hnl] at hi
      obtain ⟨m, hm⟩ : ∃ m, ns[i]? = some m := ⟨ns[i]'(by omega), List.getElem?_eq_getElem _⟩
      rw [List.getElem?_map, hm] at hx
      have hxm : x = .int m := (Option.some.inj hx).symm
      subst hxm
      obtain ⟨b', hb1, hb2, hb3⟩ := hd.2 i m hm
      obtain ⟨rfl, _⟩ := down_at hb1
      have hll : ls.length = n - i := by
        have := h3.length_eq
        rw [List.length_append, List.length_range] at this
        omega
      have hj : m.toNat < ls.length := by omega
      walk_at "go"
      refine st_popAt h1 hb2 (by omega) (y := nV (ls[m.toNat]'hj)) (by rw [List.getElem?_map, List.getElem?_eq_getElem hj]; rfl) ?_
      have h2' : upd H5 L (.lst ((ls.map nV).eraseIdx m.toNat)) F = some (.lst (fs.map nV)) := by rw [upd_ne FL]; exact h2
      have h1' : upd H5 L (.lst ((ls.map nV).eraseIdx m.toNat)) L = some (.lst ((ls.eraseIdx m.toNat).map nV)) := by rw [upd_same, erase_nV]
      have f6 : Fr M H4 (upd H5 L (.lst ((ls.map nV).eraseIdx m.toNat))) := f5.trans (Fr.at (.inl rfl))
      generalize upd H5 L (.lst ((ls.map nV).eraseIdx m.toNat)) = H6 at h1' h2' f6 ⊢
      walk_at "go"
      refine st_app h2' (by rw [List.length_map]; omega) ?_
      refine ⟨⟨f6.trans (Fr.at (.inr rfl)), ls.eraseIdx m.toNat, fs ++ [ls[m.toNat]'hj], by rw [upd_ne FL.symm]; exact h1', by rw [upd_same, List.map_append]; rfl, ?_, by rw [List.length_append, h4]; rfl⟩, _, rfl⟩
      rw [List.append_assoc]
      exact ((erase_perm hj).append_left fs).trans h3
    · rintro σ H5 ⟨⟨f5, ls, fs, h1, h2, h3, h4⟩, y, rfl⟩
      rw [List.length_map, hnl] at h4
      have hll : ls = [] := by
        have := h3.length_eq
        rw [List.length_append, List.length_range] at this
        exact List.length_eq_zero_iff.mp (by omega)
      rw [hll, List.append_nil] at h3
      walk_at "go"
      exact k fs F H5 (ex f5) n0F h2 (IsT.of_perm_range h3) h4
def sp__law_size : Sp := fun vs H Q _ => ∃ (c : Int), vs = [.int c] ∧ ∀ n : Nat, n ≤ 60 → Q (.int (n : Nat)) H
theorem ok__law_size (T : Tx K mg ad fd tk base tc) : FnOk P w K mg base CX0 1 (ad 14) (fd 14) ["_law_cell_here"] sp__law_size := by
  refine T.d__law_size.F.ok sc__law_size (fun vs H Q E h => ?_) (fun cdv A outer s H vs Q E hr h => ?_)
  · obtain ⟨c, rfl, _⟩ := h
    rfl
  · obtain ⟨c, rfl, k⟩ := h
    refine ⟨_, (pss_cons (ps_if (pt_cmpR (o_eq hr.units) (pe_op o_mod (pv 0) pe_int) pe_int (nomark _)) (pss_one (ps_ret (pe_op o_mod (pe_op o_div (pv 0) pe_int) pe_int))) pss_nil)
      (pss_one (ps_ret (pe_op o_mod (pe_op o_add (pe_op o_div (pv 0) pe_int) pe_int) pe_int)))), ?_⟩
    have kk : ∀ z : Int, 0 ≤ z → z ≤ 60 → Q (.int z) H := fun z z0 z1 => by
      have := k z.toNat (by omega)
      rwa [show ((z.toNat : Nat) : Int) = z by omega] at this
    walk_at "go"
    refine st_br2 (fun c1 => ?_) (fun c1 => ?_)
    · walk_at "go"
      exact kk _ (by omega) (by omega)
    · walk_at "go"
      exact kk _ (by omega) (by omega)
/-- a row of lengths, from the first place on -/
def knoRow (l : List Nat) (m b : Nat) : List Int := (List.range (l.length - m + 1)).map fun e => winV l m 0 m b e
theorem knoRow_len (l : List Nat) (m b : Nat) : (knoRow l m b).length = l.length - m + 1 := by rw [knoRow, List.length_map, List.length_range]
theorem knoRow_at {l : List Nat} {m b e : Nat} (h : e ≤ l.length - m) : (knoRow l m b)[e]? = some (winV l m 0 m b e) := by
  rw [knoRow, List.getElem?_map, List.getElem?_range (by omega)]
  rfl
structure Kno (H : Hp) (p : Addr) (rs : List Addr) (l : List Nat) (m : Nat) : Prop where
  at_ : H p = some (.lst (rs.map V.ref))
  rows : ObjsAt H rs ((List.range (l.length - m + 1)).map fun b => HO.lst ((knoRow l m b).map V.int))
theorem Kno.ex {H H' : Hp} {p : Addr} {rs : List Addr} {l : List Nat} {m : Nat} (T : Kno H p rs l m) (e : Ex H H') : Kno H' p rs l m := ⟨e.get T.at_, T.rows.ex e⟩
theorem Kno.len {H : Hp} {p : Addr} {rs : List Addr} {l : List Nat} {m : Nat} (T : Kno H p rs l m) : rs.length = l.length - m + 1 := by rw [T.rows.len, List.length_map, List.length_range]
theorem Kno.row {H : Hp} {p : Addr} {rs : List Addr} {l : List Nat} {m b : Nat} (T : Kno H p rs l m) (h : b ≤ l.length - m) : ∃ r, rs[b]? = some r ∧ H r = some (.lst ((knoRow l m b).map V.int)) := by
  have hl := T.len
  refine ⟨rs[b]'(by omega), List.getElem?_eq_getElem _, T.rows.at b _ _ (List.getElem?_eq_getElem _) ?_⟩
  rw [List.getElem?_map, List.getElem?_range (by omega)]
  rfl
def cntW (l : List Nat) (m b : Nat) : List Nat := (List.range (l.length - m + 1)).map fun e => cntT l (m + b) e
theorem cntW_len (l : List Nat) (m b : Nat) : (cntW l m b).length = l.length - m + 1 := by rw [cntW, List.length_map, List.length_range]
theorem cntW_at {l : List Nat} {m b e : Nat} (h : e ≤ l.length - m) : gT (cntW l m b) e = cntT l (m + b) e := gT_map (by omega)
theorem cntW_end {l : List Nat} {m b : Nat} (h : l.length ≤ m + b) : cntW l m b = List.replicate (l.length - m + 1) 0 := by
  refine List.ext_getElem (by simp [cntW]) fun i h1 h2 => ?_
  simp [cntW, cntT_end h]
def sp__law_lengths : Sp := fun vs H Q _ => ∃ (a : Addr) (l : List Nat) (m : Nat), vs = [.ref a, .int (m : Nat)] ∧ H a = some (.lst (l.map nV)) ∧ m ≤ l.length ∧ l.length ≤ 96 ∧ ∀ D rs H', Ex H H' → H D = none → (∀ r ∈ rs, H r = none) → Kno H' D rs l m → Q (.ref D) H'
theorem ok__law_lengths (T : Tx K mg ad fd tk base tc) : FnOk P w K mg base CX0 1 (ad 15) (fd 15) ["_law_turning_here", "_law_tall"] sp__law_lengths := by
  refine T.d__law_lengths.F.ok sc__law_lengths (fun vs H Q E h => ?_) (fun cdv A outer s H vs Q E hr h => ?_)
  · obtain ⟨a, l, m, rfl, _⟩ := h
    rfl
  · obtain ⟨a, l, m, rfl, ha, hm, hl2, k⟩ := h
    refine ⟨_, (pss_cons (ps_set (i := 2) sc__law_lengths.nd rfl (Or.inl rfl) (pe_op o_sub (pe_callB (c_len (K := K)) (by rfl) T.b_len (by decide +kernel) (pa_cons (pv 0) pa_nil)) (pv 1)))
      (pss_cons (ps_set (i := 3) sc__law_lengths.nd rfl (Or.inl rfl) (pe_op o_mul (pe_lst (pa_cons pe_int pa_nil)) (pe_op o_add (pv 2) pe_int)))
      (pss_cons (ps_set (i := 4) sc__law_lengths.nd rfl (Or.inl rfl) (pe_lst pa_nil))
      (pss_cons (ps_for PassesOwn.never rfl (pi_range3 rfl T.b_range (pa_cons (pv 2) (pa_cons (pe_un un_neg pe_int) (pa_cons (pe_un un_neg pe_int) pa_nil)))) (pg_name (i := 5) sc__law_lengths.nd rfl (Or.inr rfl)) (pss_cut (ps_if (pt_cmpR o_lt (pv 5) (pv 2) (nomark _)) (pss_cons (ps_set (i := 6) sc__law_lengths.nd rfl (Or.inr rfl) (pe_ix (i_ix (K := K)) (pv 0) (pe_op o_add (pv 1) (pv 5)) (fun _ _ => rfl)))
      (pss_one (ps_setLc (i := 3) (own := [("_law_end", 7), ("_law_many", 8)]) (g := gTup K 2 (gCons (gName 7) (gCons (gName 8) gNil))) rfl sc__law_lengths.nd rfl rfl (sw_true rfl rfl rfl (by decide +kernel)) (pi_enum rfl T.b_enumerate (pa_cons (pv 3) pa_nil)) (blkOk_by (own := [("_law_end", 7), ("_law_many", 8)]) (N := N__law_lengths) (sc := defScope s__law_lengths) (by decide +kernel)) (fun _ _ _ _ _ => (pg_tup rfl (pgs_cons (pg_name (i := 7) sc__law_lengths.nd rfl (Or.inl rfl)) (pgs_cons (pg_name (i := 8) sc__law_lengths.nd rfl (Or.inl rfl)) pgs_nil)))) (fun _ _ _ _ _ => pts_nil) (fun _ _ _ _ _ => (pe_op o_add (pv 8) (pe_callTy c_int (by rfl) T.b_int (by decide +kernel) (pa_cons (pe_cmpR o_lt (pv 6) (pv 7) (nomark _)) pa_nil))))))) pss_nil)
      (pss_one (ps_expr (pe_bm PySem.F.plainAttrs_list PySem.F.slot_list_append PySem.F.type_list_append mt_append (pv 4) (pa_cons (pe_lc (own := [("_law_end", 7), ("_law_many", 8)]) (g := gTup K 2 (gCons (gName 7) (gCons (gName 8) gNil))) rfl sc__law_lengths.nd (pi_enum rfl T.b_enumerate (pa_cons (pv 3) pa_nil)) (blkOk_by (own := [("_law_end", 7), ("_law_many", 8)]) (N := N__law_lengths) (sc := defScope s__law_lengths) (by decide +kernel)) (fun _ _ _ _ _ => (pg_tup rfl (pgs_cons (pg_name (i := 7) sc__law_lengths.nd rfl (Or.inl rfl)) (pgs_cons (pg_name (i := 8) sc__law_lengths.nd rfl (Or.inl rfl)) pgs_nil)))) (fun _ _ _ _ _ => pts_nil) (fun _ _ _ _ _ => (pe_op o_sub (pe_op o_sub (pv 7) (pv 5)) (pv 8)))) pa_nil))))))
      (pss_one (ps_ret (pe_slice3 (pv 4) po_none po_none (pe_un un_neg pe_int) (K := K)))))))), ?_⟩
    walk_at "go"
    rename_i z0 H1 n1 e1 v1 r0 H2 n2 e2 v2 F H3 n3 e3 v3
    have hwd : ((((l.map nV).length : Nat) : Int) - (m : Nat)) = ((l.length - m : Nat) : Int) := by rw [List.length_map]; omega
    rw [hwd] at v2 ⊢
    obtain ⟨w, hw⟩ : ∃ w, w = l.length - m := ⟨_, rfl⟩
    rw [← hw] at v2 ⊢
    have v2' : H2 r0 = some (.lst ((cntW l m (w + 1)).map nV)) := by
      rw [v2, cntW_end (by omega), ← hw, show (((w : Nat) : Int) + 1).toNat = w + 1 by omega]
      congr 1
      congr 1
      refine List.ext_getElem (by simp) fun i h1 h2 => ?_
      simp [nV]
    have e03 := e1.trans (e2.trans e3)
    have n0F : H F = none := Ex.free (e1.trans e2) n3
    refine st_isR3 (w + 1) (rgc_down (by omega) (by omega)) ?_
    refine for_runs (runs_rangeC _ _ _) (fun t σ H' => (FrP F H3 H' ∧ ∃ rs : List Addr, H' F = some (.lst (rs.map V.ref)) ∧ ObjsAt H' rs ((List.range t).map fun i => HO.lst ((knoRow l m (w - i)).map V.int)) ∧ F ∉ rs ∧ (∀ r ∈ rs, H r = none)) ∧ ∃ q y5 y6, q ≠ F ∧ H' q = some (.lst ((cntW l m (w + 1 - t)).map nV)) ∧ σ = [some (.ref a), some (.int (m : Nat)), some (.int (w : Nat)), some (.ref q), some (.ref F), y5, y6, none, none]) ⟨⟨Fr.refl _, [], v3, .nil, by simp, by simp⟩, r0, _, _, fun z => (by rw [z] at v2; rw [v2] at n3; cases n3), e3.get v2', rfl⟩ (fun _ _ _ _ _ => trivial) ?_ ?_
    · rintro t x σ H0 H4 ht ⟨⟨f4, rs, h1, h2, h3, h4⟩, q, y5, y6, hqF, hq, rfl⟩ ⟨rfl, rfl⟩
      rw [show ((w : Nat) : Int) + ((t : Nat) : Int) * -1 = ((w - t : Nat) : Int) by omega]
      have e04 : Ex H H4 := Ex.comp (M := fun b => b = F) e03 f4 fun b hb => by rw [hb]; exact n0F
      have ha4 := e04.get ha
      obtain ⟨b, hb⟩ : ∃ b, b = w - t := ⟨_, rfl⟩
      rw [show w + 1 - t = b + 1 by omega] at hq
      rw [← hb]
      walk_at "go"
      refine ⟨fun σ' H' => Ex H4 H' ∧ ∃ q' y6', q' ≠ F ∧ H' q' = some (.lst ((cntW l m b).map nV)) ∧ σ' = [some (.ref a), some (.int (m : Nat)), some (.int (w : Nat)), some (.ref q'), some (.ref F), some (.int (b : Nat)), y6', none, none], ?_, ?_⟩
      · walk_at "go"
        refine st_br2 (fun c => ?_) (fun c => ?_)
        · walk_at "go"
          have hil : m + b < l.length := by omega
          rw [show ((m : Nat) : Int) + (b : Nat) = ((m + b : Nat) : Int) by omega]
          refine st_ixL ha4 (at_nV (l := l) (i := m + b) hil) ?_
          walk_at "go"
          refine lc_turns (runs_enum K q _) (fun i x H H' h => by obtain ⟨_, _, _, _, h, _⟩ := h; exact h) (fun H' e => lst_of (e.get hq)) (by rw [List.length_map, cntW_len]; omega) (fun j => nV (cntT l (m + b) j)) ?_ ?_ gTup_mono
          · rintro j x H6 H7 hj e6 ⟨Tt, v, rfl, nT, eT, vT, hv⟩ B h2'
            rw [List.length_map, cntW_len] at hj
            obtain ⟨_, rfl⟩ := nV_at hv
            rw [cntW_at (by omega)] at vT
            walk_at "go"
            refine ⟨rfl, ?_⟩
            unfold nV at vT ⊢
            walk_at "go"
            have hh := h2' _ (Fr.refl _)
            unfold nV at hh
            rw [cntT_at hil, Int.natCast_add, Nat.add_assoc] at hh
            by_cases c2 : gT l (m + b) < j
            · rw [if_pos c2] at hh
              rw [if_pos (decide_eq_true (by omega))]
              exact hh
            · rw [if_neg c2] at hh
              rw [if_neg (by rw [decide_eq_false (by omega)]; decide)]
              exact hh
          intro r H6 nr e6 v6
          rw [List.length_map, cntW_len] at v6
          exact ⟨e6, r, _, fun z => (by rw [z, h1] at nr; cases nr), by rw [v6, cntW, List.map_map]; rfl, rfl⟩
        · have hbw : cntW l m (b + 1) = cntW l m b := by rw [cntW_end (by omega), cntW_end (by omega)]
          rw [hbw] at hq
          walk_at "go"
          exact ⟨Fr.refl _, q, _, hqF, hq, rfl⟩
      rintro σ' H5 ⟨e5, q', y6', hqF', hq', rfl⟩
      walk_at "go"
      refine lc_turns (runs_enum K q' _) (fun i x H H' h => by obtain ⟨_, _, _, _, h, _⟩ := h; exact h) (fun H' e => lst_of (e.get hq')) (by rw [List.length_map, cntW_len]; omega) (fun j => V.int (winV l m 0 m b j)) ?_ ?_ gTup_mono
      · rintro j x H6 H7 hj e6 ⟨Tt, v, rfl, nT, eT, vT, hv⟩ B h2'
        rw [List.length_map, cntW_len] at hj
        obtain ⟨_, rfl⟩ := nV_at hv
        rw [cntW_at (by omega)] at vT
        walk_at "go"
        refine ⟨rfl, ?_⟩
        unfold nV at vT ⊢
        walk_at "go"
        have hh := h2' _ (Fr.refl _)
        unfold winV at hh
        rw [Nat.sub_zero, Nat.sub_self, Nat.zero_add] at hh
        exact hh
      intro r H6 nr e6 v6
      rw [List.length_map, cntW_len] at v6
      have h15 := e5.get h1
      have hrF : r ≠ F := fun z => by rw [z, h15] at nr; cases nr
      have e46 := e5.trans e6
      walk_at "go"
      refine st_app (e6.get h15) (by rw [List.length_map]; have := h2.len; rw [List.length_map, List.length_range] at this; omega) ?_
      refine ⟨⟨(f4.trans (Fr.ex e46)).trans FrP.at, rs ++ [r], by rw [upd_same, List.map_append]; rfl, ?_, ?_, ?_⟩, q', _, _, hqF', ?_, rfl⟩
      · rw [List.range_succ, List.map_append]
        refine ObjsAt.app ((h2.ex e46).up h3) (.one ?_)
        rw [upd_ne hrF, v6]
        show _ = some (HO.lst ((knoRow l m (w - t)).map V.int))
        rw [← hb, knoRow, List.map_map]
        rfl
      · intro hm'
        rcases List.mem_append.mp hm' with h | h
        · exact h3 h
        · exact hrF (List.mem_singleton.mp h).symm
      · intro z hz
        rcases List.mem_append.mp hz with h | h
        · exact h4 z h
        · rw [List.mem_singleton.mp h]; exact Ex.free (e04.trans e5) nr
      · rw [upd_ne hqF', show w + 1 - (t + 1) = b by omega]
        exact e6.get hq'
    · rintro σ H4 ⟨⟨f4, rs, h1, h2, h3, h4⟩, q, y5, y6, hqF, hq, rfl⟩
      have e04 : Ex H H4 := Ex.comp (M := fun b => b = F) e03 f4 fun b hb => by rw [hb]; exact n0F
      walk_at "go"
      refine st_revL (lstAt_sq (lst_of h1)) ?_
      intro D H6 n6 e6 v6
      walk_at "go"
      rw [← List.map_reverse] at v6
      have hlen := h2.len
      rw [List.length_map, List.length_range] at hlen
      refine k D rs.reverse H6 (e04.trans e6) (Ex.free e04 n6) (fun r hr => h4 r (List.mem_reverse.mp hr)) ⟨v6, ?_⟩
      refine ObjsAt.of (by simp [hlen, hw]) fun i x o hx ho => ?_
      have hir := (List.getElem?_eq_some_iff.mp hx).1
      rw [List.length_reverse] at hir
      rw [List.getElem?_reverse hir] at hx
      refine (h2.ex e6).at _ x o hx ?_
      rw [List.getElem?_map, List.getElem?_range (by omega)] at ho
      rw [List.getElem?_map, List.getElem?_range (by omega), ← ho, hlen]
      show some (HO.lst ((knoRow l m (w - (w + 1 - 1 - i))).map V.int)) = some (HO.lst ((knoRow l m i).map V.int))
      rw [show w - (w + 1 - 1 - i) = i by omega]
def gainL (l : List Nat) (m b : Nat) : List Nat := ((List.range (l.length - m - b)).filter fun i => decide (gT (invT l) (b + i) < m + b)).map fun i => b + i
theorem win_next {l : List Nat} (h : IsT l) {m b e : Nat} (hbe : b ≤ e) (he : e < l.length - m) : winV l m 0 m b (e + 1) = winV l m 0 m b e + (if gT (invT l) e < m + b then 1 else 0) := by
  unfold winV
  rw [Nat.sub_zero, Nat.sub_self, Nat.zero_add, Nat.zero_add]
  have h1 : cntT l (m + b) (e + 1) = cntT l (m + b) e + (if m + b ≤ l.idxOf e then 1 else 0) := by
    unfold cntT
    rw [countP_lt_succ, count_drop h (by omega)]
  rw [h1, invT_g (by omega)]
  by_cases q : m + b ≤ l.idxOf e
  · rw [if_pos q, if_neg (by omega)]; omega
  · rw [if_neg q, if_pos (by omega)]; omega
def endGo (l : List Nat) (m : Nat) (c : Int) (b : Nat) : Nat → Nat → Nat
  | 0, e => e
  | f + 1, e => if c ≤ winV l m 0 m b e then e else endGo l m c b f (e + 1)
/-- the least end of a begin with enough, or one behind the last -/
def endT (l : List Nat) (m : Nat) (c : Int) (b : Nat) : Nat := endGo l m c b (l.length - m + 1 - b) b
structure EndAt (l : List Nat) (m : Nat) (c : Int) (b e : Nat) : Prop where
  lo : b ≤ e
  hi : e ≤ l.length - m + 1
  no : ∀ d, b ≤ d → d < e → ¬ c ≤ winV l m 0 m b d
  yes : e ≤ l.length - m → c ≤ winV l m 0 m b e
theorem EndAt.uniq {l : List Nat} {m : Nat} {c : Int} {b d e : Nat} (h : EndAt l m c b d) (k : EndAt l m c b e) : d = e := by
  rcases Nat.lt_trichotomy d e with q | q | q
  · exact absurd (h.yes (by have := k.hi; omega)) (k.no d h.lo q)
  · exact q
  · exact absurd (k.yes (by have := h.hi; omega)) (h.no e k.lo q)
theorem win_begin {l : List Nat} {m b e : Nat} (h : m + b < l.length) : winV l m 0 m (b + 1) e ≤ winV l m 0 m b e ∧ winV l m 0 m b e ≤ winV l m 0 m (b + 1) e + 1 := by
  unfold winV
  rw [Nat.sub_zero, Nat.sub_self, Nat.zero_add, ← Nat.add_assoc, cntT_at h]
  split <;> omega
theorem endGo_at {l : List Nat} {m : Nat} {c : Int} {b : Nat} : ∀ (f e : Nat), e + f = l.length - m + 1 → b ≤ e → (∀ d, b ≤ d → d < e → ¬ c ≤ winV l m 0 m b d) → EndAt l m c b (endGo l m c b f e)
  | 0, e, h1, h2, h3 => ⟨h2, by unfold endGo; omega, fun d => by unfold endGo; exact h3 d, fun h => by unfold endGo at h; omega⟩
  | f + 1, e, h1, h2, h3 => by
    unfold endGo
    by_cases q : c ≤ winV l m 0 m b e
    · rw [if_pos q]
      exact ⟨h2, by omega, h3, fun _ => q⟩
    · rw [if_neg q]
      refine endGo_at f (e + 1) (by omega) (by omega) fun d h4 h5 => ?_
      by_cases z : d = e
      · rw [z]; exact q
      · exact h3 d h4 (by omega)
theorem endT_at {l : List Nat} {m : Nat} {c : Int} {b : Nat} (h : b ≤ l.length - m + 1) : EndAt l m c b (endT l m c b) := endGo_at _ _ (by omega) (Nat.le_refl _) fun d h1 h2 => by omega
theorem win_anti {l : List Nat} {m b b' e : Nat} (h : b ≤ b') (h2 : b' ≤ l.length - m) : winV l m 0 m b' e ≤ winV l m 0 m b e := by
  obtain ⟨k, rfl⟩ := Nat.exists_eq_add_of_le h
  clear h
  induction k with
  | zero => exact Int.le_refl _
  | succ k ih =>
    have := (win_begin (l := l) (m := m) (b := b + k) (e := e) (by omega)).1
    have := ih (by omega)
    rw [← Nat.add_assoc]
    omega
/-- of one begin: none or one -/
def tgB (l : List Nat) (m : Nat) (c : Int) (b : Nat) : List (Nat × Nat) := if endT l m c b ≤ l.length - m ∧ (b = endT l m c b ∨ winV l m 0 m (b + 1) (endT l m c b) < c) then [(b, endT l m c b)] else []
/-- the tightest, from the first begin on -/
def tgL (l : List Nat) (m : Nat) (c : Int) : List (Nat × Nat) := (List.range (l.length - m + 1)).flatMap (tgB l m c)
theorem tgB_len (l : List Nat) (m : Nat) (c : Int) (b : Nat) : (tgB l m c b).length ≤ 1 := by
  unfold tgB
  split <;> simp
theorem tgP_len (l : List Nat) (m : Nat) (c : Int) (n : Nat) : ((List.range n).flatMap (tgB l m c)).length ≤ n := by
  induction n with
  | zero => simp
  | succ k ih =>
    have := tgB_len l m c k
    rw [List.range_succ, List.flatMap_append, List.length_append]
    simp only [List.flatMap_cons, List.flatMap_nil, List.append_nil]
    omega
theorem tgP_succ (l : List Nat) (m : Nat) (c : Int) (n : Nat) : (List.range (n + 1)).flatMap (tgB l m c) = (List.range n).flatMap (tgB l m c) ++ tgB l m c n := by
  rw [List.range_succ, List.flatMap_append]
  simp
/-- where a begin has no end, no later one has -/
theorem tgL_cut {l : List Nat} {m : Nat} {c : Int} {b : Nat} (hb : b ≤ l.length - m) (h : ∀ d, b ≤ d → d ≤ l.length - m → ¬ c ≤ winV l m 0 m b d) : tgL l m c = (List.range b).flatMap (tgB l m c) := by
  have key : ∀ k, b + k ≤ l.length - m + 1 → (List.range (b + k)).flatMap (tgB l m c) = (List.range b).flatMap (tgB l m c) := by
    intro k
    induction k with
    | zero => intro _; rfl
    | succ k ih =>
      intro hk
      rw [← Nat.add_assoc, tgP_succ, ih (by omega)]
      have e := endT_at (l := l) (m := m) (c := c) (b := b + k) (by omega)
      have : tgB l m c (b + k) = [] := by
        unfold tgB
        rw [if_neg]
        rintro ⟨h1, _⟩
        have h2 := e.yes h1
        have h3 := e.lo
        have h4 := win_anti (l := l) (m := m) (b := b) (b' := b + k) (e := endT l m c (b + k)) (by omega) (by omega)
        exact h _ (by omega) h1 (by omega)
      rw [this, List.append_nil]
  have := key (l.length - m + 1 - b) (by omega)
  rw [show b + (l.length - m + 1 - b) = l.length - m + 1 by omega] at this
  exact this
/-- lists that stand for functions on the first n places -/
theorem fn_at {f : Nat → V} {n p : Nat} (h : p < n) : atI ((List.range n).map f) (p : Nat) = some (f p) := at_mapN (List.getElem?_range h)
theorem fn_set {f : Nat → V} {n p : Nat} {v : V} : ((List.range n).map f).set p v = (List.range n).map fun e => if e = p then v else f e := by
  refine List.ext_getElem? fun i => ?_
  rw [List.getElem?_set, List.getElem?_map, List.getElem?_map, List.length_map, List.length_range]
  by_cases h : i < n
  · rw [List.getElem?_range h]
    by_cases e : p = i
    · subst e
      rw [if_pos rfl, if_pos h]
      simp
    · rw [if_neg e]
      simp [Ne.symm e]
  · rw [List.getElem?_eq_none (by rw [List.length_range]; omega)]
    by_cases e : p = i
    · subst e
      rw [if_pos rfl, if_neg h]
      rfl
    · rw [if_neg e]
      rfl
theorem fn_ix {f : Nat → V} {n p : Nat} (h : p < n) : ixN ((List.range n).map f).length (p : Nat) = some p := Evl.ixN_nat (by rw [List.length_map, List.length_range]; exact h)
theorem fn_congr {f g : Nat → V} {n : Nat} (h : ∀ e, e < n → f e = g e) : (List.range n).map f = (List.range n).map g := List.map_congr_left fun e he => h e (List.mem_range.mp he)
theorem win_up {l : List Nat} (h : IsT l) {m b e e' : Nat} (h1 : b ≤ e) (h2 : e ≤ e') (h3 : e' ≤ l.length - m) : winV l m 0 m b e ≤ winV l m 0 m b e' := by
  obtain ⟨k, rfl⟩ := Nat.exists_eq_add_of_le h2
  clear h2
  induction k with
  | zero => exact Int.le_refl _
  | succ k ih =>
    have := ih (by omega)
    have h4 := win_next h (m := m) (b := b) (e := e + k) (by omega) (by omega)
    rw [← Nat.add_assoc, h4]
    split <;> omega
def tgE (l : List Nat) (m : Nat) (c : Int) (b e : Nat) : List (Nat × Nat) := if endT l m c b < e ∧ (b = endT l m c b ∨ winV l m 0 m (b + 1) (endT l m c b) < c) then [(b, endT l m c b)] else []
theorem tgE_zero {l : List Nat} {m : Nat} {c : Int} {b : Nat} (h : b ≤ l.length - m + 1) : tgE l m c b b = [] := by
  have := (endT_at (c := c) h).lo
  unfold tgE
  rw [if_neg (by omega)]
theorem tgE_full {l : List Nat} {m : Nat} {c : Int} {b : Nat} : tgE l m c b (l.length - m + 1) = tgB l m c b := by
  unfold tgE tgB
  simp only [Nat.lt_succ_iff]
theorem tgE_succ {l : List Nat} (hT : IsT l) {m : Nat} {c : Int} {b e : Nat} (h1 : b ≤ e) (h2 : e ≤ l.length - m) : tgE l m c b (e + 1) = tgE l m c b e ++ (if c ≤ winV l m 0 m b e ∧ (e = b ∨ (¬ c ≤ winV l m 0 m b (e - 1) ∧ ¬ c ≤ winV l m 0 m (b + 1) e)) then [(b, e)] else []) := by
  have E := endT_at (l := l) (m := m) (c := c) (b := b) (by omega)
  have e1 := E.lo
  have e2 := E.no
  have e3 := E.yes
  unfold tgE
  generalize endT l m c b = z at e1 e2 e3 ⊢
  rcases Nat.lt_trichotomy z e with q | q | q
  · have y := e3 (by omega)
    have y2 := win_up hT (m := m) (b := b) (e := z) (e' := e - 1) e1 (by omega) (by omega)
    rw [if_neg (c := c ≤ winV l m 0 m b e ∧ _) (by omega), List.append_nil]
    by_cases w : b = z ∨ winV l m 0 m (b + 1) z < c
    · rw [if_pos ⟨by omega, w⟩, if_pos ⟨q, w⟩]
    · rw [if_neg fun h => w h.2, if_neg fun h => w h.2]
  · subst q
    have y := e3 h2
    rw [if_neg (c := z < z ∧ _) (by omega), List.nil_append]
    by_cases w : b = z ∨ winV l m 0 m (b + 1) z < c
    · rw [if_pos ⟨by omega, w⟩, if_pos]
      refine ⟨y, ?_⟩
      by_cases r : z = b
      · exact .inl r
      · exact .inr ⟨e2 (z - 1) (by omega) (by omega), by omega⟩
    · rw [if_neg fun h => w h.2, if_neg]
      rintro ⟨_, r | r⟩
      · exact w (.inl r.symm)
      · exact w (.inr (by omega))
  · have y := e2 e h1 q
    rw [if_neg (by omega), if_neg (by omega), if_neg (fun h => y h.1)]
    rfl
/-- whether a later or a shorter has enough, up to a place -/
def rowB (l : List Nat) (m : Nat) (c : Int) (b k e : Nat) : V := .bl (decide (b ≤ e ∧ e < k ∧ c ≤ winV l m 0 m b e))
theorem tgF_len (l : List Nat) (m : Nat) (c : Int) : ∀ L : List Nat, (L.flatMap (tgB l m c)).length ≤ L.length
  | [] => Nat.le_refl _
  | x :: L => by
    have := tgF_len l m c L
    have := tgB_len l m c x
    rw [List.flatMap_cons, List.length_append, List.length_cons]
    omega
theorem tgE_len (l : List Nat) (m : Nat) (c : Int) (b e : Nat) : (tgE l m c b e).length ≤ 1 := by
  unfold tgE
  split <;> simp
def sp__law_tightest : Sp := fun vs H Q _ => ∃ (p : Addr) (l : List Nat) (m : Nat) (rs : List Addr) (c : Int), vs = [.ref p, .int c] ∧ Kno H p rs l m ∧ m ≤ l.length ∧ l.length ≤ 96 ∧ IsT l ∧ ∀ F zs H', Ex H H' → H F = none → H' F = some (.lst (zs.map zV)) → TP H' zs → zs.map (·.2) = tgL l m c → Q (.ref F) H'
theorem ok__law_tightest (T : Tx K mg ad fd tk base tc) : FnOk P w K mg base CX0 1 (ad 16) (fd 16) ["_law_known", "_law_length"] sp__law_tightest := by
  refine T.d__law_tightest.F.ok sc__law_tightest (fun vs H Q E h => ?_) (fun cdv A outer s H vs Q E hr h => ?_)
  · obtain ⟨p, l, m, rs, c, rfl, _⟩ := h
    rfl
  · obtain ⟨p, l, m, rs, c, rfl, hK, hm, hl, hT, k⟩ := h
    refine ⟨_, (pss_cons (ps_set (i := 2) sc__law_tightest.nd rfl (Or.inl rfl) (pe_op o_sub (pe_callB (c_len (K := K)) (by rfl) T.b_len (by decide +kernel) (pa_cons (pv 0) pa_nil)) pe_int))
      (pss_cons (ps_set (i := 3) sc__law_tightest.nd rfl (Or.inl rfl) (pe_lst pa_nil))
      (pss_cons (ps_set (i := 4) sc__law_tightest.nd rfl (Or.inl rfl) (pe_op o_mul (pe_lst (pa_cons pe_bl pa_nil)) (pe_op o_add (pv 2) pe_int)))
      (pss_cons (ps_for PassesOwn.never rfl (pi_range3 rfl T.b_range (pa_cons (pv 2) (pa_cons (pe_un un_neg pe_int) (pa_cons (pe_un un_neg pe_int) pa_nil)))) (pg_name (i := 5) sc__law_tightest.nd rfl (Or.inl rfl)) (pss_cons (ps_set (i := 6) sc__law_tightest.nd rfl (Or.inl rfl) (pe_op o_mul (pe_lst (pa_cons pe_bl pa_nil)) (pe_op o_add (pv 2) pe_int)))
      (pss_cons (ps_for PassesOwn.never rfl (pi_range2 rfl T.b_range (pa_cons (pv 5) (pa_cons (pe_op o_add (pv 2) pe_int) pa_nil))) (pg_name (i := 7) sc__law_tightest.nd rfl (Or.inl rfl)) (pss_cons (ps_set (i := 8) sc__law_tightest.nd rfl (Or.inl rfl) (pe_or (pe_ix (i_ix (K := K)) (pv 4) (pv 7) (fun _ _ => rfl)) (pe_one (pe_ix (i_ix (K := K)) (pv 6) (pe_op o_sub (pv 7) pe_int) (fun _ _ => rfl)))))
      (pss_cons (ps_set (i := 9) sc__law_tightest.nd rfl (Or.inl rfl) (pe_cmpR o_ge (pe_ix (i_ix (K := K)) (pe_ix (i_ix (K := K)) (pv 0) (pv 5) (fun _ _ => rfl)) (pv 7) (fun _ _ => rfl)) (pv 1) (nomark _)))
      (pss_cut (ps_if (PW.pt (pw_and (pt_tru (pv 9) (by intro _; rfl) (K := K)) (pw_and1 (pt_not (pt_tru (pv 8) (by intro _; rfl) (K := K)))))) (pss_one (ps_expr (pe_bm PySem.F.plainAttrs_list PySem.F.slot_list_append PySem.F.type_list_append mt_append (pv 3) (pa_cons (pe_tup (pa_cons (pv 5) (pa_cons (pv 7) pa_nil))) pa_nil)))) pss_nil)
      (pss_one (ps_asg (pe_or (pv 9) (pe_one (pv 8))) (pg_sub (pv 6) (pv 7) set_list)))))))
      (pss_one (ps_set (i := 4) sc__law_tightest.nd rfl (Or.inl rfl) (pv 6))))))
      (pss_one (ps_ret (pe_slice3 (pv 3) po_none po_none (pe_un un_neg pe_int) (K := K)))))))), ?_⟩
    have hlen := hK.len
    have hat := hK.at_
    walk_at "go"
    rename_i F H1 n1 e1 v1 z0 Hz nz ez vz q0 H2 n2 e2 v2
    obtain ⟨w, hw⟩ : ∃ w, w = l.length - m := ⟨_, rfl⟩
    have hwd : (((rs.map V.ref).length : Nat) : Int) - 1 = (w : Nat) := by rw [List.length_map, hlen]; omega
    rw [hwd] at v2 ⊢
    have rep : ∀ n : Nat, (List.replicate n [V.bl false]).flatten = (List.range n).map fun _ => V.bl false := fun n => by
      induction n with
      | zero => rfl
      | succ n ih => rw [List.replicate_succ', List.flatten_append, ih, List.range_succ, List.map_append]; rfl
    have v2' : H2 q0 = some (.lst ((List.range (w + 2)).map (rowB l m c (w + 1) (w + 1)))) := by
      rw [v2, show (((w : Nat) : Int) + 2).toNat = w + 2 by omega, rep]
      exact congrArg (fun z => some (HO.lst z)) (fn_congr fun e _ => by unfold rowB; rw [decide_eq_false (by omega)])
    refine st_isR3 (w + 1) (rgc_down (by omega) (by omega)) ?_
    have v12 := (ez.trans e2).get v1
    have e02 : Ex H H2 := e1.trans (ez.trans e2)
    have q0F : q0 ≠ F := fun z => by rw [z, ez.get v1] at n2; cases n2
    have fE : ∀ {G : Hp}, FrP F H2 G → Ex H G := fun f => Ex.comp (M := fun b => b = F) e02 f fun b hb => by rw [hb]; exact n1
    refine for_runs (runs_rangeC _ _ _) (fun t σ H' => ∃ (zs : List ZP) (q : Addr) (y5 y6 y7 y8 y9 : Option V), FrP F H2 H' ∧ H' F = some (.lst (zs.map zV)) ∧ TP H' zs ∧ (zs.map (·.2)).reverse = ((List.range (w + 1)).drop (w + 1 - t)).flatMap (tgB l m c) ∧ q ≠ F ∧ H' q = some (.lst ((List.range (w + 2)).map (rowB l m c (w + 1 - t) (w + 1)))) ∧ σ = [some (.ref p), some (.int c), some (.int (w : Nat)), some (.ref F), some (.ref q), y5, y6, y7, y8, y9]) ⟨[], q0, _, _, _, _, _, Fr.refl _, v12, fun z hz => (by cases hz), by rw [Nat.sub_zero, List.drop_eq_nil_of_le (by simp)]; rfl, q0F, v2', rfl⟩ (fun _ _ _ _ _ => trivial) ?_ ?_
    rotate_left
    · rintro σ H3 ⟨zs, q, y5, y6, y7, y8, y9, f3, v3, t3, hz, _, _, rfl⟩
      walk_at "go"
      refine st_revL (.inl (.inl v3)) fun D H4 n4 e4 v4 => ?_
      walk_at "go"
      refine k D zs.reverse H4 ((fE f3).trans e4) (Ex.free (fE f3) n4) (by rw [v4, List.map_reverse]) (fun z hz => (t3.ex e4) z (List.mem_reverse.mp hz)) ?_
      rw [List.map_reverse, hz, Nat.sub_self, List.drop_zero, hw]
      rfl
    rintro t x σ H0 H3 ht ⟨zs, q, y5, y6, y7, y8, y9, f3, v3, t3, hz, qF, vq, rfl⟩ ⟨rfl, rfl⟩
    obtain ⟨b, hb⟩ : ∃ b, b = w - t := ⟨_, rfl⟩
    rw [show ((w : Nat) : Int) + ((t : Nat) : Int) * -1 = ((b : Nat) : Int) by omega]
    rw [show w + 1 - t = b + 1 by omega] at vq hz
    walk_at "go"
    rename_i z1 H4 n4 e4 v4 r H5 n5 e5 v5
    rw [show (((w : Nat) : Int) + 2).toNat = w + 2 by omega, rep] at v5
    have v5' : H5 r = some (.lst ((List.range (w + 2)).map (rowB l m c b b))) := by
      rw [v5]
      exact congrArg (fun z => some (HO.lst z)) (fn_congr fun e _ => by unfold rowB; rw [decide_eq_false (by omega)])
    have e35 := e4.trans e5
    have rF : r ≠ F := fun z => by rw [z, e4.get v3] at n5; cases n5
    have rq : r ≠ q := fun z => by rw [z, e4.get vq] at n5; cases n5
    have nr3 : H3 r = none := Ex.free e4 n5
    rw [show (((w : Nat) : Int) + 1 - (b : Nat)).toNat = w + 1 - b by omega]
    have zl : zs.length ≤ t := by
      have h1 := congrArg List.length hz
      have h2 := tgF_len l m c ((List.range (w + 1)).drop (b + 1))
      rw [List.length_reverse, List.length_map] at h1
      rw [List.length_drop, List.length_range] at h2
      omega
    have hx5 := (fE f3).trans e35
    have K5 := hK.ex hx5
    refine for_runs (runs_range (b : Nat) _) (fun j σ H' => ∃ (ys : List ZP) (y7 y8 y9 : Option V), Fr (fun x => x = F ∨ x = r) H5 H' ∧ H' F = some (.lst (ys.map zV)) ∧ TP H' ys ∧ ys.map (·.2) = zs.map (·.2) ++ tgE l m c b (b + j) ∧ H' r = some (.lst ((List.range (w + 2)).map (rowB l m c b (b + j)))) ∧ σ = [some (.ref p), some (.int c), some (.int (w : Nat)), some (.ref F), some (.ref q), some (.int (b : Nat)), some (.ref r), y7, y8, y9]) ⟨zs, _, _, _, Fr.refl _, e35.get v3, t3.ex e35, by rw [Nat.add_zero, tgE_zero (by omega), List.append_nil], v5', rfl⟩ (fun _ _ _ _ _ => trivial) ?_ ?_
    rotate_left
    · rintro σ H6 ⟨ys, y7, y8, y9, f6, v6, t6, hy, vr, rfl⟩
      walk_at "go"
      have f36 : FrP F H3 H6 := fun x o hx h => f6 x o (fun z => z.elim hx fun z => by rw [z, nr3] at h; cases h) (e35.get h)
      refine ⟨ys, r, _, _, _, _, _, f3.trans f36, v6, t6, ?_, rF, ?_, rfl⟩
      · rw [hy, show b + (w + 1 - b) = l.length - m + 1 by omega, tgE_full, List.reverse_append, hz, show w + 1 - (t + 1) = b by omega]
        rw [List.drop_eq_getElem_cons (i := b) (by rw [List.length_range]; omega), List.flatMap_cons, List.getElem_range]
        have := tgB_len l m c b
        match tgB l m c b, this with
        | [], _ => rfl
        | [_], _ => rfl
      · rw [vr, show b + (w + 1 - b) = w + 1 by omega, show w + 1 - (t + 1) = b by omega]
    rintro j x σ H0' H6 hj ⟨ys, y7, y8, y9, f6, v6, t6, hy, vr, rfl⟩ ⟨rfl, rfl⟩
    rw [show ((b : Nat) : Int) + ((j : Nat) : Int) = ((b + j : Nat) : Int) by omega]
    obtain ⟨e, he⟩ : ∃ e, e = b + j := ⟨_, rfl⟩
    rw [← he] at hy vr ⊢
    have vq6 := f6.get (fun z => z.elim qF rq.symm) (e35.get vq)
    walk_at "go"
    refine st_ixL (v := V.bl (decide (b + 1 ≤ e ∧ e < w + 1 ∧ c ≤ winV l m 0 m (b + 1) e))) vq6 (fn_at (p := e) (by omega)) ?_
    obtain ⟨wi, hwi⟩ : ∃ wi : Bool, wi = decide (b + 1 ≤ e ∧ (c ≤ winV l m 0 m (b + 1) e ∨ c ≤ winV l m 0 m b (e - 1))) := ⟨_, rfl⟩
    obtain ⟨en, hen⟩ : ∃ en : Bool, en = decide (c ≤ winV l m 0 m b e) := ⟨_, rfl⟩
    have nr : H r = none := Ex.free (fE f3) nr3
    have old : ∀ a o, H a = some o → ¬ (a = F ∨ a = r) := fun a o h z => by
      rcases z with z | z
      · rw [z, n1] at h; cases h
      · rw [z, nr] at h; cases h
    have K6 : Kno H6 p rs l m := ⟨f6.get (old _ _ hat) K5.at_, K5.rows.fr f6 fun a ha => by
      obtain ⟨o, _, h⟩ := hK.rows.mem ha
      exact old _ _ h⟩
    obtain ⟨rw1, hr1, hr2⟩ := K6.row (b := b) (by omega)
    have hat6 := K6.at_
    have ixr := at_nat (i := b) (a := V.ref rw1) (show (rs.map V.ref)[b]? = _ by rw [List.getElem?_map, hr1]; rfl)
    have ixe := at_nat (i := e) (a := V.int (winV l m 0 m b e)) (show ((knoRow l m b).map V.int)[e]? = _ by rw [List.getElem?_map, knoRow_at (by omega)]; rfl)
    have ixw : atI ((List.range (w + 2)).map (rowB l m c b e)) (((e : Nat) : Int) - 1) = some (V.bl (decide (b + 1 ≤ e ∧ c ≤ winV l m 0 m b (e - 1)))) := by
      by_cases z : e = 0
      · rw [z]
        refine at_last (n := w + 1) (by rw [List.length_map, List.length_range]) ?_
        rw [List.getElem?_map, List.getElem?_range (by omega)]
        show some (rowB l m c b 0 (w + 1)) = _
        unfold rowB
        rw [decide_eq_false (by omega), decide_eq_false (by omega)]
      · rw [show ((e : Nat) : Int) - 1 = ((e - 1 : Nat) : Int) by omega, fn_at (by omega)]
        unfold rowB
        congr 2
        exact decide_eq_decide.mpr ⟨fun h => ⟨by omega, h.2.2⟩, fun h => ⟨by omega, by omega, h.2⟩⟩
    have mono : wi = true → en = true := fun h => by
      rw [hwi, decide_eq_true_eq] at h
      rw [hen, decide_eq_true_eq]
      rcases h with ⟨h1, h2 | h2⟩
      · have := win_anti (l := l) (m := m) (b := b) (b' := b + 1) (e := e) (by omega) (by omega)
        omega
      · have := win_up hT (m := m) (b := b) (e := e - 1) (e' := e) (by omega) (by omega) (by omega)
        omega
    have hsuc := tgE_succ hT (m := m) (c := c) (b := b) (e := e) (by omega) (by omega)
    have hnew : tgE l m c b (e + 1) = tgE l m c b e ++ (if en = true ∧ wi = false then [(b, e)] else []) := by
      rw [hsuc]
      congr 1
      by_cases q1 : c ≤ winV l m 0 m b e
      · by_cases q2 : b + 1 ≤ e ∧ (c ≤ winV l m 0 m (b + 1) e ∨ c ≤ winV l m 0 m b (e - 1))
        · rw [if_neg (by omega), if_neg (by rw [hwi, decide_eq_true q2]; simp)]
        · rw [if_pos ⟨q1, by omega⟩, if_pos ⟨by rw [hen]; exact decide_eq_true q1, by rw [hwi]; exact decide_eq_false q2⟩]
      · rw [if_neg fun h => q1 h.1, if_neg (by rw [hen, decide_eq_false q1]; simp)]
    have hrow : ∀ G : Hp, G r = some (.lst ((List.range (w + 2)).map (rowB l m c b e))) → (((List.range (w + 2)).map (rowB l m c b e)).set e (.bl en)) = (List.range (w + 2)).map (rowB l m c b (e + 1)) := fun _ _ => by
      rw [fn_set]
      refine fn_congr fun x hx => ?_
      by_cases z : x = e
      · rw [if_pos z, z]
        unfold rowB
        rw [hen]
        congr 1
        exact decide_eq_decide.mpr ⟨fun h => ⟨by omega, by omega, h⟩, fun h => h.2.2⟩
      · rw [if_neg z]
        unfold rowB
        congr 1
        exact decide_eq_decide.mpr ⟨fun h => ⟨h.1, by omega, h.2.2⟩, fun h => ⟨h.1, by omega, h.2.2⟩⟩
    have yl : ys.length ≤ t + 1 := by
      have h1 := congrArg List.length hy
      have := tgE_len l m c b e
      rw [List.length_append, List.length_map, List.length_map] at h1
      omega
    have hix : ixN ((List.range (w + 2)).map (rowB l m c b e)).length (e : Nat) = some e := fn_ix (by omega)
    refine ⟨_, rfl, ?_⟩
    refine st_br2 (fun d1 => ?_) (fun d1 => ?_)
    · have hw1 : wi = true := by rw [hwi]; exact decide_eq_true ⟨d1.1, .inl d1.2.2⟩
      have he1 := mono hw1
      walk_at "go"
      refine st_ixL hat6 ixr ?_
      walk_at "go"
      refine st_ixL hr2 ixe ?_
      walk_at "go"
      refine ⟨fun σ' H' => H' = H6 ∧ σ' = [some (.ref p), some (.int c), some (.int (w : Nat)), some (.ref F), some (.ref q), some (.int (b : Nat)), some (.ref r), some (.int (e : Nat)), some (.bl true), some (.bl en)], ?_, ?_⟩
      · refine st_ifS ?_
        rw [← hen]
        walk_at "go"
        rw [if_pos he1]
        walk_at "go"
        exact ⟨rfl, rfl⟩
      · rintro σ' H7 ⟨rfl, rfl⟩
        walk_at "go"
        rw [if_pos he1]
        walk_at "go"
        refine st_setL vr hix ?_
        have hro := hrow _ vr
        rw [he1] at hro
        rw [hro]
        refine ⟨ys, _, _, _, f6.trans (Fr.at (.inr rfl)), by rw [upd_ne rF.symm]; exact v6, t6.up vr, ?_, ?_, rfl⟩
        · rw [hy, show b + (j + 1) = e + 1 by omega, hnew, if_neg (by rw [hw1]; simp), List.append_nil]
        · rw [upd_same, show b + (j + 1) = e + 1 by omega]
    · have hw2 : decide (b + 1 ≤ e ∧ c ≤ winV l m 0 m b (e - 1)) = wi := by
        rw [hwi]
        exact decide_eq_decide.mpr ⟨fun h => ⟨h.1, .inr h.2⟩, fun h => ⟨h.1, h.2.elim (fun z => absurd ⟨h.1, by omega, z⟩ d1) id⟩⟩
      walk_at "go"
      refine st_ixL vr ixw ?_
      rw [hw2]
      walk_at "go"
      refine st_ixL hat6 ixr ?_
      walk_at "go"
      refine st_ixL hr2 ixe ?_
      walk_at "go"
      refine ⟨fun σ' H' => (∃ us : List ZP, Fr (fun x => x = F ∨ x = r) H6 H' ∧ H' F = some (.lst (us.map zV)) ∧ TP H' us ∧ us.map (·.2) = zs.map (·.2) ++ tgE l m c b (e + 1) ∧ H' r = H6 r) ∧ σ' = [some (.ref p), some (.int c), some (.int (w : Nat)), some (.ref F), some (.ref q), some (.int (b : Nat)), some (.ref r), some (.int (e : Nat)), some (.bl wi), some (.bl en)], ?_, ?_⟩
      · have no : ¬ (en = true ∧ wi = false) → ∃ us : List ZP, Fr (fun x => x = F ∨ x = r) H6 H6 ∧ H6 F = some (.lst (us.map zV)) ∧ TP H6 us ∧ us.map (·.2) = zs.map (·.2) ++ tgE l m c b (e + 1) ∧ H6 r = H6 r := fun h => ⟨ys, Fr.refl _, v6, t6, by rw [hnew, if_neg h, List.append_nil]; exact hy, rfl⟩
        refine st_ifS ?_
        rw [← hen]
        walk_at "go"
        by_cases h1 : en = true
        · rw [if_pos h1]
          walk_at "go"
          by_cases h2 : wi = true
          · rw [h2]
            walk_at "go"
            exact ⟨no (by rw [h2]; simp), rfl⟩
          · have h3 : wi = false := Bool.eq_false_iff.mpr h2
            rw [h3]
            walk_at "go"
            rename_i u H7 n7 e7 v7
            refine st_app (e7.get v6) (by rw [List.length_map]; omega) ?_
            refine ⟨⟨ys ++ [(u, (b, e))], (Fr.ex e7).trans (Fr.at (.inl rfl)), by rw [upd_same, List.map_append]; rfl, TP.up ((t6.ex e7).app (TP.cons v7 fun z hz => (by cases hz))) (e7.get v6), ?_, by rw [upd_ne rF]; exact (e7.get vr).trans vr.symm⟩, rfl⟩
            rw [List.map_append, hy, List.append_assoc, hnew, if_pos ⟨h1, h3⟩]
            rfl
        · rw [if_neg h1]
          walk_at "go"
          exact ⟨no fun h => h1 h.1, rfl⟩
      · rintro σ' H7 ⟨⟨us, f7, v7, t7, hu, hr7⟩, rfl⟩
        have vr7 := hr7.trans vr
        have hro := hrow _ vr
        walk_at "go"
        by_cases h1 : en = true
        · rw [if_pos h1]
          walk_at "go"
          refine st_setL vr7 hix ?_
          rw [h1] at hro
          rw [hro]
          refine ⟨us, _, _, _, (f6.trans f7).trans (Fr.at (.inr rfl)), by rw [upd_ne rF.symm]; exact v7, t7.up vr7, ?_, ?_, rfl⟩
          · rw [hu, show b + (j + 1) = e + 1 by omega]
          · rw [upd_same, show b + (j + 1) = e + 1 by omega]
        · rw [if_neg h1]
          have h4 : wi = en := by
            have : en = false := Bool.eq_false_iff.mpr h1
            rw [this]
            exact Bool.eq_false_iff.mpr fun z => h1 (mono z)
          rw [h4]
          walk_at "go"
          refine st_setL vr7 hix ?_
          rw [hro]
          refine ⟨us, _, _, _, (f6.trans f7).trans (Fr.at (.inr rfl)), by rw [upd_ne rF.symm]; exact v7, t7.up vr7, ?_, ?_, rfl⟩
          · rw [hu, show b + (j + 1) = e + 1 by omega]
          · rw [upd_same, show b + (j + 1) = e + 1 by omega]
/-- the first of the shortest with enough -/
def ShortR (l : List Nat) (m : Nat) (c : Int) (b e : Nat) : Prop := b ≤ e ∧ e ≤ l.length - m ∧ c ≤ winV l m 0 m b e ∧ ∀ b' e', b' ≤ e' → e' ≤ l.length - m → c ≤ winV l m 0 m b' e' → e - b < e' - b' ∨ (e - b = e' - b' ∧ b ≤ b')
def sp__law_shortest : Sp := fun vs H Q _ => ∃ (p : Addr) (l : List Nat) (m : Nat) (rs : List Addr) (c : Int), vs = [.ref p, .int c] ∧ Kno H p rs l m ∧ m ≤ l.length ∧ l.length ≤ 96 ∧ (∀ b e t H', ShortR l m c b e → Ex H H' → H' t = some (.tup [.int (b : Nat), .int (e : Nat)]) → Q (.ref t) H') ∧ ((∀ b e, b ≤ e → e ≤ l.length - m → ¬ c ≤ winV l m 0 m b e) → Q .non H)
theorem ok__law_shortest (T : Tx K mg ad fd tk base tc) : FnOk P w K mg base CX0 1 (ad 17) (fd 17) ["_law_known", "_law_length"] sp__law_shortest := by
  refine T.d__law_shortest.F.ok sc__law_shortest (fun vs H Q E h => ?_) (fun cdv A outer s H vs Q E hr h => ?_)
  · obtain ⟨p, l, m, rs, c, rfl, _⟩ := h
    rfl
  · obtain ⟨p, l, m, rs, c, rfl, hT, hm, hl, k⟩ := h
    refine ⟨_, (pss_cons (ps_set (i := 2) sc__law_shortest.nd rfl (Or.inl rfl) (pe_op o_sub (pe_callB (c_len (K := K)) (by rfl) T.b_len (by decide +kernel) (pa_cons (pv 0) pa_nil)) pe_int))
      (pss_cons (ps_for PassesOwn.never rfl (pi_range1 rfl T.b_range (pa_cons (pe_op o_add (pv 2) pe_int) pa_nil)) (pg_name (i := 3) sc__law_shortest.nd rfl (Or.inl rfl)) (pss_one (ps_for PassesOwn.never rfl (pi_range1 rfl T.b_range (pa_cons (pe_op o_add (pe_op o_sub (pv 2) (pv 3)) pe_int) pa_nil)) (pg_name (i := 4) sc__law_shortest.nd rfl (Or.inl rfl)) (pss_one (ps_if (pt_cmpR o_ge (pe_ix (i_ix (K := K)) (pe_ix (i_ix (K := K)) (pv 0) (pv 4) (fun _ _ => rfl)) (pe_op o_add (pv 4) (pv 3)) (fun _ _ => rfl)) (pv 1) (nomark _)) (pss_one (ps_ret (pe_tup (pa_cons (pv 4) (pa_cons (pe_op o_add (pv 4) (pv 3)) pa_nil))))) pss_nil)))))
      (pss_one (ps_ret pe_non)))), ?_⟩
    obtain ⟨k1, k2⟩ := k
    have hlen := hT.len
    have hat := hT.at_
    walk_at "go"
    rw [List.length_map, hlen]
    walk_at "go"
    obtain ⟨w, hw⟩ : ∃ w, w = l.length - m := ⟨_, rfl⟩
    rw [← hw, show (((w + 1 : Nat) : Int) - 1 + 1).toNat = w + 1 by omega, show (((w + 1 : Nat) : Int) - 1) = (w : Nat) by omega]
    refine for_runs (runs_range 0 _) (fun t σ H' => H' = H ∧ (∀ b e, b ≤ e → e ≤ w → e - b < t → ¬ c ≤ winV l m 0 m b e) ∧ ∃ y3 y4, σ = [some (.ref p), some (.int c), some (.int (w : Nat)), y3, y4]) ⟨rfl, fun b e _ _ h => absurd h (Nat.not_lt_zero _), _, _, rfl⟩ (fun _ _ _ _ _ => trivial) ?_ ?_
    · rintro t x σ H0 H1 ht ⟨rfl, h1, y3, y4, rfl⟩ ⟨rfl, rfl⟩
      rw [show (0 : Int) + ((t : Nat) : Int) = (t : Nat) by omega]
      walk_at "go"
      rw [show (((w : Nat) : Int) - (t : Nat) + 1).toNat = w - t + 1 by omega]
      refine for_runs (runs_range 0 _) (fun j σ H' => H' = H1 ∧ (∀ b, b < j → b + t ≤ w → ¬ c ≤ winV l m 0 m b (b + t)) ∧ ∃ y4, σ = [some (.ref p), some (.int c), some (.int (w : Nat)), some (.int (t : Nat)), y4]) ⟨rfl, fun b h => absurd h (Nat.not_lt_zero _), _, rfl⟩ (fun _ _ _ _ _ => trivial) ?_ ?_
      · rintro j x σ H2 H3 hj ⟨rfl, h2, y4, rfl⟩ ⟨rfl, rfl⟩
        obtain ⟨r, hr1, hv1⟩ := hT.row (b := j) (by omega)
        rw [show (0 : Int) + ((j : Nat) : Int) = (j : Nat) by omega]
        walk_at "go"
        refine st_ixL hat (at_nat (i := j) (a := V.ref r) (by rw [List.getElem?_map, hr1]; rfl)) ?_
        walk_at "go"
        rw [show ((j : Nat) : Int) + (t : Nat) = ((j + t : Nat) : Int) by omega]
        refine st_ixL hv1 (at_nat (i := j + t) (a := V.int (winV l m 0 m j (j + t))) (by rw [List.getElem?_map, knoRow_at (by omega)]; rfl)) ?_
        walk_at "go"
        refine st_br2 (fun d => ?_) (fun d => ?_)
        · walk_at "go"
          rename_i tt H4 n4 e4 v4
          rw [show ((j : Nat) : Int) + (t : Nat) = ((j + t : Nat) : Int) by omega] at v4
          refine k1 j (j + t) tt H4 ⟨by omega, by omega, d, fun b' e' q1 q2 q3 => ?_⟩ e4 v4
          by_cases q4 : e' - b' < t
          · exact absurd q3 (h1 b' e' q1 (by omega) q4)
          · by_cases q5 : e' - b' = t
            · by_cases q6 : b' < j
              · refine absurd q3 ?_
                have := h2 b' q6 (by omega)
                rwa [show b' + t = e' by omega] at this
              · exact .inr ⟨by omega, by omega⟩
            · exact .inl (by omega)
        · walk_at "go"
          refine ⟨rfl, fun b q1 q2 => ?_, _, rfl⟩
          by_cases q3 : b = j
          · rw [q3]; exact d
          · exact h2 b (by omega) q2
      · rintro σ H2 ⟨rfl, h2, y4, rfl⟩
        refine ⟨rfl, fun b e q1 q2 q3 => ?_, _, _, rfl⟩
        by_cases q4 : e - b < t
        · exact h1 b e q1 q2 q4
        · have := h2 b (by omega) (by omega)
          rwa [show b + t = e by omega] at this
    · rintro σ H1 ⟨rfl, h1, y3, y4, rfl⟩
      walk_at "go"
      exact k2 fun b e q1 q2 => h1 b e q1 (by omega) (by omega)
def sp__law_gains : Sp := fun vs H Q _ => ∃ (p : Addr) (l : List Nat) (m : Nat) (rs : List Addr) (b : Nat), vs = [.ref p, .int (b : Nat)] ∧ Kno H p rs l m ∧ b ≤ l.length - m ∧ (IsT l ∧ l.length ≤ 96) ∧ ∀ D H', Ex H H' → H D = none → H' D = some (.lst ((gainL l m b).map nV)) → Q (.ref D) H'
theorem ok__law_gains (T : Tx K mg ad fd tk base tc) : FnOk P w K mg base CX0 1 (ad 18) (fd 18) ["_law_known", "_law_begin"] sp__law_gains := by
  refine T.d__law_gains.F.ok sc__law_gains (fun vs H Q E h => ?_) (fun cdv A outer s H vs Q E hr h => ?_)
  · obtain ⟨p, l, m, rs, b, rfl, _⟩ := h
    rfl
  · obtain ⟨p, l, m, rs, b, rfl, hT, hb, hl, k⟩ := h
    refine ⟨_, (pss_cons (ps_set (i := 2) sc__law_gains.nd rfl (Or.inr rfl) (pe_ix (i_ix (K := K)) (pv 0) (pv 1) (fun _ _ => rfl)))
      (pss_one (ps_ret (pe_lc (own := [("_law_at", 3)]) (g := gName 3) rfl sc__law_gains.nd (pi_range2 rfl T.b_range (pa_cons (pv 1) (pa_cons (pe_op o_sub (pe_callB (c_len (K := K)) (by rfl) T.b_len (by decide +kernel) (pa_cons (pv 2) pa_nil)) pe_int) pa_nil))) (blkOk_by (own := [("_law_at", 3)]) (N := N__law_gains) (sc := defScope s__law_gains) (by decide +kernel)) (fun _ _ _ _ _ => pg_name (i := 3) sc__law_gains.nd rfl (Or.inl rfl)) (fun _ _ _ _ _ => pts_one (pt_cmpR (o_eq hr.units) (pe_ix (i_ix (K := K)) (pv 2) (pe_op o_add (pv 3) pe_int) (fun _ _ => rfl)) (pe_op o_add (pe_ix (i_ix (K := K)) (pv 2) (pv 3) (fun _ _ => rfl)) pe_int) (nomark _))) (fun _ _ _ _ _ => (pv 3)))))), ?_⟩
    obtain ⟨hT1, hl2⟩ := hl
    obtain ⟨r, hr1, hr2⟩ := hT.row hb
    walk_at "go"
    refine st_ixL hT.at_ (at_nat (i := b) (a := V.ref r) (by rw [List.getElem?_map, hr1]; rfl)) ?_
    walk_at "go"
    rw [List.length_map, knoRow_len]
    walk_at "go"
    rw [show (((l.length - m + 1 : Nat) : Int) - 1 - (b : Nat)).toNat = l.length - m - b by omega]
    refine lc_pure (rv_range (b : Nat) _) (fun _ _ => trivial) (by rw [List.length_range]; omega) (fun i => decide (gT (invT l) (b + i) < m + b)) (fun i => nV (b + i)) ?_ ?_
    · intro i H' hi e B A' k1 k2
      have hi := List.mem_range.mp hi
      have hr3 := e.get hr2
      have hw := win_next hT1 (m := m) (b := b) (e := b + i) (by omega) (by omega)
      refine ⟨rfl, ?_⟩
      rw [show ((b : Nat) : Int) + (i : Nat) = ((b + i : Nat) : Int) by omega]
      walk_at "go"
      rw [show ((b + i : Nat) : Int) + 1 = ((b + i + 1 : Nat) : Int) by omega]
      refine st_ixL hr3 (at_nat (i := b + i + 1) (a := V.int (winV l m 0 m b (b + i + 1))) (by rw [List.getElem?_map, knoRow_at (by omega)]; rfl)) ?_
      walk_at "go"
      refine st_ixL hr3 (at_nat (i := b + i) (a := V.int (winV l m 0 m b (b + i))) (by rw [List.getElem?_map, knoRow_at (by omega)]; rfl)) ?_
      walk_at "go"
      refine st_br2 (fun c => ?_) (fun c => ?_)
      · walk_at "go"
        refine k1 (decide_eq_true ?_) _ (Fr.refl _)
        by_cases q : gT (invT l) (b + i) < m + b
        · exact q
        · rw [if_neg q] at hw; omega
      · refine k2 (decide_eq_false ?_) _ (Fr.refl _)
        intro q
        rw [if_pos q] at hw
        exact c (by omega)
    · intro D H1 nD e1 vD
      walk_at "go"
      refine k D H1 e1 nD ?_
      rw [vD, gainL, List.map_map]
      rfl
def lossL (l : List Nat) (m b : Nat) : List Nat := (List.range b).filter fun i => decide (b ≤ gT l (m + i))
theorem win_less {l : List Nat} {m b e : Nat} (h : m + b < l.length) : winV l m 0 m b e = winV l m 0 m (b + 1) e + 1 - (if gT l (m + b) < e then 1 else 0) := by
  unfold winV
  rw [Nat.sub_zero, Nat.sub_self, Nat.zero_add, ← Nat.add_assoc, cntT_at h]
  split <;> omega
def sp__law_losses : Sp := fun vs H Q _ => ∃ (p : Addr) (l : List Nat) (m : Nat) (rs : List Addr) (b : Nat), vs = [.ref p, .int (b : Nat)] ∧ Kno H p rs l m ∧ b ≤ l.length - m ∧ m ≤ l.length ∧ l.length ≤ 96 ∧ ∀ D H', Ex H H' → H D = none → H' D = some (.lst ((lossL l m b).map nV)) → Q (.ref D) H'
theorem ok__law_losses (T : Tx K mg ad fd tk base tc) : FnOk P w K mg base CX0 1 (ad 19) (fd 19) ["_law_known", "_law_end"] sp__law_losses := by
  refine T.d__law_losses.F.ok sc__law_losses (fun vs H Q E h => ?_) (fun cdv A outer s H vs Q E hr h => ?_)
  · obtain ⟨p, l, m, rs, b, rfl, _⟩ := h
    rfl
  · obtain ⟨p, l, m, rs, b, rfl, hT, hb, hm, hl, k⟩ := h
    refine ⟨_, (pss_one (ps_ret (pe_lc (own := [("_law_at", 2)]) (g := gName 2) rfl sc__law_losses.nd (pi_range1 rfl T.b_range (pa_cons (pv 1) pa_nil)) (blkOk_by (own := [("_law_at", 2)]) (N := N__law_losses) (sc := defScope s__law_losses) (by decide +kernel)) (fun _ _ _ _ _ => pg_name (i := 2) sc__law_losses.nd rfl (Or.inl rfl)) (fun _ _ _ _ _ => pts_one (pt_cmpR (o_eq hr.units) (pe_ix (i_ix (K := K)) (pe_ix (i_ix (K := K)) (pv 0) (pv 2) (fun _ _ => rfl)) (pv 1) (fun _ _ => rfl)) (pe_op o_add (pe_ix (i_ix (K := K)) (pe_ix (i_ix (K := K)) (pv 0) (pe_op o_add (pv 2) pe_int) (fun _ _ => rfl)) (pv 1) (fun _ _ => rfl)) pe_int) (nomark _))) (fun _ _ _ _ _ => (pv 2))))), ?_⟩
    walk_at "go"
    rw [Int.toNat_natCast]
    refine lc_pure (rv_range 0 _) (fun _ _ => trivial) (by rw [List.length_range]; omega) (fun i => decide (b ≤ gT l (m + i))) (fun i => nV i) ?_ ?_
    · intro i H' hi e B A' k1 k2
      have hi := List.mem_range.mp hi
      have hT' := hT.ex e
      obtain ⟨r1, hr1, hv1⟩ := hT'.row (b := i) (by omega)
      obtain ⟨r2, hr2, hv2⟩ := hT'.row (b := i + 1) (by omega)
      have hw := win_less (l := l) (m := m) (b := i) (e := b) (by omega)
      have hat := hT'.at_
      refine ⟨rfl, ?_⟩
      rw [show (0 : Int) + (i : Nat) = (i : Nat) by omega]
      walk_at "go"
      refine st_ixL hat (at_nat (i := i) (a := V.ref r1) (by rw [List.getElem?_map, hr1]; rfl)) ?_
      walk_at "go"
      refine st_ixL hv1 (at_nat (i := b) (a := V.int (winV l m 0 m i b)) (by rw [List.getElem?_map, knoRow_at hb]; rfl)) ?_
      walk_at "go"
      rw [show ((i : Nat) : Int) + 1 = ((i + 1 : Nat) : Int) by omega]
      refine st_ixL hat (at_nat (i := i + 1) (a := V.ref r2) (by rw [List.getElem?_map, hr2]; rfl)) ?_
      walk_at "go"
      refine st_ixL hv2 (at_nat (i := b) (a := V.int (winV l m 0 m (i + 1) b)) (by rw [List.getElem?_map, knoRow_at hb]; rfl)) ?_
      walk_at "go"
      refine st_br2 (fun c => ?_) (fun c => ?_)
      · walk_at "go"
        refine k1 (decide_eq_true ?_) _ (Fr.refl _)
        by_cases q : gT l (m + i) < b
        · rw [if_pos q] at hw; omega
        · omega
      · refine k2 (decide_eq_false ?_) _ (Fr.refl _)
        intro q
        rw [if_neg (by omega)] at hw
        exact c (by omega)
    · intro D H1 nD e1 vD
      walk_at "go"
      refine k D H1 e1 nD ?_
      rw [vD, lossL]
def sp_Asks_gains (K : PySem.W.Frag) : Sp := fun vs H Q E => ∃ (p : Addr) (l : List Nat) (m b : Nat), vs = [.ref p, .int (b : Nat)] ∧ AsksAt K H p l m ∧ b ≤ l.length - m ∧ ∀ D H', Ex H H' → H D = none → H' D = some (.lst ((gainL l m b).map nV)) → Q (.ref D) H'
theorem ok_Asks_gains (T : Tx K mg ad fd tk base tc) : FnOk P w K mg base CX0 4 (ad 20) (fd 20) ["self", "begin"] (sp_Asks_gains K) := by
  refine T.d_Asks_gains.F.ok sc_Asks_gains (fun vs H Q E h => ?_) (fun cdv A outer s H vs Q E hr h => ?_)
  · obtain ⟨p, l, m, b, rfl, _⟩ := h
    rfl
  · obtain ⟨p, l, m, b, rfl, hp, h1, k⟩ := h
    refine ⟨_, (pss_cons (ps_expr (pe_call (ok_need_place T) (hr.mono (by decide)) rfl T.d_need_place.g T.d_need_place.F.kp T.d_need_place.b .nil passL (pa_cons (pv 1) (pa_cons (pe_fldK (K := K) (pv 0) rfl) pa_nil))))
      (pss_one (ps_ret (pe_lc (own := [("at", 2)]) (g := gName 2) rfl sc_Asks_gains.nd (pi_range2 rfl T.b_range (pa_cons (pv 1) (pa_cons (pe_fldK (K := K) (pv 0) rfl) pa_nil))) (blkOk_by (own := [("at", 2)]) (N := N_Asks_gains) (sc := defScope s_Asks_gains) (by decide +kernel)) (fun _ _ _ _ _ => pg_name (i := 2) sc_Asks_gains.nd rfl (Or.inl rfl)) (fun _ _ _ _ _ => pts_one (pt_cmpR o_lt (pe_ix (i_ix (K := K)) (pe_fldK (K := K) (pv 0) rfl) (pv 2) (fun _ _ => rfl)) (pe_op o_add (pe_fldK (K := K) (pv 0) rfl) (pv 1)) (nomark _))) (fun _ _ _ _ _ => (pv 2)))))), ?_⟩
    obtain ⟨dx, tp, ga, sa, g1, g2, g3, g4, g5, g6, g7⟩ := hp
    walk_at "go"
    refine ⟨_, _, rfl, ⟨_, rfl⟩, fun h => nat_no h1 h, fun _ => ?_⟩
    walk_at "go"
    rw [show (((l.length - m : Nat) : Int) - (b : Nat)).toNat = l.length - m - b by omega]
    refine lc_pure (rv_range (b : Nat) _) (fun _ _ => trivial) (by rw [List.length_range]; omega) (fun i => decide (gT (invT l) (b + i) < m + b)) (fun i => nV (b + i)) ?_ ?_
    · intro i H' hi e B A' k1 k2
      have hi := List.mem_range.mp hi
      have g1' := e.get g1
      have g4' := e.get g4
      refine ⟨rfl, ?_⟩
      rw [show ((b : Nat) : Int) + (i : Nat) = ((b + i : Nat) : Int) by omega]
      walk_at "go"
      refine st_ixL g4' (at_nV (by rw [invT_len]; omega)) ?_
      unfold nV
      walk_at "go"
      refine st_br2 (fun c => ?_) (fun c => ?_)
      · walk_at "go"
        exact k1 (decide_eq_true (by omega)) _ (Fr.refl _)
      · exact k2 (decide_eq_false (by omega)) _ (Fr.refl _)
    · intro D H1 nD e1 vD
      refine k D H1 e1 nD ?_
      rw [vD, gainL, List.map_map]
      rfl
def sp_Asks_losses (K : PySem.W.Frag) : Sp := fun vs H Q E => ∃ (p : Addr) (l : List Nat) (m b : Nat), vs = [.ref p, .int (b : Nat)] ∧ AsksAt K H p l m ∧ b ≤ l.length - m ∧ ∀ D H', Ex H H' → H D = none → H' D = some (.lst ((lossL l m b).map nV)) → Q (.ref D) H'
theorem ok_Asks_losses (T : Tx K mg ad fd tk base tc) : FnOk P w K mg base CX0 4 (ad 21) (fd 21) ["self", "end"] (sp_Asks_losses K) := by
  refine T.d_Asks_losses.F.ok sc_Asks_losses (fun vs H Q E h => ?_) (fun cdv A outer s H vs Q E hr h => ?_)
  · obtain ⟨p, l, m, b, rfl, _⟩ := h
    rfl
  · obtain ⟨p, l, m, b, rfl, hp, h1, k⟩ := h
    refine ⟨_, (pss_cons (ps_expr (pe_call (ok_need_place T) (hr.mono (by decide)) rfl T.d_need_place.g T.d_need_place.F.kp T.d_need_place.b .nil passL (pa_cons (pv 1) (pa_cons (pe_fldK (K := K) (pv 0) rfl) pa_nil))))
      (pss_one (ps_ret (pe_lc (own := [("at", 2)]) (g := gName 2) rfl sc_Asks_losses.nd (pi_range1 rfl T.b_range (pa_cons (pv 1) pa_nil)) (blkOk_by (own := [("at", 2)]) (N := N_Asks_losses) (sc := defScope s_Asks_losses) (by decide +kernel)) (fun _ _ _ _ _ => pg_name (i := 2) sc_Asks_losses.nd rfl (Or.inl rfl)) (fun _ _ _ _ _ => pts_one (pt_cmpR o_ge (pe_ix (i_ix (K := K)) (pe_fldK (K := K) (pv 0) rfl) (pe_op o_add (pe_fldK (K := K) (pv 0) rfl) (pv 2)) (fun _ _ => rfl)) (pv 1) (nomark _))) (fun _ _ _ _ _ => (pv 2)))))), ?_⟩
    obtain ⟨dx, tp, ga, sa, g1, g2, g3, g4, g5, g6, g7⟩ := hp
    walk_at "go"
    refine ⟨_, _, rfl, ⟨_, rfl⟩, fun h => nat_no h1 h, fun _ => ?_⟩
    walk_at "go"
    rw [Int.toNat_natCast]
    refine lc_pure (rv_range 0 _) (fun _ _ => trivial) (by rw [List.length_range]; omega) (fun i => decide (b ≤ gT l (m + i))) (fun i => nV i) ?_ ?_
    · intro i H' hi e B A' k1 k2
      have hi := List.mem_range.mp hi
      have g1' := e.get g1
      have g3' := e.get g3
      refine ⟨rfl, ?_⟩
      rw [show (0 : Int) + (i : Nat) = (i : Nat) by omega]
      walk_at "go"
      rw [show ((m : Nat) : Int) + (i : Nat) = ((m + i : Nat) : Int) by omega]
      refine st_ixL g3' (at_nV (by omega)) ?_
      unfold nV
      walk_at "go"
      refine st_br2 (fun c => ?_) (fun c => ?_)
      · walk_at "go"
        exact k1 (decide_eq_true (by omega)) _ (Fr.refl _)
      · exact k2 (decide_eq_false (by omega)) _ (Fr.refl _)
    · intro D H1 nD e1 vD
      refine k D H1 e1 nD ?_
      rw [vD, lossL]
def sp_Tally_from_on (K : PySem.W.Frag) : Sp := fun vs H Q _ => ∃ (p : Addr) (l : List Nat) (b e : Nat), vs = [.ref p, .int (b : Nat), .int (e : Nat)] ∧ TalAt K H p l ∧ b ≤ 1000 ∧ Q (.int (cntT l b e : Nat)) H
theorem ok_Tally_from_on (T : Tx K mg ad fd tk base tc) : FnOk P w K mg base CX0 2 (ad 22) (fd 22) ["self", "begin", "end"] (sp_Tally_from_on K) := by
  refine T.d_Tally_from_on.F.ok sc_Tally_from_on (fun vs H Q E h => ?_) (fun cdv A outer s H vs Q E hr h => ?_)
  · obtain ⟨p, l, b, e, rfl, _⟩ := h
    rfl
  · obtain ⟨p, l, b, e, rfl, hp, hb, k⟩ := h
    refine ⟨_, (pss_cons (ps_set (i := 3) sc_Tally_from_on.nd rfl (Or.inl rfl) pe_int)
      (pss_cons (ps_set (i := 4) sc_Tally_from_on.nd rfl (Or.inl rfl) (pv 1))
      (pss_cons (ps_for PassesOwn.never rfl (pi_list (pe_fldK (K := K) (pv 0) rfl)) (pg_name (i := 5) sc_Tally_from_on.nd rfl (Or.inl rfl)) (pss_cons (ps_if (pt_cmpR o_ge (pv 4) (pe_callB (c_len (K := K)) (by rfl) T.b_len (by decide +kernel) (pa_cons (pv 5) pa_nil)) (nomark _)) (pss_one (ps_ret (pv 3))) pss_nil)
      (pss_cut (ps_if (PW.pt (pw_or (pt_cmpR (o_eq hr.units) (pe_op o_mod (pv 4) pe_int) pe_int (nomark _)) (pw_or1 (pt_cmpR (o_eq hr.units) (pe_callB (c_len (K := K)) (by rfl) T.b_len (by decide +kernel) (pa_cons (pv 5) pa_nil)) pe_int (nomark _))))) (pss_cons (ps_aug (i := 3) sc_Tally_from_on.nd rfl (Or.inl rfl) (pe_call (ok_lesser T) (hr.mono (by decide)) rfl T.d_lesser.g T.d_lesser.F.kp T.d_lesser.b .nil pass0 (pa_cons (pe_ix (i_ix (K := K)) (pv 5) (pv 4) (fun _ _ => rfl)) (pa_cons (pv 2) pa_nil))) ip_add)
      (pss_one (ps_aug (i := 4) sc_Tally_from_on.nd rfl (Or.inl rfl) pe_int ip_add))) pss_nil)
      (pss_one (ps_set (i := 4) sc_Tally_from_on.nd rfl (Or.inl rfl) (pe_op o_div (pv 4) pe_int))))))
      (pss_one (ps_ret (pv 3)))))), ?_⟩
    obtain ⟨dx, fa, qs, fs, h1, h2, h3, h4, h5, h6, h7⟩ := hp
    have hql := h3.len
    walk_at "go"
    have start : restP (fun x => decide (x < e)) (ones l) b = cntT l b e := rest_ones _ l _ b rfl
    refine for_runs (runs_list K fa _) (fun j σ H' => H' = H ∧ ∃ (tot at_ : Nat), ((∃ bs, fs[j]? = some bs ∧ tot + restP (fun x => decide (x < e)) bs at_ = cntT l b e) ∨ (j = fs.length ∧ tot = cntT l b e)) ∧ at_ ≤ 1001 ∧ ∃ y, σ = [some (.ref p), some (.int (b : Nat)), some (.int (e : Nat)), some (.int (tot : Nat)), some (.int (at_ : Nat)), y]) ⟨rfl, 0, b, .inl ⟨_, h4.fst, by rw [start]; omega⟩, by omega, _, rfl⟩ (fun j σ H' _ h => by rw [h.1]; exact lst_of h2) ?_ ?_
    rotate_left
    · rintro σ H' ⟨rfl, tot, at_, hc, _, y, rfl⟩
      rw [List.length_map, hql] at hc
      have ht : tot = cntT l b e := by
        rcases hc with ⟨bs, hbs, _⟩ | ⟨_, h⟩
        · have := (List.getElem?_eq_some_iff.mp hbs).1
          omega
        · exact h
      subst ht
      walk_at "go"
      exact k
    rintro j x σ H0 H' hj ⟨hH, tot, at_, hc, hat, y, rfl⟩ ⟨hH2, hx⟩
    have hH3 := (hH2.trans hH).symm
    clear hH2 hH
    subst hH3
    rw [List.length_map, hql] at hj
    obtain ⟨q, hq⟩ : ∃ q, qs[j]? = some q := ⟨qs[j]'(by omega), List.getElem?_eq_getElem _⟩
    rw [List.getElem?_map, hq] at hx
    cases hx
    obtain ⟨bs, hbs, hrest⟩ : ∃ bs, fs[j]? = some bs ∧ tot + restP (fun x => decide (x < e)) bs at_ = cntT l b e := by
      rcases hc with h | ⟨h, _⟩
      · exact h
      · omega
    obtain ⟨rs, bs', hb', hT⟩ := h3.tb j q hq
    have : bs' = bs := by rw [hb'] at hbs; exact Option.some.inj hbs
    subst this
    have hrl := hT.len
    have hTa := hT.at_
    have hlen := h4.len _ _ hbs
    walk_at "go"
    rw [List.length_map, hrl]
    refine st_br2 (fun c1 => ?_) (fun c1 => ?_)
    · rw [restP_end (by omega)] at hrest
      have ht : tot = cntT l b e := by omega
      subst ht
      walk_at "go"
      exact k
    have hal : at_ < bs'.length := by omega
    have step := restP_at (p := fun x => decide (x < e)) hal
    have next : ∀ cs, fs[j + 1]? = some cs → 2 ≤ bs'.length ∧ ∀ i, restP (fun x => decide (x < e)) cs i = restP (fun x => decide (x < e)) bs' (2 * i) := fun cs hcs => by
      obtain ⟨g1, g2⟩ := h4.nxt j _ _ hbs hcs
      exact ⟨g1, fun i => g2.rest _ _ i rfl⟩
    have last : ¬ j + 1 < fs.length → bs'.length ≤ 1 := fun h => h5 _ (by rw [show fs.length - 1 = j by omega]; exact hbs)
    walk_at "go"
    refine ⟨fun σ' H' => H' = H ∧ ∃ (tot at_ : Nat), ((∃ cs, fs[j + 1]? = some cs ∧ tot + restP (fun x => decide (x < e)) cs (at_ / 2) = cntT l b e) ∨ (j + 1 = fs.length ∧ tot = cntT l b e)) ∧ at_ ≤ 1001 ∧ σ' = [some (.ref p), some (.int (b : Nat)), some (.int (e : Nat)), some (.int (tot : Nat)), some (.int (at_ : Nat)), some (.ref q)], ?_, ?_⟩
    rotate_left
    · rintro σ' H' ⟨rfl, tot', at', hc', hat', rfl⟩
      walk_at "go"
      refine ⟨rfl, tot', at' / 2, hc', by omega, some (.ref q), ?_⟩
      rw [show ((at' / 2 : Nat) : Int) = ((at' : Nat) : Int) / 2 by omega]
      rfl
    obtain ⟨r, hr1, hr2⟩ := hT.row hal
    have hblk := h4.blk hbs (List.getElem_mem hal)
    have fin : at_ % 2 = 1 ∨ bs'.length = 1 → ((∃ cs, fs[j + 1]? = some cs ∧ (tot + bs'[at_].countP (fun x => decide (x < e))) + restP (fun x => decide (x < e)) cs ((at_ + 1) / 2) = cntT l b e) ∨ (j + 1 = fs.length ∧ tot + bs'[at_].countP (fun x => decide (x < e)) = cntT l b e)) := fun hc => by
      by_cases hj2 : j + 1 < fs.length
      · obtain ⟨g1, g2⟩ := next _ (List.getElem?_eq_getElem hj2)
        refine .inl ⟨_, List.getElem?_eq_getElem hj2, ?_⟩
        rw [g2, show 2 * ((at_ + 1) / 2) = at_ + 1 by omega]
        omega
      · have := last hj2
        rw [restP_end (i := at_ + 1) (by omega)] at step
        exact .inr ⟨by omega, by omega⟩
    have stay : ¬ (at_ % 2 = 1) → ¬ (bs'.length = 1) → ((∃ cs, fs[j + 1]? = some cs ∧ tot + restP (fun x => decide (x < e)) cs (at_ / 2) = cntT l b e) ∨ (j + 1 = fs.length ∧ tot = cntT l b e)) := fun c2 c3 => by
      by_cases hj2 : j + 1 < fs.length
      · obtain ⟨g1, g2⟩ := next _ (List.getElem?_eq_getElem hj2)
        refine .inl ⟨_, List.getElem?_eq_getElem hj2, ?_⟩
        rw [g2, show 2 * (at_ / 2) = at_ by omega]
        exact hrest
      · have := last hj2
        omega
    refine st_ifS ?_
    walk_at "go"
    by_cases c2 : at_ % 2 = 1
    · rw [decide_eq_true (by omega)]
      walk_at "go"
      refine st_ixL hTa (v := .ref r) (at_nat (by rw [List.getElem?_map, hr1]; rfl)) ?_
      walk_at "go"
      refine ⟨r, _, e, rfl, hr2, hblk.1, by omega, ?_⟩
      walk_at "go"
      refine ⟨rfl, _, at_ + 1, fin (.inl c2), by omega, ?_⟩
      rw [show ((at_ + 1 : Nat) : Int) = ((at_ : Nat) : Int) + 1 by omega, Int.natCast_add]
      rfl
    · rw [decide_eq_false (by omega)]
      walk_at "go"
      rw [List.length_map, hrl]
      by_cases c3 : bs'.length = 1
      · rw [decide_eq_true (by omega)]
        walk_at "go"
        refine st_ixL hTa (v := .ref r) (at_nat (by rw [List.getElem?_map, hr1]; rfl)) ?_
        walk_at "go"
        refine ⟨r, _, e, rfl, hr2, hblk.1, by omega, ?_⟩
        walk_at "go"
        refine ⟨rfl, _, at_ + 1, fin (.inr c3), by omega, ?_⟩
        rw [show ((at_ + 1 : Nat) : Int) = ((at_ : Nat) : Int) + 1 by omega, Int.natCast_add]
        rfl
      · rw [decide_eq_false (by omega)]
        walk_at "go"
        exact ⟨rfl, tot, at_, stay c2 c3, hat, rfl⟩
def sp_Tally_below (K : PySem.W.Frag) : Sp := fun vs H Q E => ∃ (p : Addr) (l : List Nat) (b e : V), vs = [.ref p, b, e] ∧ TalAt K H p l ∧ Ty H b ∧ Ty H e ∧ (withinV b 0 l.length = false → RaF K E H "NoPlace" [("found", b)]) ∧ (withinV b 0 l.length = true → withinV e 0 l.length = false → RaF K E H "NoPlace" [("found", e)]) ∧ (∀ i j : Nat, b = .int (i : Nat) → e = .int (j : Nat) → i ≤ l.length → j ≤ l.length → Q (.int (cntT l i j : Nat)) H)
theorem ok_Tally_below (T : Tx K mg ad fd tk base tc) : FnOk P w K mg base (L2.CX P w) 4 (ad 23) (fd 23) ["self", "begin", "end"] (sp_Tally_below K) := by
  refine T.d_Tally_below.F.okX sc_Tally_below (fun vs H Q E h => ?_) (fun cdv A outer s H vs Q E hr h => ?_)
  · obtain ⟨p, l, b, e, rfl, _⟩ := h
    rfl
  · obtain ⟨p, l, b, e, rfl, hp, hb, he, k0, k1, k2⟩ := h
    refine ⟨_, (pss_cons (ps_expr (pe_call (ok_need_place T) (hr.mono (by decide)) rfl T.d_need_place.g T.d_need_place.F.kp T.d_need_place.b .nil (passes_call (takes_of rfl rfl rfl rfl) (fun _ _ _ _ h => h)) (pa_cons (pv 1) (pa_cons (pe_fldK (K := K) (pv 0) rfl) pa_nil))))
      (pss_cons (ps_expr (pe_call (ok_need_place T) (hr.mono (by decide)) rfl T.d_need_place.g T.d_need_place.F.kp T.d_need_place.b .nil (passes_call (takes_of rfl rfl rfl rfl) (fun _ _ _ _ h => h)) (pa_cons (pv 2) (pa_cons (pe_fldK (K := K) (pv 0) rfl) pa_nil))))
      (pss_one (ps_ret (pe_meth (pv 0) T.cl_Tally T.d_Tally_from_on.g (ok_Tally_from_on T) (hr.mono (by decide)) T.d_Tally_from_on.b .nil pass0 (pa_cons (pv 1) (pa_cons (pv 2) pa_nil))))))), ?_⟩
    obtain ⟨dx, fa, qs, fs, h1, _, _, _, _, _, h7⟩ := id hp
    walk_at "go"
    refine ⟨b, _, rfl, hb, k0, fun hbt => ?_⟩
    walk_at "go"
    refine ⟨e, _, rfl, he, k1 hbt, fun het => ?_⟩
    obtain ⟨i, rfl, hi⟩ := within_nat hbt
    obtain ⟨j, rfl, hj⟩ := within_nat het
    walk_at "go"
    exact ⟨p, l, i, j, rfl, hp, by omega, k2 i j rfl rfl hi hj⟩
def sp_Asks_window (K : PySem.W.Frag) : Sp := fun vs H Q E => ∃ (p : Addr) (l : List Nat) (m f la b e : Nat), vs = [.ref p, .int (f : Nat), .int (la : Nat), .int (b : Nat), .int (e : Nat)] ∧ AsksAt K H p l m ∧ WinOk m (l.length - m) f la b e ∧ ∀ H', Ex H H' → Q (.int (winV l m f la b e)) H'
theorem ok_Asks_window (T : Tx K mg ad fd tk base tc) : FnOk P w K mg base CX0 5 (ad 24) (fd 24) ["self", "first", "last", "begin", "end"] (sp_Asks_window K) := by
  refine T.d_Asks_window.F.ok sc_Asks_window (fun vs H Q E h => ?_) (fun cdv A outer s H vs Q E hr h => ?_)
  · obtain ⟨p, l, m, f, la, b, e, rfl, _⟩ := h
    rfl
  · obtain ⟨p, l, m, f, la, b, e, rfl, hp, hk, k⟩ := h
    refine ⟨_, (pss_cons (ps_expr (pe_call (ok_need_window T) (hr.mono (by decide)) rfl T.d_need_window.g T.d_need_window.F.kp T.d_need_window.b .nil pass0 (pa_cons (pe_fldK (K := K) (pv 0) rfl) (pa_cons (pe_fldK (K := K) (pv 0) rfl) (pa_cons (pe_tup (pa_cons (pv 1) (pa_cons (pv 2) (pa_cons (pv 3) (pa_cons (pv 4) pa_nil))))) pa_nil)))))
      (pss_one (ps_ret (pe_op o_sub (pe_op o_sub (pv 4) (pv 3)) (pe_meth (pe_fldK (K := K) (pv 0) rfl) T.cl_Tally T.d_Tally_below.g (ok_Tally_below T) (hr.mono (by decide)) T.d_Tally_below.b .nil passL (pa_cons (pe_op o_add (pe_op o_sub (pe_fldK (K := K) (pv 0) rfl) (pv 1)) (pv 3)) (pa_cons (pe_op o_add (pe_op o_sub (pe_fldK (K := K) (pv 0) rfl) (pv 2)) (pv 4)) pa_nil))))))), ?_⟩
    obtain ⟨dx, tp, ga, sa, h1, h2, h3, h4, h5, h6, h7⟩ := hp
    obtain ⟨g1, g2, g3, g4, g5, g6⟩ := id hk
    walk_at "go"
    rename_i t H1 n1 e1 v1
    refine ⟨t, m, l.length - m, f, la, b, e, rfl, v1, hk, ?_⟩
    have h1' := e1.get h1
    have h2' := h2.ex e1
    obtain ⟨_, _, _, _, hins, _⟩ := id h2'
    walk_at "go"
    rw [show ((m : Nat) : Int) - (f : Nat) + (b : Nat) = ((m - f + b : Nat) : Int) by omega, show ((m : Nat) : Int) - (la : Nat) + (e : Nat) = ((m - la + e : Nat) : Int) by omega]
    refine ⟨tp, l, _, _, rfl, h2', ⟨_, rfl⟩, ⟨_, rfl⟩, fun h => nat_no (by omega) h, fun _ h => nat_no (by omega) h, fun i j hi hj _ _ => ?_⟩
    have q1 : i = m - f + b := by have := V.int.inj hi; omega
    have q2 : j = m - la + e := by have := V.int.inj hj; omega
    subst q1
    subst q2
    walk_at "go"
    exact k _ e1
def sp_Asks_stretch (K : PySem.W.Frag) : Sp := fun vs H Q E => ∃ (p : Addr) (l : List Nat) (m b e : Nat), vs = [.ref p, .int (b : Nat), .int (e : Nat)] ∧ AsksAt K H p l m ∧ b ≤ e ∧ e ≤ l.length - m ∧ ∀ H', Ex H H' → Q (.int (winV l m 0 m b e)) H'
theorem ok_Asks_stretch (T : Tx K mg ad fd tk base tc) : FnOk P w K mg base CX0 6 (ad 25) (fd 25) ["self", "begin", "end"] (sp_Asks_stretch K) := by
  refine T.d_Asks_stretch.F.ok sc_Asks_stretch (fun vs H Q E h => ?_) (fun cdv A outer s H vs Q E hr h => ?_)
  · obtain ⟨p, l, m, b, e, rfl, _⟩ := h
    rfl
  · obtain ⟨p, l, m, b, e, rfl, hp, h1, h2, k⟩ := h
    refine ⟨_, (pss_cons (ps_expr (pe_call (ok_need_span T) (hr.mono (by decide)) rfl T.d_need_span.g T.d_need_span.F.kp T.d_need_span.b .nil passL (pa_cons (pv 1) (pa_cons (pv 2) (pa_cons (pe_fldK (K := K) (pv 0) rfl) pa_nil)))))
      (pss_one (ps_ret (pe_meth (pv 0) T.cl_Asks T.d_Asks_window.g (ok_Asks_window T) (hr.mono (by decide)) T.d_Asks_window.b .nil pass0 (pa_cons pe_int (pa_cons (pe_fldK (K := K) (pv 0) rfl) (pa_cons (pv 1) (pa_cons (pv 2) pa_nil)))))))), ?_⟩
    obtain ⟨dx, tp, ga, sa, g1, g2⟩ := id hp
    walk_at "go"
    refine use_span h1 h2 ?_
    walk_at "go"
    exact ⟨p, l, m, 0, m, b, e, rfl, hp, ⟨Nat.zero_le _, Nat.le_refl _, h1, h2, .inl rfl, .inl rfl⟩, k⟩
def sp_Asks_tightest (K : PySem.W.Frag) : Sp := fun vs H Q E => ∃ (p : Addr) (l : List Nat) (m : Nat) (c : Nat), vs = [.ref p, .int (c : Nat)] ∧ AsksAt K H p l m ∧ c ≤ 96 ∧ ∀ F zs H', Ex H H' → H F = none → H' F = some (.lst (zs.map zV)) → TP H' zs → zs.map (·.2) = tgL l m (c : Nat) → Q (.ref F) H'
theorem ok_Asks_tightest (T : Tx K mg ad fd tk base tc) : FnOk P w K mg base CX0 7 (ad 26) (fd 26) ["self", "length"] (sp_Asks_tightest K) := by
  refine T.d_Asks_tightest.F.ok sc_Asks_tightest (fun vs H Q E h => ?_) (fun cdv A outer s H vs Q E hr h => ?_)
  · obtain ⟨p, l, m, c, rfl, _⟩ := h
    rfl
  · obtain ⟨p, l, m, c, rfl, hp, hc, k⟩ := h
    refine ⟨_, (pss_cons (ps_expr (pe_call (ok_need_place T) (hr.mono (by decide)) rfl T.d_need_place.g T.d_need_place.F.kp T.d_need_place.b .nil passL (pa_cons (pv 1) (pa_cons (pe_glob (v := .int 96) rfl T.c_MOST_LENGTH ⟨_, rfl⟩) pa_nil))))
      (pss_cons (ps_set (i := 2) sc_Asks_tightest.nd rfl (Or.inl rfl) (pe_lst pa_nil))
      (pss_cons (ps_set (i := 3) sc_Asks_tightest.nd rfl (Or.inl rfl) pe_int)
      (pss_cons (ps_for PassesOwn.never rfl (pi_range1 rfl T.b_range (pa_cons (pe_op o_add (pe_fldK (K := K) (pv 0) rfl) pe_int) pa_nil)) (pg_name (i := 4) sc_Asks_tightest.nd rfl (Or.inl rfl)) (pss_cons (ps_set (i := 3) sc_Asks_tightest.nd rfl (Or.inl rfl) (pe_callB (c_max rfl) (by rfl) T.b_max (by decide +kernel) (pa_cons (pv 4) (pa_cons (pv 3) pa_nil))))
      (pss_cons (ps_while PassesOwn.never (PW.pt (pw_and (pt_cmpR o_le (pv 3) (pe_fldK (K := K) (pv 0) rfl) (nomark _)) (pw_and1 (pt_cmpR o_lt (pe_meth (pv 0) T.cl_Asks T.d_Asks_stretch.g (ok_Asks_stretch T) (hr.mono (by decide)) T.d_Asks_stretch.b .nil pass0 (pa_cons (pv 4) (pa_cons (pv 3) pa_nil))) (pv 1) (nomark _))))) (pss_one (ps_aug (i := 3) sc_Asks_tightest.nd rfl (Or.inl rfl) pe_int ip_add)))
      (pss_cons (ps_if (pt_cmpR o_gt (pv 3) (pe_fldK (K := K) (pv 0) rfl) (nomark _)) (pss_one (ps_ret (pv 2))) pss_nil)
      (pss_one (ps_if (PW.pt (pw_or (pt_cmpR (o_eq hr.units) (pv 4) (pv 3) (nomark _)) (pw_or1 (pt_cmpR o_lt (pe_meth (pv 0) T.cl_Asks T.d_Asks_stretch.g (ok_Asks_stretch T) (hr.mono (by decide)) T.d_Asks_stretch.b .nil pass0 (pa_cons (pe_op o_add (pv 4) pe_int) (pa_cons (pv 3) pa_nil))) (pv 1) (nomark _))))) (pss_one (ps_expr (pe_bm PySem.F.plainAttrs_list PySem.F.slot_list_append PySem.F.type_list_append mt_append (pv 2) (pa_cons (pe_tup (pa_cons (pv 4) (pa_cons (pv 3) pa_nil))) pa_nil)))) pss_nil))))))
      (pss_one (ps_ret (pv 2))))))), ?_⟩
    obtain ⟨dx, tp, ga, sa, g1, g2, g3, g4, g5, g6, g7⟩ := id hp
    walk_at "go"
    refine ⟨_, _, rfl, ⟨_, rfl⟩, fun h => nat_no hc h, fun _ => ?_⟩
    walk_at "go"
    rename_i F H1 n1 e1 v1
    rw [show (((l.length - m : Nat) : Int) + 1).toNat = l.length - m + 1 by omega]
    refine for_runs (runs_range 0 _) (fun i σ H' => ∃ (zs : List ZP) (e : Nat) (y : Option V), FrP F H1 H' ∧ H' F = some (.lst (zs.map zV)) ∧ TP H' zs ∧ zs.map (·.2) = (List.range i).flatMap (tgB l m (c : Nat)) ∧ e ≤ l.length - m ∧ (∀ d, i ≤ d → d < e → ¬ ((c : Nat) : Int) ≤ winV l m 0 m i d) ∧ σ = [some (.ref p), some (.int (c : Nat)), some (.ref F), some (.int (e : Nat)), y]) ⟨[], 0, _, Fr.refl _, v1, fun z hz => (by cases hz), rfl, Nat.zero_le _, fun d _ h => by omega, rfl⟩ (fun _ _ _ _ _ => trivial) ?_ ?_
    rotate_left
    · rintro σ H2 ⟨zs, e, y, f2, v2, tz, hz, _, _, rfl⟩
      walk_at "go"
      exact k F zs H2 (Ex.comp (M := fun b => b = F) e1 f2 fun b hb => by rw [hb]; exact n1) n1 v2 tz hz
    rintro i x σ H0 H2 hi ⟨zs, e, y, f2, v2, tz, hz, he, hno, rfl⟩ ⟨rfl, rfl⟩
    have e02 : Ex H H2 := Ex.comp (M := fun b => b = F) e1 f2 fun b hb => by rw [hb]; exact n1
    rw [show (0 : Int) + ((i : Nat) : Int) = (i : Nat) by omega]
    walk_at "go"
    rw [show (if ((e : Nat) : Int) > ((i : Nat) : Int) then ((e : Nat) : Int) else ((i : Nat) : Int)) = ((max i e : Nat) : Int) by split <;> omega]
    obtain ⟨e1', he1⟩ : ∃ e1', e1' = max i e := ⟨_, rfl⟩
    rw [← he1]
    have hno1 : ∀ d, i ≤ d → d < e1' → ¬ ((c : Nat) : Int) ≤ winV l m 0 m i d := fun d h1 h2 => hno d h1 (by omega)
    refine while_inv (fun u σ H' => ∃ e', u + e' = l.length - m + 1 ∧ i ≤ e' ∧ (∀ d, i ≤ d → d < e' → ¬ ((c : Nat) : Int) ≤ winV l m 0 m i d) ∧ Ex H2 H' ∧ σ = [some (.ref p), some (.int (c : Nat)), some (.ref F), some (.int (e' : Nat)), some (.int (i : Nat))]) ⟨l.length - m + 1 - e1', e1', by omega, by omega, hno1, Fr.refl _, rfl⟩ ?_
    rintro u σ H3 ⟨e', hu, hie, hno2, e3, rfl⟩
    have hp3 := hp.ex (e02.trans e3)
    have g3' := (e02.trans e3).get g1
    have v3 := e3.get v2
    have t3 := tz.ex e3
    have ret : ∀ {H4 : Hp} {ys : List ZP}, Ex H2 H4 ∨ FrP F H1 H4 → H4 F = some (.lst (ys.map zV)) → TP H4 ys → ys.map (·.2) = tgL l m (c : Nat) → Q (.ref F) H4 := fun h v t q => by
      have f4 : FrP F H1 _ := h.elim (fun e => f2.trans (Fr.ex e)) id
      exact k F _ _ (Ex.comp (M := fun b => b = F) e1 f4 fun b hb => by rw [hb]; exact n1) n1 v t q
    walk_at "go"
    refine st_br2 (fun c1 => ?_) (fun c1 => ?_)
    rotate_left
    · refine wh_F rfl ?_
      walk_at "go"
      refine st_br2 (fun c2 => ?_) (fun c2 => absurd c2 (by omega))
      walk_at "go"
      exact ret (.inl e3) v3 t3 (hz.trans (tgL_cut (by omega) fun d h1 h2 => hno2 d h1 (by omega)).symm)
    walk_at "go"
    refine ⟨p, l, m, i, e', rfl, hp3, hie, by omega, fun H4 e4 => ?_⟩
    have e24 := e3.trans e4
    have hp4 := hp3.ex e4
    have g4' := e4.get g3'
    have v4 := e4.get v3
    have t4 := t3.ex e4
    walk_at "go"
    by_cases q : winV l m 0 m i e' < ((c : Nat) : Int)
    · refine wh_T (decide_eq_true q) ?_
      walk_at "go"
      refine ⟨u - 1, by omega, e' + 1, by omega, by omega, fun d h1 h2 => ?_, e24, rfl⟩
      by_cases z : d = e'
      · rw [z]; omega
      · exact hno2 d h1 (by omega)
    refine wh_F (decide_eq_false q) ?_
    have hE : endT l m (c : Nat) i = e' := (endT_at (by omega)).uniq ⟨hie, by omega, hno2, fun _ => by omega⟩
    walk_at "go"
    refine st_br2 (fun c2 => absurd c2 (by omega)) (fun _ => ?_)
    have nx : ∀ (b : Bool), b = decide (i = e' ∨ winV l m 0 m (i + 1) e' < ((c : Nat) : Int)) → tgB l m (c : Nat) i = if b = true then [(i, e')] else [] := fun b hb => by
      unfold tgB
      rw [hE, hb]
      by_cases z : i = e' ∨ winV l m 0 m (i + 1) e' < ((c : Nat) : Int)
      · rw [if_pos ⟨by omega, z⟩, if_pos (decide_eq_true z)]
      · rw [if_neg fun h => z h.2, if_neg (by simpa using z)]
    have st : ∀ d, i + 1 ≤ d → d < e' → ¬ ((c : Nat) : Int) ≤ winV l m 0 m (i + 1) d := fun d h1 h2 h3 => by
      have := (win_begin (l := l) (m := m) (b := i) (e := d) (by omega)).1
      exact hno2 d (by omega) h2 (by omega)
    have fin : ∀ (H5 : Hp) (r : Addr), Ex H2 H5 → H5 r = some (.tup [.int (i : Nat), .int (e' : Nat)]) → (i = e' ∨ winV l m 0 m (i + 1) e' < ((c : Nat) : Int)) → FrP F H1 (upd H5 F (.lst (zs.map zV ++ [.ref r]))) ∧ upd H5 F (.lst (zs.map zV ++ [.ref r])) F = some (.lst ((zs ++ [(r, (i, e'))]).map zV)) ∧ TP (upd H5 F (.lst (zs.map zV ++ [.ref r]))) (zs ++ [(r, (i, e'))]) ∧ (zs ++ [(r, (i, e'))]).map (·.2) = (List.range (i + 1)).flatMap (tgB l m (c : Nat)) := fun H5 r e5 v5 hc2 => by
      refine ⟨(f2.trans (Fr.ex e5)).trans FrP.at, by rw [upd_same, List.map_append]; rfl, TP.up ((tz.ex e5).app (TP.cons v5 fun z hz => (by cases hz))) (e5.get v2), ?_⟩
      rw [List.map_append, hz, tgP_succ, nx true (decide_eq_true hc2).symm, if_pos rfl]
      rfl
    have zl : zs.length ≤ i := by
      have := congrArg List.length hz
      rw [List.length_map] at this
      rw [this]
      exact tgP_len _ _ _ _
    walk_at "go"
    refine st_br2 (fun z => ?_) (fun z => ?_)
    · walk_at "go"
      rename_i r H5 n5 e5 v5
      refine st_app (e5.get v4) (by rw [List.length_map]; omega) ?_
      obtain ⟨a1, a2, a3, a4⟩ := fin H5 r (e24.trans e5) v5 (.inl (by omega))
      exact ⟨_, e', _, a1, a2, a3, a4, by omega, st, rfl⟩
    walk_at "go"
    refine ⟨p, l, m, i + 1, e', rfl, hp4, by omega, by omega, fun H5 e5 => ?_⟩
    have v5 := e5.get v4
    walk_at "go"
    refine st_br2 (fun w => ?_) (fun w => ?_)
    · walk_at "go"
      rename_i r H6 n6 e6 v6
      refine st_app (e6.get v5) (by rw [List.length_map]; omega) ?_
      obtain ⟨a1, a2, a3, a4⟩ := fin H6 r (e24.trans (e5.trans e6)) v6 (.inr w)
      exact ⟨_, e', _, a1, a2, a3, a4, by omega, st, rfl⟩
    · refine ⟨zs, e', _, f2.trans (Fr.ex (e24.trans e5)), v5, t4.ex e5, ?_, by omega, st, rfl⟩
      rw [hz, tgP_succ, nx false (decide_eq_false fun h => h.elim (fun h => z (by omega)) w).symm, if_neg Bool.false_ne_true, List.append_nil]
def sp_Asks_shortest (K : PySem.W.Frag) (TL : List (Addr × Str)) : Sp := fun vs H Q E => ∃ (p : Addr) (l : List Nat) (m : Nat) (c : Nat), vs = [.ref p, .int (c : Nat)] ∧ AsksAt K H p l m ∧ LamX.Tabs TL H ∧ c ≤ 96 ∧ (tgL l m (c : Nat) = [] → ∀ H', Ex (noT H) H' → LamX.Tabs TL H' → Q .non H') ∧ (∀ (b e : Nat) t H', (b, e) ∈ tgL l m (c : Nat) → (∀ q ∈ tgL l m (c : Nat), lexP ((q.2 : Int) - q.1, q.1) ((e : Int) - b, b) = false) → Ex (noT H) H' → LamX.Tabs TL H' → H' t = some (.tup [.int (b : Nat), .int (e : Nat)]) → Q (.ref t) H')
theorem ok_Asks_shortest (T : Tx K mg ad fd tk base tc) : FnOk P w K mg base CX0 8 (ad 27) (fd 27) ["self", "length"] (sp_Asks_shortest K (tabsL tc)) := by
  refine T.fc_Asks_shortest.ok sc_Asks_shortest (fun vs H Q E h => ?_) (fun A outer s H vs Q E hr h => ?_)
  · obtain ⟨p, l, m, c, rfl, _⟩ := h
    rfl
  · obtain ⟨p, l, m, c, rfl, hp, hT, hc, k⟩ := h
    refine ⟨_, (pss_cons (ps_set (i := 2) sc_Asks_shortest.nd rfl (Or.inl rfl) (pe_meth (pv 0) T.cl_Asks T.d_Asks_tightest.g (ok_Asks_tightest T) (hr.mono (by decide)) T.d_Asks_tightest.b .nil pass0 (pa_cons (pv 1) pa_nil)))
      (pss_one (ps_ret (pe_callBK (c_minKD rfl (hr.mono (by decide)) (mk := fun c => ⟨q_Asks_shortest, lamA L_Asks_shortest, lamB L_Asks_shortest, lamSc L_Asks_shortest, [], c⟩) (fun _ _ => lok_t (k := 0) (N := ["span"]) (ps := ["span"]) (fr := []) (nscope_by nsc_Asks_shortest) (fun _ _ us hl => match us, hl with | [_], _ => rfl) (fun _ _ _ _ hr => (pe_tup (pa_cons (pe_op o_sub (pe_ix (i_ix (K := K)) (pv 0) pe_int (fun _ _ => rfl)) (pe_ix (i_ix (K := K)) (pv 0) pe_int (fun _ _ => rfl))) (pa_cons (pe_ix (i_ix (K := K)) (pv 0) pe_int (fun _ _ => rfl)) pa_nil))))) (fun _ => rfl) (K := K)) (by rfl) T.b_min (by decide +kernel) (pa_cons (pv 2) pa_nil) (pk_cons (pe_lamb (T := tabsL tc) (params := lamA L_Asks_shortest) (body := lamB L_Asks_shortest) (scope := lamSc L_Asks_shortest) T.tb_Asks_shortest rfl tabs_m_Asks_shortest (tabs_u_Asks_shortest T) rfl (ndef_free (fr := []) ndf_Asks_shortest)) (pk_cons pe_non pk_nil)))))), ?_⟩
    obtain ⟨k0, k1⟩ := k
    obtain ⟨dx, tp, ga, sa, g1, _⟩ := id hp
    walk_at "go"
    refine ⟨p, l, m, c, rfl, hp, hc, fun F zs H1 e1 n1 v1 tz hz => ?_⟩
    have hT1 : LamX.Tabs (tabsL tc) H1 := hT.ext fun b o h => e1.get h
    walk_at "go"
    refine st_lamb hT1 fun f c' H2 eT nn hT2 nf f2 c2 => ?_
    walk_at "go"
    have v2 := eT.ex.get (noT_get v1 fun _ q => (by cases q))
    have t2 : TP H2 zs := fun z hz => eT.ex.get (noT_get (tz z hz) fun _ q => (by cases q))
    have e02 : Ex (noT H) H2 := fun b o n h => eT.ex b o n (noT_get (e1.get (noT_of h).1) (noT_of h).2)
    have hzn : ∀ (i : Nat) x, (zs.map zV)[i]? = some x → ∃ z, zs[i]? = some z ∧ x = .ref z.1 ∧ H2 z.1 = some (tupO z.2) := fun i x hx => by
      rw [List.getElem?_map] at hx
      obtain ⟨z, h1, rfl⟩ := Option.map_eq_some_iff.mp hx
      exact ⟨z, h1, rfl, t2 z (List.mem_of_getElem? h1)⟩
    refine ⟨F, f, c', zs.map zV, .non, fun i => ((((zs.getD i (0, (0, 0))).2.2 : Nat) : Int) - ((zs.getD i (0, (0, 0))).2.1 : Nat), ((zs.getD i (0, (0, 0))).2.1 : Nat)), rfl, rfl, v2, f2, c2, fun i x H' hx hE => ?_, fun hx H' tX => ?_, fun i x H' hx hb tX => ?_⟩
    · obtain ⟨z, h1, rfl, h2⟩ := hzn i x hx
      have hzF : z.1 ≠ F := fun q => by rw [q, v2] at h2; cases h2
      have h3 : H' z.1 = some (.tup [.int (z.2.1 : Nat), .int (z.2.2 : Nat)]) := hE.get (hid_get h2 hzF)
      have hgd : zs.getD i (0, (0, 0)) = z := by rw [List.getD_eq_getElem?_getD, h1]; rfl
      dsimp only
      rw [hgd]
      refine ⟨rfl, ?_⟩
      show tTup _ [some (V.ref z.1)] H' _
      unfold tTup
      walk_at "go"
      exact ⟨by show 2 ≤ sizeLine; decide, fun q nq => ⟨q, rfl, nq, rfl⟩⟩
    · have hz0 : zs = [] := List.map_eq_nil_iff.mp hx
      rw [hz0] at hz
      exact k0 hz.symm H' (e02.trans tX.1) (hT2.ext fun b o h => tX.1.get h)
    · obtain ⟨z, h1, rfl, h2⟩ := hzn i x hx
      have hm : z.2 ∈ tgL l m (c : Nat) := by
        rw [← hz]
        exact List.mem_map.mpr ⟨z, List.mem_of_getElem? h1, rfl⟩
      refine k1 z.2.1 z.2.2 z.1 H' hm (fun q hq => ?_) (e02.trans tX.1) (hT2.ext fun b o h => tX.1.get h) (tX.1.get h2)
      rw [← hz] at hq
      obtain ⟨y, hy, rfl⟩ := List.mem_map.mp hq
      obtain ⟨j, hj⟩ := List.getElem?_of_mem hy
      have hjl := (List.getElem?_eq_some_iff.mp hj).1
      have := hb j (by rw [List.length_map]; exact hjl)
      have g1 : zs.getD i (0, (0, 0)) = z := by rw [List.getD_eq_getElem?_getD, h1]; rfl
      have g2 : zs.getD j (0, (0, 0)) = y := by rw [List.getD_eq_getElem?_getD, hj]; rfl
      dsimp only at this
      rw [g1, g2] at this
      exact this
theorem mem_tgL {l : List Nat} {m : Nat} {c : Int} {b e : Nat} : (b, e) ∈ tgL l m c ↔ b ≤ l.length - m ∧ e = endT l m c b ∧ e ≤ l.length - m ∧ (b = e ∨ winV l m 0 m (b + 1) e < c) := by
  unfold tgL
  rw [List.mem_flatMap]
  constructor
  · rintro ⟨x, hx, h⟩
    rw [List.mem_range] at hx
    unfold tgB at h
    split at h
    · rename_i q
      rw [List.mem_singleton] at h
      injection h with h1 h2
      subst h1
      rw [h2]
      exact ⟨by omega, rfl, q.1, q.2⟩
    · cases h
  · rintro ⟨h1, rfl, h3, h4⟩
    refine ⟨b, List.mem_range.mpr (by omega), ?_⟩
    unfold tgB
    rw [if_pos ⟨h3, h4⟩]
    exact List.mem_singleton.mpr rfl
theorem tg_enough {l : List Nat} {m : Nat} {c : Int} {b e : Nat} (h : (b, e) ∈ tgL l m c) : b ≤ e ∧ e ≤ l.length - m ∧ c ≤ winV l m 0 m b e := by
  obtain ⟨h1, h2, h3, _⟩ := mem_tgL.mp h
  have E := endT_at (l := l) (m := m) (c := c) (b := b) (by omega)
  rw [← h2] at E
  exact ⟨E.lo, h3, E.yes h3⟩
/-- what has enough holds a tightest -/
theorem tg_some {l : List Nat} (hT : IsT l) {m : Nat} {c : Int} : ∀ (k b e : Nat), e - b = k → b ≤ e → e ≤ l.length - m → c ≤ winV l m 0 m b e → ∃ b' e', (b', e') ∈ tgL l m c ∧ b ≤ b' ∧ b' ≤ e' ∧ e' ≤ e := by
  intro k
  induction k with
  | zero =>
    intro b e h1 h2 h3 h4
    have E := endT_at (l := l) (m := m) (c := c) (b := b) (by omega)
    have hle : endT l m c b ≤ e := Nat.le_of_not_lt fun z => E.no e h2 z h4
    have hlo := E.lo
    exact ⟨b, endT l m c b, mem_tgL.mpr ⟨by omega, rfl, by omega, .inl (by omega)⟩, Nat.le_refl _, hlo, hle⟩
  | succ k ih =>
    intro b e h1 h2 h3 h4
    by_cases q : c ≤ winV l m 0 m (b + 1) e
    · obtain ⟨b', e', h5, h6, h7, h8⟩ := ih (b + 1) e (by omega) (by omega) h3 q
      exact ⟨b', e', h5, by omega, h7, h8⟩
    · have E := endT_at (l := l) (m := m) (c := c) (b := b) (by omega)
      have hle : endT l m c b ≤ e := Nat.le_of_not_lt fun z => E.no e h2 z h4
      have hlo := E.lo
      refine ⟨b, endT l m c b, mem_tgL.mpr ⟨by omega, rfl, by omega, ?_⟩, Nat.le_refl _, hlo, hle⟩
      by_cases z : b = endT l m c b
      · exact .inl z
      · have := win_up hT (m := m) (b := b + 1) (e := endT l m c b) (e' := e) (by omega) hle h3
        exact .inr (by omega)
theorem tg_least {l : List Nat} (hT : IsT l) {m : Nat} {c : Int} {b e b' e' : Nat} (h : (b, e) ∈ tgL l m c) (hb : ∀ q ∈ tgL l m c, lexP ((q.2 : Int) - q.1, q.1) ((e : Int) - b, b) = false) (hs : ShortR l m c b' e') : b = b' ∧ e = e' := by
  obtain ⟨h1, h2, h3, h4⟩ := hs
  obtain ⟨g1, g2, g3⟩ := tg_enough h
  obtain ⟨b2, e2, k1, k2, k3, k4⟩ := tg_some hT _ b' e' rfl h1 h2 h3
  have r1 := h4 b e g1 g2 g3
  have r2 := hb _ k1
  simp [lexP] at r2
  omega
theorem natsL_nd (ns : List Nat) : (PyData.list (ns.map encN)).hasDict = false := by
  simp only [PyData.hasDict]
  exact hasDictA_of fun d hd => by obtain ⟨i, _, rfl⟩ := List.mem_map.mp hd; rfl
theorem prsL_nd (ns : List (Nat × Nat)) : (PyData.list (ns.map encQ)).hasDict = false := by
  simp only [PyData.hasDict]
  exact hasDictA_of fun d hd => by obtain ⟨i, _, rfl⟩ := List.mem_map.mp hd; rfl
theorem natsL_depth (ns : List Nat) : (PyData.list (ns.map encN)).depth ≤ 3 := by
  have := depth_map (xs := ns) (enc := encN) (n := 1) fun i _ => by simp [encN, PyData.depth]
  simp only [PyData.depth]
  omega
theorem prsL_depth (ns : List (Nat × Nat)) : (PyData.list (ns.map encQ)).depth ≤ 3 := by
  have := depth_map (xs := ns) (enc := encQ) (n := 2) fun i _ => by simp [encQ, PyData.depth, PyData.depthAll]
  simp only [PyData.depth]
  omega
theorem rp_natsL {H : Hp} {r : Addr} {ns : List Nat} (h : H r = some (.lst (ns.map nV))) : Rp H (.ref r) (.list (ns.map encN)) := .lst (lst_of h) (rpA_map (enc := encN) fun x _ => .int x)
theorem gainL_len (l : List Nat) (m b : Nat) : (gainL l m b).length ≤ l.length := by
  unfold gainL
  rw [List.length_map]
  have := List.length_filter_le (fun i => decide (gT (invT l) (b + i) < m + b)) (List.range (l.length - m - b))
  rw [List.length_range] at this
  omega
theorem lossL_len (l : List Nat) (m b : Nat) : (lossL l m b).length ≤ b := by
  unfold lossL
  have := List.length_filter_le (fun i => decide (b ≤ gT l (m + i))) (List.range b)
  rw [List.length_range] at this
  omega
theorem kno_nt {H H' : Hp} {p : Addr} {rs : List Addr} {l : List Nat} {m : Nat} (T : Kno H p rs l m) (e : Ex (noT H) H') : Kno H' p rs l m := ⟨e.get (noT_get T.at_ fun _ z => (by cases z)), .of T.rows.len fun k x o h1 h2 => by
  have h3 := T.rows.at k x o h1 h2
  rw [List.getElem?_map] at h2
  obtain ⟨b, _, rfl⟩ := Option.map_eq_some_iff.mp h2
  exact e.get (noT_get h3 fun _ z => (by cases z))⟩
theorem exT_tr {H H1 H2 : Hp} (a : Ex H H1) (b : Ex (noT H1) H2) : Ex (noT H) H2 := fun x o n h => b x o n (noT_get (a.get (noT_of h).1) (noT_of h).2)
theorem rp_tup2 {H : Hp} {r : Addr} {x y : Int} (h : H r = some (.tup [.int x, .int y])) : Rp H (.ref r) (.tuple [.int x, .int y]) := .tup (tup_of h) (.cons (.int _) (.cons (.int _) .nil))
def sp__law_asked (K : PySem.W.Frag) (TL : List (Addr × Str)) : Sp := fun vs H Q _ => ∃ (p D : Addr) (l : List Nat) (m : Nat) (rs : List Addr) (c : Int), vs = [.ref p, .ref D, .int c] ∧ AsksAt K H p l m ∧ Kno H D rs l m ∧ l.length ≤ 60 ∧ LamX.Tabs TL H ∧ ∀ H', Ex (noT H) H' → LamX.Tabs TL H' → Q (.bl true) H'
theorem ok__law_asked (T : Tx K mg ad fd tk base tc) : FnOk P w K mg base CX0 9 (ad 28) (fd 28) ["_law_asks", "_law_known", "_law_cell_here"] (sp__law_asked K (tabsL tc)) := by
  refine T.d__law_asked.F.ok sc__law_asked (fun vs H Q E h => ?_) (fun cdv A outer s H vs Q E hr h => ?_)
  · obtain ⟨p, D, l, m, rs, c, rfl, _⟩ := h
    rfl
  · obtain ⟨p, D, l, m, rs, c, rfl, hp, hK, h60, hT, k⟩ := h
    refine ⟨_, (pss_cons (ps_set (i := 3) sc__law_asked.nd rfl (Or.inl rfl) (pe_op o_sub (pe_callB (c_len (K := K)) (by rfl) T.b_len (by decide +kernel) (pa_cons (pv 1) pa_nil)) pe_int))
      (pss_cons (ps_asg (pe_call (ok__law_numbers T) (hr.mono (by decide)) rfl T.d__law_numbers.g T.d__law_numbers.F.kp T.d__law_numbers.b .nil pass0 (pa_cons (pv 2) (pa_cons (pe_lst (pa_cons pe_int (pa_cons pe_int (pa_cons (pe_op o_add (pv 3) pe_int) (pa_cons (pe_op o_add (pv 3) pe_int) pa_nil))))) (pa_cons pe_int pa_nil)))) (pg_lst rfl (pgs_cons (pg_name (i := 4) sc__law_asked.nd rfl (Or.inl rfl)) (pgs_cons (pg_name (i := 5) sc__law_asked.nd rfl (Or.inl rfl)) (pgs_cons (pg_name (i := 6) sc__law_asked.nd rfl (Or.inl rfl)) (pgs_cons (pg_name (i := 7) sc__law_asked.nd rfl (Or.inl rfl)) pgs_nil))))))
      (pss_cut (ps_if (pt_cmpR (o_eq hr.units) (pv 5) pe_int (nomark _)) (pss_one (ps_set (i := 7) sc__law_asked.nd rfl (Or.inl rfl) (pe_op o_mod (pv 2) pe_int))) pss_nil)
      (pss_cut (ps_if (pt_cmpR (o_eq hr.units) (pv 4) pe_int (nomark _)) (pss_cons (ps_set (i := 8) sc__law_asked.nd rfl (Or.inl rfl) (pe_meth (pv 0) T.cl_Asks T.d_Asks_gains.g (ok_Asks_gains T) (hr.mono (by decide)) T.d_Asks_gains.b .nil pass0 (pa_cons (pv 6) pa_nil)))
      (pss_one (ps_set (i := 9) sc__law_asked.nd rfl (Or.inl rfl) (pe_call (ok__law_gains T) (hr.mono (by decide)) rfl T.d__law_gains.g T.d__law_gains.F.kp T.d__law_gains.b .nil pass0 (pa_cons (pv 1) (pa_cons (pv 6) pa_nil)))))) (pss_one (ps_if (pt_cmpR (o_eq hr.units) (pv 4) pe_int (nomark _)) (pss_cons (ps_set (i := 8) sc__law_asked.nd rfl (Or.inl rfl) (pe_meth (pv 0) T.cl_Asks T.d_Asks_losses.g (ok_Asks_losses T) (hr.mono (by decide)) T.d_Asks_losses.b .nil pass0 (pa_cons (pv 6) pa_nil)))
      (pss_one (ps_set (i := 9) sc__law_asked.nd rfl (Or.inl rfl) (pe_call (ok__law_losses T) (hr.mono (by decide)) rfl T.d__law_losses.g T.d__law_losses.F.kp T.d__law_losses.b .nil pass0 (pa_cons (pv 1) (pa_cons (pv 6) pa_nil)))))) (pss_one (ps_if (pt_cmpR (o_eq hr.units) (pv 4) pe_int (nomark _)) (pss_cons (ps_set (i := 8) sc__law_asked.nd rfl (Or.inl rfl) (pe_meth (pv 0) T.cl_Asks T.d_Asks_tightest.g (ok_Asks_tightest T) (hr.mono (by decide)) T.d_Asks_tightest.b .nil pass0 (pa_cons (pv 7) pa_nil)))
      (pss_one (ps_set (i := 9) sc__law_asked.nd rfl (Or.inl rfl) (pe_call (ok__law_tightest T) (hr.mono (by decide)) rfl T.d__law_tightest.g T.d__law_tightest.F.kp T.d__law_tightest.b .nil pass0 (pa_cons (pv 1) (pa_cons (pv 7) pa_nil)))))) (pss_one (ps_ret (pe_cmpR (o_eq hr.units) (pe_meth (pv 0) T.cl_Asks T.d_Asks_shortest.g (ok_Asks_shortest T) (hr.mono (by decide)) T.d_Asks_shortest.b .nil pass0 (pa_cons (pv 7) pa_nil)) (pe_call (ok__law_shortest T) (hr.mono (by decide)) rfl T.d__law_shortest.g T.d__law_shortest.F.kp T.d__law_shortest.b .nil pass0 (pa_cons (pv 1) (pa_cons (pv 7) pa_nil))) (nomark _)))))))))
      (pss_cons (ps_if (PW.pt (pw_or (pt_not (pt_val (pe_callB c_is (by rfl) T.b_isinstance (by decide +kernel) (pa_cons (pv 8) (pa_cons (pe_bltn (v := .ty "list") rfl T.b_list (by decide +kernel) rfl) pa_nil))))) (pw_or1 (pt_cmpR (o_ne hr.units) (pv 8) (pv 9) (nomark _))))) (pss_one (ps_ret pe_bl)) pss_nil)
      (pss_cons (ps_expr (pe_bm PySem.F.plainAttrs_list PySem.F.slot_list_append PySem.F.type_list_append mt_append (pv 8) (pa_cons pe_int pa_nil)))
      (pss_cons (ps_expr (pe_bm0 PySem.F.plainAttrs_list PySem.F.slot_list_reverse PySem.F.type_list_reverse mt_reverse (pv 8)))
      (pss_one (ps_ret pe_bl))))))))), ?_⟩
    have hat := hK.at_
    have hlen := hK.len
    obtain ⟨dx, tp, ga, sa, g1, g2, g3, g4, g5, g6, g7⟩ := id hp
    walk_at "go"
    obtain ⟨w, hw⟩ : ∃ w, w = l.length - m := ⟨_, rfl⟩
    rw [← hw] at hlen g1
    have hwd : (((rs.map V.ref).length : Nat) : Int) - 1 = (w : Nat) := by rw [List.length_map, hlen]; omega
    rename_i q0 H1 n1 e1 v1
    rw [hwd] at v1 ⊢
    refine ⟨c, q0, [4, 4, (w : Nat) + 1, (w : Nat) + 2], 2147483587, rfl, v1, fun b hb => ?_, by show 4 ≤ 1000; decide, by decide, fun q H2 ds e2 nq vq dg => ?_⟩
    · simp only [List.mem_cons, List.not_mem_nil, or_false] at hb
      rcases hb with rfl | rfl | rfl | rfl <;> omega
    obtain ⟨d0, d1, d2, d3, rfl⟩ : ∃ d0 d1 d2 d3, ds = [d0, d1, d2, d3] := by
      match ds, dg.1 with
      | [a, b, c, d], _ => exact ⟨a, b, c, d, rfl⟩
    obtain ⟨b2, hb2, l2, u2⟩ := dg.2 2 d2 rfl
    obtain ⟨b3, hb3, l3, u3⟩ := dg.2 3 d3 rfl
    have hb2 : (w : Int) + 1 = b2 := Option.some.inj hb2
    have hb3 : (w : Int) + 2 = b3 := Option.some.inj hb3
    have vq : H2 q = some (.lst [.int d0, .int d1, .int d2, .int d3]) := vq
    obtain ⟨at', ha'⟩ : ∃ at' : Nat, d2 = (at' : Int) := ⟨d2.toNat, by omega⟩
    obtain ⟨ln', hl'⟩ : ∃ ln' : Nat, d3 = (ln' : Int) := ⟨d3.toNat, by omega⟩
    subst ha' hl'
    have e02 := e1.trans e2
    have hT2 : LamX.Tabs (tabsL tc) H2 := hT.ext fun b o h => e02.get h
    have p2 := hp.ex e02
    have K2 := hK.ex e02
    have g2' := e02.get g1
    walk_at "go"
    refine ⟨fun σ' H' => H' = H2 ∧ ∃ ln : Nat, ln ≤ 96 ∧ σ' = [some (.ref p), some (.ref D), some (.int c), some (.int (w : Nat)), some (.int d0), some (.int d1), some (.int (at' : Nat)), some (.int (ln : Nat)), none, none], ?_, ?_⟩
    · refine st_ifS ?_
      walk_at "go"
      refine st_br2 (fun z => ?_) (fun _ => ?_)
      · walk_at "go"
        have b0 := Int.emod_nonneg c (b := 97) (by omega)
        have b1 := Int.emod_lt_of_pos c (b := 97) (by omega)
        obtain ⟨ln, hln⟩ : ∃ ln : Nat, c % 97 = (ln : Int) := ⟨(c % 97).toNat, by omega⟩
        exact ⟨rfl, ln, by omega, by rw [hln]; rfl⟩
      · exact ⟨rfl, ln', by omega, rfl⟩
    rintro σ' H' ⟨rfl, ln, hln, rfl⟩
    walk_at "go"
    refine ⟨fun σ' G => (∃ (T U : Addr) (xs : List V) (d : PyData), Ex H' G ∧ H' T = none ∧ G T = some (.lst xs) ∧ xs.length ≤ 1000 ∧ Rp G (.ref T) d ∧ Rp G (.ref U) d ∧ d.depth ≤ 3 ∧ d.hasDict = false ∧ σ' = [some (.ref p), some (.ref D), some (.int c), some (.int (w : Nat)), some (.int d0), some (.int d1), some (.int (at' : Nat)), some (.int (ln : Nat)), some (.ref T), some (.ref U)]), ?_, ?_⟩
    · refine st_ifS ?_
      walk_at "go"
      refine st_br2 (fun _ => ?_) (fun _ => ?_)
      · walk_at "go"
        refine ⟨p, l, m, at', rfl, p2, by omega, fun T H3 e3 n3 v3 => ?_⟩
        walk_at "go"
        refine ⟨D, l, m, rs, at', rfl, K2.ex e3, by omega, ⟨g5, by omega⟩, fun U H4 e4 n4 v4 => ?_⟩
        exact ⟨T, U, _, _, e3.trans e4, n3, e4.get v3, by rw [List.length_map]; have := gainL_len l m at'; omega, rp_natsL (e4.get v3), rp_natsL v4, natsL_depth _, natsL_nd _, rfl⟩
      walk_at "go"
      refine st_br2 (fun _ => ?_) (fun _ => ?_)
      · walk_at "go"
        refine ⟨p, l, m, at', rfl, p2, by omega, fun T H3 e3 n3 v3 => ?_⟩
        walk_at "go"
        refine ⟨D, l, m, rs, at', rfl, K2.ex e3, by omega, g7, by omega, fun U H4 e4 n4 v4 => ?_⟩
        exact ⟨T, U, _, _, e3.trans e4, n3, e4.get v3, by rw [List.length_map]; have := lossL_len l m at'; omega, rp_natsL (e4.get v3), rp_natsL v4, natsL_depth _, natsL_nd _, rfl⟩
      walk_at "go"
      refine st_br2 (fun _ => ?_) (fun _ => ?_)
      · walk_at "go"
        refine ⟨p, l, m, ln, rfl, p2, hln, fun T zs H3 e3 n3 v3 t3 h3 => ?_⟩
        walk_at "go"
        refine ⟨D, l, m, rs, (ln : Nat), rfl, K2.ex e3, g7, by omega, g5, fun U ys H4 e4 n4 v4 t4 h4 => ?_⟩
        have r1 := (t3.ex e4).rpL (e4.get v3)
        have r2 := t4.rpL v4
        rw [show (zs.map fun z => encQ z.2) = (zs.map (·.2)).map encQ by rw [List.map_map]; rfl, h3] at r1
        rw [show (ys.map fun z => encQ z.2) = (ys.map (·.2)).map encQ by rw [List.map_map]; rfl, h4] at r2
        exact ⟨T, U, _, _, e3.trans e4, n3, e4.get v3, by have h5 := congrArg List.length h3; have := tgF_len l m (ln : Nat) (List.range (l.length - m + 1)); rw [List.length_range] at this; rw [List.length_map] at h5 ⊢; unfold tgL at h5; omega, r1, r2, prsL_depth _, prsL_nd _, rfl⟩
      walk_at "go"
      have h9 : m ≤ l.length := g7
      refine ⟨p, l, m, ln, rfl, p2, hT2, hln, fun h0 H3 e3 hT3 => ?_, fun b e t H3 hm hb e3 hT3 v3 => ?_⟩
      · have K3 : Kno H3 D rs l m := kno_nt K2 e3
        walk_at "go"
        refine ⟨D, l, m, rs, (ln : Nat), rfl, K3, g7, by omega, fun b e t H4 hs e4 v4 => ?_, fun _ => ?_⟩
        · obtain ⟨q1, q2, q3, _⟩ := hs
          obtain ⟨b', e', q4, _⟩ := tg_some g5 _ b e rfl q1 q2 q3
          rw [h0] at q4
          cases q4
        · refine st_eqD .non .non (by simp [PyData.depth]) ?_
          rw [eqv_self _ (by rfl)]
          exact k _ (exT_tr e02 e3) hT3
      · have K3 : Kno H3 D rs l m := kno_nt K2 e3
        walk_at "go"
        refine ⟨D, l, m, rs, (ln : Nat), rfl, K3, g7, by omega, fun b' e' t' H4 hs e4 v4 => ?_, fun h0 => ?_⟩
        · obtain ⟨rfl, rfl⟩ := tg_least g5 hm hb hs
          refine st_eqD (rp_tup2 (e4.get v3)) (rp_tup2 v4) (by simp [PyData.depth, PyData.depthAll]) ?_
          rw [eqv_self _ (by rfl)]
          exact k _ ((exT_tr e02 e3).trans e4) (hT3.ext fun b o h => e4.get h)
        · obtain ⟨q1, q2, q3⟩ := tg_enough hm
          exact absurd q3 (h0 b e q1 q2)
    rintro σ' G ⟨T, U, xs, d, eG, nT, vT, hx, rT, rU, dd, nd, rfl⟩
    walk_at "go"
    refine st_neD rT rU (by omega) ?_
    rw [eqv_self _ nd]
    walk_at "go"
    refine st_app vT (by omega) ?_
    walk_at "go"
    refine ⟨T, _, rfl, rfl, upd_same, ?_⟩
    have fT : Fr (fun b => b = T) G (upd (upd G T (.lst (xs ++ [V.int 0]))) T (.lst (xs ++ [V.int 0]).reverse)) := (Fr.at (M := fun b => b = T) rfl).trans (Fr.at rfl)
    have eF : Ex H' (upd (upd G T (.lst (xs ++ [V.int 0]))) T (.lst (xs ++ [V.int 0]).reverse)) := Ex.comp (M := fun b => b = T) eG fT fun b hb => by rw [hb]; exact nT
    walk_at "go"
    exact k _ ((noT_ex H).trans (e02.trans eF)) (hT2.ext fun b o h => eF.get h)
def sp_Tally_init (K : PySem.W.Frag) : Sp := fun vs H Q E => ∃ (p dx : Addr) (x : V) (d : PyData), vs = [.ref p, x] ∧ H p = some (.ins (clsA K "Tally") dx []) ∧ Rn H x d ∧ (¬ TurnD d → RaF K E H "NoTurning" [("found", x)]) ∧ (∀ l : List Nat, (d = .list (l.map encN) ∨ d = .tuple (l.map encN)) → IsT l → l.length ≤ 96 → ∀ H', Fr (fun b => b = p) H H' → (∀ G, (∀ b o, (H b = none ∨ b = p) → H' b = some o → G b = some o) → TalAt K G p l) → Q .non H')
theorem use_tally {K : PySem.W.Frag} {G : Hp} {p dx : Addr} {x : V} {d : PyData} {l : List Nat} {Q : VK} {E : XK} (hp : G p = some (.ins (clsA K "Tally") dx [])) (hx : Rn G x d) (hd : d = .list (l.map encN) ∨ d = .tuple (l.map encN)) (hl : IsT l) (hl2 : l.length ≤ 96)
    (kk : ∀ G', Fr (fun b => b = p) G G' → (∀ G2, (∀ b o, (G b = none ∨ b = p) → G' b = some o → G2 b = some o) → TalAt K G2 p l) → Q .non G') : sp_Tally_init K [.ref p, x] G Q E :=
  ⟨p, dx, x, d, rfl, hp, hx, fun h => absurd ⟨l, hd, hl, hl2⟩ h, fun m hm _ _ => by
    have : m = l := by
      rcases hd with e | e <;> rcases hm with q | q <;> rw [e] at q
      · injection q with q; exact (encN_inj q).symm
      · cases q
      · cases q
      · injection q with q; exact (encN_inj q).symm
    subst this
    exact kk⟩
theorem ok_Tally_init (T : Tx K mg ad fd tk base tc) : FnOk P w K mg base (L2.CX P w) 5 (ad 29) (fd 29) ["self", "turning"] (sp_Tally_init K) := by
  refine T.d_Tally_init.F.okX sc_Tally_init (fun vs H Q E h => ?_) (fun cdv A outer s H vs Q E hr h => ?_)
  · obtain ⟨p, dx, x, d, rfl, _⟩ := h
    rfl
  · obtain ⟨p, dx, x, d, rfl, hp, hx, k0, k1⟩ := h
    refine ⟨_, (pss_cons (ps_expr (pe_call (ok_need_turning T) (hr.mono (by decide)) rfl T.d_need_turning.g T.d_need_turning.F.kp T.d_need_turning.b .nil (passes_call (takes_of rfl rfl rfl rfl) (fun _ _ _ _ h => h)) (pa_cons (pv 1) pa_nil)))
      (pss_cons (ps_fldK (K := K) (pv 0) (pe_callB (c_len (K := K)) (by rfl) T.b_len (by decide +kernel) (pa_cons (pv 1) pa_nil)) rfl)
      (pss_one (ps_fldK (K := K) (pv 0) (pe_call (ok_floors_of T) (hr.mono (by decide)) rfl T.d_floors_of.g T.d_floors_of.F.kp T.d_floors_of.b .nil pass0 (pa_cons (pv 1) pa_nil)) rfl)))), ?_⟩
    walk_at "go"
    refine ⟨x, d, rfl, hx, k0, fun hT H1 e1 => ?_⟩
    obtain ⟨l, hd, hl, hl2⟩ := hT
    have k2 := k1 l hd hl hl2
    obtain ⟨a, rfl, hs⟩ := TurnD.seq hx hd
    have hs1 := seqAt_ex e1 hs
    have hp1 := e1.get hp
    clear k0 k1
    have hpa : a ≠ p := fun z => by
      unfold seqAt at hs
      rw [z, hp] at hs
      cases hs
    walk_at "go"
    refine st_lenQ hs1 ?_
    rw [List.length_map]
    walk_at "go"
    rw [putF_nil]
    have v2 : upd H1 p (.ins (clsA K "Tally") dx [("many", .int (l.length : Nat))]) p = some (.ins (clsA K "Tally") dx [("many", .int (l.length : Nat))]) := upd_same
    have f2 : Fr (fun b => b = p) H (upd H1 p (.ins (clsA K "Tally") dx [("many", .int (l.length : Nat))])) := (Fr.ex e1).trans FrP.at
    have hs2 : seqAt (upd H1 p (.ins (clsA K "Tally") dx [("many", .int (l.length : Nat))])) a = some (l.map nV) := by
      unfold seqAt
      rw [upd_ne hpa]
      exact hs1
    generalize upd H1 p (.ins (clsA K "Tally") dx [("many", .int (l.length : Nat))]) = H2 at v2 f2 hs2 ⊢
    walk_at "go"
    refine ⟨a, l, rfl, hs2, hl2, fun fa qs fs H3 e3 n3 v3 g3 o3 z3 => ?_⟩
    have v23 := e3.get v2
    walk_at "go"
    rw [putF_ne (by decide +kernel), putF_nil]
    have nq : fa ≠ p := fun z => by rw [z, v2] at n3; cases n3
    have old : ∀ {c b : Addr}, (H c ≠ none ∨ c = p) → H2 b = none → b ≠ c := fun {c b} h nb z => by
      subst z
      rcases h with h | h
      · by_cases q : b = p
        · rw [q, v2] at nb; cases nb
        · cases hc : H b with
          | none => exact h hc
          | some o => rw [f2.get q hc] at nb; cases nb
      · rw [h, v2] at nb; cases nb
    have vfa : upd H3 p (.ins (clsA K "Tally") dx [("many", .int (l.length : Nat)), ("floors", .ref fa)]) fa = some (.lst (qs.map V.ref)) := by rw [upd_ne nq]; exact v3
    have nfa : H fa = none := by
      cases hc : H fa with
      | none => rfl
      | some o => exact absurd rfl (old (c := fa) (.inl (by rw [hc]; simp)) n3)
    refine k2 _ (f2.trans ((Fr.ex e3).trans FrP.at)) fun G hG => ?_
    refine ⟨dx, fa, qs, fs, hG p _ (.inr rfl) upd_same, hG fa _ (.inl nfa) vfa, g3.ex (newO_fr fun b o nb h => ?_), o3, z3, hl, hl2⟩
    have hbp := old (c := p) (.inr rfl) nb
    refine hG b o (.inl ?_) (by rw [upd_ne hbp]; exact h)
    cases hc : H b with
    | none => rfl
    | some o => exact absurd rfl (old (c := b) (.inl (by rw [hc]; simp)) nb)
def sp_Asks_init (K : PySem.W.Frag) : Sp := fun vs H Q E => ∃ (p dx : Addr) (x : V) (d : PyData) (l : List Nat) (m : Nat), vs = [.ref p, x, .int (m : Nat)] ∧ H p = some (.ins (clsA K "Asks") dx []) ∧ Rn H x d ∧ (d = .list (l.map encN) ∨ d = .tuple (l.map encN)) ∧ (IsT l ∧ l.length ≤ 96) ∧ m ≤ l.length ∧ ∀ H', Fr (fun b => b = p) H H' → (∀ G, (∀ b o, (H b = none ∨ b = p) → H' b = some o → G b = some o) → AsksAt K G p l m) → Q .non H'
theorem ok_Asks_init (T : Tx K mg ad fd tk base tc) : FnOk P w K mg base CX0 7 (ad 30) (fd 30) ["self", "lines", "many"] (sp_Asks_init K) := by
  refine T.d_Asks_init.F.ok sc_Asks_init (fun vs H Q E h => ?_) (fun cdv A outer s H vs Q E hr h => ?_)
  · obtain ⟨p, dx, x, d, l, m, rfl, _⟩ := h
    rfl
  · obtain ⟨p, dx, x, d, l, m, rfl, hp, hx, hd, hl, hm, k⟩ := h
    refine ⟨_, (pss_cons (ps_expr (pe_call (ok_need_turning T) (hr.mono (by decide)) rfl T.d_need_turning.g T.d_need_turning.F.kp T.d_need_turning.b .nil passL (pa_cons (pv 1) pa_nil)))
      (pss_cons (ps_expr (pe_call (ok_need_place T) (hr.mono (by decide)) rfl T.d_need_place.g T.d_need_place.F.kp T.d_need_place.b .nil passL (pa_cons (pv 2) (pa_cons (pe_callB (c_len (K := K)) (by rfl) T.b_len (by decide +kernel) (pa_cons (pv 1) pa_nil)) pa_nil))))
      (pss_cons (ps_fldK (K := K) (pv 0) (pv 2) rfl)
      (pss_cons (ps_fldK (K := K) (pv 0) (pe_op o_sub (pe_callB (c_len (K := K)) (by rfl) T.b_len (by decide +kernel) (pa_cons (pv 1) pa_nil)) (pv 2)) rfl)
      (pss_cons (ps_fldK (K := K) (pv 0) (pe_make T.m_Tally (ok_Tally_init T) (hr.mono (by decide)) rfl T.mg_Tally T.d_Tally_init.b .nil passL (pa_cons (pv 1) pa_nil)) rfl)
      (pss_cons (ps_fldK (K := K) (pv 0) (pe_callTy (c_list rfl (K := K)) (by rfl) T.b_list (by decide +kernel) (pa_cons (pv 1) pa_nil)) rfl)
      (pss_one (ps_fldK (K := K) (pv 0) (pe_call (ok_opposite T) (hr.mono (by decide)) rfl T.d_opposite.g T.d_opposite.F.kp T.d_opposite.b .nil passL (pa_cons (pv 1) pa_nil)) rfl)))))))), ?_⟩
    obtain ⟨hl, hl2⟩ := hl
    have hTD : TurnD d := ⟨l, hd, hl, hl2⟩
    obtain ⟨a, rfl, hs⟩ := TurnD.seq hx hd
    have hpa : a ≠ p := fun z => by
      unfold seqAt at hs
      rw [z, hp] at hs
      cases hs
    walk_at "go"
    refine ⟨_, d, rfl, hx, fun h => absurd hTD h, fun _ H1 e1 => ?_⟩
    have hs1 := seqAt_ex e1 hs
    have hp1 := e1.get hp
    have hx1 := hx.ex e1
    walk_at "go"
    refine st_lenQ hs1 ?_
    rw [List.length_map]
    walk_at "go"
    refine ⟨_, _, rfl, ⟨_, rfl⟩, fun h => nat_no hm h, fun _ => ?_⟩
    walk_at "go"
    rw [putF_nil]
    -- from here on all but p stands; what is new is told by newO
    have hpx : ∀ {G : Hp}, Fr (fun b => b = p) H1 G → seqAt G a = some (l.map nV) := fun f => seqAt_eq hs1 (seqAt_same' f hpa hs1)
    have v2 : upd H1 p (.ins (clsA K "Asks") dx [("tall", .int (m : Nat))]) p = some (.ins (clsA K "Asks") dx [("tall", .int (m : Nat))]) := upd_same
    have f2 : Fr (fun b => b = p) H1 (upd H1 p (.ins (clsA K "Asks") dx [("tall", .int (m : Nat))])) := FrP.at
    generalize upd H1 p (.ins (clsA K "Asks") dx [("tall", .int (m : Nat))]) = H2 at v2 f2 ⊢
    walk_at "go"
    refine st_lenQ (hpx f2) ?_
    rw [List.length_map]
    walk_at "go"
    rw [putF_ne (by decide +kernel), putF_nil, show ((l.length : Nat) : Int) - (m : Nat) = ((l.length - m : Nat) : Int) by omega]
    have v3 : upd H2 p (.ins (clsA K "Asks") dx [("tall", .int (m : Nat)), ("wide", .int ((l.length - m : Nat) : Nat))]) p = some (.ins (clsA K "Asks") dx [("tall", .int (m : Nat)), ("wide", .int ((l.length - m : Nat) : Nat))]) := upd_same
    have f3 : Fr (fun b => b = p) H1 (upd H2 p (.ins (clsA K "Asks") dx [("tall", .int (m : Nat)), ("wide", .int ((l.length - m : Nat) : Nat))])) := f2.trans FrP.at
    generalize upd H2 p (.ins (clsA K "Asks") dx [("tall", .int (m : Nat)), ("wide", .int ((l.length - m : Nat) : Nat))]) = H3 at v3 f3 ⊢
    have hx3 : ∀ {G : Hp}, Fr (fun b => b = p) H1 G → Rn G (.ref a) d := fun {G} f => by
      rcases hd with rfl | rfl
      · obtain ⟨s, xs, e, h1, h2⟩ := hx1.listAt
        cases e
        rw [seq_l h1] at hs1
        rw [Option.some.inj hs1] at h1
        exact .lst (f.get hpa h1) (rnA_map (val := nV) (enc := encN) fun _ _ => .int _)
      · obtain ⟨s, xs, e, h1, h2⟩ := hx1.tupAt
        cases e
        rw [seq_t h1] at hs1
        rw [Option.some.inj hs1] at h1
        exact .tup (f.get hpa h1) (rnA_map (val := nV) (enc := encN) fun _ _ => .int _)
    walk_at "go"
    refine st_makeP fun tp dxt H4 ntp e4 v4 => ?_
    have f4 := f3.trans (Fr.ex e4)
    have v34 := e4.get v3
    have hpt : p ≠ tp := fun z => by rw [← z, v3] at ntp; cases ntp
    refine use_tally v4 (hx3 f4) hd hl hl2 fun H5 f5 tal => ?_
    refine ⟨rfl, ?_⟩
    have e35 : Ex H3 H5 := Ex.comp (M := fun b => b = tp) e4 f5 fun b hb => by rw [hb]; exact ntp
    have v5 := e35.get v3
    have f15 := f3.trans (Fr.ex e35)
    walk_at "go"
    rw [putF_ne (by decide +kernel), putF_ne (by decide +kernel), putF_nil]
    obtain ⟨o6, ho6⟩ : ∃ o6, o6 = HO.ins (clsA K "Asks") dx [("tall", .int (m : Nat)), ("wide", .int ((l.length - m : Nat) : Nat)), ("tally", .ref tp)] := ⟨_, rfl⟩
    rw [← ho6]
    have v6 : upd H5 p o6 p = some o6 := upd_same
    have f56 : Fr (fun b => b = p) H5 (upd H5 p o6) := FrP.at
    generalize upd H5 p o6 = H6 at v6 f56 ⊢
    subst ho6
    have f16 := f15.trans f56
    walk_at "go"
    refine st_listQ (hpx f16) ?_
    intro ga H7 nga e7 v7
    have v67 := e7.get v6
    have hpg : ga ≠ p := fun z => by rw [z, v6] at nga; cases nga
    walk_at "go"
    rw [putF_ne (by decide +kernel), putF_ne (by decide +kernel), putF_ne (by decide +kernel), putF_nil]
    obtain ⟨o8, ho8⟩ : ∃ o8, o8 = HO.ins (clsA K "Asks") dx [("tall", .int (m : Nat)), ("wide", .int ((l.length - m : Nat) : Nat)), ("tally", .ref tp), ("goals", .ref ga)] := ⟨_, rfl⟩
    rw [← ho8]
    have v8 : upd H7 p o8 p = some o8 := upd_same
    have f78 : Fr (fun b => b = p) H7 (upd H7 p o8) := FrP.at
    generalize upd H7 p o8 = H8 at v8 f78 ⊢
    subst ho8
    have f18 := (f16.trans (Fr.ex e7)).trans f78
    walk_at "go"
    refine ⟨_, d, rfl, hx3 f18, fun h => absurd hTD h, fun l' hl' _ _ sa H9 e9 n9 v9 => ?_⟩
    have hll : l' = l := by
      rcases hd with e | e <;> rcases hl' with q | q <;> rw [e] at q
      · injection q with q; exact (encN_inj q).symm
      · cases q
      · cases q
      · injection q with q; exact (encN_inj q).symm
    subst hll
    have v89 := e9.get v8
    have hps : sa ≠ p := fun z => by rw [z, v8] at n9; cases n9
    walk_at "go"
    rw [putF_ne (by decide +kernel), putF_ne (by decide +kernel), putF_ne (by decide +kernel), putF_ne (by decide +kernel), putF_nil]
    have fH1 : Fr (fun b => b = p) H H1 := Fr.ex e1
    refine k _ (((fH1.trans f18).trans (Fr.ex e9)).trans FrP.at) fun G hG => ?_
    -- what was free behind the start was free at the start
    have fr : ∀ {G' : Hp} {b : Addr}, Fr (fun b => b = p) H G' → G' p ≠ none → G' b = none → H b = none := fun {G' b} f hp' hb => by
      by_cases q : b = p
      · exact absurd (by rw [← q]; exact hb) hp'
      · exact f.free q hb
    have last : ∀ {b : Addr} {o : HO}, b ≠ p → H9 b = some o → H b = none → G b = some o := fun {b o} hb h n => hG b o (.inl n) (by rw [upd_ne hb]; exact h)
    have f59 : Fr (fun b => b = p) H5 H9 := ((f56.trans (Fr.ex e7)).trans f78).trans (Fr.ex e9)
    refine ⟨dx, tp, ga, sa, hG p _ (.inr rfl) upd_same, tal G fun b o hb h => ?_, last hpg ((f78.trans (Fr.ex e9)).get hpg v7) (fr (fH1.trans f16) (by rw [v6]; simp) nga), last hps v9 (fr (fH1.trans f18) (by rw [v8]; simp) n9), hl, hl2, hm⟩
    have hbp : b ≠ p := fun z => by
      rcases hb with q | q
      · rw [z, v34] at q; cases q
      · exact hpt (z.symm.trans q)
    refine last hbp (f59.get hbp h) ?_
    rcases hb with q | q
    · exact fr (fH1.trans f4) (by rw [v34]; simp) q
    · rw [q]
      exact fr (fH1.trans f3) (by rw [v3]; simp) ntp
theorem objsL_nt {H : Hp} {ts : List Addr} {os : List HO} (h : ObjsAt H ts os) (n : ∀ o ∈ os, ∀ ps, o ≠ .tbl ps) : ObjsAt (noT H) ts os := .of h.len fun k x o h1 h2 => noT_get (h.at k x o h1 h2) (n o (List.mem_of_getElem? h2))
theorem Tbl.nt {H : Hp} {p : Addr} {rs : List Addr} {tb : List (List Nat)} (T : Tbl H p rs tb) : Tbl (noT H) p rs tb := ⟨noT_get T.at_ fun _ q => (by cases q), objsL_nt T.rows fun o ho ps q => by
  obtain ⟨x, _, rfl⟩ := List.mem_map.mp ho
  cases q⟩
theorem FlG.nt {H : Hp} {qs : List Addr} {fs : List (List (List Nat))} (h : FlG H qs fs) : FlG (noT H) qs fs := ⟨h.len, fun j q hq => by
  obtain ⟨rs, bs, h1, h2⟩ := h.tb j q hq
  exact ⟨rs, bs, h1, h2.nt⟩⟩
theorem TalAt.nt {K : PySem.W.Frag} {H : Hp} {p : Addr} {l : List Nat} (h : TalAt K H p l) : TalAt K (noT H) p l := by
  obtain ⟨dx, fa, qs, fs, h1, h2, h3, h4, h5⟩ := h
  exact ⟨dx, fa, qs, fs, noT_get h1 fun _ q => (by cases q), noT_get h2 fun _ q => (by cases q), h3.nt, h4, h5⟩
theorem AsksAt.nt {K : PySem.W.Frag} {H H' : Hp} {p : Addr} {l : List Nat} {m : Nat} (h : AsksAt K H p l m) (e : Ex (noT H) H') : AsksAt K H' p l m := by
  have h' : AsksAt K (noT H) p l m := by
    obtain ⟨dx, tp, ga, sa, h1, h2, h3, h4, h5⟩ := h
    exact ⟨dx, tp, ga, sa, noT_get h1 fun _ q => (by cases q), h2.nt, noT_get h3 fun _ q => (by cases q), noT_get h4 fun _ q => (by cases q), h5⟩
  exact h'.ex e
theorem sqL_to {K : PySem.W.Frag} {H H' : Hp} {a : Addr} {xs : List V} (h : SqL K H a xs) (e : Ex (noT H) H') : SqL K H' a xs := by
  rcases h with (h | ⟨o, h⟩) | h
  · exact .inl (.inl (e.get (noT_get h fun _ z => by cases z)))
  · exact .inl (.inr ⟨o, e.get (noT_get h fun _ z => by cases z)⟩)
  · exact .inr h
theorem sqL_ex {K : PySem.W.Frag} {H H' : Hp} {a : Addr} {xs : List V} (h : SqL K H a xs) (e : Ex H H') : SqL K H' a xs := sqL_to h ((noT_ex H).trans e)
theorem kno_new {H0 H G : Hp} {p : Addr} {rs : List Addr} {l : List Nat} {m : Nat} (T : Kno H p rs l m) (n : H0 p = none) (nr : ∀ r ∈ rs, H0 r = none) (hG : ∀ b o, H0 b = none → H b = some o → G b = some o) : Kno G p rs l m := ⟨hG _ _ n T.at_, .of T.rows.len fun k x o h1 h2 => hG _ _ (nr x (List.mem_of_getElem? h1)) (T.rows.at k x o h1 h2)⟩
def sp_law (K : PySem.W.Frag) (TL : List (Addr × Str)) : Sp := fun vs H Q _ => ∃ (a : Addr) (ns : List Int), vs = [.ref a] ∧ SqL K H a (ns.map V.int) ∧ LamX.Tabs TL H ∧ ns.length ≤ 63 ∧ ∀ H', Q (.bl true) H'
theorem ok_law (T : Tx K mg ad fd tk base tc) : FnOk P w K mg base CX0 10 (ad 31) (fd 31) ["_law_script"] (sp_law K (tabsL tc)) := by
  refine T.d_law.F.ok sc_law (fun vs H Q E h => ?_) (fun cdv A outer s H vs Q E hr h => ?_)
  · obtain ⟨a, ns, rfl, _⟩ := h
    rfl
  · obtain ⟨a, ns, rfl, hs, hT, hl, k⟩ := h
    refine ⟨_, (pss_cons (ps_set (i := 1) sc_law.nd rfl (Or.inr rfl) (pe_call (ok__law_turning T) (hr.mono (by decide)) rfl T.d__law_turning.g T.d__law_turning.F.kp T.d__law_turning.b .nil pass0 (pa_cons (pe_call (ok__law_cell T) (hr.mono (by decide)) rfl T.d__law_cell.g T.d__law_cell.F.kp T.d__law_cell.b .nil pass0 (pa_cons (pv 0) (pa_cons pe_int pa_nil))) (pa_cons (pe_call (ok__law_size T) (hr.mono (by decide)) rfl T.d__law_size.g T.d__law_size.F.kp T.d__law_size.b .nil pass0 (pa_cons (pe_call (ok__law_cell T) (hr.mono (by decide)) rfl T.d__law_cell.g T.d__law_cell.F.kp T.d__law_cell.b .nil pass0 (pa_cons (pv 0) (pa_cons pe_int pa_nil))) pa_nil)) (pa_cons pe_int pa_nil)))))
      (pss_cons (ps_setLc (i := 2) (own := [("_law_k", 11)]) (g := gName 11) rfl sc_law.nd rfl rfl (sw_true rfl rfl rfl (by decide +kernel)) (pi_range1 rfl T.b_range (pa_cons pe_int pa_nil)) (blkOk_by (own := [("_law_k", 11)]) (N := N_law) (sc := defScope s_law) (by decide +kernel)) (fun _ _ _ _ _ => pg_name (i := 11) sc_law.nd rfl (Or.inl rfl)) (fun _ _ _ _ _ => pts_nil) (fun _ _ _ _ _ => (pe_op o_div (pe_op o_mod (pe_call (ok__law_cell T) (hr.mono (by decide)) rfl T.d__law_cell.g T.d__law_cell.F.kp T.d__law_cell.b .nil pass0 (pa_cons (pv 0) (pa_cons (pv 11) pa_nil))) (pe_op o_add (pe_callB (c_len (K := K)) (by rfl) T.b_len (by decide +kernel) (pa_cons (pv 1) pa_nil)) pe_int)) (pe_op o_sub pe_int (pv 11)))))
      (pss_cons (ps_set (i := 3) sc_law.nd rfl (Or.inr rfl) (pe_callTy (c_list rfl (K := K)) (by rfl) T.b_list (by decide +kernel) (pa_cons (pv 1) pa_nil)))
      (pss_cons (ps_setLc (i := 4) (own := [("_law_tall", 12)]) (g := gName 12) rfl sc_law.nd rfl rfl (sw_true rfl rfl rfl (by decide +kernel)) (pi_list (pv 2)) (blkOk_by (own := [("_law_tall", 12)]) (N := N_law) (sc := defScope s_law) (by decide +kernel)) (fun _ _ _ _ _ => pg_name (i := 12) sc_law.nd rfl (Or.inl rfl)) (fun _ _ _ _ _ => pts_nil) (fun _ _ _ _ _ => (pe_make T.m_Asks (ok_Asks_init T) (hr.mono (by decide)) rfl T.mg_Asks T.d_Asks_init.b .nil pass0 (pa_cons (pv 3) (pa_cons (pv 12) pa_nil)))))
      (pss_cons (ps_expr (pe_bm0 PySem.F.plainAttrs_list PySem.F.slot_list_reverse PySem.F.type_list_reverse mt_reverse (pv 3)))
      (pss_cons (ps_setLc (i := 5) (own := [("_law_tall", 12)]) (g := gName 12) rfl sc_law.nd rfl rfl (sw_true rfl rfl rfl (by decide +kernel)) (pi_list (pv 2)) (blkOk_by (own := [("_law_tall", 12)]) (N := N_law) (sc := defScope s_law) (by decide +kernel)) (fun _ _ _ _ _ => pg_name (i := 12) sc_law.nd rfl (Or.inl rfl)) (fun _ _ _ _ _ => pts_nil) (fun _ _ _ _ _ => (pe_call (ok__law_lengths T) (hr.mono (by decide)) rfl T.d__law_lengths.g T.d__law_lengths.F.kp T.d__law_lengths.b .nil pass0 (pa_cons (pv 1) (pa_cons (pv 12) pa_nil)))))
      (pss_cons (ps_set (i := 6) sc_law.nd rfl (Or.inl rfl) pe_int)
      (pss_cut (ps_if (pt_cmpR o_gt (pe_callB (c_len (K := K)) (by rfl) T.b_len (by decide +kernel) (pa_cons (pv 1) pa_nil)) pe_int (nomark _)) (pss_one (ps_set (i := 6) sc_law.nd rfl (Or.inl rfl) pe_int)) pss_nil)
      (pss_cons (ps_setLc (i := 7) (own := [("_law_k", 11), ("_law_cell_here", 9)]) (g := gTup K 2 (gCons (gName 11) (gCons (gName 9) gNil))) rfl sc_law.nd rfl rfl (sw_true rfl rfl rfl (by decide +kernel)) (pi_enum rfl T.b_enumerate (pa_cons (pe_slice (s_sl (K := K)) (pv 0) po_none (po_some (pv 6))) pa_nil)) (blkOk_by (own := [("_law_k", 11), ("_law_cell_here", 9)]) (N := N_law) (sc := defScope s_law) (by decide +kernel)) (fun _ _ _ _ _ => (pg_tup rfl (pgs_cons (pg_name (i := 11) sc_law.nd rfl (Or.inl rfl)) (pgs_cons (pg_name (i := 9) sc_law.nd rfl (Or.inl rfl)) pgs_nil)))) (fun _ _ _ _ _ => pts_nil) (fun _ _ _ _ _ => (pe_tup (pa_cons (pe_op o_mod (pv 11) pe_int) (pa_cons (pv 9) pa_nil)))))
      (pss_cons (ps_for PassesOwn.never rfl (pi_list (pe_op o_add (pv 7) (pe_slice3 (pv 7) po_none po_none (pe_un un_neg pe_int) (K := K)))) (pg_tup rfl (pgs_cons (pg_name (i := 8) sc_law.nd rfl (Or.inl rfl)) (pgs_cons (pg_name (i := 9) sc_law.nd rfl (Or.inl rfl)) pgs_nil))) (pss_one (ps_if (pt_not (pt_val (pe_call (ok__law_asked T) (hr.mono (by decide)) rfl T.d__law_asked.g T.d__law_asked.F.kp T.d__law_asked.b .nil pass0 (pa_cons (pe_ix (i_ix (K := K)) (pv 4) (pv 8) (fun _ _ => rfl)) (pa_cons (pe_ix (i_ix (K := K)) (pv 5) (pv 8) (fun _ _ => rfl)) (pa_cons (pv 9) pa_nil)))))) (pss_one (ps_ret pe_bl)) pss_nil)))
      (pss_cons (ps_set (i := 10) sc_law.nd rfl (Or.inl rfl) (pe_op o_mod (pe_call (ok__law_cell T) (hr.mono (by decide)) rfl T.d__law_cell.g T.d__law_cell.F.kp T.d__law_cell.b .nil pass0 (pa_cons (pv 0) (pa_cons pe_int pa_nil))) (pe_op o_add (pe_callB (c_len (K := K)) (by rfl) T.b_len (by decide +kernel) (pa_cons (pv 1) pa_nil)) pe_int)))
      (pss_cons (ps_if (PW.pt (pw_and (pt_cmpR o_le (pe_callB (c_len (K := K)) (by rfl) T.b_len (by decide +kernel) (pa_cons (pv 1) pa_nil)) pe_int (nomark _)) (pw_and1 (pt_cmpR (o_ne hr.units) (pe_meth (pe_ix (i_ix (K := K)) (pv 4) pe_int (fun _ _ => rfl)) T.cl_Asks T.d_Asks_tightest.g (ok_Asks_tightest T) (hr.mono (by decide)) T.d_Asks_tightest.b .nil pass0 (pa_cons (pv 10) pa_nil)) (pe_call (ok__law_tightest T) (hr.mono (by decide)) rfl T.d__law_tightest.g T.d__law_tightest.F.kp T.d__law_tightest.b .nil pass0 (pa_cons (pe_ix (i_ix (K := K)) (pv 5) pe_int (fun _ _ => rfl)) (pa_cons (pv 10) pa_nil))) (nomark _))))) (pss_one (ps_ret pe_bl)) pss_nil)
      (pss_one (ps_ret (pe_cmpR (o_eq hr.units) (pe_meth (pe_ix (i_ix (K := K)) (pv 4) pe_int (fun _ _ => rfl)) T.cl_Asks T.d_Asks_shortest.g (ok_Asks_shortest T) (hr.mono (by decide)) T.d_Asks_shortest.b .nil pass0 (pa_cons (pv 10) pa_nil)) (pe_call (ok__law_shortest T) (hr.mono (by decide)) rfl T.d__law_shortest.g T.d__law_shortest.F.kp T.d__law_shortest.b .nil pass0 (pa_cons (pe_ix (i_ix (K := K)) (pv 5) pe_int (fun _ _ => rfl)) (pa_cons (pv 10) pa_nil))) (nomark _)))))))))))))))), ?_⟩
    walk_at "go"
    refine ⟨a, ns, _, rfl, hs, by decide, hl, fun c1 => ?_⟩
    walk_at "go"
    refine ⟨a, ns, _, rfl, hs, by decide, hl, fun c0 => ?_⟩
    walk_at "go"
    refine ⟨c0, rfl, fun n hn => ?_⟩
    walk_at "go"
    refine ⟨c1, n, _, rfl, by omega, by decide, fun l t H1 e1 n1 v1 hI hln => ?_⟩
    have hl6 : l.length ≤ 60 := by omega
    clear hn hln
    have hs1 := sqL_to hs ((noT_ex H).trans e1)
    have hT1 : LamX.Tabs (tabsL tc) H1 := hT.ext fun b o h => e1.get h
    clear e1 n1 hs hT
    walk_at "go"
    refine lc_rel (runs_range 0 2) (fun i x H H' h => by rw [h.1]; exact Fr.refl _) (fun _ _ => trivial) (by decide) (fun _ v => ∃ n : Nat, n ≤ l.length ∧ v = .int (n : Nat)) ?_ ?_
    · rintro i x H5 H6 hi e5 ⟨rfl, rfl⟩ B hB
      refine ⟨rfl, ?_⟩
      have v46 := e5.get v1
      walk_at "go"
      refine ⟨a, ns, _, rfl, sqL_ex hs1 e5, by omega, hl, fun c => ?_⟩
      walk_at "go"
      rw [List.length_map]
      have q0 := Int.emod_nonneg c (b := ((l.length : Nat) : Int) + 1) (by omega)
      have q1 := Int.emod_lt_of_pos c (b := ((l.length : Nat) : Int) + 1) (by omega)
      generalize c % (((l.length : Nat) : Int) + 1) = y at q0 q1 ⊢
      have q2 : 0 ≤ y / (3 - (0 + ((i : Nat) : Int))) := Int.ediv_nonneg q0 (by omega)
      have q3 := Int.ediv_le_self (3 - (0 + ((i : Nat) : Int))) q0
      exact hB _ _ ⟨(y / (3 - (0 + ((i : Nat) : Int)))).toNat, by omega, by congr 1; omega⟩ (Fr.refl _)
    intro S H2 acc nS e2 vS hlen hacc
    obtain ⟨m0, m1, hm0, hm1, rfl⟩ : ∃ m0 m1 : Nat, m0 ≤ l.length ∧ m1 ≤ l.length ∧ acc = [.int (m0 : Nat), .int (m1 : Nat)] := by
      match acc, hlen with
      | [u, v], _ =>
        obtain ⟨n, hn, rfl⟩ := hacc 0 u rfl
        obtain ⟨m, hm, rfl⟩ := hacc 1 v rfl
        exact ⟨n, m, hn, hm, rfl⟩
    have hs2 := sqL_ex hs1 e2
    have hT2 : LamX.Tabs (tabsL tc) H2 := hT1.ext fun b o h => e2.get h
    have v2 := e2.get v1
    clear hacc v1 e2 hs1 hT1 nS
    walk_at "go"
    rename_i g H3 ng e3 vg
    have vS3 := e3.get vS
    have vt3 := e3.get v2
    have hs3 := sqL_ex hs2 e3
    have hT3 : LamX.Tabs (tabsL tc) H3 := hT2.ext fun b o h => e3.get h
    have nh : ∀ b o, H2 b = some o → hid g H3 b = some o := fun b o h => hid_get (e3.get h) fun z => by rw [z, ng] at h; cases h
    have hsh : SqL K (hid g H3) a (ns.map V.int) := sqL_ex hs2 fun b o _ h => nh b o h
    have hTh : LamX.Tabs (tabsL tc) (hid g H3) := hT2.ext nh
    have gt : g ≠ t := fun z => by rw [z, v2] at ng; cases ng
    have gS : g ≠ S := fun z => by rw [z, vS] at ng; cases ng
    clear e3 vS v2 hs2 hT2 nh
    refine lc_made (rv_list K S [m0, m1] nV) (fun H' e => lst_of (e.get vS3)) (by show 2 < _; decide) (fun m p G => AsksAt K (hid g G) p l m) (fun _ _ _ _ h e => h.ex (hid_frp (Fr.ex e))) ?_ ?_
    · intro m H' hm e B h1
      have hm' : m ≤ l.length := by
        simp only [List.mem_cons, List.not_mem_nil, or_false] at hm
        rcases hm with rfl | rfl <;> omega
      have vg' := e.get vg
      refine ⟨rfl, ?_⟩
      rw [show nV m = V.int (m : Nat) from rfl]
      walk_at "go"
      refine st_makeP fun p dx H5 np e5 v5 => ?_
      refine ⟨p, dx, _, _, l, m, rfl, v5, rnL (e5.get vg'), .inl rfl, ⟨hI, by omega⟩, hm', fun H6 f6 as => ?_⟩
      refine ⟨rfl, ?_⟩
      have gp : g ≠ p := fun z => by rw [z] at vg'; rw [vg'] at np; cases np
      refine h1 p H6 (Ex.comp (M := fun b => b = p) e5 f6 fun b hb => by rw [hb]; exact np) fun G hG => as (hid g G) fun b o hb ho => hid_get (hG b o ?_ ho) ?_
      · rcases hb with hb | hb
        · exact Ex.free e5 hb
        · rw [hb]; exact np
      · rintro rfl
        rcases hb with hb | hb
        · rw [e5.get vg'] at hb; cases hb
        · exact gp hb
    intro M H4 ts nM e4 vM lts hP
    obtain ⟨p0, p1, rfl⟩ : ∃ p0 p1, ts = [p0, p1] := by
      match ts, lts with
      | [u, v], _ => exact ⟨u, v, rfl⟩
    have A0 := hP 0 p0 m0 rfl rfl
    have A1 := hP 1 p1 m1 rfl rfl
    have vM : H4 M = some (.lst [.ref p0, .ref p1]) := vM
    have vg4 := e4.get vg
    have vS4 := e4.get vS3
    have vt4 := e4.get vt3
    have hs4 := sqL_ex hs3 e4
    have hT4 : LamX.Tabs (tabsL tc) H4 := hT3.ext fun b o h => e4.get h
    have hsh4 := sqL_ex hsh (hid_frp (Fr.ex e4))
    have hTh4 : LamX.Tabs (tabsL tc) (hid g H4) := hTh.ext fun b o h => (hid_frp (Fr.ex e4)).get h
    have gM : M ≠ g := fun z => by rw [z, vg] at nM; cases nM
    clear hP e4 vg vS3 vt3 hs3 hT3 nM ng lts hsh hTh
    walk_at "go"
    refine ⟨g, _, rfl, rfl, vg4, ?_⟩
    have fg : Fr (fun b => b = g) H4 (upd H4 g (.lst (l.map nV).reverse)) := Fr.at rfl
    generalize upd H4 g (.lst (l.map nV).reverse) = H5 at fg ⊢
    have eh : Ex (hid g H4) H5 := fun b o _ h => by
      have z : b ≠ g := fun z => by rw [z] at h; unfold hid at h; rw [if_pos rfl] at h; cases h
      unfold hid at h
      rw [if_neg z] at h
      exact fg.get z h
    have A05 := A0.ex eh
    have A15 := A1.ex eh
    have vM5 := fg.get gM vM
    have vS5 := fg.get gS.symm vS4
    have vt5 := fg.get gt.symm vt4
    have hs5 : SqL K H5 a (ns.map V.int) := sqL_ex hsh4 eh
    have hT5 : LamX.Tabs (tabsL tc) H5 := hTh4.ext fun b o h => eh.get h
    clear A0 A1 vM vS4 vt4 vg4 hs4 hT4 fg eh hsh4 hTh4
    walk_at "go"
    refine lc_made (rv_list K S [m0, m1] nV) (fun H' e => lst_of (e.get vS5)) (by show 2 < _; decide) (fun m p G => ∃ rs, Kno G p rs l m) (fun _ _ _ _ h e => by
      obtain ⟨rs, h⟩ := h
      exact ⟨rs, h.ex e⟩) ?_ ?_
    · intro m H' hm e B h1
      have hm' : m ≤ l.length := by
        simp only [List.mem_cons, List.not_mem_nil, or_false] at hm
        rcases hm with rfl | rfl <;> omega
      refine ⟨rfl, ?_⟩
      rw [show nV m = V.int (m : Nat) from rfl]
      walk_at "go"
      refine ⟨t, l, m, rfl, e.get vt5, hm', by omega, fun D rs H6 e6 nD nr hK => ?_⟩
      exact h1 D H6 e6 fun G hG => ⟨rs, kno_new hK nD nr hG⟩
    intro N H6 ks nN e6 vN lks hP
    obtain ⟨k0, k1, rfl⟩ : ∃ k0 k1, ks = [k0, k1] := by
      match ks, lks with
      | [u, v], _ => exact ⟨u, v, rfl⟩
    obtain ⟨rs0, K0⟩ := hP 0 k0 m0 rfl rfl
    obtain ⟨rs1, K1⟩ := hP 1 k1 m1 rfl rfl
    have vN : H6 N = some (.lst [.ref k0, .ref k1]) := vN
    have A06 := A05.ex e6
    have A16 := A15.ex e6
    have vM6 := e6.get vM5
    have vt6 := e6.get vt5
    have vS6 := e6.get vS5
    have hs6 := sqL_ex hs5 e6
    have hT6 : LamX.Tabs (tabsL tc) H6 := hT5.ext fun b o h => e6.get h
    clear hP e6 A05 A15 vM5 vt5 vS5 hs5 hT5 lks nN
    walk_at "go"
    refine ⟨fun σ' H' => H' = H6 ∧ ∃ z : Nat, z ≤ 40 ∧ σ' = [some (.ref a), some (.ref t), some (.ref S), some (.ref g), some (.ref M), some (.ref N), some (.int (z : Nat)), none, none, none, none, none, none], ?_, ?_⟩
    · refine st_ifS ?_
      walk_at "go"
      refine st_br2 (fun _ => ?_) (fun _ => ?_)
      · walk_at "go"
        exact ⟨rfl, 10, by decide, rfl⟩
      · exact ⟨rfl, 40, by decide, rfl⟩
    rintro σ' H' ⟨rfl, z, hz, rfl⟩
    walk_at "go"
    refine st_slK hs6 fun q7 H7 n7 e7 v7 => ?_
    have hc7 : (cutV (ns.map V.int) none (some ((z : Nat) : Int))).length ≤ 63 := Nat.le_trans (cutV_length _ _ _) (by rw [List.length_map]; exact hl)
    rw [cutV_map] at v7 hc7
    generalize cutL ns none (some ((z : Nat) : Int)) = zs at v7 hc7
    rw [List.length_map] at hc7
    have A07 := A06.ex e7
    have A17 := A16.ex e7
    have K07 := K0.ex e7
    have K17 := K1.ex e7
    have vM7 := e7.get vM6
    have vN7 := e7.get vN
    have vt7 := e7.get vt6
    have hs7 := sqL_ex hs6 e7
    have hT7 : LamX.Tabs (tabsL tc) H7 := hT6.ext fun b o h => e7.get h
    clear A06 A16 K0 K1 vM6 vN vt6 vS6 hs6 hT6 e7 n7
    walk_at "go"
    refine lc_mk (runs_enum K q7 _) (fun i x H H' h => by obtain ⟨_, _, _, _, h, _⟩ := h; exact h) (fun H' e => lst_of (e.get v7)) (by rw [List.length_map]; omega) (fun _ o => ∃ (b : Int) (c : Int), (b = 0 ∨ b = 1) ∧ o = .tup [.int b, .int c]) ?_ ?_ gTup_mono
    · rintro j x H8 H9 hj e8 ⟨Tt, v, rfl, nT, eT, vT, hv⟩ B hB
      obtain ⟨c, rfl⟩ : ∃ c : Int, v = .int c := by
        rw [List.getElem?_map] at hv
        obtain ⟨c, _, rfl⟩ := Option.map_eq_some_iff.mp hv
        exact ⟨c, rfl⟩
      walk_at "go"
      refine ⟨rfl, ?_⟩
      walk_at "go"
      rename_i u H10 n10 e10 v10
      exact hB u H10 _ n10 e10 v10 ⟨_, c, by omega, rfl⟩
    intro D H8 ts os nD e8 vD hO hol hos nDt hnts
    have hr8 : ∀ r ∈ ts, ∃ (b c : Int), (b = 0 ∨ b = 1) ∧ H8 r = some (.tup [.int b, .int c]) := fun r hr => by
      obtain ⟨j, hj⟩ := List.getElem?_of_mem hr
      have hl' := hO.len
      have hjl := (List.getElem?_eq_some_iff.mp hj).1
      have ho := List.getElem?_eq_getElem (l := os) (i := j) (by omega)
      obtain ⟨b, c, hb, he⟩ := hos j _ ho
      exact ⟨b, c, hb, by rw [hO.at j r _ hj ho, he]⟩
    have tl : ts.length ≤ 63 := by rw [hO.len, hol, List.length_map]; exact hc7
    have A08 := A07.ex e8
    have A18 := A17.ex e8
    have K08 := K07.ex e8
    have K18 := K17.ex e8
    have vM8 := e8.get vM7
    have vN8 := e8.get vN7
    have vt8 := e8.get vt7
    have hs8 := sqL_ex hs7 e8
    have hT8 : LamX.Tabs (tabsL tc) H8 := hT7.ext fun b o h => e8.get h
    clear A07 A17 K07 K17 vM7 vN7 vt7 hs7 hT7 e8 hO hol hos nDt hnts nD v7
    walk_at "go"
    refine st_revL (.inl (.inl vD)) fun Rv H9 nRv e9 vRv => ?_
    walk_at "go"
    refine st_addL (e9.get vD) vRv (by rw [List.length_reverse, List.length_map]; omega) fun W Ha nW ea vW => ?_
    have e8a := e9.trans ea
    have A0a := A08.ex e8a
    have A1a := A18.ex e8a
    have K0a := K08.ex e8a
    have K1a := K18.ex e8a
    have vMa := e8a.get vM8
    have vNa := e8a.get vN8
    have vta := e8a.get vt8
    have hsa := sqL_ex hs8 e8a
    have hTa : LamX.Tabs (tabsL tc) Ha := hT8.ext fun b o h => e8a.get h
    have hra : ∀ r ∈ ts, ∃ (b c : Int), (b = 0 ∨ b = 1) ∧ Ha r = some (.tup [.int b, .int c]) := fun r hr => by
      obtain ⟨b, c, h1, h2⟩ := hr8 r hr
      exact ⟨b, c, h1, e8a.get h2⟩
    clear A08 A18 K08 K18 vM8 vN8 vt8 hs8 hT8 hr8 e8a e9 ea vRv vD nRv nW
    walk_at "go"
    refine for_runs (runs_list K W _) (fun i σ H' => Ex (noT Ha) H' ∧ LamX.Tabs (tabsL tc) H' ∧ ∃ y8 y9, σ = [some (.ref a), some (.ref t), some (.ref S), some (.ref g), some (.ref M), some (.ref N), some (.int (z : Nat)), some (.ref D), y8, y9, none, none, none]) ⟨noT_ex Ha, hTa, _, _, rfl⟩ (fun i σ H' _ h => lst_of (h.1.get (noT_get vW fun _ q => (by cases q)))) ?_ ?_
    · rintro i x σ H0 Hb hi ⟨eb, hTb, y8, y9, rfl⟩ ⟨rfl, hx⟩
      obtain ⟨tt, ht, rfl⟩ : ∃ t ∈ ts, x = .ref t := by
        have hm := List.mem_of_getElem? hx
        rw [List.mem_append, List.mem_reverse] at hm
        have hm : x ∈ ts.map V.ref := hm.elim id id
        obtain ⟨t, h1, h2⟩ := List.mem_map.mp hm
        exact ⟨t, h1, h2.symm⟩
      obtain ⟨b, c, hb, htt⟩ := hra tt ht
      have httb := eb.get (noT_get htt fun _ q => (by cases q))
      have vMb := eb.get (noT_get vMa fun _ q => (by cases q))
      have vNb := eb.get (noT_get vNa fun _ q => (by cases q))
      have A0b := A0a.nt eb
      have A1b := A1a.nt eb
      have K0b := kno_nt K0a eb
      have K1b := kno_nt K1a eb
      have fin : ∀ H', Ex (noT Hb) H' → Ex (noT Ha) H' := fun H' e x o n h => e x o n (noT_get (eb x o n h) (noT_of h).2)
      rcases hb with rfl | rfl
      · walk_at "go"
        refine ⟨p0, k0, l, m0, rs0, c, rfl, A0b, K0b, hl6, hTb, fun Hc ec hTc => ?_⟩
        walk_at "go"
        exact ⟨fin _ ec, hTc, _, _, rfl⟩
      · walk_at "go"
        refine ⟨p1, k1, l, m1, rs1, c, rfl, A1b, K1b, hl6, hTb, fun Hc ec hTc => ?_⟩
        walk_at "go"
        exact ⟨fin _ ec, hTc, _, _, rfl⟩
    rintro σ Hb ⟨eb, hTb, y8, y9, rfl⟩
    have vMb := eb.get (noT_get vMa fun _ q => (by cases q))
    have vNb := eb.get (noT_get vNa fun _ q => (by cases q))
    have vtb := eb.get (noT_get vta fun _ q => (by cases q))
    have A0b := A0a.nt eb
    have A1b := A1a.nt eb
    have K0b := kno_nt K0a eb
    have K1b := kno_nt K1a eb
    have hsb := sqL_to hsa eb
    clear vMa vNa vta A0a A1a K0a K1a hsa eb hra hTa
    walk_at "go"
    refine ⟨a, ns, _, rfl, hsb, by decide, hl, fun c2 => ?_⟩
    walk_at "go"
    rw [List.length_map]
    obtain ⟨ln, hln, hln2⟩ : ∃ ln : Nat, c2 % (((l.length : Nat) : Int) + 1) = (ln : Int) ∧ ln ≤ 60 := by
      have q0 := Int.emod_nonneg c2 (b := ((l.length : Nat) : Int) + 1) (by omega)
      have q1 := Int.emod_lt_of_pos c2 (b := ((l.length : Nat) : Int) + 1) (by omega)
      exact ⟨(c2 % (((l.length : Nat) : Int) + 1)).toNat, by omega, by omega⟩
    rw [hln]
    obtain ⟨dx0, tp0, ga0, sa0, g01, _⟩ := id A0b
    obtain ⟨dx1, tp1, ga1, sa1, g11, _⟩ := id A1b
    refine st_br2 (fun _ => ?_) (fun _ => ?_)
    · walk_at "go"
      refine ⟨p1, l, m1, ln, rfl, A1b, by omega, fun F zs Hc ec nF vF tF hF => ?_⟩
      have K1c := K1b.ex ec
      have vNc := ec.get vNb
      walk_at "go"
      refine ⟨k1, l, m1, rs1, (ln : Nat), rfl, K1c, hm1, by omega, hI, fun U ys Hd ed nU vU tU hU => ?_⟩
      have r1 := (tF.ex ed).rpL (ed.get vF)
      have r2 := tU.rpL vU
      rw [show (zs.map fun z => encQ z.2) = (zs.map (·.2)).map encQ by rw [List.map_map]; rfl, hF] at r1
      rw [show (ys.map fun z => encQ z.2) = (ys.map (·.2)).map encQ by rw [List.map_map]; rfl, hU] at r2
      refine st_neD r1 r2 (Nat.le_trans (Nat.min_le_left _ _) (Nat.le_trans (prsL_depth _) (by decide))) ?_
      rw [eqv_self _ (prsL_nd _)]
      have ecd := ec.trans ed
      have A0d := A0b.ex ecd
      have K0d := K0b.ex ecd
      have hTd : LamX.Tabs (tabsL tc) Hd := hTb.ext fun b o h => ecd.get h
      have vMd := ecd.get vMb
      have vNd := ecd.get vNb
      have g0d := ecd.get g01
      walk_at "go"
      refine ⟨p0, l, m0, ln, rfl, A0d, hTd, by omega, fun h0 H3 e3 hT3 => ?_, fun b e tt H3 hm hb e3 hT3 v3 => ?_⟩
      · have K3 := kno_nt K0d e3
        have vN3 := e3.get (noT_get vNd fun _ q => (by cases q))
        walk_at "go"
        refine ⟨k0, l, m0, rs0, (ln : Nat), rfl, K3, hm0, by omega, fun b e t H4 hs e4 v4 => ?_, fun _ => ?_⟩
        · obtain ⟨q1, q2, q3, _⟩ := hs
          obtain ⟨b', e', q4, _⟩ := tg_some hI _ b e rfl q1 q2 q3
          rw [h0] at q4
          cases q4
        · refine st_eqD .non .non (by simp [PyData.depth]) ?_
          rw [eqv_self _ (by rfl)]
          exact k _
      · have K3 := kno_nt K0d e3
        have vN3 := e3.get (noT_get vNd fun _ q => (by cases q))
        walk_at "go"
        refine ⟨k0, l, m0, rs0, (ln : Nat), rfl, K3, hm0, by omega, fun b' e' t' H4 hs e4 v4 => ?_, fun h0 => ?_⟩
        · obtain ⟨rfl, rfl⟩ := tg_least hI hm hb hs
          refine st_eqD (rp_tup2 (e4.get v3)) (rp_tup2 v4) (by simp [PyData.depth, PyData.depthAll]) ?_
          rw [eqv_self _ (by rfl)]
          exact k _
        · obtain ⟨q1, q2, q3⟩ := tg_enough hm
          exact absurd q3 (h0 b e q1 q2)
    · walk_at "go"
      refine ⟨p0, l, m0, ln, rfl, A0b, hTb, by omega, fun h0 H3 e3 hT3 => ?_, fun b e tt H3 hm hb e3 hT3 v3 => ?_⟩
      · have K3 := kno_nt K0b e3
        have vN3 := e3.get (noT_get vNb fun _ q => (by cases q))
        walk_at "go"
        refine ⟨k0, l, m0, rs0, (ln : Nat), rfl, K3, hm0, by omega, fun b e t H4 hs e4 v4 => ?_, fun _ => ?_⟩
        · obtain ⟨q1, q2, q3, _⟩ := hs
          obtain ⟨b', e', q4, _⟩ := tg_some hI _ b e rfl q1 q2 q3
          rw [h0] at q4
          cases q4
        · refine st_eqD .non .non (by simp [PyData.depth]) ?_
          rw [eqv_self _ (by rfl)]
          exact k _
      · have K3 := kno_nt K0b e3
        have vN3 := e3.get (noT_get vNb fun _ q => (by cases q))
        walk_at "go"
        refine ⟨k0, l, m0, rs0, (ln : Nat), rfl, K3, hm0, by omega, fun b' e' t' H4 hs e4 v4 => ?_, fun h0 => ?_⟩
        · obtain ⟨rfl, rfl⟩ := tg_least hI hm hb hs
          refine st_eqD (rp_tup2 (e4.get v3)) (rp_tup2 v4) (by simp [PyData.depth, PyData.depthAll]) ?_
          rw [eqv_self _ (by rfl)]
          exact k _
        · obtain ⟨q1, q2, q3⟩ := tg_enough hm
          exact absurd q3 (h0 b e q1 q2)
end
theorem all_mk {l : PySem.W.OpenLaw} {w : World} {K : PySem.W.Frag} {h : Heap} {mg : Str → Option Value} {fa f0 f1 f2 f3 f4 f5 f6 f7 f8 f9 f10 f11 f12 f13 f14 f15 f16 f17 f18 f19 f20 f21 f22 f23 f24 f25 f26 f27 f28 f29 f30 f31 : Addr} (X : K.In h) (G : h.Ns mainGlobals mg) (hfa : mg "law" = some (.ref fa))
    {od0 od1 od2 od3 od4 od5 od6 od7 od8 od9 od10 od11 od12 od13 od14 od15 od16 od17 od18 od19 od20 od21 od22 od23 od24 od25 od26 od27 od28 od29 od30 od31 an0 an1 an2 an3 an4 an5 an6 an7 an8 an9 an10 an11 an12 an13 an14 an15 an16 an17 an18 an19 an20 an21 an22 an23 an24 an25 an26 an27 an28 an29 an30 an31 : Option Addr} {sl0 sl1 sl2 sl3 sl4 sl5 sl6 sl7 sl8 sl9 sl10 sl11 sl12 sl13 sl14 sl15 sl16 sl17 sl18 sl19 sl20 sl21 sl22 sl23 sl24 sl25 sl26 sl27 sl28 sl29 sl30 sl31 : Array (Option Value)} {oc0 oc1 oc2 oc3 oc4 oc5 oc6 oc7 oc8 oc9 oc10 oc11 oc12 oc13 oc14 oc15 oc16 oc17 oc18 oc19 oc20 oc21 oc22 oc23 oc24 oc25 oc26 oc27 oc28 oc29 oc30 oc31 kV0 kV1 kV2 kV3 kV4 kV5 kV6 kV7 kV8 kV9 kV10 kV11 kV12 kV13 kV14 kV15 kV16 kV17 kV18 kV19 kV20 kV21 kV22 kV23 kV24 kV25 kV26 kV27 kV28 kV29 kV30 kV31 dc0 dc1 dc2 dc3 dc4 dc5 dc6 dc7 dc8 dc9 dc10 dc11 dc12 dc13 dc14 dc15 dc16 dc17 dc18 dc19 dc20 dc21 dc22 dc23 dc24 dc25 dc26 dc27 dc28 dc29 dc30 dc31 pm0 pm1 pm2 pm3 pm4 pm5 pm6 pm7 pm8 pm9 pm10 pm11 pm12 pm13 pm14 pm15 pm16 pm17 pm18 pm19 pm20 pm21 pm22 pm23 pm24 pm25 pm26 pm27 pm28 pm29 pm30 pm31 cd0 cd1 cd2 cd3 cd4 cd5 cd6 cd7 cd8 cd9 cd10 cd11 cd12 cd13 cd14 cd15 cd16 cd17 cd18 cd19 cd20 cd21 cd22 cd23 cd24 cd25 cd26 cd28 cd29 cd30 cd31 ct0 ct1 ct2 ct3 ct4 ct5 ct6 ct7 ct8 ct9 ct10 ct11 ct12 ct13 ct14 ct15 ct16 ct17 ct18 ct19 ct20 ct21 ct22 ct23 ct24 ct25 ct26 ct27 ct28 ct29 ct30 ct31 : Value} {cc27 PT27 : Addr} {hc27 : Value} {hd27 : Option Addr} {hv27 : Array Value} {hs27 : Array (Option Value)} {t_0 t_1 : Tok}{C_NoSpan C_NoTurning C_NoPlace C_PaneError C_Asks C_Tally I_NoSpan I_NoTurning I_NoPlace : Addr} {xn_NoSpan xn_NoTurning xn_NoPlace xq_NoSpan xq_NoTurning xq_NoPlace : Str} {xN_NoSpan xN_NoTurning xN_NoPlace : Addr} {xb_NoSpan xb_NoTurning xb_NoPlace xu_NoSpan xu_NoTurning xu_NoPlace : List Value} {xs_NoSpan xs_NoTurning xs_NoPlace : List Str} {xa_NoSpan xa_NoTurning xa_NoPlace : Bool} {xc_NoSpan xc_NoTurning xc_NoPlace : Option Bool} {xd_NoSpan xd_NoTurning xd_NoPlace Iod_NoSpan Iod_NoTurning Iod_NoPlace Ian_NoSpan Ian_NoTurning Ian_NoPlace : Option Addr} {xk0_NoSpan xk0_NoTurning xk0_NoPlace xk1_NoSpan xk1_NoTurning xk1_NoPlace xk2_NoSpan xk2_NoTurning xk2_NoPlace xk3_NoSpan xk3_NoTurning xk3_NoPlace xk5_NoSpan xk5_NoTurning xk5_NoPlace : Option Value} {Ioc_NoSpan Ioc_NoTurning Ioc_NoPlace IkV_NoSpan IkV_NoTurning IkV_NoPlace Idc_NoSpan Idc_NoTurning Idc_NoPlace Ipm_NoSpan Ipm_NoTurning Ipm_NoPlace Icd_NoSpan Icd_NoTurning Icd_NoPlace Ict_NoSpan Ict_NoTurning Ict_NoPlace : Value} {Isl_NoSpan Isl_NoTurning Isl_NoPlace : Array (Option Value)} 
    (a0 : PySem.W.nsIn K mainGlobals "is_whole" = some (some (.ref f0)))
    (l0 : K.lookup f0 = some ⟨oc0, od0, .func (PySem.W.fnOf "is_whole" "is_whole" (defArgs s_is_whole) (defBody s_is_whole) (defScope s_is_whole) .none kV0 dc0 pm0 an0 cd0 ct0), sl0⟩)
    (c0 : PySem.W.codeIn K cd0 "is_whole" = true) (k0 : PySem.W.keepIn K (.ref f0) = true)
    (a1 : PySem.W.nsIn K mainGlobals "is_within" = some (some (.ref f1)))
    (l1 : K.lookup f1 = some ⟨oc1, od1, .func (PySem.W.fnOf "is_within" "is_within" (defArgs s_is_within) (defBody s_is_within) (defScope s_is_within) .none kV1 dc1 pm1 an1 cd1 ct1), sl1⟩)
    (c1 : PySem.W.codeIn K cd1 "is_within" = true) (k1 : PySem.W.keepIn K (.ref f1) = true)
    (a2 : PySem.W.nsIn K mainGlobals "need_span" = some (some (.ref f2)))
    (l2 : K.lookup f2 = some ⟨oc2, od2, .func (PySem.W.fnOf "need_span" "need_span" (defArgs s_need_span) (defBody s_need_span) (defScope s_need_span) .none kV2 dc2 pm2 an2 cd2 ct2), sl2⟩)
    (c2 : PySem.W.codeIn K cd2 "need_span" = true) (k2 : PySem.W.keepIn K (.ref f2) = true)
    (a3 : PySem.W.nsIn K mainGlobals "is_turning" = some (some (.ref f3)))
    (l3 : K.lookup f3 = some ⟨oc3, od3, .func (PySem.W.fnOf "is_turning" "is_turning" (defArgs s_is_turning) (defBody s_is_turning) (defScope s_is_turning) .none kV3 dc3 pm3 an3 cd3 ct3), sl3⟩)
    (c3 : PySem.W.codeIn K cd3 "is_turning" = true) (k3 : PySem.W.keepIn K (.ref f3) = true)
    (a4 : PySem.W.nsIn K mainGlobals "need_turning" = some (some (.ref f4)))
    (l4 : K.lookup f4 = some ⟨oc4, od4, .func (PySem.W.fnOf "need_turning" "need_turning" (defArgs s_need_turning) (defBody s_need_turning) (defScope s_need_turning) .none kV4 dc4 pm4 an4 cd4 ct4), sl4⟩)
    (c4 : PySem.W.codeIn K cd4 "need_turning" = true) (k4 : PySem.W.keepIn K (.ref f4) = true)
    (a5 : PySem.W.nsIn K mainGlobals "need_place" = some (some (.ref f5)))
    (l5 : K.lookup f5 = some ⟨oc5, od5, .func (PySem.W.fnOf "need_place" "need_place" (defArgs s_need_place) (defBody s_need_place) (defScope s_need_place) .none kV5 dc5 pm5 an5 cd5 ct5), sl5⟩)
    (c5 : PySem.W.codeIn K cd5 "need_place" = true) (k5 : PySem.W.keepIn K (.ref f5) = true)
    (a6 : PySem.W.nsIn K mainGlobals "opposite" = some (some (.ref f6)))
    (l6 : K.lookup f6 = some ⟨oc6, od6, .func (PySem.W.fnOf "opposite" "opposite" (defArgs s_opposite) (defBody s_opposite) (defScope s_opposite) .none kV6 dc6 pm6 an6 cd6 ct6), sl6⟩)
    (c6 : PySem.W.codeIn K cd6 "opposite" = true) (k6 : PySem.W.keepIn K (.ref f6) = true)
    (a7 : PySem.W.nsIn K mainGlobals "mixed" = some (some (.ref f7)))
    (l7 : K.lookup f7 = some ⟨oc7, od7, .func (PySem.W.fnOf "mixed" "mixed" (defArgs s_mixed) (defBody s_mixed) (defScope s_mixed) .none kV7 dc7 pm7 an7 cd7 ct7), sl7⟩)
    (c7 : PySem.W.codeIn K cd7 "mixed" = true) (k7 : PySem.W.keepIn K (.ref f7) = true)
    (a8 : PySem.W.nsIn K mainGlobals "floors_of" = some (some (.ref f8)))
    (l8 : K.lookup f8 = some ⟨oc8, od8, .func (PySem.W.fnOf "floors_of" "floors_of" (defArgs s_floors_of) (defBody s_floors_of) (defScope s_floors_of) .none kV8 dc8 pm8 an8 cd8 ct8), sl8⟩)
    (c8 : PySem.W.codeIn K cd8 "floors_of" = true) (k8 : PySem.W.keepIn K (.ref f8) = true)
    (a9 : PySem.W.nsIn K mainGlobals "lesser" = some (some (.ref f9)))
    (l9 : K.lookup f9 = some ⟨oc9, od9, .func (PySem.W.fnOf "lesser" "lesser" (defArgs s_lesser) (defBody s_lesser) (defScope s_lesser) .none kV9 dc9 pm9 an9 cd9 ct9), sl9⟩)
    (c9 : PySem.W.codeIn K cd9 "lesser" = true) (k9 : PySem.W.keepIn K (.ref f9) = true)
    (a10 : PySem.W.nsIn K mainGlobals "need_window" = some (some (.ref f10)))
    (l10 : K.lookup f10 = some ⟨oc10, od10, .func (PySem.W.fnOf "need_window" "need_window" (defArgs s_need_window) (defBody s_need_window) (defScope s_need_window) .none kV10 dc10 pm10 an10 cd10 ct10), sl10⟩)
    (c10 : PySem.W.codeIn K cd10 "need_window" = true) (k10 : PySem.W.keepIn K (.ref f10) = true)
    (a11 : PySem.W.nsIn K mainGlobals "_law_cell" = some (some (.ref f11)))
    (l11 : K.lookup f11 = some ⟨oc11, od11, .func (PySem.W.fnOf "_law_cell" "_law_cell" (defArgs s__law_cell) (defBody s__law_cell) (defScope s__law_cell) .none kV11 dc11 pm11 an11 cd11 ct11), sl11⟩)
    (c11 : PySem.W.codeIn K cd11 "_law_cell" = true) (k11 : PySem.W.keepIn K (.ref f11) = true)
    (a12 : PySem.W.nsIn K mainGlobals "_law_numbers" = some (some (.ref f12)))
    (l12 : K.lookup f12 = some ⟨oc12, od12, .func (PySem.W.fnOf "_law_numbers" "_law_numbers" (defArgs s__law_numbers) (defBody s__law_numbers) (defScope s__law_numbers) .none kV12 dc12 pm12 an12 cd12 ct12), sl12⟩)
    (c12 : PySem.W.codeIn K cd12 "_law_numbers" = true) (k12 : PySem.W.keepIn K (.ref f12) = true)
    (a13 : PySem.W.nsIn K mainGlobals "_law_turning" = some (some (.ref f13)))
    (l13 : K.lookup f13 = some ⟨oc13, od13, .func (PySem.W.fnOf "_law_turning" "_law_turning" (defArgs s__law_turning) (defBody s__law_turning) (defScope s__law_turning) .none kV13 dc13 pm13 an13 cd13 ct13), sl13⟩)
    (c13 : PySem.W.codeIn K cd13 "_law_turning" = true) (k13 : PySem.W.keepIn K (.ref f13) = true)
    (a14 : PySem.W.nsIn K mainGlobals "_law_size" = some (some (.ref f14)))
    (l14 : K.lookup f14 = some ⟨oc14, od14, .func (PySem.W.fnOf "_law_size" "_law_size" (defArgs s__law_size) (defBody s__law_size) (defScope s__law_size) .none kV14 dc14 pm14 an14 cd14 ct14), sl14⟩)
    (c14 : PySem.W.codeIn K cd14 "_law_size" = true) (k14 : PySem.W.keepIn K (.ref f14) = true)
    (a15 : PySem.W.nsIn K mainGlobals "_law_lengths" = some (some (.ref f15)))
    (l15 : K.lookup f15 = some ⟨oc15, od15, .func (PySem.W.fnOf "_law_lengths" "_law_lengths" (defArgs s__law_lengths) (defBody s__law_lengths) (defScope s__law_lengths) .none kV15 dc15 pm15 an15 cd15 ct15), sl15⟩)
    (c15 : PySem.W.codeIn K cd15 "_law_lengths" = true) (k15 : PySem.W.keepIn K (.ref f15) = true)
    (a16 : PySem.W.nsIn K mainGlobals "_law_tightest" = some (some (.ref f16)))
    (l16 : K.lookup f16 = some ⟨oc16, od16, .func (PySem.W.fnOf "_law_tightest" "_law_tightest" (defArgs s__law_tightest) (defBody s__law_tightest) (defScope s__law_tightest) .none kV16 dc16 pm16 an16 cd16 ct16), sl16⟩)
    (c16 : PySem.W.codeIn K cd16 "_law_tightest" = true) (k16 : PySem.W.keepIn K (.ref f16) = true)
    (a17 : PySem.W.nsIn K mainGlobals "_law_shortest" = some (some (.ref f17)))
    (l17 : K.lookup f17 = some ⟨oc17, od17, .func (PySem.W.fnOf "_law_shortest" "_law_shortest" (defArgs s__law_shortest) (defBody s__law_shortest) (defScope s__law_shortest) .none kV17 dc17 pm17 an17 cd17 ct17), sl17⟩)
    (c17 : PySem.W.codeIn K cd17 "_law_shortest" = true) (k17 : PySem.W.keepIn K (.ref f17) = true)
    (a18 : PySem.W.nsIn K mainGlobals "_law_gains" = some (some (.ref f18)))
    (l18 : K.lookup f18 = some ⟨oc18, od18, .func (PySem.W.fnOf "_law_gains" "_law_gains" (defArgs s__law_gains) (defBody s__law_gains) (defScope s__law_gains) .none kV18 dc18 pm18 an18 cd18 ct18), sl18⟩)
    (c18 : PySem.W.codeIn K cd18 "_law_gains" = true) (k18 : PySem.W.keepIn K (.ref f18) = true)
    (a19 : PySem.W.nsIn K mainGlobals "_law_losses" = some (some (.ref f19)))
    (l19 : K.lookup f19 = some ⟨oc19, od19, .func (PySem.W.fnOf "_law_losses" "_law_losses" (defArgs s__law_losses) (defBody s__law_losses) (defScope s__law_losses) .none kV19 dc19 pm19 an19 cd19 ct19), sl19⟩)
    (c19 : PySem.W.codeIn K cd19 "_law_losses" = true) (k19 : PySem.W.keepIn K (.ref f19) = true)
    (a20 : PySem.W.findIn K (.ref C_Asks) "gains" = some (some (.ref f20))) (i20 : PySem.W.isFn K (.ref f20) = true)
    (l20 : K.lookup f20 = some ⟨oc20, od20, .func (PySem.W.fnOf "gains" "Asks.gains" (defArgs s_Asks_gains) (defBody s_Asks_gains) (defScope s_Asks_gains) .none kV20 dc20 pm20 an20 cd20 ct20), sl20⟩)
    (c20 : PySem.W.codeIn K cd20 "Asks.gains" = true) (k20 : PySem.W.keepIn K (.ref f20) = true)
    (a21 : PySem.W.findIn K (.ref C_Asks) "losses" = some (some (.ref f21))) (i21 : PySem.W.isFn K (.ref f21) = true)
    (l21 : K.lookup f21 = some ⟨oc21, od21, .func (PySem.W.fnOf "losses" "Asks.losses" (defArgs s_Asks_losses) (defBody s_Asks_losses) (defScope s_Asks_losses) .none kV21 dc21 pm21 an21 cd21 ct21), sl21⟩)
    (c21 : PySem.W.codeIn K cd21 "Asks.losses" = true) (k21 : PySem.W.keepIn K (.ref f21) = true)
    (a22 : PySem.W.findIn K (.ref C_Tally) "from_on" = some (some (.ref f22))) (i22 : PySem.W.isFn K (.ref f22) = true)
    (l22 : K.lookup f22 = some ⟨oc22, od22, .func (PySem.W.fnOf "from_on" "Tally.from_on" (defArgs s_Tally_from_on) (defBody s_Tally_from_on) (defScope s_Tally_from_on) .none kV22 dc22 pm22 an22 cd22 ct22), sl22⟩)
    (c22 : PySem.W.codeIn K cd22 "Tally.from_on" = true) (k22 : PySem.W.keepIn K (.ref f22) = true)
    (a23 : PySem.W.findIn K (.ref C_Tally) "below" = some (some (.ref f23))) (i23 : PySem.W.isFn K (.ref f23) = true)
    (l23 : K.lookup f23 = some ⟨oc23, od23, .func (PySem.W.fnOf "below" "Tally.below" (defArgs s_Tally_below) (defBody s_Tally_below) (defScope s_Tally_below) .none kV23 dc23 pm23 an23 cd23 ct23), sl23⟩)
    (c23 : PySem.W.codeIn K cd23 "Tally.below" = true) (k23 : PySem.W.keepIn K (.ref f23) = true)
    (a24 : PySem.W.findIn K (.ref C_Asks) "window" = some (some (.ref f24))) (i24 : PySem.W.isFn K (.ref f24) = true)
    (l24 : K.lookup f24 = some ⟨oc24, od24, .func (PySem.W.fnOf "window" "Asks.window" (defArgs s_Asks_window) (defBody s_Asks_window) (defScope s_Asks_window) .none kV24 dc24 pm24 an24 cd24 ct24), sl24⟩)
    (c24 : PySem.W.codeIn K cd24 "Asks.window" = true) (k24 : PySem.W.keepIn K (.ref f24) = true)
    (a25 : PySem.W.findIn K (.ref C_Asks) "stretch" = some (some (.ref f25))) (i25 : PySem.W.isFn K (.ref f25) = true)
    (l25 : K.lookup f25 = some ⟨oc25, od25, .func (PySem.W.fnOf "stretch" "Asks.stretch" (defArgs s_Asks_stretch) (defBody s_Asks_stretch) (defScope s_Asks_stretch) .none kV25 dc25 pm25 an25 cd25 ct25), sl25⟩)
    (c25 : PySem.W.codeIn K cd25 "Asks.stretch" = true) (k25 : PySem.W.keepIn K (.ref f25) = true)
    (a26 : PySem.W.findIn K (.ref C_Asks) "tightest" = some (some (.ref f26))) (i26 : PySem.W.isFn K (.ref f26) = true)
    (l26 : K.lookup f26 = some ⟨oc26, od26, .func (PySem.W.fnOf "tightest" "Asks.tightest" (defArgs s_Asks_tightest) (defBody s_Asks_tightest) (defScope s_Asks_tightest) .none kV26 dc26 pm26 an26 cd26 ct26), sl26⟩)
    (c26 : PySem.W.codeIn K cd26 "Asks.tightest" = true) (k26 : PySem.W.keepIn K (.ref f26) = true)
    (a27 : PySem.W.findIn K (.ref C_Asks) "shortest" = some (some (.ref f27))) (i27 : PySem.W.isFn K (.ref f27) = true)
    (l27 : K.lookup f27 = some ⟨oc27, od27, .func (PySem.W.fnOf "shortest" "Asks.shortest" (defArgs s_Asks_shortest) (defBody s_Asks_shortest) (defScope s_Asks_shortest) .none kV27 dc27 pm27 an27 (.ref cc27) ct27), sl27⟩)
    (c27 : PySem.W.codeIn K (.ref cc27) "Asks.shortest" = true) (k27 : PySem.W.keepIn K (.ref f27) = true)
    (h27 : K.lookup cc27 = some ⟨hc27, hd27, .fields hv27, hs27⟩) (p27 : (hv27[11]? : Option Value) = some (.ref PT27)) (g27 : PySem.W.codeHdIn K cc27 PT27 = true) (n27 : K.lookup PT27 = none) (t27 : h.get? PT27 = some { cls := .none, data := .fields #[] })
    (a28 : PySem.W.nsIn K mainGlobals "_law_asked" = some (some (.ref f28)))
    (l28 : K.lookup f28 = some ⟨oc28, od28, .func (PySem.W.fnOf "_law_asked" "_law_asked" (defArgs s__law_asked) (defBody s__law_asked) (defScope s__law_asked) .none kV28 dc28 pm28 an28 cd28 ct28), sl28⟩)
    (c28 : PySem.W.codeIn K cd28 "_law_asked" = true) (k28 : PySem.W.keepIn K (.ref f28) = true)
    (a29 : PySem.W.findIn K (.ref C_Tally) "__init__" = some (some (.ref f29))) (i29 : PySem.W.isFn K (.ref f29) = true)
    (l29 : K.lookup f29 = some ⟨oc29, od29, .func (PySem.W.fnOf "__init__" "Tally.__init__" (defArgs s_Tally_init) (defBody s_Tally_init) (defScope s_Tally_init) .none kV29 dc29 pm29 an29 cd29 ct29), sl29⟩)
    (c29 : PySem.W.codeIn K cd29 "Tally.__init__" = true) (k29 : PySem.W.keepIn K (.ref f29) = true)
    (a30 : PySem.W.findIn K (.ref C_Asks) "__init__" = some (some (.ref f30))) (i30 : PySem.W.isFn K (.ref f30) = true)
    (l30 : K.lookup f30 = some ⟨oc30, od30, .func (PySem.W.fnOf "__init__" "Asks.__init__" (defArgs s_Asks_init) (defBody s_Asks_init) (defScope s_Asks_init) .none kV30 dc30 pm30 an30 cd30 ct30), sl30⟩)
    (c30 : PySem.W.codeIn K cd30 "Asks.__init__" = true) (k30 : PySem.W.keepIn K (.ref f30) = true)
    (a31 : PySem.W.nsIn K mainGlobals "law" = some (some (.ref f31)))
    (l31 : K.lookup f31 = some ⟨oc31, od31, .func (PySem.W.fnOf "law" "law" (defArgs s_law) (defBody s_law) (defScope s_law) .none kV31 dc31 pm31 an31 cd31 ct31), sl31⟩)
    (c31 : PySem.W.codeIn K cd31 "law" = true) (k31 : PySem.W.keepIn K (.ref f31) = true)
    (cn0 : PySem.W.nsIn K mainGlobals "MOST_LINES" = some (some (.int 96 t_0)))
    (cn1 : PySem.W.nsIn K mainGlobals "MOST_LENGTH" = some (some (.int 96 t_1)))
    (z0 : PySem.W.nsIn K mainGlobals "isinstance" = some none)
    (z1 : PySem.W.nsIn K mainGlobals "int" = some none)
    (z2 : PySem.W.nsIn K mainGlobals "bool" = some none)
    (z3 : PySem.W.nsIn K mainGlobals "len" = some none)
    (z4 : PySem.W.nsIn K mainGlobals "list" = some none)
    (z5 : PySem.W.nsIn K mainGlobals "tuple" = some none)
    (z6 : PySem.W.nsIn K mainGlobals "enumerate" = some none)
    (z7 : PySem.W.nsIn K mainGlobals "zip" = some none)
    (z8 : PySem.W.nsIn K mainGlobals "range" = some none)
    (z9 : PySem.W.nsIn K mainGlobals "max" = some none)
    (z10 : PySem.W.nsIn K mainGlobals "min" = some none)
    (g_NoSpan : PySem.W.nsIn K mainGlobals "NoSpan" = some (some (.ref C_NoSpan)))
    (g_NoTurning : PySem.W.nsIn K mainGlobals "NoTurning" = some (some (.ref C_NoTurning)))
    (g_NoPlace : PySem.W.nsIn K mainGlobals "NoPlace" = some (some (.ref C_NoPlace)))
    (g_PaneError : PySem.W.nsIn K mainGlobals "PaneError" = some (some (.ref C_PaneError)))
    (lk_NoSpan : K.lookup C_NoSpan = some (excClassObj xn_NoSpan xq_NoSpan C_NoSpan xN_NoSpan xb_NoSpan [.ref C_PaneError, .type "ValueError", .type "Exception", .type "BaseException", .type "object"] true xs_NoSpan xu_NoSpan xa_NoSpan xc_NoSpan xd_NoSpan xk0_NoSpan xk1_NoSpan xk2_NoSpan xk3_NoSpan xk5_NoSpan "ValueError.__new__"))
    (f_setattr_NoSpan : PySem.W.findIn K (.ref C_NoSpan) "__setattr__" = some (some (.builtin "object.__setattr__")))
    (sb_NoSpan : PySem.W.subIn K (.ref C_NoSpan) (.type "BaseException") = some true)
    (ty_NoSpan : PySem.W.typeIn K (.ref C_NoSpan) = some (.type "type"))
    (k_NoSpan : PySem.W.keepIn K (.ref C_NoSpan) = true)
    (f_begin_NoSpan : PySem.W.findIn K (.ref C_NoSpan) "begin" = some none)
    (f_end_NoSpan : PySem.W.findIn K (.ref C_NoSpan) "end" = some none)
    (ini_NoSpan : PySem.W.findIn K (.ref C_NoSpan) "__init__" = some (some (.ref I_NoSpan)))
    (int_NoSpan : PySem.W.typeIn K (.ref I_NoSpan) = some (.type "function"))
    (il_NoSpan : K.lookup I_NoSpan = some ⟨Ioc_NoSpan, Iod_NoSpan, .func (PySem.W.fnOf "__init__" "NoSpan.__init__" (defArgs si_NoSpan) (defBody si_NoSpan) (defScope si_NoSpan) .none IkV_NoSpan Idc_NoSpan Ipm_NoSpan Ian_NoSpan Icd_NoSpan Ict_NoSpan), Isl_NoSpan⟩)
    (ic_NoSpan : PySem.W.codeIn K Icd_NoSpan "NoSpan.__init__" = true)
    (ik_NoSpan : PySem.W.keepIn K (.ref I_NoSpan) = true)
    (lk_NoTurning : K.lookup C_NoTurning = some (excClassObj xn_NoTurning xq_NoTurning C_NoTurning xN_NoTurning xb_NoTurning [.ref C_PaneError, .type "ValueError", .type "Exception", .type "BaseException", .type "object"] true xs_NoTurning xu_NoTurning xa_NoTurning xc_NoTurning xd_NoTurning xk0_NoTurning xk1_NoTurning xk2_NoTurning xk3_NoTurning xk5_NoTurning "ValueError.__new__"))
    (f_setattr_NoTurning : PySem.W.findIn K (.ref C_NoTurning) "__setattr__" = some (some (.builtin "object.__setattr__")))
    (sb_NoTurning : PySem.W.subIn K (.ref C_NoTurning) (.type "BaseException") = some true)
    (ty_NoTurning : PySem.W.typeIn K (.ref C_NoTurning) = some (.type "type"))
    (k_NoTurning : PySem.W.keepIn K (.ref C_NoTurning) = true)
    (f_found_NoTurning : PySem.W.findIn K (.ref C_NoTurning) "found" = some none)
    (ini_NoTurning : PySem.W.findIn K (.ref C_NoTurning) "__init__" = some (some (.ref I_NoTurning)))
    (int_NoTurning : PySem.W.typeIn K (.ref I_NoTurning) = some (.type "function"))
    (il_NoTurning : K.lookup I_NoTurning = some ⟨Ioc_NoTurning, Iod_NoTurning, .func (PySem.W.fnOf "__init__" "NoTurning.__init__" (defArgs si_NoTurning) (defBody si_NoTurning) (defScope si_NoTurning) .none IkV_NoTurning Idc_NoTurning Ipm_NoTurning Ian_NoTurning Icd_NoTurning Ict_NoTurning), Isl_NoTurning⟩)
    (ic_NoTurning : PySem.W.codeIn K Icd_NoTurning "NoTurning.__init__" = true)
    (ik_NoTurning : PySem.W.keepIn K (.ref I_NoTurning) = true)
    (lk_NoPlace : K.lookup C_NoPlace = some (excClassObj xn_NoPlace xq_NoPlace C_NoPlace xN_NoPlace xb_NoPlace [.ref C_PaneError, .type "ValueError", .type "Exception", .type "BaseException", .type "object"] true xs_NoPlace xu_NoPlace xa_NoPlace xc_NoPlace xd_NoPlace xk0_NoPlace xk1_NoPlace xk2_NoPlace xk3_NoPlace xk5_NoPlace "ValueError.__new__"))
    (f_setattr_NoPlace : PySem.W.findIn K (.ref C_NoPlace) "__setattr__" = some (some (.builtin "object.__setattr__")))
    (sb_NoPlace : PySem.W.subIn K (.ref C_NoPlace) (.type "BaseException") = some true)
    (ty_NoPlace : PySem.W.typeIn K (.ref C_NoPlace) = some (.type "type"))
    (k_NoPlace : PySem.W.keepIn K (.ref C_NoPlace) = true)
    (f_found_NoPlace : PySem.W.findIn K (.ref C_NoPlace) "found" = some none)
    (ini_NoPlace : PySem.W.findIn K (.ref C_NoPlace) "__init__" = some (some (.ref I_NoPlace)))
    (int_NoPlace : PySem.W.typeIn K (.ref I_NoPlace) = some (.type "function"))
    (il_NoPlace : K.lookup I_NoPlace = some ⟨Ioc_NoPlace, Iod_NoPlace, .func (PySem.W.fnOf "__init__" "NoPlace.__init__" (defArgs si_NoPlace) (defBody si_NoPlace) (defScope si_NoPlace) .none IkV_NoPlace Idc_NoPlace Ipm_NoPlace Ian_NoPlace Icd_NoPlace Ict_NoPlace), Isl_NoPlace⟩)
    (ic_NoPlace : PySem.W.codeIn K Icd_NoPlace "NoPlace.__init__" = true)
    (ik_NoPlace : PySem.W.keepIn K (.ref I_NoPlace) = true)
    (ba_PaneError : PySem.W.specialIn K (.ref C_PaneError) "__getattribute__" = some (some (.builtin "type.__getattribute__")))
    (br_PaneError : PySem.W.readsIn K C_PaneError (.type "type") = true)
    (bf_PaneError : PySem.W.findCls K (.ref C_PaneError) (.type "type") "__init__" = some (.val (.builtin "ValueError.__init__")))
    (g_Asks : PySem.W.nsIn K mainGlobals "Asks" = some (some (.ref C_Asks)))
    (pg_Asks : PySem.W.plainGet K C_Asks Str.empty = true)
    (hd_Asks : PySem.W.hasDictIn K C_Asks = true)
    (po_Asks : PySem.W.plainOver K C_Asks = true)
    (sa_Asks : PySem.W.findIn K (.ref C_Asks) "__setattr__" = some (some (.builtin "object.__setattr__")))
    (na_Asks_tall : PySem.W.findIn K (.ref C_Asks) "tall" = some none)
    (na_Asks_wide : PySem.W.findIn K (.ref C_Asks) "wide" = some none)
    (na_Asks_tally : PySem.W.findIn K (.ref C_Asks) "tally" = some none)
    (na_Asks_goals : PySem.W.findIn K (.ref C_Asks) "goals" = some none)
    (na_Asks_starts : PySem.W.findIn K (.ref C_Asks) "starts" = some none)
    (mk_Asks : PySem.W.makesIn K C_Asks = true)
    (kc_Asks : PySem.W.keepIn K (.ref C_Asks) = true)
    (g_Tally : PySem.W.nsIn K mainGlobals "Tally" = some (some (.ref C_Tally)))
    (pg_Tally : PySem.W.plainGet K C_Tally Str.empty = true)
    (hd_Tally : PySem.W.hasDictIn K C_Tally = true)
    (po_Tally : PySem.W.plainOver K C_Tally = true)
    (sa_Tally : PySem.W.findIn K (.ref C_Tally) "__setattr__" = some (some (.builtin "object.__setattr__")))
    (na_Tally_many : PySem.W.findIn K (.ref C_Tally) "many" = some none)
    (na_Tally_floors : PySem.W.findIn K (.ref C_Tally) "floors" = some none)
    (mk_Tally : PySem.W.makesIn K C_Tally = true)
    (kc_Tally : PySem.W.keepIn K (.ref C_Tally) = true)
    : LamX.LawAtS l w K CX0 10 63 "_law_script" mg fa h := by
  have e := hfa.symm.trans (PySem.W.mg_of X G a31)
  cases e
  have q_NoSpan := clsA_of g_NoSpan
  subst q_NoSpan
  have q_NoTurning := clsA_of g_NoTurning
  subst q_NoTurning
  have q_NoPlace := clsA_of g_NoPlace
  subst q_NoPlace
  have q_PaneError := clsA_of g_PaneError
  subst q_PaneError
  have q_Asks := clsA_of g_Asks
  subst q_Asks
  have q_Tally := clsA_of g_Tally
  subst q_Tally
  refine ⟨PySem.W.fnOf "law" "law" (defArgs s_law) (defBody s_law) (defScope s_law) .none kV31 dc31 pm31 an31 cd31 ct31, [(cc27, PT27)], sp_law K (tabsL (fun i => match i with | 0 => (cc27, PT27) | _ => (cc27, PT27))), (fun p hp => by
    simp only [List.mem_cons, List.not_mem_nil, or_false] at hp
    rcases hp with rfl
    · exact t27), (fun p hp => by
    simp only [List.mem_cons, List.not_mem_nil, or_false] at hp
    rcases hp with rfl
    · exact n27), (fun p hp => by
    simp only [List.mem_cons, List.not_mem_nil, or_false] at hp
    rcases hp with rfl
    · exact PySem.W.codeHd_of_K X g27), fun s v => .of_eq rfl, fun H a ns hl _ hTt hS => ⟨a, ns, rfl, hS, fun p hp => ?_, hl, fun _ => rfl⟩, fun base _ _ hTB => ?_⟩
  · simp only [tabsL, List.mem_cons, List.not_mem_nil, or_false] at hp
    rcases hp with rfl
    · exact LamX.TabS.nil (hTt (cc27, PT27) (by simp))
  have T : Tx K mg (fun i => match i with | 0 => f0 | 1 => f1 | 2 => f2 | 3 => f3 | 4 => f4 | 5 => f5 | 6 => f6 | 7 => f7 | 8 => f8 | 9 => f9 | 10 => f10 | 11 => f11 | 12 => f12 | 13 => f13 | 14 => f14 | 15 => f15 | 16 => f16 | 17 => f17 | 18 => f18 | 19 => f19 | 20 => f20 | 21 => f21 | 22 => f22 | 23 => f23 | 24 => f24 | 25 => f25 | 26 => f26 | 27 => f27 | 28 => f28 | 29 => f29 | 30 => f30 | 31 => fa | _ => f0) (fun i => match i with | 0 => PySem.W.fnOf "is_whole" "is_whole" (defArgs s_is_whole) (defBody s_is_whole) (defScope s_is_whole) .none kV0 dc0 pm0 an0 cd0 ct0 | 1 => PySem.W.fnOf "is_within" "is_within" (defArgs s_is_within) (defBody s_is_within) (defScope s_is_within) .none kV1 dc1 pm1 an1 cd1 ct1 | 2 => PySem.W.fnOf "need_span" "need_span" (defArgs s_need_span) (defBody s_need_span) (defScope s_need_span) .none kV2 dc2 pm2 an2 cd2 ct2 | 3 => PySem.W.fnOf "is_turning" "is_turning" (defArgs s_is_turning) (defBody s_is_turning) (defScope s_is_turning) .none kV3 dc3 pm3 an3 cd3 ct3 | 4 => PySem.W.fnOf "need_turning" "need_turning" (defArgs s_need_turning) (defBody s_need_turning) (defScope s_need_turning) .none kV4 dc4 pm4 an4 cd4 ct4 | 5 => PySem.W.fnOf "need_place" "need_place" (defArgs s_need_place) (defBody s_need_place) (defScope s_need_place) .none kV5 dc5 pm5 an5 cd5 ct5 | 6 => PySem.W.fnOf "opposite" "opposite" (defArgs s_opposite) (defBody s_opposite) (defScope s_opposite) .none kV6 dc6 pm6 an6 cd6 ct6 | 7 => PySem.W.fnOf "mixed" "mixed" (defArgs s_mixed) (defBody s_mixed) (defScope s_mixed) .none kV7 dc7 pm7 an7 cd7 ct7 | 8 => PySem.W.fnOf "floors_of" "floors_of" (defArgs s_floors_of) (defBody s_floors_of) (defScope s_floors_of) .none kV8 dc8 pm8 an8 cd8 ct8 | 9 => PySem.W.fnOf "lesser" "lesser" (defArgs s_lesser) (defBody s_lesser) (defScope s_lesser) .none kV9 dc9 pm9 an9 cd9 ct9 | 10 => PySem.W.fnOf "need_window" "need_window" (defArgs s_need_window) (defBody s_need_window) (defScope s_need_window) .none kV10 dc10 pm10 an10 cd10 ct10 | 11 => PySem.W.fnOf "_law_cell" "_law_cell" (defArgs s__law_cell) (defBody s__law_cell) (defScope s__law_cell) .none kV11 dc11 pm11 an11 cd11 ct11 | 12 => PySem.W.fnOf "_law_numbers" "_law_numbers" (defArgs s__law_numbers) (defBody s__law_numbers) (defScope s__law_numbers) .none kV12 dc12 pm12 an12 cd12 ct12 | 13 => PySem.W.fnOf "_law_turning" "_law_turning" (defArgs s__law_turning) (defBody s__law_turning) (defScope s__law_turning) .none kV13 dc13 pm13 an13 cd13 ct13 | 14 => PySem.W.fnOf "_law_size" "_law_size" (defArgs s__law_size) (defBody s__law_size) (defScope s__law_size) .none kV14 dc14 pm14 an14 cd14 ct14 | 15 => PySem.W.fnOf "_law_lengths" "_law_lengths" (defArgs s__law_lengths) (defBody s__law_lengths) (defScope s__law_lengths) .none kV15 dc15 pm15 an15 cd15 ct15 | 16 => PySem.W.fnOf "_law_tightest" "_law_tightest" (defArgs s__law_tightest) (defBody s__law_tightest) (defScope s__law_tightest) .none kV16 dc16 pm16 an16 cd16 ct16 | 17 => PySem.W.fnOf "_law_shortest" "_law_shortest" (defArgs s__law_shortest) (defBody s__law_shortest) (defScope s__law_shortest) .none kV17 dc17 pm17 an17 cd17 ct17 | 18 => PySem.W.fnOf "_law_gains" "_law_gains" (defArgs s__law_gains) (defBody s__law_gains) (defScope s__law_gains) .none kV18 dc18 pm18 an18 cd18 ct18 | 19 => PySem.W.fnOf "_law_losses" "_law_losses" (defArgs s__law_losses) (defBody s__law_losses) (defScope s__law_losses) .none kV19 dc19 pm19 an19 cd19 ct19 | 20 => PySem.W.fnOf "gains" "Asks.gains" (defArgs s_Asks_gains) (defBody s_Asks_gains) (defScope s_Asks_gains) .none kV20 dc20 pm20 an20 cd20 ct20 | 21 => PySem.W.fnOf "losses" "Asks.losses" (defArgs s_Asks_losses) (defBody s_Asks_losses) (defScope s_Asks_losses) .none kV21 dc21 pm21 an21 cd21 ct21 | 22 => PySem.W.fnOf "from_on" "Tally.from_on" (defArgs s_Tally_from_on) (defBody s_Tally_from_on) (defScope s_Tally_from_on) .none kV22 dc22 pm22 an22 cd22 ct22 | 23 => PySem.W.fnOf "below" "Tally.below" (defArgs s_Tally_below) (defBody s_Tally_below) (defScope s_Tally_below) .none kV23 dc23 pm23 an23 cd23 ct23 | 24 => PySem.W.fnOf "window" "Asks.window" (defArgs s_Asks_window) (defBody s_Asks_window) (defScope s_Asks_window) .none kV24 dc24 pm24 an24 cd24 ct24 | 25 => PySem.W.fnOf "stretch" "Asks.stretch" (defArgs s_Asks_stretch) (defBody s_Asks_stretch) (defScope s_Asks_stretch) .none kV25 dc25 pm25 an25 cd25 ct25 | 26 => PySem.W.fnOf "tightest" "Asks.tightest" (defArgs s_Asks_tightest) (defBody s_Asks_tightest) (defScope s_Asks_tightest) .none kV26 dc26 pm26 an26 cd26 ct26 | 27 => PySem.W.fnOf "shortest" "Asks.shortest" (defArgs s_Asks_shortest) (defBody s_Asks_shortest) (defScope s_Asks_shortest) .none kV27 dc27 pm27 an27 (.ref cc27) ct27 | 28 => PySem.W.fnOf "_law_asked" "_law_asked" (defArgs s__law_asked) (defBody s__law_asked) (defScope s__law_asked) .none kV28 dc28 pm28 an28 cd28 ct28 | 29 => PySem.W.fnOf "__init__" "Tally.__init__" (defArgs s_Tally_init) (defBody s_Tally_init) (defScope s_Tally_init) .none kV29 dc29 pm29 an29 cd29 ct29 | 30 => PySem.W.fnOf "__init__" "Asks.__init__" (defArgs s_Asks_init) (defBody s_Asks_init) (defScope s_Asks_init) .none kV30 dc30 pm30 an30 cd30 ct30 | 31 => PySem.W.fnOf "law" "law" (defArgs s_law) (defBody s_law) (defScope s_law) .none kV31 dc31 pm31 an31 cd31 ct31 | _ => PySem.W.fnOf "is_whole" "is_whole" (defArgs s_is_whole) (defBody s_is_whole) (defScope s_is_whole) .none kV0 dc0 pm0 an0 cd0 ct0) (fun i => match i with | 0 => t_0 | 1 => t_1 | _ => t_0) base (fun i => match i with | 0 => (cc27, PT27) | _ => (cc27, PT27)) := {
    d_is_whole := df_mk X G a0 l0 c0 k0 (fun _ _ _ _ _ _ us hl => match us, hl with | [_], _ => rfl)
    d_is_within := df_mk X G a1 l1 c1 k1 (fun _ _ _ _ _ _ us hl => match us, hl with | [_, _, _], _ => rfl)
    d_need_span := df_mk X G a2 l2 c2 k2 (fun _ _ _ _ _ _ us hl => match us, hl with | [_, _, _], _ => rfl)
    d_is_turning := df_mk X G a3 l3 c3 k3 (fun _ _ _ _ _ _ us hl => match us, hl with | [_], _ => rfl)
    d_need_turning := df_mk X G a4 l4 c4 k4 (fun _ _ _ _ _ _ us hl => match us, hl with | [_], _ => rfl)
    d_need_place := df_mk X G a5 l5 c5 k5 (fun _ _ _ _ _ _ us hl => match us, hl with | [_, _], _ => rfl)
    d_opposite := df_mk X G a6 l6 c6 k6 (fun _ _ _ _ _ _ us hl => match us, hl with | [_], _ => rfl)
    d_mixed := df_mk X G a7 l7 c7 k7 (fun _ _ _ _ _ _ us hl => match us, hl with | [_, _], _ => rfl)
    d_floors_of := df_mk X G a8 l8 c8 k8 (fun _ _ _ _ _ _ us hl => match us, hl with | [_], _ => rfl)
    d_lesser := df_mk X G a9 l9 c9 k9 (fun _ _ _ _ _ _ us hl => match us, hl with | [_, _], _ => rfl)
    d_need_window := df_mk X G a10 l10 c10 k10 (fun _ _ _ _ _ _ us hl => match us, hl with | [_, _, _], _ => rfl)
    d__law_cell := df_mk X G a11 l11 c11 k11 (fun _ _ _ _ _ _ us hl => match us, hl with | [_, _], _ => rfl)
    d__law_numbers := df_mk X G a12 l12 c12 k12 (fun _ _ _ _ _ _ us hl => match us, hl with | [_, _, _], _ => rfl)
    d__law_turning := df_mk X G a13 l13 c13 k13 (fun _ _ _ _ _ _ us hl => match us, hl with | [_, _, _], _ => rfl)
    d__law_size := df_mk X G a14 l14 c14 k14 (fun _ _ _ _ _ _ us hl => match us, hl with | [_], _ => rfl)
    d__law_lengths := df_mk X G a15 l15 c15 k15 (fun _ _ _ _ _ _ us hl => match us, hl with | [_, _], _ => rfl)
    d__law_tightest := df_mk X G a16 l16 c16 k16 (fun _ _ _ _ _ _ us hl => match us, hl with | [_, _], _ => rfl)
    d__law_shortest := df_mk X G a17 l17 c17 k17 (fun _ _ _ _ _ _ us hl => match us, hl with | [_, _], _ => rfl)
    d__law_gains := df_mk X G a18 l18 c18 k18 (fun _ _ _ _ _ _ us hl => match us, hl with | [_, _], _ => rfl)
    d__law_losses := df_mk X G a19 l19 c19 k19 (fun _ _ _ _ _ _ us hl => match us, hl with | [_, _], _ => rfl)
    d_Asks_gains := dm_mk a20 i20 l20 c20 k20 (fun _ _ _ _ _ _ us hl => match us, hl with | [_, _], _ => rfl)
    d_Asks_losses := dm_mk a21 i21 l21 c21 k21 (fun _ _ _ _ _ _ us hl => match us, hl with | [_, _], _ => rfl)
    d_Tally_from_on := dm_mk a22 i22 l22 c22 k22 (fun _ _ _ _ _ _ us hl => match us, hl with | [_, _, _], _ => rfl)
    d_Tally_below := dm_mk a23 i23 l23 c23 k23 (fun _ _ _ _ _ _ us hl => match us, hl with | [_, _, _], _ => rfl)
    d_Asks_window := dm_mk a24 i24 l24 c24 k24 (fun _ _ _ _ _ _ us hl => match us, hl with | [_, _, _, _, _], _ => rfl)
    d_Asks_stretch := dm_mk a25 i25 l25 c25 k25 (fun _ _ _ _ _ _ us hl => match us, hl with | [_, _, _], _ => rfl)
    d_Asks_tightest := dm_mk a26 i26 l26 c26 k26 (fun _ _ _ _ _ _ us hl => match us, hl with | [_, _], _ => rfl)
    d_Asks_shortest := dm_mk a27 i27 l27 c27 k27 (fun _ _ _ _ _ _ us hl => match us, hl with | [_, _], _ => rfl)
    fc_Asks_shortest := ⟨⟨_, _, _, _, _, _, _, _, rfl, l27, c27⟩⟩
    tb_Asks_shortest := hTB (cc27, PT27) (by simp)
    d__law_asked := df_mk X G a28 l28 c28 k28 (fun _ _ _ _ _ _ us hl => match us, hl with | [_, _, _], _ => rfl)
    d_Tally_init := dm_mk a29 i29 l29 c29 k29 (fun _ _ _ _ _ _ us hl => match us, hl with | [_, _], _ => rfl)
    d_Asks_init := dm_mk a30 i30 l30 c30 k30 (fun _ _ _ _ _ _ us hl => match us, hl with | [_, _, _], _ => rfl)
    d_law := df_mk X G a31 l31 c31 k31 (fun _ _ _ _ _ _ us hl => match us, hl with | [_], _ => rfl)
    c_MOST_LINES := PySem.W.mg_of X G cn0
    c_MOST_LENGTH := PySem.W.mg_of X G cn1
    b_isinstance := PySem.W.mg_none_of X G z0
    b_int := PySem.W.mg_none_of X G z1
    b_bool := PySem.W.mg_none_of X G z2
    b_len := PySem.W.mg_none_of X G z3
    b_list := PySem.W.mg_none_of X G z4
    b_tuple := PySem.W.mg_none_of X G z5
    b_enumerate := PySem.W.mg_none_of X G z6
    b_zip := PySem.W.mg_none_of X G z7
    b_range := PySem.W.mg_none_of X G z8
    b_max := PySem.W.mg_none_of X G z9
    b_min := PySem.W.mg_none_of X G z10
    g_NoSpan := PySem.W.mg_of X G g_NoSpan
    o_NoSpan := ⟨⟨_, _, _, _, _, _, _, _, _, _, _, _, _, _, _, lk_NoSpan, rfl⟩, f_setattr_NoSpan, sb_NoSpan, ty_NoSpan, k_NoSpan⟩
    n_NoSpan_begin := f_begin_NoSpan
    n_NoSpan_end := f_end_NoSpan
    i_NoSpan := ini_mk ini_NoSpan int_NoSpan il_NoSpan ic_NoSpan ik_NoSpan (fun _ _ _ _ _ _ us hl => match us, hl with | [_, _, _], _ => rfl)
    g_NoTurning := PySem.W.mg_of X G g_NoTurning
    o_NoTurning := ⟨⟨_, _, _, _, _, _, _, _, _, _, _, _, _, _, _, lk_NoTurning, rfl⟩, f_setattr_NoTurning, sb_NoTurning, ty_NoTurning, k_NoTurning⟩
    n_NoTurning_found := f_found_NoTurning
    i_NoTurning := ini_mk ini_NoTurning int_NoTurning il_NoTurning ic_NoTurning ik_NoTurning (fun _ _ _ _ _ _ us hl => match us, hl with | [_, _], _ => rfl)
    g_NoPlace := PySem.W.mg_of X G g_NoPlace
    o_NoPlace := ⟨⟨_, _, _, _, _, _, _, _, _, _, _, _, _, _, _, lk_NoPlace, rfl⟩, f_setattr_NoPlace, sb_NoPlace, ty_NoPlace, k_NoPlace⟩
    n_NoPlace_found := f_found_NoPlace
    i_NoPlace := ini_mk ini_NoPlace int_NoPlace il_NoPlace ic_NoPlace ik_NoPlace (fun _ _ _ _ _ _ us hl => match us, hl with | [_, _], _ => rfl)
    bi_PaneError := ⟨PySem.W.mg_of X G g_PaneError, ba_PaneError, br_PaneError, bf_PaneError⟩
    mg_Asks := PySem.W.mg_of X G g_Asks
    cl_Asks := ⟨pg_Asks, hd_Asks, po_Asks, sa_Asks⟩
    na_Asks_tall := na_Asks_tall
    na_Asks_wide := na_Asks_wide
    na_Asks_tally := na_Asks_tally
    na_Asks_goals := na_Asks_goals
    na_Asks_starts := na_Asks_starts
    m_Asks := ⟨mk_Asks, a30, i30, kc_Asks⟩
    mg_Tally := PySem.W.mg_of X G g_Tally
    cl_Tally := ⟨pg_Tally, hd_Tally, po_Tally, sa_Tally⟩
    na_Tally_many := na_Tally_many
    na_Tally_floors := na_Tally_floors
    m_Tally := ⟨mk_Tally, a29, i29, kc_Tally⟩
  }
  exact ok_law T
end My
open PySem PySem.W PyProof.Rows in
set_option maxRecDepth 100000 in
set_option maxHeartbeats 0 in
theorem PySem.Challenge.cw_panethread_k43_tight_stretches_holds : PySem.Challenge.rw_panethread_k43_tight_stretches.Holds := by
  refine hdK ?_
  refine HdQ.head_km (q := HdR.q9) (loose := HdR.l9) (M := 40000) (d := HandSHeadRun.topDef HdR.R9.prog 37) (kwd := []) HdR.e9 HdR.f9 HdR.run9 HdR.d9 HdR.p9 HdR.k9 HdR.v9 HdR.s9 HdR.o9 HdR.b9 HdR.w9 ?hc
  k_fill
  refine LamX.walk_ofTs (l := PySem.Challenge.rw_panethread_k43_tight_stretches) (n := 63) (k := 10) (x := "_law_script") (CX := fun _ => L2.CX0) rfl (by decide) HdR.a9 ⟨rfl, by decide, by decide⟩ (fun w h Y => PySem.W.km_in_of Y) ?F (fun _ _ _ _ _ z => z)
  case F =>
    intro w mg fa h Y KX G hmg0
    have hmg : mg ("law" : PySem.Str) = some (.ref fa) := by
      rw [← HdR.n9]
      exact hmg0
    apply My.facts9 w
    intro f0 f1 f2 f3 f4 f5 f6 f7 f8 f9 f10 f11 f12 f13 f14 f15 f16 f17 f18 f19 f20 f21 f22 f23 f24 f25 f26 f27 f28 f29 f30 f31 od0 od1 od2 od3 od4 od5 od6 od7 od8 od9 od10 od11 od12 od13 od14 od15 od16 od17 od18 od19 od20 od21 od22 od23 od24 od25 od26 od27 od28 od29 od30 od31 an0 an1 an2 an3 an4 an5 an6 an7 an8 an9 an10 an11 an12 an13 an14 an15 an16 an17 an18 an19 an20 an21 an22 an23 an24 an25 an26 an27 an28 an29 an30 an31 sl0 sl1 sl2 sl3 sl4 sl5 sl6 sl7 sl8 sl9 sl10 sl11 sl12 sl13 sl14 sl15 sl16 sl17 sl18 sl19 sl20 sl21 sl22 sl23 sl24 sl25 sl26 sl27 sl28 sl29 sl30 sl31 oc0 oc1 oc2 oc3 oc4 oc5 oc6 oc7 oc8 oc9 oc10 oc11 oc12 oc13 oc14 oc15 oc16 oc17 oc18 oc19 oc20 oc21 oc22 oc23 oc24 oc25 oc26 oc27 oc28 oc29 oc30 oc31 kV0 kV1 kV2 kV3 kV4 kV5 kV6 kV7 kV8 kV9 kV10 kV11 kV12 kV13 kV14 kV15 kV16 kV17 kV18 kV19 kV20 kV21 kV22 kV23 kV24 kV25 kV26 kV27 kV28 kV29 kV30 kV31 dc0 dc1 dc2 dc3 dc4 dc5 dc6 dc7 dc8 dc9 dc10 dc11 dc12 dc13 dc14 dc15 dc16 dc17 dc18 dc19 dc20 dc21 dc22 dc23 dc24 dc25 dc26 dc27 dc28 dc29 dc30 dc31 pm0 pm1 pm2 pm3 pm4 pm5 pm6 pm7 pm8 pm9 pm10 pm11 pm12 pm13 pm14 pm15 pm16 pm17 pm18 pm19 pm20 pm21 pm22 pm23 pm24 pm25 pm26 pm27 pm28 pm29 pm30 pm31 cd0 cd1 cd2 cd3 cd4 cd5 cd6 cd7 cd8 cd9 cd10 cd11 cd12 cd13 cd14 cd15 cd16 cd17 cd18 cd19 cd20 cd21 cd22 cd23 cd24 cd25 cd26 cd28 cd29 cd30 cd31 ct0 ct1 ct2 ct3 ct4 ct5 ct6 ct7 ct8 ct9 ct10 ct11 ct12 ct13 ct14 ct15 ct16 ct17 ct18 ct19 ct20 ct21 ct22 ct23 ct24 ct25 ct26 ct27 ct28 ct29 ct30 ct31 cc27 PT27 hc27 hd27 hv27 hs27 t_0 t_1 C_NoSpan C_NoTurning C_NoPlace C_PaneError C_Asks C_Tally I_NoSpan I_NoTurning I_NoPlace xn_NoSpan xn_NoTurning xn_NoPlace xq_NoSpan xq_NoTurning xq_NoPlace xN_NoSpan xN_NoTurning xN_NoPlace xb_NoSpan xb_NoTurning xb_NoPlace xu_NoSpan xu_NoTurning xu_NoPlace xs_NoSpan xs_NoTurning xs_NoPlace xa_NoSpan xa_NoTurning xa_NoPlace xc_NoSpan xc_NoTurning xc_NoPlace xd_NoSpan xd_NoTurning xd_NoPlace Iod_NoSpan Iod_NoTurning Iod_NoPlace Ian_NoSpan Ian_NoTurning Ian_NoPlace xk0_NoSpan xk0_NoTurning xk0_NoPlace xk1_NoSpan xk1_NoTurning xk1_NoPlace xk2_NoSpan xk2_NoTurning xk2_NoPlace xk3_NoSpan xk3_NoTurning xk3_NoPlace xk5_NoSpan xk5_NoTurning xk5_NoPlace Ioc_NoSpan Ioc_NoTurning Ioc_NoPlace IkV_NoSpan IkV_NoTurning IkV_NoPlace Idc_NoSpan Idc_NoTurning Idc_NoPlace Ipm_NoSpan Ipm_NoTurning Ipm_NoPlace Icd_NoSpan Icd_NoTurning Icd_NoPlace Ict_NoSpan Ict_NoTurning Ict_NoPlace Isl_NoSpan Isl_NoTurning Isl_NoPlace a0 l0 c0 k0 a1 l1 c1 k1 a2 l2 c2 k2 a3 l3 c3 k3 a4 l4 c4 k4 a5 l5 c5 k5 a6 l6 c6 k6 a7 l7 c7 k7 a8 l8 c8 k8 a9 l9 c9 k9 a10 l10 c10 k10 a11 l11 c11 k11 a12 l12 c12 k12 a13 l13 c13 k13 a14 l14 c14 k14 a15 l15 c15 k15 a16 l16 c16 k16 a17 l17 c17 k17 a18 l18 c18 k18 a19 l19 c19 k19 a20 i20 l20 c20 k20 a21 i21 l21 c21 k21 a22 i22 l22 c22 k22 a23 i23 l23 c23 k23 a24 i24 l24 c24 k24 a25 i25 l25 c25 k25 a26 i26 l26 c26 k26 a27 i27 l27 c27 k27 h27 p27 g27 n27 t27 a28 l28 c28 k28 a29 i29 l29 c29 k29 a30 i30 l30 c30 k30 a31 l31 c31 k31 cn0 cn1 z0 z1 z2 z3 z4 z5 z6 z7 z8 z9 z10 g_NoSpan g_NoTurning g_NoPlace g_PaneError lk_NoSpan f_setattr_NoSpan sb_NoSpan ty_NoSpan k_NoSpan f_begin_NoSpan f_end_NoSpan ini_NoSpan int_NoSpan il_NoSpan ic_NoSpan ik_NoSpan lk_NoTurning f_setattr_NoTurning sb_NoTurning ty_NoTurning k_NoTurning f_found_NoTurning ini_NoTurning int_NoTurning il_NoTurning ic_NoTurning ik_NoTurning lk_NoPlace f_setattr_NoPlace sb_NoPlace ty_NoPlace k_NoPlace f_found_NoPlace ini_NoPlace int_NoPlace il_NoPlace ic_NoPlace ik_NoPlace ba_PaneError br_PaneError bf_PaneError g_Asks pg_Asks hd_Asks po_Asks sa_Asks na_Asks_tall na_Asks_wide na_Asks_tally na_Asks_goals na_Asks_starts mk_Asks kc_Asks g_Tally pg_Tally hd_Tally po_Tally sa_Tally na_Tally_many na_Tally_floors mk_Tally kc_Tally
    exact My.all_mk KX G hmg a0 l0 c0 k0 a1 l1 c1 k1 a2 l2 c2 k2 a3 l3 c3 k3 a4 l4 c4 k4 a5 l5 c5 k5 a6 l6 c6 k6 a7 l7 c7 k7 a8 l8 c8 k8 a9 l9 c9 k9 a10 l10 c10 k10 a11 l11 c11 k11 a12 l12 c12 k12 a13 l13 c13 k13 a14 l14 c14 k14 a15 l15 c15 k15 a16 l16 c16 k16 a17 l17 c17 k17 a18 l18 c18 k18 a19 l19 c19 k19 a20 i20 l20 c20 k20 a21 i21 l21 c21 k21 a22 i22 l22 c22 k22 a23 i23 l23 c23 k23 a24 i24 l24 c24 k24 a25 i25 l25 c25 k25 a26 i26 l26 c26 k26 a27 i27 l27 c27 k27 h27 p27 g27 n27 (PySem.W.km_tabs_of Y _ t27) a28 l28 c28 k28 a29 i29 l29 c29 k29 a30 i30 l30 c30 k30 a31 l31 c31 k31 cn0 cn1 z0 z1 z2 z3 z4 z5 z6 z7 z8 z9 z10 g_NoSpan g_NoTurning g_NoPlace g_PaneError lk_NoSpan f_setattr_NoSpan sb_NoSpan ty_NoSpan k_NoSpan f_begin_NoSpan f_end_NoSpan ini_NoSpan int_NoSpan il_NoSpan ic_NoSpan ik_NoSpan lk_NoTurning f_setattr_NoTurning sb_NoTurning ty_NoTurning k_NoTurning f_found_NoTurning ini_NoTurning int_NoTurning il_NoTurning ic_NoTurning ik_NoTurning lk_NoPlace f_setattr_NoPlace sb_NoPlace ty_NoPlace k_NoPlace f_found_NoPlace ini_NoPlace int_NoPlace il_NoPlace ic_NoPlace ik_NoPlace ba_PaneError br_PaneError bf_PaneError g_Asks pg_Asks hd_Asks po_Asks sa_Asks na_Asks_tall na_Asks_wide na_Asks_tally na_Asks_goals na_Asks_starts mk_Asks kc_Asks g_Tally pg_Tally hd_Tally po_Tally sa_Tally na_Tally_many na_Tally_floors mk_Tally kc_Tally
#print axioms PySem.Challenge.cw_panethread_k43_tight_stretches_holds
