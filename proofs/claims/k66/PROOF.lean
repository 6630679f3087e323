import PyProof.Rows.All
import Wide.All
import OpenK.AllK
import Wide.FinOn
import HandS.ForMost
import HandS.ForExc
import HandS.IsInst
import HandS.Codes
import HandS.Evl
import KE.DataEq
import KE.GoesEnum
import HandS.ExcInit
import HandS.WordsExc
import HandS.ExcOwn
import HandS.TryElse
import HandS.ExcField
import HandS.ExcIs
import KE.KExcIs
import HandS.SetKeys
import HandS.SortRule
import HandS.SortInts
import HandS.TupLe
import PyProof.ReprRoads
import HandS.Ends
import PyProof.ReprLen
import HandS.DeepEq
import HandS.Conv
import HandS.Wide
import HandS.DictComp
import HandS.TupAny
import HandS.TupLen
import PyProof.FString5
import PyProof.StrLawsTight
import HandS.ExcValue
import HandS.Flt
import OpenK.KTop
import HandS.JoinGen
import HandS.NoneIn
import KE.DataMinMax
import KE.DatumOrd
import PyProof.DictMoreH
import HandS.DictTup
import KE.DataCmp
import HandS.Zip
import HandS.TupSets
import HandS.Nested
import HandS.EndTab
import KE.KNestM
import HandS.StrMore
import HandS.Head2
import PySem.Challenge.RW_panethread_k66_whole_no_changes_pay_less
set_option Elab.async false
set_option linter.all false
set_option maxRecDepth 100000
set_option maxHeartbeats 4000000
namespace HdQ
open PySem PySem.W PySem.Calls PyProof.Rows HandSHeadRun
/-- what is left behind the Hook that k_head chose -/
def Box (_ : Hook) (p : Prop) : Prop := p
theorem box_mk {r : OpenRow} (H : Hook) (hw : r.toRowW.promised) (hc : Box H r.Holds) : r.Holds := hc
/-- the run's equation, the Hook being kmHook -/
def RunM (r : OpenRow) (q : Program) (loose : List PySem.Str) (M : Nat) (K : Params → Frag) (as ts : List Addr) (w : World) : Prop :=
  ∀ os : OsState, (endF (stepQ (denQ tabQ) r.prog w) M r.prog w os).map (fun s => (looksF r.prog (boot_heap w.params) s.abs, seenQ q loose (importedModules r.prog.main.body) (fun s => xlAt q [] s && recOk r.toRowW.records s) s.abs, (as.map (getT s), ts.map (getT s)))) = some (true, openGood q loose, ((K w.params).map fun p => some p.2, ts.map fun _ => some (tabObj #[])))
abbrev RunMOf {p s : Prop} {K : Params → Frag} {as : List Addr} {e : ∀ P, as = (K P).map (·.1)} {ts : List Addr} (_ : Box (kmHook K as e ts) p → s) (r : OpenRow) (q : Program) (loose : List PySem.Str) (M : Nat) (w : World) : Prop := RunM r q loose M K as ts w
theorem head_km {r : OpenRow} {q : Program} {K : Params → Frag} {as : List Addr} {e : ∀ P, as = (K P).map (·.1)} {ts : List Addr} {M : Nat} {loose : List PySem.Str} {d : DefRec} {kwd : List (PySem.Str × PySem.Expr)}
    (e0 : opening r.prog = plainProg r.prog.main.scope.names) (f : ∀ s, fenceModules? r.prog s = some s) (run : ∀ w, RunM r q loose M K as ts w)
    (hdef : defOf q r.name = some (d, kwd)) (hp : r.prog.theDef r.name = some (d.params, d.body, d.scope)) (hk : kwWritten? d.params.kwonlyargs d.params.kw_defaults = some kwd)
    (hwr : (!r.writes || r.records.isEmpty) = true) (k1 : r.wellSaid = true) (ok : (chainsOk q && opensWell r.prog && (frees r.toRowW && r.within.isEmpty)) = true) (hb : r.prog.bare) (hw : r.toRowW.promised)
    (call : WalkO q loose (XL q []) (kmHook K as e ts).says r.toRowW d kwd fun f vs => PySem.call f vs) : Box (kmHook K as e ts) r.Holds :=
  head_any (r := r) (q := q) (H := kmHook K as e ts) (ob := fun s => (as.map (getT s), ts.map (getT s))) (M := M) (loose := loose) (d := d) (kwd := kwd)
    (fun s => Prod.ext (List.map_congr_left fun a _ => getT_eq s a) (List.map_congr_left fun a _ => getT_eq s a)) e0 f run hdef hp hk hwr k1 ok hb hw call
end HdQ
local macro_rules | `(tactic| o_head $H) => `(tactic| apply HdQ.box_mk $H)
open PySem PySem.W PyProof.Rows in
set_option maxRecDepth 100000 in
set_option maxHeartbeats 0 in
open_top hdK for PySem.Challenge.rw_panethread_k66_whole_no_changes_pay_less
namespace HdR
abbrev R9 : PySem.W.OpenRow := PySem.W.OpenLaw.row PySem.Challenge.rw_panethread_k66_whole_no_changes_pay_less
abbrev q9 : PySem.Program := PySem.W.view R9.prog [90]
def l9_0 : List PySem.Str := "_wall" :: "PaneError" :: "NoRow" :: "NoPlain" :: "NoPlace" :: "NoSpan" :: "NoTurning" :: "NoWindow" :: "Unlike" :: "TooLong" :: "NoChanges" :: "LETTERS" :: "MOST_SIGNS" :: "MOST_LETTERS" :: "is_whole" :: "is_within" :: "is_letter" :: "is_row" :: "is_plain" :: "need_row" :: "need_rows" :: "need_plain" :: "need_span" :: "parted" :: "places_of" :: "led" :: "Board" :: "MOST_LINES" :: "is_turning" :: "need_turning" :: "need_place" :: "opposite" :: "mixed" :: "floors_of" :: "lesser" :: "Tally" :: "need_window" :: "Asks" :: "asks_of" :: "MOST_CHANGES" :: []
def l9_1 : List PySem.Str := "SIZES" :: "is_change" :: "is_changes" :: "need_changes" :: "old_of" :: "new_of" :: "old_row" :: "new_row" :: "come_to" :: "paid" :: "done" :: "back" :: "after" :: "lengths" :: "longest" :: "is_pair" :: "pairs_of" :: "is_heap" :: "are_heaps" :: "need_plains" :: "cost" :: "Costs" :: "cost_table" :: "changes_of" :: "shows_cost" :: "_law_cell_at" :: "_law_great" :: "_law_letter" :: "_law_row" :: "_law_list" :: "_law_new" :: "_law_old" :: "_law_pays" :: "_law_parted" :: "_law_heaps" :: "_law_part_one" :: "_law_leads" :: "_law_shown" :: "_law_both_ways" :: []
def l9 : List PySem.Str := l9_0 ++ l9_1
theorem run_false (w : PySem.World) : HdQ.RunMOf hdK R9 q9 l9 40000 (w.withFollow "special-get-raises" false) := by
  intro os
  kernel_rfl
theorem run_true (w : PySem.World) : HdQ.RunMOf hdK R9 q9 l9 40000 (w.withFollow "special-get-raises" true) := by
  intro os
  kernel_rfl
theorem run9 (w : PySem.World) : HdQ.RunMOf hdK R9 q9 l9 40000 w := PySem.W.byRow2 "special-get-raises" (P := fun w => HdQ.RunMOf hdK R9 q9 l9 40000 w) run_false run_true w
theorem n9 : (HandSHeadRun.topDef R9.prog 90).name = ("law" : PySem.Str) := by kernel_rfl
end HdR
namespace Zb
open PySem PySem.Spec PyProof.Rows L2
def seqAt (H : Hp) (p : Addr) : Option (List V) := match H p with
  | some (.lst xs) => some xs
  | some (.tup xs) => some xs
  | some (.frz _ (.lst xs)) => some xs
  | some (.frz _ (.tup xs)) => some xs
  | _ => none
theorem seqAt_sq {K : PySem.W.Frag} {H : Hp} {p : Addr} {xs : List V} (h : seqAt H p = some xs) : SqL K H p xs ∨ SqT K H p xs := by
  unfold seqAt at h
  split at h
  · rename_i e; cases h; exact .inl (.inl (.inl e))
  · rename_i e; cases h; exact .inr (.inl (.inl e))
  · rename_i e; cases h; exact .inl (.inl (.inr ⟨_, e⟩))
  · rename_i e; cases h; exact .inr (.inl (.inr ⟨_, e⟩))
  · cases h
def lstAt (H : Hp) (p : Addr) : Option (List V) := match H p with
  | some (.lst xs) => some xs
  | some (.frz _ (.lst xs)) => some xs
  | _ => none
theorem lstAt_sq {K : PySem.W.Frag} {H : Hp} {p : Addr} {xs : List V} (h : lstAt H p = some xs) : SqL K H p xs := by
  unfold lstAt at h
  split at h
  · rename_i e; cases h; exact .inl (.inl e)
  · rename_i e; cases h; exact .inl (.inr ⟨_, e⟩)
  · cases h
def tupAt (H : Hp) (p : Addr) : Option (List V) := match H p with
  | some (.tup xs) => some xs
  | some (.frz _ (.tup xs)) => some xs
  | _ => none
theorem tupAt_sq {K : PySem.W.Frag} {H : Hp} {p : Addr} {xs : List V} (h : tupAt H p = some xs) : SqT K H p xs := by
  unfold tupAt at h
  split at h
  · rename_i e; cases h; exact .inl (.inl e)
  · rename_i e; cases h; exact .inl (.inr ⟨_, e⟩)
  · cases h
mutual
inductive Rp (H : Hp) : V → PyData → Prop
  | non : Rp H .non .none
  | bl (b : Bool) : Rp H (.bl b) (.bool b)
  | int (i : Int) : Rp H (.int i) (.int i)
  | str (x : Str) : Rp H (.str x) (.str x)
  | lst {a : Addr} {xs : List V} {ds : List PyData} : lstAt H a = some xs → RpA H xs ds → Rp H (.ref a) (.list ds)
  | tup {a : Addr} {xs : List V} {ds : List PyData} : tupAt H a = some xs → RpA H xs ds → Rp H (.ref a) (.tuple ds)
inductive RpA (H : Hp) : List V → List PyData → Prop
  | nil : RpA H [] []
  | cons {v : V} {vs : List V} {d : PyData} {ds : List PyData} : Rp H v d → RpA H vs ds → RpA H (v :: vs) (d :: ds)
end
mutual
theorem Rp.dp {K : PySem.W.Frag} {H : Hp} : ∀ {v : V} {d : PyData}, Rp H v d → Dp K H v d
  | _, _, .non => .non
  | _, _, .bl b => .bl b
  | _, _, .int i => .int i
  | _, _, .str x => .str x
  | _, _, .lst h k => .lst (lstAt_sq h) (RpA.dp k)
  | _, _, .tup h k => .tup (tupAt_sq h) (RpA.dp k)
theorem RpA.dp {K : PySem.W.Frag} {H : Hp} : ∀ {vs : List V} {ds : List PyData}, RpA H vs ds → DpAll K H vs ds
  | _, _, .nil => .nil
  | _, _, .cons h k => .cons (Rp.dp h) (RpA.dp k)
end
def rAdd : R2 := fun x y H Q => match x, y with
  | .int i, .int j => Q (.int (i + j)) H
  | .str a, .str b => a.length + b.length ≤ 16777216 ∧ Q (.str (a ++ b)) H
  | .ref p, .ref q => ∃ xs ys, H p = some (.lst xs) ∧ H q = some (.lst ys) ∧ xs.length + ys.length ≤ 16777216 ∧ ∀ r, H r = none → Q (.ref r) (upd H r (.lst (xs ++ ys)))
  | _, _ => False
def rSub : R2 := fun x y H Q => match x, y with
  | .int i, .int j => Q (.int (i - j)) H
  | _, _ => False
def rMul : R2 := fun x y H Q => match x, y with
  | .int i, .int j => CMul i j ∧ Q (.int (i * j)) H
  | .ref p, .int k => ∃ xs, H p = some (.lst xs) ∧ -1000000 ≤ k ∧ k ≤ 1000000 ∧ xs.length * k.toNat ≤ 16777216 ∧ ∀ r, H r = none → Q (.ref r) (upd H r (.lst (List.replicate k.toNat xs).flatten))
  | .str a, .int k => -1000000 ≤ k ∧ k ≤ 1000000 ∧ a.length * k.toNat ≤ 16777216 ∧ Q (.str (Txt.mul a k)) H
  | _, _ => False
def rMod : R2 := fun x y H Q => match x, y with
  | .int i, .int j => 0 < j ∧ Q (.int (i % j)) H
  | _, _ => False
def rDiv : R2 := fun x y H Q => match x, y with
  | .int i, .int j => 0 < j ∧ j < 1073741824 ∧ Q (.int (i / j)) H
  | _, _ => False
def rPow : R2 := fun x y H Q => match x, y with
  | .int i, .int j => 0 ≤ j ∧ j ≤ 1000000 ∧ i.natAbs < 2 ^ 64 ∧ Q (.int (i ^ j.toNat)) H
  | _, _ => False
def rCmpI (f : Int → Int → Bool) : R2 := fun x y H Q => match x, y with
  | .int i, .int j => Q (.bl (f i j)) H
  | _, _ => False
mutual
theorem Rp.plain {H : Hp} : ∀ {v : V} {d : PyData}, Rp H v d → d.plain = true
  | _, _, .non => rfl
  | _, _, .bl b => rfl
  | _, _, .int i => rfl
  | _, _, .str x => rfl
  | _, _, .lst h k => by simp only [PyData.plain]; exact RpA.plain k
  | _, _, .tup h k => by simp only [PyData.plain]; exact RpA.plain k
theorem RpA.plain {H : Hp} : ∀ {vs : List V} {ds : List PyData}, RpA H vs ds → PyData.plainAll ds = true
  | _, _, .nil => rfl
  | _, _, .cons h k => by simp only [PyData.plainAll, Rp.plain h, RpA.plain k, Bool.and_self]
end
/-- == of data at any depth -/
def rEqU : R2 := fun x y H Q => ∃ d e, Rp H x d ∧ Rp H y e ∧ min d.depth e.depth ≤ 64 ∧ Q (.bl (PyData.eqv d e)) H
def rNeU : R2 := fun x y H Q => ∃ d e, Rp H x d ∧ Rp H y e ∧ min d.depth e.depth ≤ 64 ∧ Q (.bl (!PyData.eqv d e)) H
section
variable {X : Cx}
theorem sl16 : sizeLine = 16777216 := sizeLine_eq
theorem o_add : OpR X (binaryOp .Add) rAdd := by
  intro pins s σ H x y v u Q I rx ry h
  unfold rAdd at h
  split at h
  · exact op_add pins s σ H _ _ v u Q I rx ry ⟨_, _, rfl, rfl, h⟩
  · exact op_add_str pins s σ H _ _ v u Q I rx ry ⟨_, _, rfl, rfl, by rw [sl16]; exact h.1, h.2⟩
  · obtain ⟨xs, ys, h1, h2, h3, h4⟩ := h
    exact op_cat pins s σ H _ _ v u Q I rx ry ⟨_, _, _, _, rfl, rfl, h1, h2, by rw [sl16]; exact h3, h4⟩
  · exact h.elim
theorem o_sub : OpR X (binaryOp .Sub) rSub := by
  intro pins s σ H x y v u Q I rx ry h
  unfold rSub at h
  split at h
  · exact op_sub pins s σ H _ _ v u Q I rx ry ⟨_, _, rfl, rfl, h⟩
  · exact h.elim
/-- a text by its codes -/
def tx (l : List Nat) : Str := ⟨l.toArray⟩
theorem tx_toList (l : List Nat) : (tx l).cps.toList = l := by simp [tx]
theorem tx_length (l : List Nat) : (tx l).length = l.length := by simp [tx, Str.length]
theorem tx_eta (s : Str) : tx s.cps.toList = s := by cases s; simp [tx]
theorem tx_inj {a b : List Nat} : tx a = tx b ↔ a = b := ⟨fun h => by have := congrArg (fun s => s.cps.toList) h; simpa [tx] using this, fun h => by rw [h]⟩
theorem tx_append (a b : List Nat) : tx a ++ tx b = tx (a ++ b) := by
  show Str.mk _ = _
  simp [tx]
theorem txt_mul_ok {a : Str} {k : Int} (h1 : -1000000 ≤ k) (h2 : k ≤ 1000000) (h3 : a.length * k.toNat ≤ 16777216) : MulOk a k := by
  refine ⟨?_, fun h4 _ => ?_, fun _ _ => ?_⟩
  · have h5 : ¬ k < -(2 ^ 63 : Int) := by omega
    have h6 : ¬ k ≥ (2 ^ 63 : Int) := by omega
    rw [decide_eq_false h5, decide_eq_false h6]
    rfl
  · have e : (a.length : Int) * k ≤ 16777216 := by
      have e1 : ((a.length * k.toNat : Nat) : Int) ≤ ((16777216 : Nat) : Int) := Int.ofNat_le.mpr h3
      have e2 : ((k.toNat : Nat) : Int) = k := by omega
      rw [Int.natCast_mul, e2] at e1
      exact e1
    have : (a.length : Int) ≤ (2 ^ 63 - 1) / k := by
      rw [Int.le_ediv_iff_mul_le (by omega)]
      omega
    omega
  · unfold Builtin.Str.tooLong
    have : ¬ (a.length * k.toNat > sizeLine) := by rw [sl16]; omega
    exact decide_eq_false this
theorem o_mul : OpR X (binaryOp .Mult) rMul := by
  intro pins s σ H x y v u Q I rx ry h
  unfold rMul at h
  split at h
  · exact op_mul pins s σ H _ _ v u Q I rx ry ⟨_, _, rfl, rfl, h.1, h.2⟩
  · obtain ⟨xs, h1, h2, h3, h4, h5⟩ := h
    exact op_rep pins s σ H _ _ v u Q I rx ry ⟨_, _, _, rfl, rfl, h1, by omega, by omega, by rw [sl16]; exact h4, h5⟩
  · obtain ⟨h1, h2, h3, h4⟩ := h
    obtain ⟨t, rfl⟩ := rx
    obtain ⟨t', rfl⟩ := ry
    exact SB.mul (txt_mul_ok h1 h2 h3) fun t' k => ⟨.str _, H, I.tok k, ⟨_, rfl⟩, h4⟩
  · exact h.elim
theorem o_mod : OpR X (binaryOp .Mod) rMod := by
  intro pins s σ H x y v u Q I rx ry h
  unfold rMod at h
  split at h
  · exact op_mod pins s σ H _ _ v u Q I rx ry ⟨_, _, rfl, rfl, h.1, h.2⟩
  · exact h.elim
theorem o_div : OpR X (binaryOp .FloorDiv) rDiv := by
  intro pins s σ H x y v u Q I rx ry h
  unfold rDiv at h
  split at h
  · exact op_fdiv pins s σ H _ _ v u Q I rx ry ⟨_, _, rfl, rfl, ⟨h.1, h.2.1⟩, h.2.2⟩
  · exact h.elim
theorem o_pow : OpR X (binaryOp .Pow) rPow := by
  intro pins s σ H x y v u Q I rx ry h
  unfold rPow at h
  split at h
  · exact op_pow pins s σ H _ _ v u Q I rx ry ⟨_, _, rfl, rfl, ⟨h.1, h.2.1, h.2.2.1⟩, h.2.2.2⟩
  · exact h.elim
theorem cmpI_of {f : Int → Int → Bool} {op : Value → Value → Sem Value} (ho : OpR X op (rI0 fun i j => .bl (f i j))) : OpR X op (rCmpI f) := by
  intro pins s σ H x y v u Q I rx ry h
  unfold rCmpI at h
  split at h
  · exact ho pins s σ H _ _ v u Q I rx ry ⟨_, _, rfl, rfl, h⟩
  · exact h.elim
theorem o_lt : OpR X (compareOp .Lt) (rCmpI fun i j => decide (i < j)) := cmpI_of op_lt
theorem o_le : OpR X (compareOp .LtE) (rCmpI fun i j => decide (i ≤ j)) := cmpI_of op_le
theorem o_gt : OpR X (compareOp .Gt) (rCmpI fun i j => decide (j < i)) := cmpI_of op_gt
theorem o_ge : OpR X (compareOp .GtE) (rCmpI fun i j => decide (j ≤ i)) := cmpI_of op_ge
theorem o_eq (hu : X.A.units + 64 < cLine) : OpR X (compareOp .Eq) rEqU := by
  intro pins s σ H x y v u Q I rx ry h
  obtain ⟨d, e, h1, h2, h3, q⟩ := h
  obtain ⟨as, r1⟩ := Dp.reads I d x v h1.dp rx
  obtain ⟨bs, r2⟩ := Dp.reads I e y u h2.dp ry
  exact SeqAt.eq_plain r1 r2 h1.plain h2.plain (by omega) ⟨.bl _, H, I, rfl, q⟩
theorem o_ne (hu : X.A.units + 64 < cLine) : OpR X (compareOp .NotEq) rNeU := by
  intro pins s σ H x y v u Q I rx ry h
  obtain ⟨d, e, h1, h2, h3, q⟩ := h
  obtain ⟨as, r1⟩ := Dp.reads I d x v h1.dp rx
  obtain ⟨bs, r2⟩ := Dp.reads I e y u h2.dp ry
  exact SeqAt.ne_plain r1 r2 h1.plain h2.plain (by omega) ⟨.bl _, H, I, rfl, q⟩
def rIxU (K : PySem.W.Frag) : R2 := fun x y H Q => match x, y with
  | .str z, .int i => z.length ≤ 16777216 ∧ ∃ c, atI z.cps.toList i = some c ∧ Q (.str (tx [c])) H
  | .ref p, .int i => ∃ xs, (SqL K H p xs ∨ SqT K H p xs) ∧ ∃ v, atI xs i = some v ∧ Q v H
  | _, _ => False
theorem i_ix {K : PySem.W.Frag} (hK : X.K = K := by rfl) : IxR X (rIxU K) := by
  subst hK
  intro value slice pins s σ H x y v u Q I rx ry h hs
  unfold rIxU at h
  split at h
  · obtain ⟨h1, c, h2, h3⟩ := h
    exact ix_str value slice pins s σ H _ _ v u Q I rx ry ⟨_, _, _, rfl, rfl, by rw [sl16]; exact h1, h2, h3⟩ hs
  · obtain ⟨xs, h1, v, h2, h3⟩ := h
    rcases h1 with h1 | h1
    · exact ix_list value slice pins s σ H _ _ _ u Q I rx ry ⟨_, _, _, _, rfl, rfl, h1, h2, h3⟩ hs
    · exact ix_tup value slice pins s σ H _ _ _ u Q I rx ry ⟨_, _, _, _, rfl, rfl, h1, h2, h3⟩ hs
  · exact h.elim
/-- a[lo:hi] of a text or a list -/
def rSlU (K : PySem.W.Frag) : V → Option Int → Option Int → Hp → VK → Prop := fun x lo hi H Q => match x with
  | .str z => z.length ≤ 16777216 ∧ Q (.str (cutS z lo hi)) H
  | .ref p => ∃ xs, SqL K H p xs ∧ ∀ q, H q = none → Q (.ref q) (upd H q (.lst (cutV xs lo hi)))
  | _ => False
theorem s_sl {K : PySem.W.Frag} (hK : X.K = K := by rfl) : SlR X (rSlU K) := by
  subst hK
  intro pins s σ H x v vl vu lo hi sl Q I rx hs pl pu h
  unfold rSlU at h
  split at h
  · exact sl_str pins s σ H _ v vl vu lo hi sl Q I rx hs pl pu ⟨_, rfl, by rw [sl16]; exact h.1, h.2⟩
  · obtain ⟨xs, h1, h2⟩ := h
    exact sl_list pins s σ H _ v vl vu lo hi sl Q I rx hs pl pu ⟨_, _, rfl, h1, h2⟩
  · exact h.elim
def rLen (K : PySem.W.Frag) : List V → Hp → VK → Prop := fun vs H Q => match vs with
  | [.str z] => z.length ≤ 16777216 ∧ Q (.int z.length) H
  | [.ref p] => (∃ xs, (SqL K H p xs ∨ SqT K H p xs) ∧ Q (.int xs.length) H)
  | _ => False
theorem c_len {K : PySem.W.Frag} (hK : X.K = K := by rfl) : CallR X (.builtin "len") (rLen K) := by
  subst hK
  intro pins s σ H xs us Q I r h
  unfold rLen at h
  split at h
  · exact call_len pins s σ H _ us Q I r ⟨_, _, rfl, ⟨by rw [sl16]; exact h.1, rfl⟩, h.2⟩
  · obtain ⟨ys, h1, h2⟩ := h
    rcases h1 with h1 | h1
    · exact call_len pins s σ H _ us Q I r ⟨_, _, rfl, .inl ⟨_, h1, rfl⟩, h2⟩
    · exact call_len pins s σ H _ us Q I r ⟨_, _, rfl, .inr ⟨_, h1, rfl⟩, h2⟩
  · exact h.elim
def rInU (neg : Bool) : R2 := fun x y H Q => match y with
  | .str b => ∃ a, x = .str a ∧ Q (.bl (if neg then !(!(Builtin.Str.occurrences b a 0 b.length 1).isEmpty) else !(Builtin.Str.occurrences b a 0 b.length 1).isEmpty)) H
  | .ref p => ∃ xs ds d, seqAt H p = some xs ∧ RpA H xs ds ∧ Rp H x d ∧ min (PyData.depthAll ds) d.depth ≤ 60 ∧ Q (.bl (if neg then !(ds.any fun y => PyData.eqv y d) else ds.any fun y => PyData.eqv y d)) H
  | _ => False
theorem seqAt_cases {H : Hp} {p : Addr} {xs : List V} (h : seqAt H p = some xs) : lstAt H p = some xs ∨ tupAt H p = some xs := by
  unfold seqAt at h
  unfold lstAt tupAt
  split at h <;> rename_i e <;> first | (cases h; rw [e]; first | exact .inl rfl | exact .inr rfl) | cases h
theorem o_in (hu : X.A.units + 64 < cLine) : OpR X (compareOp .In) (rInU false) := by
  intro pins s σ H x y v u Q I rx ry h
  unfold rInU at h
  split at h
  · obtain ⟨a, rfl, h⟩ := h
    exact op_in_str pins s σ H _ _ v u Q I rx ry ⟨_, _, rfl, rfl, h⟩
  · obtain ⟨xs, ds, d, h1, h2, h3, h4, q⟩ := h
    obtain ⟨bs, r2⟩ := Dp.reads I d x v h3.dp rx
    rcases seqAt_cases h1 with h1 | h1
    · obtain ⟨as, r1⟩ := Dp.reads I (.list ds) _ u (Rp.lst h1 h2).dp ry
      exact SeqAt.in_list_data r1 r2 h2.plain h3.plain (by omega) ⟨.bl _, H, I, rfl, q⟩
    · obtain ⟨as, r1⟩ := Dp.reads I (.tuple ds) _ u (Rp.tup h1 h2).dp ry
      exact SeqAt.in_tuple_data r1 r2 h2.plain h3.plain (by omega) ⟨.bl _, H, I, rfl, q⟩
  · exact h.elim
theorem o_nin (hu : X.A.units + 64 < cLine) : OpR X (compareOp .NotIn) (rInU true) := by
  intro pins s σ H x y v u Q I rx ry h
  unfold rInU at h
  split at h
  · obtain ⟨a, rfl, h⟩ := h
    exact op_notIn_str pins s σ H _ _ v u Q I rx ry ⟨_, _, rfl, rfl, h⟩
  · obtain ⟨xs, ds, d, h1, h2, h3, h4, q⟩ := h
    obtain ⟨bs, r2⟩ := Dp.reads I d x v h3.dp rx
    rcases seqAt_cases h1 with h1 | h1
    · obtain ⟨as, r1⟩ := Dp.reads I (.list ds) _ u (Rp.lst h1 h2).dp ry
      exact SeqAt.notIn_list_data r1 r2 h2.plain h3.plain (by omega) ⟨.bl _, H, I, rfl, q⟩
    · obtain ⟨as, r1⟩ := Dp.reads I (.tuple ds) _ u (Rp.tup h1 h2).dp ry
      exact SeqAt.notIn_tuple_data r1 r2 h2.plain h3.plain (by omega) ⟨.bl _, H, I, rfl, q⟩
  · exact h.elim
def tyO : Option HO → Option String
  | some (.lst _) => some "list"
  | some (.tup _) => some "tuple"
  | some (.dK _) => some "dict"
  | some (.dT _) => some "dict"
  | some (.frz _ (.lst _)) => some "list"
  | some (.frz _ (.tup _)) => some "tuple"
  | some (.frz _ (.dK _)) => some "dict"
  | _ => none
def tyN (H : Hp) : V → Option String
  | .non => some "NoneType"
  | .bl _ => some "bool"
  | .int _ => some "int"
  | .str _ => some "str"
  | .ref p => tyO (H p)
  | _ => none
theorem tyN_ok {K : PySem.W.Frag} {H : Hp} {v : V} {n : String} (h : tyN H v = some n) : TyX K H v (.type n) := by
  cases v with
  | non => cases h; exact .base .non
  | bl b => cases h; exact .base (.bl _)
  | int i => cases h; exact .base (.int _)
  | str x => cases h; exact .base (.str _)
  | ref p =>
    have h : tyO (H p) = some n := h
    unfold tyO at h
    split at h <;> rename_i e
    · cases h; exact .base (.lst e)
    · cases h; exact .base (.tup e)
    · cases h; exact .base (.dK e)
    · cases h; exact .base (.dT e)
    · cases h; exact .base (.frz e)
    · cases h; exact .fTuple e
    · cases h; exact .fDict e
    · cases h
  | _ => cases h
def rIs : List V → Hp → VK → Prop := fun vs H Q => match vs with
  | [x, .ty n] => ∃ t, tyN H x = some t ∧ ∃ b, kitB t n = some b ∧ Q (.bl b) H
  | _ => False
theorem c_is : CallR X (.builtin "isinstance") rIs := by
  intro pins s σ H xs us Q I r h
  unfold rIs at h
  split at h
  · obtain ⟨t, h1, b, h2, h3⟩ := h
    exact call_isi pins s σ H _ us Q I r ⟨_, _, _, _, _, rfl, .ty _, tyN_ok h1, kit_ty h2, h3⟩
  · exact h.elim
def rMax2 : List V → Hp → VK → Prop := fun vs H Q => match vs with
  | [.int i, .int j] => Q (.int (if j > i then j else i)) H
  | _ => False
def rMin2 : List V → Hp → VK → Prop := fun vs H Q => match vs with
  | [.int i, .int j] => Q (.int (if j < i then j else i)) H
  | _ => False
theorem c_max (hc : X.calm = true) : CallR X (.builtin "max") rMax2 := by
  intro pins s σ H xs us Q I r h
  unfold rMax2 at h
  split at h
  · exact call_max2 hc pins s σ H _ us Q I r ⟨_, _, rfl, h⟩
  · exact h.elim
def rAllU : List V → Hp → VK → Prop := fun vs H Q => match vs with
  | [.ref p] => ∃ bs : List Bool, lstAt H p = some (bs.map V.bl) ∧ Q (.bl (bs.all id)) H
  | _ => False
theorem c_all (hc : X.calm = true) : CallR X (.builtin "all") rAllU := by
  intro pins s σ H xs us Q I r h
  unfold rAllU at h
  split at h
  · obtain ⟨bs, h1, h2⟩ := h
    exact cr_all hc pins s σ H _ us Q I r ⟨_, _, rfl, lstAt_sq h1, h2⟩
  · exact h.elim
theorem vals_of : ∀ {xs : List V} {us : List Value}, xs.length = us.length → (∀ (j : Nat) x u, xs[j]? = some x → us[j]? = some u → RelV x u) → Vals xs us
  | [], [], _, _ => .nil
  | [], _ :: _, h, _ => by simp at h
  | _ :: _, [], h, _ => by simp at h
  | a :: r, b :: s, h, k => .cons (k 0 a b rfl rfl) (vals_of (by simpa using h) fun j x u h1 h2 => k (j + 1) x u (by simpa using h1) (by simpa using h2))
theorem vals_signs {x : Str} {acc : Array Value} (h : ItemsOf (SignAt x) acc x.cps.size) : Vals (x.cps.toList.map fun c => V.str (tx [c])) acc.toList := by
  refine vals_of (by rw [List.length_map]; simp [h.1]) fun j v u h1 h2 => ?_
  obtain ⟨c, t, hc, rfl⟩ := h.2 j u (by simpa using h2)
  rw [List.getElem?_map, Array.getElem?_toList, hc] at h1
  cases h1
  exact ⟨t, rfl⟩
def rListU (K : PySem.W.Frag) : List V → Hp → VK → Prop := fun vs H Q => match vs with
  | [.str z] => z.length ≤ 16777216 ∧ ∀ p, H p = none → Q (.ref p) (upd H p (.lst (z.cps.toList.map fun c => V.str (tx [c]))))
  | [.ref p] => ∃ ys, (SqL K H p ys ∨ SqT K H p ys) ∧ ∀ l, H l = none → Q (.ref l) (upd H l (.lst ys))
  | _ => False
theorem c_list (hc : X.calm = true) {K : PySem.W.Frag} (hK : X.K = K := by rfl) : CallR X (.type "list") (rListU K) := by
  subst hK
  intro pins s σ H xs us Q I r h
  unfold rListU at h
  split at h
  · rename_i z
    obtain ⟨hz, q⟩ := h
    obtain ⟨u, rfl, t, rfl⟩ := vals1 r
    refine call_list_str (I.ok.hd hc) z t (fun h' tk acc c' kp e hacc => ?_) (by rw [sl16]; exact hz)
    have hl : (z.cps.toList.map fun c => V.str (tx [c])).length ≤ sizeLine := by rw [List.length_map, Array.length_toList, sl16]; exact hz
    exact ⟨.ref s.heap.objs.size, _, I.laid (t' := tk) kp (Nat.le_refl _) (show ObjOk X.prog X.w _ h' _ (.lst _) from ⟨hl, acc.toList, c', vals_signs hacc, by simpa using e⟩), rfl, q _ (I.hok.fresh (Nat.le_refl _))⟩
  · obtain ⟨ys, h1, h2⟩ := h
    exact call_list_of pins s σ H _ us Q I r ⟨_, _, rfl, h1, h2⟩
  · exact h.elim
def rTupU (K : PySem.W.Frag) : List V → Hp → VK → Prop := fun vs H Q => match vs with
  | [.str z] => z.length ≤ 16777216 ∧ ∀ p, H p = none → Q (.ref p) (upd H p (.tup (z.cps.toList.map fun c => V.str (tx [c]))))
  | [.ref p] => ∃ ys, (SqL K H p ys ∧ ∀ l, H l = none → Q (.ref l) (upd H l (.tup ys))) ∨ (SqT K H p ys ∧ Q (.ref p) H)
  | _ => False
end
end Zb
namespace Zb
open PySem PySem.Spec PyProof.Rows L2
open Evl (tCut pss_cut)
def Fr (M : Addr → Prop) (H H' : Hp) : Prop := ∀ b o, ¬ M b → H b = some o → H' b = some o
abbrev Ex (H H' : Hp) : Prop := Fr (fun _ => False) H H'
theorem Fr.refl {M : Addr → Prop} (H : Hp) : Fr M H H := fun _ _ _ e => e
theorem Fr.trans {M : Addr → Prop} {H H1 H2 : Hp} (a : Fr M H H1) (b : Fr M H1 H2) : Fr M H H2 := fun x o n e => b x o n (a x o n e)
theorem Fr.new {M : Addr → Prop} {H : Hp} {p : Addr} {o : HO} (h : H p = none) : Fr M H (upd H p o) := fun b u _ e => by
  rw [upd_ne (ne_of_none e h)]
  exact e
theorem Fr.at {M : Addr → Prop} {H : Hp} {p : Addr} {o : HO} (h : M p) : Fr M H (upd H p o) := fun b u n e => by
  rw [upd_ne fun z => n (by rw [z]; exact h)]
  exact e
theorem Fr.up {M M' : Addr → Prop} {H H' : Hp} (e : Fr M' H H') (h : ∀ b, M' b → M b) : Fr M H H' := fun b o n q => e b o (fun m => n (h b m)) q
theorem Fr.ex {M : Addr → Prop} {H H' : Hp} (e : Ex H H') : Fr M H H' := e.up fun _ z => z.elim
/-- an object that was not there at H may change -/
theorem Fr.mut {M : Addr → Prop} {H H' : Hp} {p : Addr} {o : HO} (e : Fr M H H') (h : H p = none) : Fr M H (upd H' p o) := fun b u n q => by
  rw [upd_ne (ne_of_none q h)]
  exact e b u n q
theorem Fr.get {M : Addr → Prop} {H H' : Hp} {a : Addr} {o : HO} (e : Fr M H H') (n : ¬ M a) (h : H a = some o) : H' a = some o := e a o n h
theorem Ex.get {H H' : Hp} {a : Addr} {o : HO} (e : Ex H H') (h : H a = some o) : H' a = some o := e a o (fun z => z) h
theorem Ex.free {H H' : Hp} (e : Ex H H') {p : Addr} (h : H' p = none) : H p = none := by
  cases q : H p with
  | none => rfl
  | some o =>
    rw [e p o (fun z => z) q] at h
    cases h
theorem Fr.free {M : Addr → Prop} {H H' : Hp} (e : Fr M H H') {p : Addr} (n : ¬ M p) (h : H' p = none) : H p = none := by
  cases q : H p with
  | none => rfl
  | some o =>
    rw [e p o n q] at h
    cases h
theorem upd_old {H : Hp} {p a : Addr} {o u : HO} (hp : H p = none) (ha : H a = some u) : upd H p o a = some u := by
  rw [upd_ne (ne_of_none ha hp)]
  exact ha
theorem upd_free {H : Hp} {p q : Addr} {o : HO} (h : upd H p o q = none) : H q = none := by
  by_cases e : q = p
  · rw [e, upd_same] at h
    cases h
  · rwa [upd_ne e] at h
theorem lst_of {H : Hp} {p : Addr} {xs : List V} (h : H p = some (.lst xs)) : lstAt H p = some xs := by unfold lstAt; rw [h]
theorem tup_of {H : Hp} {p : Addr} {xs : List V} (h : H p = some (.tup xs)) : tupAt H p = some xs := by unfold tupAt; rw [h]
theorem seq_l {H : Hp} {p : Addr} {xs : List V} (h : H p = some (.lst xs)) : seqAt H p = some xs := by unfold seqAt; rw [h]
theorem seq_t {H : Hp} {p : Addr} {xs : List V} (h : H p = some (.tup xs)) : seqAt H p = some xs := by unfold seqAt; rw [h]
section
variable {D : Ends} {σ : L2.St} {H : Hp} {Q : VK} {K : PySem.W.Frag} {R : L2.St → Hp → Prop} {B : Bool → Hp → Prop}
theorem st_seq {t u : TS} (h : t { D with nx := u D } σ H) : tSeq t u D σ H := h
theorem st_next (h : D.nx σ H) : tNext D σ H := h
theorem st_brk (h : D.bk σ H) : tBreak D σ H := h
theorem st_cont (h : D.ct σ H) : tCont D σ H := h
theorem st_drop {te : TE} (h : te σ H (fun _ H1 => D.nx σ H1)) : tDrop te D σ H := h
theorem st_ret {te : TE} (h : te σ H D.rt) : tRet te D σ H := h
theorem st_retN (h : D.rt .non H) : tRetN D σ H := h
theorem st_ifS {c : TT} {t u : TS} (h : c σ H (fun b H1 => if b = true then t D σ H1 else u D σ H1)) : tIfS c t u D σ H := h
theorem st_asg {te : TE} {g : TG} (h : te σ H (fun x H1 => g x σ H1 D.nx)) : tAsg te g D σ H := h
theorem st_name {i : Nat} {v : V} (h : R (σ.set i (some v)) H) : gName i v σ H R := h
theorem st_sub {to ti : TE} {t : TSet} {v : V} (h : to σ H (fun o H1 => ti σ H1 fun i H2 => t o i v H2 fun H3 => R σ H3)) : gSub to ti t v σ H R := h
theorem st_augI {i : Nat} {te : TE} {f : Int → Int → Int} {z : Int} (hx : σ[i]? = some (some (.int z))) (h : te σ H (fun y H1 => ipI f (.int z) y H1 fun z H2 => D.nx (σ.set i (some z)) H2)) : tAug i te (ipI f) D σ H := ⟨_, hx, h⟩
theorem st_ipI {f : Int → Int → Int} {x y : Int} (h : Q (.int (f x y)) H) : ipI f (.int x) (.int y) H Q := ⟨_, _, rfl, rfl, h⟩
theorem st_par {i j : Nat} {ta : TA} (h : ta σ H (fun vs H1 => ∃ v w, vs = [v, w] ∧ D.nx ((σ.set i (some v)).set j (some w)) H1)) : tPar i j ta D σ H := h
theorem st_par2 {v w : V} {P : V → V → Prop} (h : P v w) : ∃ v' w', [v, w] = [v', w'] ∧ P v' w' := ⟨v, w, rfl, h⟩
theorem st_var {i : Nat} {v : V} (hv : σ[i]? = some (some v)) (h : Q v H) : tVar i σ H Q := ⟨v, hv, h⟩
theorem st_c {v : V} (h : Q v H) : tC v σ H Q := h
theorem st_op {r : R2} {ta tb : TE} (h : ta σ H (fun x H1 => tb σ H1 fun y H2 => r x y H2 Q)) : tOp r ta tb σ H Q := h
theorem st_un {r : V → Hp → VK → Prop} {ta : TE} (h : ta σ H (fun x H1 => r x H1 Q)) : tUn r ta σ H Q := h
theorem st_rU {g : Int → V} {i : Int} (h : Q (g i) H) : rU g (.int i) H Q := ⟨i, rfl, h⟩
theorem st_B {t : TE} (h : t σ H (fun x H1 => ∃ c, x = .bl c ∧ B c H1)) : tB t σ H B := h
theorem st_test {t : TE} (h : t σ H (fun x H1 => ∃ c, x = .bl c ∧ B c H1)) : tTest t σ H B := h
theorem st_isb {b : Bool} {P : Bool → Prop} (h : P b) : ∃ c, V.bl b = .bl c ∧ P c := ⟨b, rfl, h⟩
theorem st_and {t u : TT} (h : t σ H (fun c H1 => if c = true then u σ H1 B else B false H1)) : tAnd t u σ H B := h
theorem st_or {t u : TT} (h : t σ H (fun c H1 => if c = true then B true H1 else u σ H1 B)) : tOr t u σ H B := h
theorem st_not {t : TT} (h : t σ H (fun c H1 => B (!c) H1)) : tNot t σ H B := h
theorem st_andV {ta tb : TE} (h : ta σ H (fun x H1 => ∃ c, x = .bl c ∧ if c = true then tb σ H1 Q else Q (.bl false) H1)) : tAndV ta tb σ H Q := h
theorem st_orV {ta tb : TE} (h : ta σ H (fun x H1 => ∃ c, x = .bl c ∧ if c = true then Q (.bl true) H1 else tb σ H1 Q)) : tOrV ta tb σ H Q := h
theorem st_notV {ta : TE} (h : ta σ H (fun x H1 => ∃ c, x = .bl c ∧ Q (.bl (!c)) H1)) : tNotV ta σ H Q := h
theorem st_if {t : TT} {ta tb : TE} (h : t σ H (fun c H1 => if c = true then ta σ H1 Q else tb σ H1 Q)) : tIf t ta tb σ H Q := h
theorem st_nil {P : List V → Hp → Prop} (h : P [] H) : tNil σ H P := h
theorem st_cons {ta : TE} {tr : TA} {P : List V → Hp → Prop} (h : ta σ H (fun x H1 => tr σ H1 fun xs H2 => P (x :: xs) H2)) : tCons ta tr σ H P := h
def NewO (o : List V → HO) (xs : List V) (Q : VK) (H : Hp) : Prop := xs.length ≤ sizeLine ∧ ∀ p, H p = none → Q (.ref p) (upd H p (o xs))
theorem st_tup {t : TA} (h : t σ H (fun xs H1 => NewO .tup xs Q H1)) : tTup t σ H Q := h
theorem st_lst {t : TA} (h : t σ H (fun xs H1 => NewO .lst xs Q H1)) : tLst t σ H Q := h
/-- a new object: from then on the heap is a letter -/
theorem st_new {xs : List V} {o : List V → HO} (hz : xs.length ≤ 16777216) (h : ∀ p H', H p = none → Ex H H' → H' p = some (o xs) → Q (.ref p) H') : NewO o xs Q H :=
  ⟨by rw [sl16]; exact hz, fun p hp => h p _ hp (Fr.new hp) upd_same⟩
theorem st_cb {r : List V → Hp → VK → Prop} {t : TA} (h : t σ H (fun vs H1 => r vs H1 Q)) : tCB r t σ H Q := h
theorem st_call {sp : Sp} {dvs : List V} {E : XK} {t : TA} (h : t σ H (fun vs H1 => sp (vs ++ dvs) H1 Q E)) : tCall sp dvs E t σ H Q := h
theorem st_sl {r : V → Option Int → Option Int → Hp → VK → Prop} {te : TE} {tl th : TO} (h : te σ H (fun x H1 => tl σ H1 fun l H2 => th σ H2 fun u H3 => r x l u H3 Q)) : tSl r te tl th σ H Q := h
theorem st_part {te : TE} {P : Option Int → Hp → Prop} (h : te σ H (fun x H1 => ∃ i, x = .int i ∧ P (some i) H1)) : tPart te σ H P := h
theorem st_isi {i : Int} {P : Int → Prop} (h : P i) : ∃ j, V.int i = .int j ∧ P j := ⟨i, rfl, h⟩
theorem st_nopart {P : Option Int → Hp → Prop} (h : P none H) : tNoPart σ H P := h
theorem st_addI {i j : Int} (h : Q (.int (i + j)) H) : rAdd (.int i) (.int j) H Q := h
theorem st_addS {a b : Str} (hz : a.length + b.length ≤ 16777216) (h : Q (.str (a ++ b)) H) : rAdd (.str a) (.str b) H Q := ⟨hz, h⟩
theorem st_addL {p q : Addr} {xs ys : List V} (h1 : H p = some (.lst xs)) (h2 : H q = some (.lst ys)) (hz : xs.length + ys.length ≤ 16777216) (h : ∀ r H', H r = none → Ex H H' → H' r = some (.lst (xs ++ ys)) → Q (.ref r) H') : rAdd (.ref p) (.ref q) H Q :=
  ⟨xs, ys, h1, h2, hz, fun r hr => h r _ hr (Fr.new hr) upd_same⟩
theorem st_subI {i j : Int} (h : Q (.int (i - j)) H) : rSub (.int i) (.int j) H Q := h
theorem st_mulI {i j : Int} (hc : (-(2 ^ 64) < i ∧ i < 2 ^ 64) ∨ (-(2 ^ 64) < j ∧ j < 2 ^ 64)) (h : Q (.int (i * j)) H) : rMul (.int i) (.int j) H Q := ⟨hc, h⟩
theorem st_mulL {p : Addr} {k : Int} {xs : List V} (h1 : H p = some (.lst xs)) (h2 : -1000000 ≤ k) (h3 : k ≤ 1000000) (hz : xs.length * k.toNat ≤ 16777216) (h : ∀ r H', H r = none → Ex H H' → H' r = some (.lst (List.replicate k.toNat xs).flatten) → Q (.ref r) H') : rMul (.ref p) (.int k) H Q :=
  ⟨xs, h1, h2, h3, hz, fun r hr => h r _ hr (Fr.new hr) upd_same⟩
theorem st_modI {i j : Int} (hc : 0 < j) (h : Q (.int (i % j)) H) : rMod (.int i) (.int j) H Q := ⟨hc, h⟩
theorem st_divI {i j : Int} (hc : 0 < j ∧ j < 1073741824) (h : Q (.int (i / j)) H) : rDiv (.int i) (.int j) H Q := ⟨hc.1, hc.2, h⟩
theorem st_powI {i j : Int} (hc : 0 ≤ j ∧ j ≤ 1000000 ∧ i.natAbs < 2 ^ 64) (h : Q (.int (i ^ j.toNat)) H) : rPow (.int i) (.int j) H Q := ⟨hc.1, hc.2.1, hc.2.2, h⟩
theorem st_cmpI {f : Int → Int → Bool} {i j : Int} (h : Q (.bl (f i j)) H) : rCmpI f (.int i) (.int j) H Q := h
theorem st_eqI {i j : Int} (h : Q (.bl (decide (i = j))) H) : rEqU (.int i) (.int j) H Q := ⟨_, _, .int i, .int j, by simp [PyData.depth], by
  have e : PyData.eqv (.int i) (.int j) = decide (i = j) := by simp only [PyData.eqv]; rfl
  rw [e]; exact h⟩
theorem st_neI {i j : Int} (h : Q (.bl (!decide (i = j))) H) : rNeU (.int i) (.int j) H Q := ⟨_, _, .int i, .int j, by simp [PyData.depth], by
  have e : PyData.eqv (.int i) (.int j) = decide (i = j) := by simp only [PyData.eqv]; rfl
  rw [e]; exact h⟩
theorem st_eqS {i j : Str} (h : Q (.bl (decide (i = j))) H) : rEqU (.str i) (.str j) H Q := ⟨_, _, .str i, .str j, by simp [PyData.depth], by
  have e : PyData.eqv (.str i) (.str j) = decide (i = j) := by simp only [PyData.eqv]; rfl
  rw [e]; exact h⟩
theorem st_neS {i j : Str} (h : Q (.bl (!decide (i = j))) H) : rNeU (.str i) (.str j) H Q := ⟨_, _, .str i, .str j, by simp [PyData.depth], by
  have e : PyData.eqv (.str i) (.str j) = decide (i = j) := by simp only [PyData.eqv]; rfl
  rw [e]; exact h⟩
theorem st_eqB {i j : Bool} (h : Q (.bl (i == j)) H) : rEqU (.bl i) (.bl j) H Q := ⟨_, _, .bl i, .bl j, by simp [PyData.depth], by
  have e : PyData.eqv (.bool i) (.bool j) = (i == j) := by simp only [PyData.eqv]
  rw [e]; exact h⟩
theorem st_neB {i j : Bool} (h : Q (.bl (!(i == j))) H) : rNeU (.bl i) (.bl j) H Q := ⟨_, _, .bl i, .bl j, by simp [PyData.depth], by
  have e : PyData.eqv (.bool i) (.bool j) = (i == j) := by simp only [PyData.eqv]
  rw [e]; exact h⟩
theorem st_eqD {x y : V} {d e : PyData} (h1 : Rp H x d) (h2 : Rp H y e) (hd : min d.depth e.depth ≤ 64) (h : Q (.bl (PyData.eqv d e)) H) : rEqU x y H Q := ⟨d, e, h1, h2, hd, h⟩
theorem st_neD {x y : V} {d e : PyData} (h1 : Rp H x d) (h2 : Rp H y e) (hd : min d.depth e.depth ≤ 64) (h : Q (.bl (!PyData.eqv d e)) H) : rNeU x y H Q := ⟨d, e, h1, h2, hd, h⟩
theorem st_ixL {p : Addr} {i : Int} {v : V} {xs : List V} (h1 : H p = some (.lst xs)) (h2 : atI xs i = some v) (h : Q v H) : rIxU K (.ref p) (.int i) H Q := ⟨xs, seqAt_sq (seq_l h1), v, h2, h⟩
theorem st_ixT {p : Addr} {i : Int} {v : V} {xs : List V} (h1 : H p = some (.tup xs)) (h2 : atI xs i = some v) (h : Q v H) : rIxU K (.ref p) (.int i) H Q := ⟨xs, seqAt_sq (seq_t h1), v, h2, h⟩
theorem st_ixK {p : Addr} {i : Int} {v : V} {xs : List V} (h1 : SqL K H p xs) (h2 : atI xs i = some v) (h : Q v H) : rIxU K (.ref p) (.int i) H Q := ⟨xs, .inl h1, v, h2, h⟩
theorem at_in {α : Type} {xs : List α} {i : Int} (h0 : 0 ≤ i) (h1 : i < xs.length) : ∃ v, atI xs i = some v ∧ xs[i.toNat]? = some v := by
  have hj : i.toNat < xs.length := by omega
  refine ⟨xs[i.toNat], ?_, List.getElem?_eq_getElem hj⟩
  unfold atI ixN
  rw [if_pos h0, if_pos h1]
  exact List.getElem?_eq_getElem hj
/-- an item of a row of numbers, of texts, at some place -/
theorem st_ixI {p : Addr} {i : Int} {xs : List V} (ns : List Int) (h1 : H p = some (.lst xs)) (e : xs = ns.map V.int) (h0 : 0 ≤ i) (hi : i < ns.length) (h : ∀ z, ns[i.toNat]? = some z → z ∈ ns → Q (.int z) H) : rIxU K (.ref p) (.int i) H Q := by
  subst e
  obtain ⟨v, h2, h3⟩ := at_in (xs := ns.map V.int) h0 (by rw [List.length_map]; exact hi)
  rw [List.getElem?_map] at h3
  cases q : ns[i.toNat]? with
  | none => rw [q] at h3; cases h3
  | some z =>
    rw [q] at h3
    cases h3
    exact st_ixL h1 h2 (h z q (List.mem_of_getElem? q))
/-- a sign of a text -/
theorem st_sign {z : Str} {i : Int} {c : Nat} (hz : z.length ≤ 16777216) (h2 : atI z.cps.toList i = some c) (h : Q (.str (tx [c])) H) : rIxU K (.str z) (.int i) H Q := ⟨hz, c, h2, h⟩
theorem st_slS {z : Str} {lo hi : Option Int} (hz : z.length ≤ 16777216) (h : Q (.str (cutS z lo hi)) H) : rSlU K (.str z) lo hi H Q := ⟨hz, h⟩
theorem st_slL {p : Addr} {xs : List V} {lo hi : Option Int} (h1 : lstAt H p = some xs) (h : ∀ q H', H q = none → Ex H H' → H' q = some (.lst (cutV xs lo hi)) → Q (.ref q) H') : rSlU K (.ref p) lo hi H Q := ⟨xs, lstAt_sq h1, fun q hq => h q _ hq (Fr.new hq) upd_same⟩
theorem st_lenS {z : Str} (hz : z.length ≤ 16777216) (h : Q (.int z.length) H) : rLen K [.str z] H Q := ⟨hz, h⟩
theorem st_lenL {p : Addr} {xs : List V} (h1 : H p = some (.lst xs)) (h : Q (.int xs.length) H) : rLen K [.ref p] H Q := ⟨xs, seqAt_sq (seq_l h1), h⟩
theorem st_lenT {p : Addr} {xs : List V} (h1 : H p = some (.tup xs)) (h : Q (.int xs.length) H) : rLen K [.ref p] H Q := ⟨xs, seqAt_sq (seq_t h1), h⟩
theorem st_lenQ {p : Addr} {xs : List V} (h1 : seqAt H p = some xs) (h : Q (.int xs.length) H) : rLen K [.ref p] H Q := ⟨xs, seqAt_sq h1, h⟩
theorem st_lenK {p : Addr} {xs : List V} (h1 : SqL K H p xs) (h : Q (.int xs.length) H) : rLen K [.ref p] H Q := ⟨xs, .inl h1, h⟩
theorem st_max2 {i j : Int} (h : Q (.int (if j > i then j else i)) H) : Zb.rMax2 [.int i, .int j] H Q := h
theorem st_min2 {i j : Int} (h : Q (.int (if j < i then j else i)) H) : Zb.rMin2 [.int i, .int j] H Q := h
theorem st_is {x : V} {n t : String} {b : Bool} (h1 : tyN H x = some t) (h2 : kitB t n = some b) (h : Q (.bl b) H) : rIs [x, .ty n] H Q := ⟨t, h1, b, h2, h⟩
/-- xs[i] = e -/
theorem st_setL {p : Addr} {k : Int} {v : V} {xs : List V} {j : Nat} {R : Hp → Prop} (h1 : H p = some (.lst xs)) (h2 : ixN xs.length k = some j) (h : R (upd H p (.lst (xs.set j v)))) : rSetL (.ref p) (.int k) v H R := ⟨p, xs, k, j, rfl, rfl, h1, h2, h⟩
theorem st_T {A B : Prop} {b : Bool} (hb : b = true) (h : A) : if b = true then A else B := by rw [if_pos hb]; exact h
theorem st_F {A B : Prop} {b : Bool} (hb : b = false) (h : B) : if b = true then A else B := by rw [hb, if_neg Bool.false_ne_true]; exact h
theorem st_br {A B : Prop} {b : Bool} (h1 : b = true → A) (h2 : b = false → B) : if b = true then A else B := by
  cases b with
  | true => exact h1 rfl
  | false => exact h2 rfl
theorem st_br2 {A B : Prop} {p : Prop} [Decidable p] (h1 : p → A) (h2 : ¬ p → B) : if decide p = true then A else B := by
  by_cases q : p
  · rw [decide_eq_true q]; exact h1 q
  · rw [decide_eq_false q, if_neg Bool.false_ne_true]; exact h2 q
theorem st_brn {A B : Prop} {p : Prop} [Decidable p] (h1 : ¬ p → A) (h2 : p → B) : if (!decide p) = true then A else B := by
  by_cases q : p
  · rw [decide_eq_true q]; exact h2 q
  · rw [decide_eq_false q]; exact h1 q
end
def Purse (H : Hp) (a : Addr) : Prop := ∃ x y z : Int, H a = some (.lst [.int x, .int y, .int z])
abbrev FrP (p : Addr) (H H' : Hp) : Prop := Fr (fun b => b = p) H H'
theorem FrP.at {H : Hp} {p : Addr} {o : HO} : FrP p H (upd H p o) := Fr.at (M := fun b => b = p) rfl
theorem Purse.ne {H : Hp} {p q : Addr} (h : Purse H p) (hq : H q = none) : q ≠ p := fun e => by
  obtain ⟨x, y, z, h⟩ := h
  rw [e, h] at hq
  cases hq
theorem Purse.ex {H H' : Hp} {p : Addr} (h : Purse H p) (e : Ex H H') : Purse H' p := by
  obtain ⟨x, y, z, h⟩ := h
  exact ⟨x, y, z, e.get h⟩
end Zb
namespace Zb
open PySem PySem.Spec PyProof.Rows L2
open Evl (tCut pss_cut)
structure Runs (J : It) (n : Nat) (S : Hp → Prop) (item : Nat → V → Hp → Hp → Prop) : Prop where
  go : ∀ i H, i < n → S H → J.go i H
  stop : ∀ H, S H → J.stop n H
  yld : ∀ i H x H', i < n → S H → J.yld i H x H' → item i x H H'
theorem runs_range (lo : Int) (n : Nat) : Runs (Itr lo n) n (fun _ => True) (fun i x H H' => H' = H ∧ x = .int (lo + i)) :=
  ⟨fun _ _ h _ => h, fun _ _ => Nat.le_refl _, fun _ _ _ _ _ _ y => y⟩
theorem runs_list (K : PySem.W.Frag) (a : Addr) (xs : List V) : Runs (Itl K a) xs.length (fun H => lstAt H a = some xs) (fun i x H H' => H' = H ∧ xs[i]? = some x) :=
  ⟨fun i H h s => ⟨xs, xs[i], lstAt_sq s, by simp [h]⟩, fun _ s => ⟨xs, lstAt_sq s, Nat.le_refl _⟩, fun _ _ _ _ _ s y => ⟨y.1, y.2 xs (lstAt_sq s)⟩⟩
theorem runs_tup (K : PySem.W.Frag) (a : Addr) (xs : List V) : Runs (Itt K a) xs.length (fun H => tupAt H a = some xs) (fun i x H H' => H' = H ∧ xs[i]? = some x) :=
  ⟨fun i H h s => ⟨xs, xs[i], tupAt_sq s, by simp [h]⟩, fun _ s => ⟨xs, tupAt_sq s, Nat.le_refl _⟩, fun _ _ _ _ _ s y => ⟨y.1, y.2 xs (tupAt_sq s)⟩⟩
theorem runs_enum (K : PySem.W.Frag) (a : Addr) (xs : List V) : Runs (Ite K a) xs.length (fun H => lstAt H a = some xs) (fun i x H H' => ∃ T v, x = .ref T ∧ H T = none ∧ Ex H H' ∧ H' T = some (.tup [.int (i : Nat), v]) ∧ xs[i]? = some v) :=
  ⟨fun i H h s => ⟨xs, xs[i], lstAt_sq s, by simp [h]⟩, fun _ s => ⟨xs, lstAt_sq s, Nat.le_refl _⟩, fun i H x H' _ s y => by
    obtain ⟨T, v, e1, e2, e3, e4⟩ := y
    subst e3
    exact ⟨T, v, e1, e2, Fr.new e2, upd_same, e4 xs (lstAt_sq s)⟩⟩
theorem runs_zip (K : PySem.W.Frag) (a b : Addr) (xs ys : List V) : Runs (Itz K a b) (min xs.length ys.length) (fun H => lstAt H a = some xs ∧ lstAt H b = some ys) (fun i x H H' => ∃ T v u, x = .ref T ∧ H T = none ∧ Ex H H' ∧ H' T = some (.tup [v, u]) ∧ xs[i]? = some v ∧ ys[i]? = some u) :=
  ⟨fun i H h s => ⟨xs, ys, xs[i]'(by omega), ys[i]'(by omega), lstAt_sq s.1, lstAt_sq s.2, by rw [List.getElem?_eq_getElem], by rw [List.getElem?_eq_getElem]⟩, fun _ s => ⟨xs, ys, lstAt_sq s.1, lstAt_sq s.2, by omega⟩, fun i H x H' _ s y => by
    obtain ⟨T, v, u, e1, e2, e3, e4, e5⟩ := y
    subst e3
    exact ⟨T, v, u, e1, e2, Fr.new e2, upd_same, e4 xs (lstAt_sq s.1), e5 ys (lstAt_sq s.2)⟩⟩
def LcGoal (J : It) (g : TG) (tt : TT) (te : TE) (vs : List Nat) (σ : L2.St) (Q : VK) (H1 : Hp) : Prop := ∀ D, H1 D = none → ∃ W : Nat → Nat → Hp → Prop, (∃ m, W 0 m (upd H1 D (.lst []))) ∧ ∀ i m H, W i m H →
      (J.stop i H ∧ Q (.ref D) H) ∨ (J.go i H ∧ ∃ Nx : Hp → Prop, (∀ H', Nx H' → ∃ m', m' < m ∧ W (i + 1) m' H') ∧ ∀ x H', J.yld i H x H' → g x (wipe σ vs) H' fun σ2 H2 => wipe σ2 vs = wipe σ vs ∧ tt σ2 H2 fun b H3 =>
        if b = true then te σ2 H3 fun y H4 => ∃ acc, H4 D = some (.lst acc) ∧ acc.length < sizeLine ∧ Nx (upd H4 D (.lst (acc ++ [y]))) else Nx H3)
def ForGoal (J : It) (g : TG) (tb : TS) (D : Ends) (σ : L2.St) (H : Hp) : Prop := ∃ W : Nat → Nat → L2.St → Hp → Prop, (∃ m, W 0 m σ H) ∧ ∀ i m σ H, W i m σ H →
      (J.stop i H ∧ D.nx σ H) ∨ (J.go i H ∧ ∃ N : L2.St → Hp → Prop, (∀ σ' H', N σ' H' → ∃ m', m' < m ∧ W (i + 1) m' σ' H') ∧ ∀ x H', J.yld i H x H' → g x σ H' fun σ2 H2 => tb { D with nx := N, ct := N, bk := D.nx } σ2 H2)
section
variable {J : It} {n : Nat} {S : Hp → Prop} {item : Nat → V → Hp → Hp → Prop} {g : TG} {σ : L2.St} {H H1 : Hp} {K : PySem.W.Frag}
/-- a for loop by its word Pv -/
theorem for_runs {tb : TS} {D : Ends} (hR : Runs J n S item) (Pv : Nat → L2.St → Hp → Prop) (h0 : Pv 0 σ H) (hS : ∀ i σ H, i ≤ n → Pv i σ H → S H)
    (hs : ∀ i x σ H H', i < n → Pv i σ H → item i x H H' → g x σ H' fun σ2 H2 => tb { D with nx := Pv (i + 1), ct := Pv (i + 1), bk := D.nx } σ2 H2) (hd : ∀ σ H, Pv n σ H → D.nx σ H) :
    ForGoal J g tb D σ H := by
  refine ⟨fun i m σ H => m = n - i ∧ i ≤ n ∧ Pv i σ H, ⟨n, by simp, Nat.zero_le _, h0⟩, ?_⟩
  rintro i m σ H ⟨rfl, hi, p⟩
  by_cases hlt : i < n
  · refine .inr ⟨hR.go i H hlt (hS i σ H hi p), Pv (i + 1), fun σ' H' p' => ⟨n - (i + 1), by omega, rfl, hlt, p'⟩, fun x H' y => ?_⟩
    exact hs i x σ H H' hlt p (hR.yld i H x H' hlt (hS i σ H hi p) y)
  · have e : i = n := by omega
    subst e
    exact .inl ⟨hR.stop H (hS i σ H hi p), hd σ H p⟩
/-- the list of a comprehension on its way -/
structure LcAt (M : Addr → Prop) (H1 : Hp) (D : Addr) (acc : List V) (H : Hp) : Prop where
  new : H1 D = none
  non : ¬ M D
  at_ : H D = some (.lst acc)
  fr : Fr M H1 H
def LcW (M : Addr → Prop) (H1 : Hp) (Pv : Nat → List V → Hp → Prop) (D : Addr) (i : Nat) (H : Hp) : Prop := ∃ acc, LcAt M H1 D acc H ∧ Pv i acc H
/-- Pv does not look at the list itself -/
def LcSt (M : Addr → Prop) (H1 : Hp) (Pv : Nat → List V → Hp → Prop) : Prop := ∀ i acc H' D o, H1 D = none → Fr M H1 H' → Pv i acc H' → Pv i acc (upd H' D o)
theorem lc_yes {M : Addr → Prop} {Pv : Nat → List V → Hp → Prop} {D : Addr} {i : Nat} {acc : List V} {H' H4 : Hp} {y : V} (L : LcAt M H1 D acc H') (hst : LcSt M H1 Pv) (e : Fr M H' H4) (hz : acc.length < 1000000) (p : Pv (i + 1) (acc ++ [y]) H4) :
    ∃ acc, H4 D = some (.lst acc) ∧ acc.length < sizeLine ∧ LcW M H1 Pv D (i + 1) (upd H4 D (.lst (acc ++ [y]))) :=
  ⟨acc, e D _ L.non L.at_, by rw [sl16]; omega, acc ++ [y], ⟨L.new, L.non, upd_same, (L.fr.trans e).mut L.new⟩, hst _ _ _ _ _ L.new (L.fr.trans e) p⟩
theorem lc_no {M : Addr → Prop} {Pv : Nat → List V → Hp → Prop} {D : Addr} {i : Nat} {acc : List V} {H' H4 : Hp} (L : LcAt M H1 D acc H') (e : Fr M H' H4) (p : Pv (i + 1) acc H4) : LcW M H1 Pv D (i + 1) H4 :=
  ⟨acc, ⟨L.new, L.non, e D _ L.non L.at_, L.fr.trans e⟩, p⟩
theorem lc_runs {tt : TT} {te : TE} {vs : List Nat} {Q : VK} (hR : Runs J n S item) (M : Addr → Prop) (Pv : Nat → List V → Hp → Prop) (hM : ∀ b, M b → H1 b ≠ none) (h0 : Pv 0 [] H1) (hst : LcSt M H1 Pv) (hS : ∀ i acc H', Fr M H1 H' → Pv i acc H' → S H')
    (hs : ∀ D i acc x H' H'', i < n → LcAt M H1 D acc H' → Pv i acc H' → item i x H' H'' → g x (wipe σ vs) H'' fun σ2 H2 => wipe σ2 vs = wipe σ vs ∧ tt σ2 H2 fun b H3 => if b = true then te σ2 H3 fun y H4 => ∃ acc, H4 D = some (.lst acc) ∧ acc.length < sizeLine ∧ LcW M H1 Pv D (i + 1) (upd H4 D (.lst (acc ++ [y]))) else LcW M H1 Pv D (i + 1) H3)
    (hd : ∀ D acc H', H1 D = none → Fr M H1 H' → H' D = some (.lst acc) → Pv n acc H' → Q (.ref D) H') :
    LcGoal J g tt te vs σ Q H1 := by
  intro D hD
  refine ⟨fun i m H => m = n - i ∧ i ≤ n ∧ LcW M H1 Pv D i H, ⟨n, by simp, Nat.zero_le _, [], ⟨hD, fun m => hM D m hD, upd_same, Fr.new hD⟩, hst _ _ _ _ _ hD (Fr.refl _) h0⟩, ?_⟩
  rintro i m H ⟨rfl, hi, acc, L, p⟩
  by_cases hlt : i < n
  · refine .inr ⟨hR.go i H hlt (hS i acc H L.fr p), LcW M H1 Pv D (i + 1), fun H' p' => ⟨n - (i + 1), by omega, rfl, hlt, p'⟩, fun x H' y => ?_⟩
    exact hs D i acc x H H' hlt L p (hR.yld i H x H' hlt (hS i acc H L.fr p) y)
  · have e : i = n := by omega
    subst e
    exact .inl ⟨hR.stop H (hS i acc H L.fr p), hd D acc H hD L.fr L.at_ p⟩
abbrev RunsV {α : Type} (J : It) (ys : List α) (val : α → V) (S : Hp → Prop) : Prop := Runs J ys.length S (fun i x H H' => H' = H ∧ ∃ y, ys[i]? = some y ∧ x = val y)
theorem rv_str (z : Str) : RunsV (Its z) z.cps.toList (fun c => .str (tx [c])) (fun _ => True) :=
  ⟨fun i _ h _ => by show i < z.cps.size; simpa using h, fun _ _ => by show z.cps.size ≤ z.cps.toList.length; simp, fun _ _ _ _ _ _ y => by
    obtain ⟨h, c, e1, e2⟩ := y
    exact ⟨h, c, by rw [Array.getElem?_toList]; exact e1, e2⟩⟩
theorem rv_list (K : PySem.W.Frag) (a : Addr) {α : Type} (ys : List α) (val : α → V) : RunsV (Itl K a) ys val (fun H => lstAt H a = some (ys.map val)) :=
  ⟨fun i H h s => ⟨ys.map val, val ys[i], lstAt_sq s, by simp [h]⟩, fun _ s => ⟨ys.map val, lstAt_sq s, by simp⟩, fun i H x H' h s y => by
    have e := y.2 _ (lstAt_sq s)
    rw [List.getElem?_map, List.getElem?_eq_getElem h] at e
    exact ⟨y.1, ys[i], List.getElem?_eq_getElem h, (Option.some.inj e).symm⟩⟩
theorem rv_tup (K : PySem.W.Frag) (a : Addr) {α : Type} (ys : List α) (val : α → V) : RunsV (Itt K a) ys val (fun H => tupAt H a = some (ys.map val)) :=
  ⟨fun i H h s => ⟨ys.map val, val ys[i], tupAt_sq s, by simp [h]⟩, fun _ s => ⟨ys.map val, tupAt_sq s, by simp⟩, fun i H x H' h s y => by
    have e := y.2 _ (tupAt_sq s)
    rw [List.getElem?_map, List.getElem?_eq_getElem h] at e
    exact ⟨y.1, ys[i], List.getElem?_eq_getElem h, (Option.some.inj e).symm⟩⟩
theorem rv_range (lo : Int) (n : Nat) : RunsV (Itr lo n) (List.range n) (fun i => .int (lo + i)) (fun _ => True) :=
  ⟨fun _ _ h _ => by rw [List.length_range] at h; exact h, fun _ _ => by rw [List.length_range]; exact Nat.le_refl _, fun i _ _ _ h _ y => by
    rw [List.length_range] at h
    exact ⟨y.1, i, by rw [List.getElem?_range h], y.2⟩⟩
theorem lc_pure {α : Type} {ys : List α} {val : α → V} {tt : TT} {te : TE} {vs : List Nat} {Q : VK} (hR : RunsV J ys val S) (hS : ∀ H', Ex H1 H' → S H') (hz : ys.length < 1000000) (p : α → Bool) (f : α → V)
    (hs : ∀ y H', y ∈ ys → Ex H1 H' → ∀ (B : V → Hp → Prop) (A : Hp → Prop), (p y = true → ∀ H'', Ex H' H'' → B (f y) H'') → (p y = false → ∀ H'', Ex H' H'' → A H'') → g (val y) (wipe σ vs) H' fun σ2 H2 => wipe σ2 vs = wipe σ vs ∧ tt σ2 H2 fun b H3 => if b = true then te σ2 H3 B else A H3)
    (hd : ∀ D H', H1 D = none → Ex H1 H' → H' D = some (.lst ((ys.filter p).map f)) → Q (.ref D) H') :
    LcGoal J g tt te vs σ Q H1 := by
  have tk : ∀ {i : Nat} {y : α}, ys[i]? = some y → ys.take (i + 1) = ys.take i ++ [y] := fun {i y} e => by
    rw [List.take_succ, e]
    rfl
  refine lc_runs hR (fun _ => False) (fun i acc _ => acc = ((ys.take i).filter p).map f) (fun _ z => z.elim) (by simp) (fun i acc H' D o _ _ e => e) (fun i acc H' e _ => hS H' e) ?_ ?_
  · rintro D i acc x H' H'' hi L rfl ⟨rfl, y, hy, rfl⟩
    have hl : (((ys.take i).filter p).map f).length < 1000000 := by
      rw [List.length_map]
      have := List.length_filter_le p (ys.take i)
      rw [List.length_take] at this
      omega
    refine hs y H'' (List.mem_of_getElem? hy) L.fr _ _ (fun hp H3 e => ?_) (fun hp H3 e => ?_)
    · refine lc_yes L (fun i acc H' D o _ _ e => e) e hl ?_
      rw [tk hy, List.filter_append, List.map_append, List.filter_cons, if_pos hp]
      rfl
    · refine lc_no L e ?_
      rw [tk hy, List.filter_append, List.map_append, List.filter_cons, if_neg (by rw [hp]; decide)]
      simp
  · rintro D acc H' hD e h rfl
    rw [List.take_length] at h
    exact hd D H' hD e h
/-- no test -/
theorem lc_map {α : Type} {ys : List α} {val : α → V} {te : TE} {vs : List Nat} {Q : VK} (hR : RunsV J ys val S) (hS : ∀ H', Ex H1 H' → S H') (hz : ys.length < 1000000) (f : α → V)
    (hs : ∀ y H', y ∈ ys → Ex H1 H' → ∀ (B : V → Hp → Prop), (∀ H'', Ex H' H'' → B (f y) H'') → g (val y) (wipe σ vs) H' fun σ2 H2 => wipe σ2 vs = wipe σ vs ∧ te σ2 H2 B)
    (hd : ∀ D H', H1 D = none → Ex H1 H' → H' D = some (.lst (ys.map f)) → Q (.ref D) H')
    (hg : ∀ v σ H (P P' : L2.St → Hp → Prop), (∀ σ H, P σ H → P' σ H) → g v σ H P → g v σ H P' := by intro _ _ _ _ _ k h; exact k _ _ h) : LcGoal J g tYes te vs σ Q H1 := by
  refine lc_pure hR hS hz (fun _ => true) f (fun y H' hy e B A h1 h2 => ?_) (fun D H' hD e h => hd D H' hD e ?_)
  · exact hg _ _ _ _ _ (fun σ2 H2 h => ⟨h.1, h.2⟩) (hs y H' hy e B (h1 rfl))
  · rwa [List.filter_eq_self.mpr (fun _ _ => rfl)] at h
theorem st_yes {P : Bool → Hp → Prop} (h : P true H) : tYes σ H P := h
/-- isinstance(b, bool) -/
theorem st_isBool {Q : VK} {b : Bool} (h : Q (.bl true) H) : rIs [.bl b, .ty "bool"] H Q := ⟨"bool", rfl, true, by decide +kernel, h⟩
theorem st_iStr {te : TE} {R : It → Hp → Prop} (h : te σ H (fun v H1 => ∃ x, v = .str x ∧ R (Its x) H1)) : iStr te σ H R := h
theorem st_isStr {x : Str} {P : Str → Prop} (h : P x) : ∃ y, V.str x = .str y ∧ P y := ⟨x, rfl, h⟩
theorem st_iList {tl : TE} {R : It → Hp → Prop} (h : tl σ H (fun x H1 => ∃ a, x = .ref a ∧ (∃ xs, SqL K H1 a xs) ∧ R (Itl K a) H1)) : iList K tl σ H R := h
theorem st_isList {a : Addr} {xs : List V} {P : Addr → Prop} (h1 : lstAt H a = some xs) (h : P a) : ∃ b, V.ref a = .ref b ∧ (∃ xs, SqL K H b xs) ∧ P b := ⟨a, rfl, ⟨xs, lstAt_sq h1⟩, h⟩
theorem st_iTup {tl : TE} {R : It → Hp → Prop} (h : tl σ H (fun x H1 => ∃ a, x = .ref a ∧ (∃ xs, SqT K H1 a xs) ∧ R (Itt K a) H1)) : iTup K tl σ H R := h
theorem st_isTup {a : Addr} {xs : List V} {P : Addr → Prop} (h1 : tupAt H a = some xs) (h : P a) : ∃ b, V.ref a = .ref b ∧ (∃ xs, SqT K H b xs) ∧ P b := ⟨a, rfl, ⟨xs, tupAt_sq h1⟩, h⟩
theorem st_iR1 {ta : TA} {R : It → Hp → Prop} (h : ta σ H (fun vs H1 => ∃ j : Int, vs = [.int j] ∧ -(2 ^ 62) ≤ j ∧ j < 2 ^ 62 ∧ R (Itr 0 j.toNat) H1)) : iRng1 ta σ H R := h
theorem st_isR1 {j : Int} {P : Int → Prop} (h1 : -1000000000000 ≤ j ∧ j < 1000000000000) (h : P j) : ∃ i : Int, [V.int j] = [.int i] ∧ -(2 ^ 62) ≤ i ∧ i < 2 ^ 62 ∧ P i := ⟨j, rfl, by omega, by omega, h⟩
theorem st_iR2 {ta : TA} {R : It → Hp → Prop} (h : ta σ H (fun vs H1 => ∃ i j : Int, vs = [.int i, .int j] ∧ (-(2 ^ 62) ≤ i ∧ i < 2 ^ 62 ∧ -(2 ^ 62) ≤ j ∧ j < 2 ^ 62) ∧ R (Itr i (j - i).toNat) H1)) : iRng2 ta σ H R := h
theorem st_isR2 {i j : Int} {P : Int → Int → Prop} (h1 : -1000000000000 ≤ i ∧ i < 1000000000000 ∧ -1000000000000 ≤ j ∧ j < 1000000000000) (h : P i j) : ∃ i' j' : Int, [V.int i, V.int j] = [.int i', .int j'] ∧ (-(2 ^ 62) ≤ i' ∧ i' < 2 ^ 62 ∧ -(2 ^ 62) ≤ j' ∧ j' < 2 ^ 62) ∧ P i' j' := ⟨i, j, rfl, ⟨by omega, by omega, by omega, by omega⟩, h⟩
theorem st_iEn {ta : TA} {R : It → Hp → Prop} (h : ta σ H (fun vs H1 => ∃ a xs, vs = [.ref a] ∧ SqL K H1 a xs ∧ R (Ite K a) H1)) : iEnum K ta σ H R := h
theorem st_isEn {a : Addr} {xs : List V} {P : Addr → Prop} (h1 : lstAt H a = some xs) (h : P a) : ∃ b xs, [V.ref a] = [.ref b] ∧ SqL K H b xs ∧ P b := ⟨a, xs, rfl, lstAt_sq h1, h⟩
theorem st_iZp {ta : TA} {R : It → Hp → Prop} (h : ta σ H (fun vs H1 => ∃ a b xs ys, vs = [.ref a, .ref b] ∧ SqL K H1 a xs ∧ SqL K H1 b ys ∧ R (Itz K a b) H1)) : iZip K ta σ H R := h
theorem st_isZp {a b : Addr} {xs ys : List V} {P : Addr → Addr → Prop} (h1 : lstAt H a = some xs) (h2 : lstAt H b = some ys) (h : P a b) : ∃ a' b' xs ys, [V.ref a, V.ref b] = [.ref a', .ref b'] ∧ SqL K H a' xs ∧ SqL K H b' ys ∧ P a' b' := ⟨a, b, xs, ys, rfl, lstAt_sq h1, lstAt_sq h2, h⟩
theorem st_lc {wi : TI} {tt : TT} {te : TE} {vs : List Nat} {Q : VK} (h : wi σ H fun J H1 => LcGoal J g tt te vs σ Q H1) : tLc wi g tt te vs σ H Q := h
theorem st_for {wi : TI} {tb : TS} {D : Ends} (h : wi σ H fun J H1 => ForGoal J g tb D σ H1) : tFor wi g tb D σ H := h
end
section
variable {H : Hp} {Q : VK} {σ : L2.St}
theorem st_inC {c : Nat} {z : Str} (h : Q (.bl (decide (c ∈ z.cps.toList))) H) : rInU false (.str (tx [c])) (.str z) H Q := by
  refine ⟨_, rfl, ?_⟩
  show Q (.bl (!(Builtin.Str.occurrences z ⟨#[c]⟩ 0 z.length 1).isEmpty)) H
  rw [PySem.StrLaws.found_one]
  exact h
theorem st_ninC {c : Nat} {z : Str} (h : Q (.bl (!decide (c ∈ z.cps.toList))) H) : rInU true (.str (tx [c])) (.str z) H Q := by
  refine ⟨_, rfl, ?_⟩
  show Q (.bl (!(!(Builtin.Str.occurrences z ⟨#[c]⟩ 0 z.length 1).isEmpty))) H
  rw [PySem.StrLaws.found_one]
  exact h
theorem st_inL {x : V} {p : Addr} {xs : List V} {ds : List PyData} {d : PyData} (h1 : seqAt H p = some xs) (h2 : RpA H xs ds) (h3 : Rp H x d) (hd : min (PyData.depthAll ds) d.depth ≤ 60) (h : Q (.bl (ds.any fun y => PyData.eqv y d)) H) : rInU false x (.ref p) H Q := ⟨xs, ds, d, h1, h2, h3, hd, h⟩
theorem st_all {p : Addr} {bs : List Bool} {xs : List V} (h1 : H p = some (.lst xs)) (e : xs = bs.map V.bl) (h : Q (.bl (bs.all id)) H) : rAllU [.ref p] H Q := ⟨bs, by rw [lst_of h1, e], h⟩
theorem st_join {a : Str} {p : Addr} {ys : List Str} {xs : List V} {K : PySem.W.Frag} (h1 : H p = some (.lst xs)) (e : xs = ys.map V.str) (hz : (ys.map (·.length)).sum + ys.length * a.length ≤ 16777216) (h : Q (.str (Txt.join a ys)) H) :
    ∃ a' p', ∃ ys : List Str, V.str a = .str a' ∧ [V.ref p] = [.ref p'] ∧ (SqL K H p' (ys.map V.str) ∨ SqT K H p' (ys.map V.str)) ∧ (ys.map (·.length)).sum + ys.length * a'.length ≤ 16777216 ∧ Q (.str (Txt.join a' ys)) H :=
  ⟨a, p, ys, rfl, rfl, .inl (lstAt_sq (by rw [lst_of h1, e])), hz, h⟩
theorem st_gtup {K : PySem.W.Frag} {a : Addr} {xs : List V} {n : Nat} {t : TGs} {R : L2.St → Hp → Prop} (h1 : H a = some (.tup xs)) (hn : xs.length = n) (h : t xs σ H R) : gTup K n t (.ref a) σ H R := ⟨a, xs, rfl, tupAt_sq (tup_of h1), hn, h⟩
theorem st_glst {K : PySem.W.Frag} {a : Addr} {xs : List V} {n : Nat} {t : TGs} {R : L2.St → Hp → Prop} (h1 : H a = some (.lst xs)) (hn : xs.length = n) (h : t xs σ H R) : gLst K n t (.ref a) σ H R := ⟨a, xs, rfl, lstAt_sq (lst_of h1), hn, h⟩
theorem st_gcons {v : V} {r : List V} {t : TG} {u : TGs} {R : L2.St → Hp → Prop} (h : t v σ H fun σ' H' => u r σ' H' R) : gCons t u (v :: r) σ H R := ⟨v, r, rfl, h⟩
theorem st_gnil {R : L2.St → Hp → Prop} (h : R σ H) : gNil [] σ H R := ⟨rfl, h⟩
theorem st_m1 {r : V → List V → Hp → VK → Prop} {to te : TE} (h : to σ H (fun x H1 => (∃ a, x = .str a) ∧ te σ H1 fun y H2 => r x [y] H2 Q)) : tM1 r to te σ H Q := h
theorem st_isS {a : Str} {P : Prop} (h : P) : (∃ b, V.str a = .str b) ∧ P := ⟨⟨a, rfl⟩, h⟩
theorem st_bm {K : PySem.W.Frag} {T : String} {r : V → List V → Hp → VK → Prop} {to : TE} {t : TA} (h : to σ H (fun x H1 => tyV K T x H1 ∧ t σ H1 fun xs H2 => r x xs H2 Q)) : tBM K T r to t σ H Q := h
theorem st_bm0 {K : PySem.W.Frag} {T : String} {r : V → List V → Hp → VK → Prop} {to : TE} (h : to σ H (fun x H1 => tyV K T x H1 ∧ r x [] H1 Q)) : tBM0 K T r to σ H Q := h
theorem st_tyL {K : PySem.W.Frag} {p : Addr} {xs : List V} {P : Prop} (h1 : H p = some (.lst xs)) (h : P) : tyV K "list" (.ref p) H ∧ P := ⟨.inl ⟨rfl, xs, lstAt_sq (lst_of h1)⟩, h⟩
theorem st_app {p : Addr} {xs : List V} {y : V} (h1 : H p = some (.lst xs)) (hz : xs.length < 16777216) (h : Q .non (upd H p (.lst (xs ++ [y])))) : rAppend (.ref p) [y] H Q := ⟨p, xs, y, rfl, rfl, h1, by rw [sl16]; exact hz, h⟩
theorem st_listS {K : PySem.W.Frag} {z : Str} (hz : z.length ≤ 16777216) (h : ∀ p H', H p = none → Ex H H' → H' p = some (.lst (z.cps.toList.map fun c => V.str (tx [c]))) → Q (.ref p) H') : rListU K [.str z] H Q := ⟨hz, fun p hp => h p _ hp (Fr.new hp) upd_same⟩
theorem st_listQ {K : PySem.W.Frag} {a : Addr} {ys : List V} (h1 : seqAt H a = some ys) (h : ∀ p H', H p = none → Ex H H' → H' p = some (.lst ys) → Q (.ref p) H') : rListU K [.ref a] H Q := ⟨ys, seqAt_sq h1, fun p hp => h p _ hp (Fr.new hp) upd_same⟩
theorem st_tupS {K : PySem.W.Frag} {z : Str} (hz : z.length ≤ 16777216) (h : ∀ p H', H p = none → Ex H H' → H' p = some (.tup (z.cps.toList.map fun c => V.str (tx [c]))) → Q (.ref p) H') : rTupU K [.str z] H Q := ⟨hz, fun p hp => h p _ hp (Fr.new hp) upd_same⟩
theorem st_tupL {K : PySem.W.Frag} {a : Addr} {ys : List V} (h1 : lstAt H a = some ys) (h : ∀ p H', H p = none → Ex H H' → H' p = some (.tup ys) → Q (.ref p) H') : rTupU K [.ref a] H Q := ⟨ys, .inl ⟨lstAt_sq h1, fun p hp => h p _ hp (Fr.new hp) upd_same⟩⟩
def DispEnd (p : Addr) (Q : VK) (ps : List (V × V)) (H2 : Hp) : Prop := H2 p = some (.dK []) ∧ ∃ kvs : List (Key × V), ps = kvs.map (fun kv => (kV kv.1, kv.2)) ∧ kvs.length ≤ 15 ∧ Q (.ref p) (upd H2 p (.dK (mergeK [] kvs)))
theorem st_disp {trs : List (TE × TE)} (h : ∀ p H', H p = none → Ex H H' → H' p = some (.dK []) → tPairs trs σ H' (DispEnd p Q)) : tDisp trs σ H Q := fun p hp => h p _ hp (Fr.new hp) upd_same
theorem st_pair {tk tv : TE} {r : List (TE × TE)} {P : List (V × V) → Hp → Prop} (h : tk σ H fun x H1 => tv σ H1 fun y H2 => tPairs r σ H2 fun ps H3 => P ((x, y) :: ps) H3) : tPairs ((tk, tv) :: r) σ H P := h
theorem st_pairs0 {P : List (V × V) → Hp → Prop} (h : P [] H) : tPairs [] σ H P := h
theorem st_clear {p : Addr} {xs : List V} (h1 : H p = some (.lst xs)) (h : Q .non (upd H p (.lst []))) : rClear (.ref p) [] H Q := ⟨p, xs, rfl, rfl, h1, h⟩
theorem st_isL {p : Addr} {xs : List V} {n : String} {b : Bool} (h1 : H p = some (.lst xs)) (h2 : kitB "list" n = some b) (h : Q (.bl b) H) : rIs [.ref p, .ty n] H Q := ⟨"list", by show tyO (H p) = _; rw [h1]; rfl, b, h2, h⟩
theorem st_isT {p : Addr} {xs : List V} {n : String} {b : Bool} (h1 : H p = some (.tup xs)) (h2 : kitB "tuple" n = some b) (h : Q (.bl b) H) : rIs [.ref p, .ty n] H Q := ⟨"tuple", by show tyO (H p) = _; rw [h1]; rfl, b, h2, h⟩
theorem st_isI {i : Int} {n : String} {b : Bool} (h2 : kitB "int" n = some b) (h : Q (.bl b) H) : rIs [.int i, .ty n] H Q := ⟨"int", rfl, b, h2, h⟩
theorem st_isB {i : Bool} {n : String} {b : Bool} (h2 : kitB "bool" n = some b) (h : Q (.bl b) H) : rIs [.bl i, .ty n] H Q := ⟨"bool", rfl, b, h2, h⟩
theorem st_isS' {i : Str} {n : String} {b : Bool} (h2 : kitB "str" n = some b) (h : Q (.bl b) H) : rIs [.str i, .ty n] H Q := ⟨"str", rfl, b, h2, h⟩
theorem kit_ii : kitB "int" "int" = some true := by decide +kernel
theorem kit_ib : kitB "int" "bool" = some false := by decide +kernel
theorem kit_il : kitB "int" "list" = some false := by decide +kernel
theorem kit_is : kitB "int" "str" = some false := by decide +kernel
theorem kit_it : kitB "int" "tuple" = some false := by decide +kernel
theorem kit_ll : kitB "list" "list" = some true := by decide +kernel
theorem kit_lt : kitB "list" "tuple" = some false := by decide +kernel
theorem kit_tt : kitB "tuple" "tuple" = some true := by decide +kernel
theorem kit_tl : kitB "tuple" "list" = some false := by decide +kernel
theorem kit_ss : kitB "str" "str" = some true := by decide +kernel
theorem kit_bb : kitB "bool" "bool" = some true := by decide +kernel
theorem kit_bi : kitB "bool" "int" = some true := by decide +kernel
theorem cutV_from (xs : List V) (k : Nat) : cutV xs (some (k : Int)) none = xs.drop k := by
  unfold cutV
  rw [HT.sIx_nat, HT.sIx_none]
  by_cases h : k ≤ xs.length
  · rw [Nat.min_eq_left h, List.take_of_length_le (by rw [List.length_drop]; exact Nat.le_refl _)]
  · rw [Nat.min_eq_right (by omega), List.drop_of_length_le (Nat.le_refl _), List.drop_of_length_le (by omega)]
    simp
/-- a table that is read -/
structure TabR (H : Hp) (p : Addr) (rs : List Addr) (row : Nat → List V) : Prop where
  at_ : H p = some (.lst (rs.map V.ref))
  rows : ∀ k r, rs[k]? = some r → H r = some (.lst (row k))
theorem TabR.ex {H H' : Hp} {p : Addr} {rs : List Addr} {row : Nat → List V} (T : TabR H p rs row) (e : Ex H H') : TabR H' p rs row := ⟨e.get T.at_, fun k r h => e.get (T.rows k r h)⟩
theorem refs_at {rs : List Addr} {i : Nat} {r : Addr} (h : rs[i]? = some r) : atI (rs.map V.ref) (i : Int) = some (V.ref r) := by
  unfold atI
  rw [Evl.ixN_nat (by rw [List.length_map]; exact (List.getElem?_eq_some_iff.mp h).1)]
  show (rs.map V.ref)[i]? = _
  rw [List.getElem?_map, h]
  rfl
theorem at_last {xs : List V} {n : Nat} {v : V} (hl : xs.length = n + 1) (h : xs[n]? = some v) : atI xs (-1) = some v := by
  unfold atI ixN
  rw [if_neg (by decide), hl, if_pos (by omega)]
  have e : (-1 + ((n + 1 : Nat) : Int)).toNat = n := by omega
  show xs[(-1 + ((n + 1 : Nat) : Int)).toNat]? = _
  rw [e]
  exact h
/-- x is a thing whose type is known -/
def Ty (H : Hp) (v : V) : Prop := ∃ t, tyN H v = some t
theorem ty_str (z : Str) : Ty H (.str z) := ⟨"str", rfl⟩
theorem ty_int (z : Int) : Ty H (.int z) := ⟨"int", rfl⟩
theorem tyN_ex {H' : Hp} {v : V} {t : String} (e : Ex H H') (h : tyN H v = some t) : tyN H' v = some t := by
  cases v with
  | ref p =>
    have h : tyO (H p) = some t := h
    show tyO (H' p) = some t
    cases q : H p with
    | none => rw [q] at h; cases h
    | some o =>
      rw [e p o (fun z => z) q]
      rw [q] at h
      exact h
  | _ => exact h
theorem Ty.ex {H' : Hp} {v : V} (h : Ty H v) (e : Ex H H') : Ty H' v := by
  obtain ⟨t, h⟩ := h
  exact ⟨t, tyN_ex e h⟩
def isStrV : V → Bool
  | .str _ => true
  | _ => false
theorem kb_str : kitB "NoneType" "str" = some false ∧ kitB "bool" "str" = some false ∧ kitB "int" "str" = some false ∧ kitB "str" "str" = some true ∧ kitB "list" "str" = some false ∧ kitB "tuple" "str" = some false ∧ kitB "dict" "str" = some false := by decide +kernel
theorem st_isStrT {x : V} (h1 : Ty H x) (h : Q (.bl (isStrV x)) H) : rIs [x, .ty "str"] H Q := by
  obtain ⟨t, h1⟩ := h1
  obtain ⟨k1, k2, k3, k4, k5, k6, k7⟩ := kb_str
  refine st_is h1 (b := isStrV x) ?_ h
  cases x with
  | ref p =>
    have h1 : tyO (H p) = some t := h1
    unfold tyO at h1
    split at h1 <;> first | (cases h1; assumption) | cases h1
  | _ => first | (cases h1; assumption) | cases h1
end
theorem lstAt_ex {H H' : Hp} {a : Addr} {xs : List V} (e : Ex H H') (h : lstAt H a = some xs) : lstAt H' a = some xs := by
  unfold lstAt at h ⊢
  cases q : H a with
  | none => rw [q] at h; cases h
  | some o => rw [e a o (fun z => z) q]; rw [q] at h; exact h
theorem tupAt_ex {H H' : Hp} {a : Addr} {xs : List V} (e : Ex H H') (h : tupAt H a = some xs) : tupAt H' a = some xs := by
  unfold tupAt at h ⊢
  cases q : H a with
  | none => rw [q] at h; cases h
  | some o => rw [e a o (fun z => z) q]; rw [q] at h; exact h
mutual
theorem Rp.ex {H H' : Hp} (e : Ex H H') : ∀ {v : V} {d : PyData}, Rp H v d → Rp H' v d
  | _, _, .non => .non
  | _, _, .bl b => .bl b
  | _, _, .int i => .int i
  | _, _, .str x => .str x
  | _, _, .lst h k => .lst (lstAt_ex e h) (RpA.ex e k)
  | _, _, .tup h k => .tup (tupAt_ex e h) (RpA.ex e k)
theorem RpA.ex {H H' : Hp} (e : Ex H H') : ∀ {vs : List V} {ds : List PyData}, RpA H vs ds → RpA H' vs ds
  | _, _, .nil => .nil
  | _, _, .cons h k => .cons (Rp.ex e h) (RpA.ex e k)
end
theorem rpA_map {H : Hp} {α : Type} {val : α → V} {enc : α → PyData} : ∀ {xs : List α}, (∀ x ∈ xs, Rp H (val x) (enc x)) → RpA H (xs.map val) (xs.map enc)
  | [], _ => .nil
  | a :: r, h => .cons (h a List.mem_cons_self) (rpA_map fun x hx => h x (List.mem_cons_of_mem _ hx))
theorem eqvAll_map {α : Type} [DecidableEq α] {enc : α → PyData} (h : ∀ a b, PyData.eqv (enc a) (enc b) = decide (a = b)) : ∀ xs ys : List α, PyData.eqvAll (xs.map enc) (ys.map enc) = decide (xs = ys)
  | [], [] => by simp [PyData.eqvAll]
  | [], _ :: _ => by simp [PyData.eqvAll]
  | _ :: _, [] => by simp [PyData.eqvAll]
  | a :: r, b :: s => by
    have ih := eqvAll_map h r s
    simp only [List.map_cons, PyData.eqvAll, h, ih]
    rw [Bool.eq_iff_iff]
    simp
theorem eqv_int (a b : Int) : PyData.eqv (.int a) (.int b) = decide (a = b) := by simp only [PyData.eqv]; rfl
theorem eqv_str (a b : Str) : PyData.eqv (.str a) (.str b) = decide (a = b) := by simp only [PyData.eqv]; rfl
theorem eqv_list {α : Type} [DecidableEq α] {enc : α → PyData} (h : ∀ a b, PyData.eqv (enc a) (enc b) = decide (a = b)) (xs ys : List α) : PyData.eqv (.list (xs.map enc)) (.list (ys.map enc)) = decide (xs = ys) := by
  simp only [PyData.eqv]
  exact eqvAll_map h xs ys
theorem depth_map {α : Type} {enc : α → PyData} {n : Nat} : ∀ {xs : List α}, (∀ x ∈ xs, (enc x).depth ≤ n) → PyData.depthAll (xs.map enc) ≤ n
  | [], _ => by simp [PyData.depthAll]
  | a :: r, h => by
    simp only [List.map_cons, PyData.depthAll]
    exact Nat.max_le.mpr ⟨h a List.mem_cons_self, depth_map fun x hx => h x (List.mem_cons_of_mem _ hx)⟩
structure Df (K : PySem.W.Frag) (mg : Str → Option Value) (x : Str) (st : Stmt) (ps : List Str) (f : Addr) (fd : FuncData) : Prop where
  g : mg x = some (.ref f)
  F : Fun K x x st f fd
  b : Binds K fd ps []
theorem df_mk {K : PySem.W.Frag} {h : Heap} {mg : Str → Option Value} {x : Str} {st : Stmt} {ps : List Str} {f : Addr} {oc : Value} {od an : Option Addr} {osl : Array (Option Value)} {kV dc pm cd ct : Value} (X : K.In h) (G : h.Ns mainGlobals mg)
    (a : PySem.W.nsIn K mainGlobals x = some (some (.ref f))) (l : K.lookup f = some ⟨oc, od, .func (PySem.W.fnOf x x (defArgs st) (defBody st) (defScope st) .none kV dc pm an cd ct), osl⟩) (c : PySem.W.codeIn K cd x = true) (k : PySem.W.keepIn K (.ref f) = true)
    (hb : ∀ (kV doc pm : Value) (an : Option Addr) (cdv ct : Value) (us : List Value), us.length = ps.length → bindArgs (PySem.W.fnOf x x (defArgs st) (defBody st) (defScope st) .none kV doc pm an cdv ct) ⟨us, []⟩ = pure (ps.zip us)) :
    Df K mg x st ps f (PySem.W.fnOf x x (defArgs st) (defBody st) (defScope st) .none kV dc pm an cd ct) :=
  have F := fun_mk (st := st) l c k
  ⟨PySem.W.mg_of X G a, F, F.binds hb⟩
/-- the script: a list of ints that is read, never written -/
def Scr (K : PySem.W.Frag) (H : Hp) (a : Addr) (ns : List Int) : Prop :=
  (∃ o, H a = some (.frz o (.lst (ns.map V.int)))) ∨ ∃ (o : Obj) (its : Array Value) (n : Nat), K.lookup a = some o ∧ o.cls = .type "list" ∧ o.dict = none ∧ o.data = .seq its n ∧ its.size ≤ sizeLine ∧ Vals (ns.map V.int) its.toList
theorem FrP.fresh {H0 H1 H2 : Hp} {p : Addr} (e : Ex H0 H1) (h : H0 p = none) (f : FrP p H1 H2) : Ex H0 H2 := fun b o _ q => f b o (ne_of_none q h) (e b o (fun z => z) q)
theorem tx_nil : ("" : Str) = tx [] := by decide +kernel
theorem app_tx (a b : List Nat) : tx a ++ tx b = tx (a ++ b) := tx_append a b
/-- texts joined by nothing -/
theorem join_txs (ls : List (List Nat)) : Txt.join "" (ls.map tx) = tx ls.flatten := by
  show Builtin.Str.glued "" _ = _
  rw [PySem.StrLaws.glued_eq_join]
  induction ls with
  | nil => rfl
  | cons a r ih =>
    cases r with
    | nil => show tx a = tx (a ++ []); rw [List.append_nil]
    | cons b r =>
      show tx a ++ "" ++ Str.join "" ((b :: r).map tx) = tx (a ++ (b :: r).flatten)
      rw [ih, tx_nil, app_tx, app_tx, List.append_nil]
theorem Scr.ex {K : PySem.W.Frag} {H H' : Hp} {a : Addr} {ns : List Int} (h : Scr K H a ns) (e : Ex H H') : Scr K H' a ns := by
  rcases h with ⟨o, h⟩ | h
  · exact .inl ⟨o, e.get h⟩
  · exact .inr h
theorem Scr.frp {K : PySem.W.Frag} {H H' : Hp} {a p : Addr} {ns : List Int} (h : Scr K H a ns) (hp : Purse H p) (e : FrP p H H') : Scr K H' a ns := by
  rcases h with ⟨o, h⟩ | h
  · refine .inl ⟨o, e.get (fun z => ?_) h⟩
    obtain ⟨x, y, z', q⟩ := hp
    rw [z, q] at h
    cases h
  · exact .inr h
end Zb
namespace Zb
open PySem PySem.Spec PyProof.Rows L2
def Ites (x : Str) : It := ⟨fun i _ => i < x.cps.size, fun i H v H' => ∃ T c, v = .ref T ∧ H T = none ∧ H' = upd H T (.tup [.int (i : Nat), .str (tx [c])]) ∧ x.cps[i]? = some c, fun i _ => i = x.cps.size⟩
theorem turn_enumS {P : Program} {w : World} {K : PySem.W.Frag} {elts : List Expr} {kk : Nat} {tpos : Pos} (x : Str) (t : Tok) (e it : Addr) (hne : e ≠ it) :
    Turn P w K (.Tuple elts kk tpos) (Ites x) [e, it] e (fun i h => (∃ old, IsEnum h e it ((0 : Int) + ((i : Nat) : Int)) old) ∧ h.IsStrIter it (strIterType x) x t i) where
  mem := by simp
  obj := fun i h st b hb => by
    obtain ⟨⟨old, he⟩, ⟨o, ho, hc, hd⟩⟩ := st
    have e' : b = e ∨ b = it := by simpa using hb
    rcases e' with z | z
    · rw [z]; exact ⟨_, he, fun v q => nomatch q⟩
    · rw [z]; exact ⟨o, ho, fun v q => by rw [hd] at q; cases q⟩
  keep := fun i h h' st k => let ⟨⟨old, he⟩, o, ho, r⟩ := st; ⟨⟨old, k e (by simp) _ he⟩, o, k it (by simp) o ho, r⟩
  item := by
    intro X hP hw hK hc i pins s σ H E I hf st hg
    subst hP hw hK
    have D : Draws X.prog X.w X.A.in1 it [it] x.cps.size (fun i v => ∃ c u, x.cps[i]? = some c ∧ v = .str ⟨#[c]⟩ u) (fun i h => h.IsStrIter it (strIterType x) x t i) := Draws.text (A := X.A.in1) (I.ok.hd hc) it x t
    have W := WalksT.enumFrom (A := X.A) 0 D e hne (by simpa using hne) (by simp)
    have hel : e < s.heap.objs.size := by obtain ⟨⟨_, he⟩, _⟩ := st; exact Heap.lt_size he
    have hil : it < s.heap.objs.size := by obtain ⟨_, _, q, _⟩ := st; exact Heap.lt_size q
    refine W.item i s _ _ hg st fun T vals h' tk hP hTn hT hM kp => ?_
    obtain ⟨t2, v, ⟨c, u, hcx, rfl⟩, rfl⟩ := hP
    refine ⟨_, rfl, W.go elts kk tpos i T { s with heap := h', toks := tk } _ _ hM fun h'' st2 kp2 => ?_⟩
    have hTa := W.apart i T h' hM
    obtain ⟨oT, hoT, hcT, nT, hdT⟩ := hT
    have new : ObjOk X.prog X.w (upd H T (.tup [.int (i : Nat), .str (tx [c])])) h'' T (.tup [.int (i : Nat), .str (tx [c])]) :=
      ⟨by show 2 ≤ sizeLine; rw [sl16]; decide, [.int ((0 : Int) + (i : Int)) t2, .str ⟨#[c]⟩ u], .cons ⟨t2, by rw [Int.zero_add]⟩ (.cons ⟨u, rfl⟩ .nil), ⟨oT, kp2 T oT hTa hoT, hcT, nT, hdT⟩⟩
    have I1 : Inv X pins σ (upd H T (.tup [.int (i : Nat), .str (tx [c])])) { s with heap := h'', toks := tk } :=
      I.turnedNew (ch := [e, it]) (fun b ob hb q => kp2 b ob hb (kp b ob hb q)) hf hTn new
    refine ⟨.ref T, _, I1, rfl, ⟨T, c, rfl, I.hok.fresh hTn, rfl, hcx⟩, st2, fun b hb => ?_⟩
    have hb' : b < s.heap.objs.size := by
      have e' : b = e ∨ b = it := by simpa using hb
      rcases e' with z | z
      · rw [z]; exact hel
      · rw [z]; exact hil
    rw [upd_ne (Nat.ne_of_lt (Nat.lt_of_lt_of_le hb' hTn))]
    exact (hf b hb).1
  done := by
    intro X hP hw hK hc i pins s σ H E I hf st hg
    subst hP hw hK
    obtain ⟨f0, f1, f2, f3, f4, f5⟩ := hf it (by simp)
    obtain ⟨⟨old, he⟩, hit⟩ := st
    have D := Draws.text (prog := X.prog) (w := X.w) (A := X.A.in1) (I.ok.hd hc) it x t
    have hg : i = x.cps.size := hg
    subst hg
    exact wpAny_pyNext_enum_endD D he hit fun h' eb => ⟨rfl, I.turned (t' := s.toks) (fun b o hb q => eb b o hb q) f0 f1 f3 f4 f5⟩
  self := fun A i s Q E st h => let ⟨⟨_, he⟩, _⟩ := st; wpAny_pyIter_enum he h
def iEnS (ta : TA) : TI := fun σ H R => ta σ H fun vs H1 => ∃ x, vs = [.str x] ∧ R (Ites x) H1
theorem pi_enumS {X : Cx} {e : Expr} {ta : TA} {p pos tpos : Pos} {elts : List Expr} {kk : Nat} (hg : Gl X "enumerate") (hm : X.mg "enumerate" = none) (ha : PA X [e] ta) (hs : starEach [e] X.env = [(false, eval e X.env)] := by rfl) :
    PI X (.Tuple elts kk tpos) (.Call (.Name "enumerate" p) [e] [] pos) (iEnS ta) := by
  refine ⟨fun pins s σ H R I h => ?_⟩
  refine Call_ (ld_blt I hg hm boot_enumerate (PyProof.Rows.callWith_type1 (thn (ha.run pos pins s σ H _ I h) fun us s1 ⟨vs, H1, I1, r1, q1⟩ => ?_) hs rfl))
  obtain ⟨x, ex, q⟩ := q1
  subst ex
  obtain ⟨u, rfl, t, rfl⟩ := vals1 r1
  refine call_enumerate_str fun h' he hit hsz hk => wpAny_pyIter_enum he ?_
  have I2 : Inv X pins σ H1 { s1 with heap := h' } := I1.kept (t' := s1.toks) hk
  refine ⟨s1.heap.objs.size + 1, [s1.heap.objs.size + 1, s1.heap.objs.size], _, _, H1, rfl, I2, turn_enumS x t (s1.heap.objs.size + 1) s1.heap.objs.size (Nat.succ_ne_self _), ⟨⟨.none, he⟩, hit⟩, fun b hb => ?_, q⟩
  have e' : b = s1.heap.objs.size + 1 ∨ b = s1.heap.objs.size := by simpa using hb
  have hle : s1.heap.objs.size ≤ b := by
    rcases e' with z | z
    · rw [z]; exact Nat.le_add_right _ _
    · rw [z]; exact Nat.le_refl _
  exact I1.fpOk hle (I1.hok.fresh hle)
theorem runs_enumS (z : Str) : Runs (Ites z) z.length (fun _ => True) (fun i x H H' => ∃ T c, x = .ref T ∧ H T = none ∧ Ex H H' ∧ H' T = some (.tup [.int (i : Nat), .str (tx [c])]) ∧ z.cps.toList[i]? = some c) :=
  ⟨fun _ _ h _ => h, fun _ _ => rfl, fun i H x H' _ _ y => by
    obtain ⟨T, c, e1, e2, e3, e4⟩ := y
    subst e3
    exact ⟨T, c, e1, e2, Fr.new e2, upd_same, by rw [Array.getElem?_toList]; exact e4⟩⟩
theorem st_iEnS {ta : TA} {σ : L2.St} {H : Hp} {R : It → Hp → Prop} (h : ta σ H (fun vs H1 => ∃ x, vs = [.str x] ∧ R (Ites x) H1)) : iEnS ta σ H R := h
theorem st_isEnS {x : Str} {P : Str → Prop} (h : P x) : ∃ y, [V.str x] = [.str y] ∧ P y := ⟨x, rfl, h⟩
end Zb
namespace Zb
open PySem PySem.Spec PyProof.Rows L2
def clsA (K : PySem.W.Frag) (nm : Str) : Addr := match PySem.W.nsIn K mainGlobals nm with
  | some (some (.ref C)) => C
  | _ => 0
theorem clsA_of {K : PySem.W.Frag} {nm : Str} {C : Addr} (h : PySem.W.nsIn K mainGlobals nm = some (some (.ref C))) : clsA K nm = C := by unfold clsA; rw [h]
/-- what an isinstance, a field, of an exception in hand wants -/
structure XI (K : PySem.W.Frag) (C : Addr) : Prop where
  hc : (PySem.W.clsIn K C).isSome = true
  ga : PySem.W.findIn K (.ref C) "__getattribute__" = some (some (.builtin "BaseException.__getattribute__"))
  gg : PySem.W.findIn K (.ref C) "__getattr__" = some none
  sb : PySem.W.subIn K (.ref C) (.type "BaseException") = some true
  hd : PySem.W.hasDictIn K C = true
  ca : PySem.W.findIn K (.ref C) "__class__" = some (some (.builtin "object.__class__"))
  cn : PySem.W.specialIn K (.builtin "object.__class__") "__get__" = some (some (.builtin "getset_descriptor.__get__"))
  ct : PySem.W.takesIn K (.builtin "object.__class__") = some true
  cm : PySem.W.mroIn K C (.type "object") = some true
abbrev Cl := Value × Option Nat × (Addr → Value → Option Addr → TS)
def goneD (i : Nat) (D : Ends) : Ends := { nx := fun σ' H' => D.nx (σ'.set i none) H', rt := D.rt, bk := fun σ' H' => D.bk (σ'.set i none) H', ct := fun σ' H' => D.ct (σ'.set i none) H' }
def clD : Option Nat → Ends → Ends
  | none, D => D
  | some i, D => goneD i D
def clS : Option Nat → Addr → L2.St → L2.St
  | none, _, σ => σ
  | some i, a, σ => σ.set i (some (.ref a))
def wG (K : PySem.W.Frag) (Wout : WX) (D : Ends) : List Cl → WX
  | [] => Wout
  | (c, i, ts) :: r => fun cls d σ H => ∃ b, PySem.W.exmOne K cls c = some b ∧ (b = true → ∀ a, H a = none → ts a cls d (clD i D) (clS i a σ) H) ∧ (b = false → wG K Wout D r cls d σ H)
section
variable {X : Cx} {body orelse : List Stmt} {h₀ : ExceptHandler} {hds : List ExceptHandler} {l : List Cl} {pos : Pos} {tb : WX → TS} {u : TS} {Wout : WX}
def tTry (K : PySem.W.Frag) (Wout : WX) (tb : WX → TS) (u : TS) (l : List Cl) : TS := fun D σ H => tb (wG K Wout D l) { D with nx := u D } σ H
end
def XeP (K : PySem.W.Frag) (a : Addr) (cls : Value) (d : Option Addr) (n : Str) (Q : VK) : VK := fun x H1 => x = .ref a ∧ ∃ C, cls = .ref C ∧ XI K C ∧ PySem.W.findIn K (.ref C) n = some none ∧ ∃ (dd : Addr) (fs : List (Str × V)) (v : V), d = some dd ∧ H1 dd = some (.xd fs) ∧ fs.lookup n = some v ∧ Q v H1
def tXe (K : PySem.W.Frag) (a : Addr) (cls : Value) (d : Option Addr) (n : Str) (te : TE) : TE := fun σ H Q => te σ H (XeP K a cls d n Q)
def rIsX (K : PySem.W.Frag) (a : Addr) (cls : Value) (d : Option Addr) : List V → Hp → VK → Prop := fun xs H Q => ∃ (c : V) (cv : Value) (b : Bool) (C dd : Addr) (fs : List (Str × V)), xs = [.ref a, c] ∧ (∀ u, RelV c u → u = cv) ∧ cls = .ref C ∧ XI K C ∧ d = some dd ∧ H dd = some (.xd fs) ∧ PySem.W.kitOne K (.ref C) cv = some b ∧ Q (.bl b) H
structure BI (K : PySem.W.Frag) (mg : Str → Option Value) (nm : Str) : Prop where
  g : mg nm = some (.ref (clsA K nm))
  ga : PySem.W.specialIn K (.ref (clsA K nm)) "__getattribute__" = some (some (.builtin "type.__getattribute__"))
  rd : PySem.W.readsIn K (clsA K nm) (.type "type") = true
  fi : PySem.W.findCls K (.ref (clsA K nm)) (.type "type") "__init__" = some (.val (.builtin "ValueError.__init__"))
section
variable {X : Cx} {e : Expr} {es : List Expr} {ta : TA} {p1 p2 pos : Pos} {nm : Str}
theorem pe_oinit {pl : Sem Bool} (B : BI X.K X.mg nm) (hg : Gl X nm) (ha : PA X (e :: es) ta) (hdb : (nm == ("__debug__" : Str)) = false := by decide)
    (hc : eval (.Call (.Attribute (.Name nm p1) "__init__" p2) (e :: es) [] pos) X.env = (do
      let ov ← eval (.Name nm p1) X.env
      standAt p2.atName
      let (f, first) ← holding [ov] (getMethod ov "__init__" pl)
      callWith pos f first (backTo pos (starEach (e :: es) X.env)) (backToKw pos (keywordEach [] X.env))) := by rfl)
    (he : starEach (e :: es) X.env = (false, eval e X.env) :: starEach es X.env := by rfl) (hpl : (backTo pos (starEach es X.env)).any (·.1) = false := by rfl) :
    PE X (.Call (.Attribute (.Name nm p1) "__init__" p2) (e :: es) [] pos) (tVeI X.K ta) := by
  refine ⟨fun pins s σ H Q I h => ?_⟩
  refine PySem.W.methodCall_KW (ld_glob I hg B.g ?_ hdb) hc
  refine PySem.W.method_cls I.kIn B.ga (PySem.W.cls_value I.kIn B.rd B.fi (by decide +kernel) ?_)
  show wpAny _ _ (callWith pos (Value.builtin "ValueError.__init__") [] (backTo pos (starEach (e :: es) X.env)) []) _ _ _
  refine PyProof.Rows.callWith_method1 (thn (ha.run pos pins _ σ H _ (I.tok _) h) fun us s1 ⟨vs, H1, I1, r1, a, C, ws, ev, hl, T, ea, q⟩ => ?_) he hpl
  subst ev
  cases r1 with
  | @cons _ u0 _ ur ra rw' =>
    obtain rfl : u0 = Value.ref a := ra
    have hlen : ur.length ≤ sizeLine := by
      rw [← Paired.length rw', sizeLine_eq]
      omega
    exact oinit_ok T I1 ea hlen fun s' J => ⟨.non, H1, J, rfl, q⟩
end
/-- its __init__ of one field, of two -/
def spI1 (K : PySem.W.Frag) (f : Str) : Sp := fun vs H Q _ => ∃ (a C : Addr) (y : V), vs = [.ref a, y] ∧ OexC K C ∧ PySem.W.findIn K (.ref C) f = some none ∧ H a = some (exo a C none) ∧
  ∀ dx, H dx = none → dx ≠ a → Q .non (upd (upd H dx (exd dx [(f, y)])) a (exo a C (some dx)))
def spI2 (K : PySem.W.Frag) (f g : Str) : Sp := fun vs H Q _ => ∃ (a C : Addr) (y z : V), vs = [.ref a, y, z] ∧ OexC K C ∧ PySem.W.findIn K (.ref C) f = some none ∧ PySem.W.findIn K (.ref C) g = some none ∧ H a = some (exo a C none) ∧
  ∀ dx, H dx = none → dx ≠ a → Q .non (upd (upd (upd H dx (exd dx [(f, y)])) a (exo a C (some dx))) dx (exd dx [(g, z), (f, y)]))
structure EX (P : Program) (w : World) (K : PySem.W.Frag) (mg : Str → Option Value) (base : Heap) (nm : Str) (ps : List Str) (sp : Sp) : Prop where
  g : mg nm = some (.ref (clsA K nm))
  o : OexC K (clsA K nm)
  i : ∃ (fI : Addr) (fd : FuncData), PySem.W.findIn K (.ref (clsA K nm)) "__init__" = some (some (.ref fI)) ∧ PySem.W.typeIn K (.ref fI) = some (.type "function") ∧ FnOk P w K mg base CX0 1 fI fd ps sp ∧ Binds K fd ps []
def MkG (C : Addr) (sp : Sp) (vs : List V) (Q : XK) (H1 : Hp) : Prop := vs.length ≤ 1000 ∧ ∀ a, H1 a = none → sp (.ref a :: (vs ++ [])) (upd H1 a (exo a C none))
  (fun v H2 => v = .non ∧ ∃ (d : Addr) (fs : List (Str × V)), H2 a = some (exo a C (some d)) ∧ H2 d = some (exd d fs) ∧ H1 d = none ∧ Q (.ref C) (some d) (upd (del H2 a) d (.xd fs))) (fun _ _ _ => False)
def tRaise (C : Addr) (sp : Sp) (W : WX) (ta : TA) : TS := fun _ σ H => ta σ H fun vs H1 => MkG C sp vs (fun cls d H' => W cls d σ H') H1
section
variable {X : Cx} {e : Expr} {es : List Expr} {ta : TA} {p pos pos2 : Pos} {nm : Str} {ps : List Str} {sp : Sp} {W : WX}
theorem ps_raiseG (hc : X.calm = true) (T : EX X.prog X.w X.K X.mg X.base nm ps sp) (hr : Room 2 X.A) (tk : Takes X W) (hg : Gl X nm) (ha : PA X (e :: es) ta)
    (hdb : (nm == ("__debug__" : Str)) = false := by decide) (he : starEach (e :: es) X.env = (false, eval e X.env) :: starEach es X.env := by rfl) (hpl : (backTo pos (starEach es X.env)).any (·.1) = false := by rfl) :
    PS X (.Raise (some (.Call (.Name nm p) (e :: es) [] pos)) none pos2) (tRaise (clsA X.K nm) sp W ta) := by
  obtain ⟨fI, fd, i1, i2, i3, i4⟩ := T.i
  exact ps_raise hc tk (pmk_oex (dvs := []) T.o i1 i2 i3 hr i4 .nil pass0 hg T.g ha hdb he hpl)
end
theorem mk_heap {H1 : Hp} {a dx : Addr} {o1 o2 o3 u : HO} (hn : H1 a = none) (ne : dx ≠ a) : upd (del (upd (upd (upd H1 a o1) dx o2) a o3) a) dx u = upd H1 dx u := by
  funext b
  by_cases h1 : b = dx
  · rw [h1, upd_same, upd_same]
  · rw [upd_ne h1, upd_ne h1]
    by_cases h2 : b = a
    · rw [h2, del_same, hn]
    · rw [del_ne h2, upd_ne h2, upd_ne h1, upd_ne h2]
theorem mk_heap2 {H1 : Hp} {a dx : Addr} {o1 o2 o3 o4 u : HO} (hn : H1 a = none) (ne : dx ≠ a) : upd (del (upd (upd (upd (upd H1 a o1) dx o2) a o3) dx o4) a) dx u = upd H1 dx u := by
  funext b
  by_cases h1 : b = dx
  · rw [h1, upd_same, upd_same]
  · rw [upd_ne h1, upd_ne h1]
    by_cases h2 : b = a
    · rw [h2, del_same, hn]
    · rw [del_ne h2, upd_ne h1, upd_ne h2, upd_ne h1, upd_ne h2]
section
variable {K : PySem.W.Frag} {C : Addr} {Q : XK} {H : Hp} {f g : Str}
theorem st_mk1 {v : V} (T : OexC K C) (hf : PySem.W.findIn K (.ref C) f = some none) (h : ∀ d H', H d = none → Ex H H' → H' d = some (.xd [(f, v)]) → Q (.ref C) (some d) H') : MkG C (spI1 K f) [v] Q H := by
  refine ⟨(by decide : 1 ≤ 1000), fun a ha => ⟨a, C, v, rfl, T, hf, upd_same, fun dx hdx ne => ⟨rfl, dx, [(f, v)], upd_same, ?_, ?_, ?_⟩⟩⟩
  · rw [upd_ne ne]; exact upd_same
  · rw [upd_ne ne] at hdx; exact hdx
  · rw [upd_ne ne] at hdx
    rw [mk_heap ha ne]
    exact h dx _ hdx (Fr.new hdx) upd_same
theorem st_mk2 {v z : V} (T : OexC K C) (hf : PySem.W.findIn K (.ref C) f = some none) (hg : PySem.W.findIn K (.ref C) g = some none) (h : ∀ d H', H d = none → Ex H H' → H' d = some (.xd [(g, z), (f, v)]) → Q (.ref C) (some d) H') : MkG C (spI2 K f g) [v, z] Q H := by
  refine ⟨(by decide : 2 ≤ 1000), fun a ha => ⟨a, C, v, z, rfl, T, hf, hg, upd_same, fun dx hdx ne => ⟨rfl, dx, [(g, z), (f, v)], ?_, upd_same, ?_, ?_⟩⟩⟩
  · rw [upd_ne (Ne.symm ne)]; exact upd_same
  · rw [upd_ne ne] at hdx; exact hdx
  · rw [upd_ne ne] at hdx
    rw [mk_heap2 ha ne]
    exact h dx _ hdx (Fr.new hdx) upd_same
end
structure IniF (K : PySem.W.Frag) (nm qual : Str) (st : Stmt) (ps : List Str) : Prop where
  ex : ∃ (fI : Addr) (fd : FuncData), PySem.W.findIn K (.ref (clsA K nm)) "__init__" = some (some (.ref fI)) ∧ PySem.W.typeIn K (.ref fI) = some (.type "function") ∧ Fun K "__init__" qual st fI fd ∧ Binds K fd ps []
theorem ini_mk {K : PySem.W.Frag} {nm qual : Str} {st : Stmt} {ps : List Str} {f : Addr} {oc : Value} {od an : Option Addr} {osl : Array (Option Value)} {kV dc pm cd ct : Value} (i : PySem.W.findIn K (.ref (clsA K nm)) "__init__" = some (some (.ref f))) (t : PySem.W.typeIn K (.ref f) = some (.type "function"))
    (l : K.lookup f = some ⟨oc, od, .func (PySem.W.fnOf "__init__" qual (defArgs st) (defBody st) (defScope st) .none kV dc pm an cd ct), osl⟩) (c : PySem.W.codeIn K cd qual = true) (k : PySem.W.keepIn K (.ref f) = true)
    (hb : ∀ (kV doc pm : Value) (an : Option Addr) (cdv ct : Value) (us : List Value), us.length = ps.length → bindArgs (PySem.W.fnOf "__init__" qual (defArgs st) (defBody st) (defScope st) .none kV doc pm an cdv ct) ⟨us, []⟩ = pure (ps.zip us)) : IniF K nm qual st ps :=
  have F := fun_mk (st := st) l c k
  ⟨f, _, i, t, F, F.binds hb⟩
theorem ini1_go {K : PySem.W.Frag} {f tx : Str} {a C : Addr} {y : V} {H : Hp} {Q : VK} (hO : OexC K C) (hn : PySem.W.findIn K (.ref C) f = some none) (ha : H a = some (exo a C none))
    (k : ∀ dx, H dx = none → dx ≠ a → Q .non (upd (upd H dx (exd dx [(f, y)])) a (exo a C (some dx)))) :
    tSeq (tDrop (tVeI K (tCons (tVar 0) (tCons (tC (.str tx)) tNil)))) (tOst K f (tVar 0) (tVar 1)) { nx := fun _ H' => Q .non H', rt := Q } [some (.ref a), some y] H :=
  ⟨.ref a, rfl, a, C, [.str tx], rfl, Nat.le_of_ble_eq_true rfl, hO, ha, y, rfl, .ref a, rfl, a, C, rfl, hO, hn, .inl ⟨ha, k⟩⟩
theorem ini2_go {K : PySem.W.Frag} {f g tx : Str} {a C : Addr} {y z : V} {H : Hp} {Q : VK} (hO : OexC K C) (hn : PySem.W.findIn K (.ref C) f = some none) (hg : PySem.W.findIn K (.ref C) g = some none) (ha : H a = some (exo a C none))
    (k : ∀ dx, H dx = none → dx ≠ a → Q .non (upd (upd (upd H dx (exd dx [(f, y)])) a (exo a C (some dx))) dx (exd dx [(g, z), (f, y)]))) :
    tSeq (tDrop (tVeI K (tCons (tVar 0) (tCons (tC (.str tx)) tNil)))) (tSeq (tOst K f (tVar 0) (tVar 1)) (tOst K g (tVar 0) (tVar 2))) { nx := fun _ H' => Q .non H', rt := Q } [some (.ref a), some y, some z] H :=
  ⟨.ref a, rfl, a, C, [.str tx], rfl, Nat.le_of_ble_eq_true rfl, hO, ha, y, rfl, .ref a, rfl, a, C, rfl, hO, hn, .inl ⟨ha, fun dx h1 h2 => ⟨z, rfl, .ref a, rfl, a, C, rfl, hO, hg, .inr ⟨dx, [(f, y)], upd_same, by rw [upd_ne h2]; exact upd_same, Nat.le_of_ble_eq_true rfl, k dx h1 h2⟩⟩⟩⟩
/-- a thing of a kind that is known; a text not too long -/
def Thg (H : Hp) (v : V) : Prop := Ty H v ∧ ∀ z, v = .str z → z.length ≤ 16777216
theorem Thg.ex {H H' : Hp} {v : V} (h : Thg H v) (e : Ex H H') : Thg H' v := ⟨h.1.ex e, h.2⟩
/-- an error of the class nm that holds these fields is let out -/
def RaF (K : PySem.W.Frag) (E : XK) (H : Hp) (nm : Str) (fs : List (Str × V)) : Prop := ∀ d H', H d = none → Ex H H' → H' d = some (.xd fs) → E (.ref (clsA K nm)) (some d) H'
abbrev RaR (K : PySem.W.Frag) (E : XK) (H : Hp) (nm f : Str) (v : V) : Prop := RaF K E H nm [(f, v)]
theorem RaF.ex {K : PySem.W.Frag} {E : XK} {H H1 : Hp} {nm : Str} {fs : List (Str × V)} (h : RaF K E H nm fs) (e : Ex H H1) : RaF K E H1 nm fs := fun d H' h1 h2 h3 => h d H' (Ex.free e h1) (e.trans h2) h3
section
variable {D : Ends} {σ : L2.St} {H : Hp} {Q : VK} {K : PySem.W.Frag}
theorem st_raise {C : Addr} {sp : Sp} {W : WX} {ta : TA} (h : ta σ H fun vs H1 => MkG C sp vs (fun cls d H' => W cls d σ H') H1) : tRaise C sp W ta D σ H := h
theorem st_try {Wout : WX} {tb : WX → TS} {u : TS} {l : List Cl} (h : tb (wG K Wout D l) { D with nx := u D } σ H) : tTry K Wout tb u l D σ H := h
theorem st_callS {sp : Sp} {W : WX} {t : TA} (h : t σ H fun vs H1 => sp vs H1 Q (WE W σ)) : tCallS sp (WE W) t σ H Q := h
theorem st_hYn {Wout : WX} {c : Value} {i : Nat} {ts : Addr → Value → Option Addr → TS} {r : List Cl} {cls : Value} {d : Option Addr} (e : PySem.W.exmOne K cls c = some true) (h : ∀ a, H a = none → ts a cls d { nx := fun σ' H' => D.nx (σ'.set i none) H', rt := D.rt, bk := fun σ' H' => D.bk (σ'.set i none) H', ct := fun σ' H' => D.ct (σ'.set i none) H' } (σ.set i (some (.ref a))) H) : wG K Wout D ((c, some i, ts) :: r) cls d σ H := ⟨true, e, fun _ => h, fun z => nomatch z⟩
theorem st_hY0 {Wout : WX} {c : Value} {ts : Addr → Value → Option Addr → TS} {r : List Cl} {cls : Value} {d : Option Addr} (e : PySem.W.exmOne K cls c = some true) (h : ∀ a, H a = none → ts a cls d D σ H) : wG K Wout D ((c, none, ts) :: r) cls d σ H := ⟨true, e, fun _ => h, fun z => nomatch z⟩
theorem st_hN {Wout : WX} {c : Value} {i : Option Nat} {ts : Addr → Value → Option Addr → TS} {r : List Cl} {cls : Value} {d : Option Addr} (e : PySem.W.exmOne K cls c = some false) (h : wG K Wout D r cls d σ H) : wG K Wout D ((c, i, ts) :: r) cls d σ H := ⟨false, e, (fun z => by cases z), fun _ => h⟩
theorem st_xe {a : Addr} {cls : Value} {d : Option Addr} {n : Str} {te : TE} (h : te σ H (XeP K a cls d n Q)) : tXe K a cls d n te σ H Q := h
theorem st_xeP {a C dd : Addr} {n : Str} {fs : List (Str × V)} {v : V} (T : XI K C) (hno : PySem.W.findIn K (.ref C) n = some none) (h1 : H dd = some (.xd fs)) (h2 : fs.lookup n = some v) (h : Q v H) : XeP K a (.ref C) (some dd) n Q (.ref a) H := ⟨rfl, C, rfl, T, hno, dd, fs, v, rfl, h1, h2, h⟩
theorem st_isX {a C C' dd : Addr} {fs : List (Str × V)} {b : Bool} (T : XI K C) (h1 : H dd = some (.xd fs)) (e : PySem.W.kitOne K (.ref C) (.ref C') = some b) (h : Q (.bl b) H) : rIsX K a (.ref C) (some dd) [.ref a, .ref C'] H Q := ⟨.ref C', .ref C', b, C, dd, fs, rfl, fun _ r => r, rfl, T, rfl, h1, e, h⟩
theorem st_isXT {a C dd : Addr} {fs : List (Str × V)} {n : String} {b : Bool} (T : XI K C) (h1 : H dd = some (.xd fs)) (e : PySem.W.kitOne K (.ref C) (.type n) = some b) (h : Q (.bl b) H) : rIsX K a (.ref C) (some dd) [.ref a, .ty n] H Q := ⟨.ty n, .type n, b, C, dd, fs, rfl, fun _ r => r, rfl, T, rfl, h1, e, h⟩
end
end Zb
namespace Zb
open PySem PySem.Spec PyProof.Rows L2
abbrev ixSt (lo hi : Option Int) (k : Int) (n : Nat) : List Nat := Builtin.Str.strSliceIndices lo hi k n
def pick {α : Type} (is : List Nat) (xs : List α) : List α := is.filterMap (xs[·]?)
theorem vals_pick {xs : List V} {its : List Value} (r : Vals xs its) : ∀ is : List Nat, Vals (pick is xs) (pick is its)
  | [] => .nil
  | i :: is => by
    have ih := vals_pick r is
    unfold pick at ih ⊢
    rw [List.filterMap_cons, List.filterMap_cons]
    cases e : xs[i]? with
    | some v =>
      obtain ⟨u, hu, ru⟩ := r.get e
      rw [hu]
      exact .cons ru ih
    | none =>
      have hl := r.length
      rw [List.getElem?_eq_none (by rw [List.getElem?_eq_none_iff] at e; omega)]
      exact ih
theorem pick_get {α : Type} {xs : List α} : ∀ {is : List Nat}, (∀ j ∈ is, j < xs.length) → ∀ i : Nat, (pick is xs)[i]? = is[i]?.bind (xs[·]?)
  | [], _, i => by simp [pick]
  | j :: is, h, i => by
    have hj := h j List.mem_cons_self
    have ih := pick_get (xs := xs) (is := is) fun k hk => h k (List.mem_cons_of_mem _ hk)
    unfold pick at ih ⊢
    rw [List.filterMap_cons, List.getElem?_eq_getElem hj]
    cases i with
    | zero => simp [hj]
    | succ i => simpa using ih i
theorem pick_rev {α : Type} (xs : List α) : pick (ixSt none none (-1) xs.length) xs = xs.reverse := by
  have e : ixSt none none (-1) xs.length = (List.range xs.length).map fun (i : Nat) => ((xs.length : Int) - 1 + (-1) * (i : Int)).toNat := by
    show sliceRange _ _ _ = _
    unfold sliceRange
    have h0 : ¬ ((-1 : Int) > 0) := by decide
    simp only [h0, if_false]
    by_cases h : xs.length = 0
    · rw [h]; rfl
    · have h1 : ((xs.length : Int) - 1) > -1 := by omega
      simp only [h1, if_true]
      have h2 : (((xs.length : Int) - 1 - -1 - -1 - 1) / - -1).toNat = xs.length := by rw [Int.neg_neg, Int.ediv_one]; omega
      rw [h2]
  apply List.ext_getElem?
  intro i
  rw [pick_get (fun j hj => by
    rw [e, List.mem_map] at hj
    obtain ⟨i, hi, rfl⟩ := hj
    rw [List.mem_range] at hi
    show ((xs.length : Int) - 1 + (-1) * (i : Int)).toNat < xs.length
    omega), e, List.getElem?_map]
  by_cases hi : i < xs.length
  · rw [List.getElem?_range hi, List.getElem?_reverse hi]
    show xs[((xs.length : Int) - 1 + (-1) * (i : Int)).toNat]? = _
    congr 1
    omega
  · rw [List.getElem?_eq_none (l := List.range _) (by rw [List.length_range]; omega), List.getElem?_eq_none (l := xs.reverse) (by rw [List.length_reverse]; omega)]
    rfl
/-- the items at 0, 2, .. ; at 1, 3, .. -/
def evL {α : Type} : List α → List α
  | [] => []
  | [a] => [a]
  | a :: _ :: r => a :: evL r
def odL {α : Type} : List α → List α
  | [] => []
  | [_] => []
  | _ :: b :: r => b :: odL r
theorem evL_get {α : Type} : ∀ (xs : List α) (i : Nat), (evL xs)[i]? = xs[2 * i]?
  | [], i => by simp [evL]
  | [a], i => by cases i <;> simp [evL]
  | a :: b :: r, i => by
    cases i with
    | zero => simp [evL]
    | succ i =>
      have ih := evL_get r i
      show (a :: evL r)[i + 1]? = (a :: b :: r)[2 * (i + 1)]?
      rw [List.getElem?_cons_succ, ih, show 2 * (i + 1) = 2 * i + 1 + 1 from rfl, List.getElem?_cons_succ, List.getElem?_cons_succ]
theorem odL_get {α : Type} : ∀ (xs : List α) (i : Nat), (odL xs)[i]? = xs[2 * i + 1]?
  | [], i => by simp [odL]
  | [a], i => by simp [odL]
  | a :: b :: r, i => by
    cases i with
    | zero => simp [odL]
    | succ i =>
      have ih := odL_get r i
      show (b :: odL r)[i + 1]? = (a :: b :: r)[2 * (i + 1) + 1]?
      rw [List.getElem?_cons_succ, ih, show 2 * (i + 1) + 1 = 2 * i + 1 + 1 + 1 from rfl, List.getElem?_cons_succ, List.getElem?_cons_succ]
theorem pick_ev {α : Type} (xs : List α) : pick (ixSt none none 2 xs.length) xs = evL xs := by
  have e : ixSt none none 2 xs.length = (List.range ((xs.length + 1) / 2)).map fun (i : Nat) => ((0 : Int) + 2 * (i : Int)).toNat := by
    show sliceRange _ _ _ = _
    unfold sliceRange
    have h0 : ((2 : Int) > 0) := by decide
    simp only [h0, if_true]
    by_cases h : xs.length = 0
    · rw [h]; rfl
    · have h1 : (0 : Int) < (xs.length : Int) := by omega
      simp only [h1, if_true]
      have h2 : (((xs.length : Int) - 0 + 2 - 1) / 2).toNat = (xs.length + 1) / 2 := by omega
      rw [h2]
  apply List.ext_getElem?
  intro i
  rw [pick_get (fun j hj => by
    rw [e, List.mem_map] at hj
    obtain ⟨i, hi, rfl⟩ := hj
    rw [List.mem_range] at hi
    show ((0 : Int) + 2 * (i : Int)).toNat < xs.length
    omega), e, List.getElem?_map, evL_get]
  by_cases hi : i < (xs.length + 1) / 2
  · rw [List.getElem?_range hi]
    show xs[((0 : Int) + 2 * (i : Int)).toNat]? = _
    congr 1
    omega
  · rw [List.getElem?_eq_none (l := List.range _) (by rw [List.length_range]; omega), List.getElem?_eq_none (l := xs) (by omega)]
    rfl
theorem pick_od {α : Type} (xs : List α) : pick (ixSt (some 1) none 2 xs.length) xs = odL xs := by
  have e : ixSt (some 1) none 2 xs.length = (List.range (xs.length / 2)).map fun (i : Nat) => ((1 : Int) + 2 * (i : Int)).toNat := by
    show sliceRange _ _ _ = _
    unfold sliceRange
    have h0 : ((2 : Int) > 0) := by decide
    have h9 : ¬ ((1 : Int) < 0) := by decide
    simp only [h0, h9, if_true, if_false]
    by_cases h : xs.length = 0
    · rw [h]; rfl
    · have h3 : (max 0 (min 1 (xs.length : Int))) = 1 := by omega
      rw [h3]
      by_cases h1 : (1 : Int) < (xs.length : Int)
      · simp only [h1, if_true]
        have h2 : (((xs.length : Int) - 1 + 2 - 1) / 2).toNat = xs.length / 2 := by omega
        rw [h2]
      · simp only [h1, if_false]
        have h2 : xs.length / 2 = 0 := by omega
        rw [h2]
        rfl
  apply List.ext_getElem?
  intro i
  rw [pick_get (fun j hj => by
    rw [e, List.mem_map] at hj
    obtain ⟨i, hi, rfl⟩ := hj
    rw [List.mem_range] at hi
    show ((1 : Int) + 2 * (i : Int)).toNat < xs.length
    omega), e, List.getElem?_map, odL_get]
  by_cases hi : i < xs.length / 2
  · rw [List.getElem?_range hi]
    show xs[((1 : Int) + 2 * (i : Int)).toNat]? = _
    congr 1
    omega
  · rw [List.getElem?_eq_none (l := List.range _) (by rw [List.length_range]; omega), List.getElem?_eq_none (l := xs) (by omega)]
    rfl
theorem pick_len {α : Type} (is : List Nat) (xs : List α) : (pick is xs).length ≤ is.length := List.length_filterMap_le _ _
theorem ixSt_len (lo hi : Option Int) (k : Int) (n : Nat) : (ixSt lo hi k n).length ≤ n := by
  have h := PySem.sliceRange_length_le (sliceBounds lo hi (some k) n).1 (sliceBounds lo hi (some k) n).2.1 (sliceBounds lo hi (some k) n).2.2 n (fun hc => ?_) (fun hc => ?_)
  · exact h
  · simp only [sliceBounds, Option.getD_some] at hc ⊢
    simp only [hc, if_true]
    constructor
    · cases lo with
      | none => simp
      | some i => dsimp only; omega
    · cases hi with
      | none => simp
      | some i => dsimp only; omega
  · simp only [sliceBounds, Option.getD_some] at hc ⊢
    simp only [hc, if_false]
    constructor
    · cases lo with
      | none => simp
      | some i => dsimp only; omega
    · cases hi with
      | none => simp
      | some i => dsimp only; omega
def rSt (K : PySem.W.Frag) : V → Option Int → Option Int → Int → Hp → VK → Prop := fun x lo hi k H Q => match x with
  | .str z => z.length ≤ 16777216 ∧ k ≠ 0 ∧ k ≠ 1 ∧ Q (.str (tx (pick (ixSt lo hi k z.length) z.cps.toList))) H
  | .ref p => ∃ xs, SqL K H p xs ∧ k ≠ 0 ∧ ∀ q, H q = none → Q (.ref q) (upd H q (.lst (pick (ixSt lo hi k xs.length) xs)))
  | _ => False
def tSt (r : V → Option Int → Option Int → Int → Hp → VK → Prop) (te : TE) (tl th : TO) (ts : TE) : TE := fun σ H Q => te σ H fun x H1 => tl σ H1 fun l H2 => th σ H2 fun u H3 => ts σ H3 fun s H4 => ∃ k, s = .int k ∧ r x l u k H4 Q
section
variable {X : Cx} {e st : Expr} {te ts : TE} {lo hi : Option Expr} {tl th : TO} {pos p2 : Pos} {K : PySem.W.Frag}
theorem pe_slice3 (he : PE X e te) (hl : PO X lo tl) (hu : PO X hi th) (hs : PE X st ts) (hK : X.K = K := by rfl) : PE X (.Subscript e (.Slice lo hi (some st) p2) pos) (tSt (rSt K) te tl th ts) := by
  subst hK
  refine ⟨fun pins s σ H Q I h => ?_⟩
  rw [eval_Subscript]
  refine wpAny_bind (thn (he.run pins s σ H _ I h) fun v s1 ⟨x, H1, I1, r1, q1⟩ => wpAny_bind (wpAny_holding (wpAny_Slice (thn (hl.run pins s1 σ H1 _ I1 q1) fun vl s2 ⟨l, H2, I2, pl, q2⟩ => thn (hu.run pins s2 σ H2 _ I2 q2) fun vu s3 ⟨u, H3, I3, pu, q3⟩ => ?_))))
  rw [evalPart_some]
  refine thn (hs.run pins s3 σ H3 _ I3 q3) fun vk s4 ⟨xk, H4, I4, rk, q4⟩ => ?_
  obtain ⟨k, ek, q⟩ := q4
  subst ek
  obtain ⟨tk, rfl⟩ := rk
  refine wpAny_bind (wpAny_standAt ?_)
  have I5 : Inv X pins σ H4 { s4 with heap := s4.heap.push { cls := .type "slice", data := .fields #[vl, vu, .int k tk] } } := I4.kept (t' := s4.toks) fun b ob q => Heap.get?_push_of_some _ q
  have go : ∀ {T id : String}, typeLookup (.type T) "__getitem__" = pure (some (.builtin id)) → ({ s4 with heap := s4.heap.push { cls := .type "slice", data := .fields #[vl, vu, .int k tk] } } : Shared).TypeIs v T → wpAny (model X.prog X.w) X.A (getItem v (.ref s4.heap.objs.size)) (EP X pins σ Q) X.xe { s4 with heap := s4.heap.push { cls := .type "slice", data := .fields #[vl, vu, .int k tk] } } →
      wpAny (model X.prog X.w) X.A (subscriptTail e (.Slice lo hi (some st) p2) v (.ref s4.heap.objs.size)) (EP X pins σ Q) X.xe { s4 with heap := s4.heap.push { cls := .type "slice", data := .fields #[vl, vu, .int k tk] } } := by
    intro T id hT ht hg
    exact tail_any (ops := [v, .ref s4.heap.objs.size]) ht hT hg (by with_unfolding_all rfl)
  have hsl : ({ s4 with heap := s4.heap.push { cls := .type "slice", data := .fields #[vl, vu, .int k tk] } } : Shared).heap.IsSliceOf s4.heap.objs.size vl vu (.int k tk) := Heap.IsSliceOf.new ..
  cases x with
  | str z =>
    obtain ⟨hz, hk0, hk1, q⟩ := q
    obtain ⟨tz, rfl⟩ := r1
    obtain ⟨l', rfl, rfl⟩ := IsPart.raw pl
    obtain ⟨u', rfl, rfl⟩ := IsPart.raw pu
    refine go F.slot_str_getitem.lookup (typeIs_str _ _ _) ?_
    refine wpAny_getItem_str_slice (l := l') (u := u') (st := some (k, tk)) hsl (by simpa using hk0) ?_
    have c : ¬ ((k == 1 && (ixSt (l'.map (·.1)) (u'.map (·.1)) k z.length).length == z.length) = true) := by
      intro z
      rw [Bool.and_eq_true] at z
      exact hk1 (by simpa using z.1)
    show Made.post (if (k == 1 && (ixSt (l'.map (·.1)) (u'.map (·.1)) k z.length).length == z.length) = true then Made.val (.str z tz)
      else Made.str ⟨((ixSt (l'.map (·.1)) (u'.map (·.1)) k z.length).filterMap (z.cps[·]?)).toArray⟩) (EP X pins σ Q) _
    rw [if_neg c]
    have e1 : (ixSt (l'.map (·.1)) (u'.map (·.1)) k z.length).filterMap (z.cps[·]?) = pick (ixSt (l'.map (·.1)) (u'.map (·.1)) k z.length) z.cps.toList := by
      unfold pick
      congr 1
      funext j
      rw [Array.getElem?_toList]
    rw [e1]
    refine ⟨?_, .str _, H4, I5.tok _, ⟨_, rfl⟩, q⟩
    show (tx (pick _ _)).length ≤ sizeLine
    rw [tx_length, sl16]
    exact Nat.le_trans (pick_len _ _) (Nat.le_trans (ixSt_len _ _ _ _) hz)
  | ref p =>
    obtain ⟨xs, hx, hk0, q⟩ := q
    obtain rfl : v = Value.ref p := r1
    obtain ⟨its, r, ht, hz⟩ := I5.list hx
    have hlen := r.length
    refine go slot_list_getitem.lookup ht.isList.typeIs ?_
    refine wpAny_getItem_list_slice ht.isList hsl pl pu (.int k tk) (by simpa using hk0) ?_ (by rw [List.size_toArray] <;> omega)
    have e1 : slicePick its.toArray l u (some k) = (pick (ixSt l u k xs.length) its).toArray := by
      unfold slicePick pick
      congr 1
      rw [hlen]
      show (ixSt l u k its.toArray.size).filterMap _ = _
      rw [List.size_toArray]
      congr 1
      funext j
      rw [List.getElem?_toArray]
    rw [e1]
    refine ⟨.ref _, _, I5.laid (t' := s4.toks) (o := .lst (pick (ixSt l u k xs.length) xs)) (fun b ob q => Heap.get?_push_of_some _ q) (Nat.le_refl _) ?_, rfl, q _ (I5.hok.fresh (Nat.le_refl _))⟩
    exact ⟨Nat.le_trans (pick_len _ _) (Nat.le_trans (ixSt_len _ _ _ _) hz), _, 0, vals_pick r _, Heap.get?_push_size _ rfl⟩
  | _ => exact q.elim
end
section
variable {K : PySem.W.Frag} {H : Hp} {σ : L2.St} {Q : VK}
theorem st_st3 {r : V → Option Int → Option Int → Int → Hp → VK → Prop} {te ts : TE} {tl th : TO} (h : te σ H fun x H1 => tl σ H1 fun l H2 => th σ H2 fun u H3 => ts σ H3 fun s H4 => ∃ k, s = .int k ∧ r x l u k H4 Q) : tSt r te tl th ts σ H Q := h
theorem st_revS {z : Str} (hz : z.length ≤ 16777216) (h : Q (.str (tx z.cps.toList.reverse)) H) : rSt K (.str z) none none (-1) H Q := ⟨hz, by decide, by decide, by
  have e : z.length = z.cps.toList.length := Array.length_toList.symm
  rw [e, pick_rev]; exact h⟩
theorem st_evS {z : Str} (hz : z.length ≤ 16777216) (h : Q (.str (tx (evL z.cps.toList))) H) : rSt K (.str z) none none 2 H Q := ⟨hz, by decide, by decide, by
  have e : z.length = z.cps.toList.length := Array.length_toList.symm
  rw [e, pick_ev]; exact h⟩
theorem st_odS {z : Str} (hz : z.length ≤ 16777216) (h : Q (.str (tx (odL z.cps.toList))) H) : rSt K (.str z) (some 1) none 2 H Q := ⟨hz, by decide, by decide, by
  have e : z.length = z.cps.toList.length := Array.length_toList.symm
  rw [e, pick_od]; exact h⟩
theorem st_revL {p : Addr} {xs : List V} (hx : SqL K H p xs) (h : ∀ q H', H q = none → Ex H H' → H' q = some (.lst xs.reverse) → Q (.ref q) H') : rSt K (.ref p) none none (-1) H Q := ⟨xs, hx, by decide, fun q hq => by
  rw [pick_rev]; exact h q _ hq (Fr.new hq) upd_same⟩
theorem st_evL {p : Addr} {xs : List V} (hx : SqL K H p xs) (h : ∀ q H', H q = none → Ex H H' → H' q = some (.lst (evL xs)) → Q (.ref q) H') : rSt K (.ref p) none none 2 H Q := ⟨xs, hx, by decide, fun q hq => by
  rw [pick_ev]; exact h q _ hq (Fr.new hq) upd_same⟩
theorem st_odL {p : Addr} {xs : List V} (hx : SqL K H p xs) (h : ∀ q H', H q = none → Ex H H' → H' q = some (.lst (odL xs)) → Q (.ref q) H') : rSt K (.ref p) (some 1) none 2 H Q := ⟨xs, hx, by decide, fun q hq => by
  rw [pick_od]; exact h q _ hq (Fr.new hq) upd_same⟩
end
end Zb
namespace Zb
open PySem PySem.Spec PyProof.Rows L2 PySem.SeqAt
inductive PEq (H : Hp) : V → V → Bool → Prop
  | same (a : Addr) : PEq H (.ref a) (.ref a) true
  | dat {x y : V} {d e : PyData} : Rp H x d → Rp H y e → min d.depth e.depth ≤ 60 → PEq H x y (PyData.eqv d e)
inductive PEqs (H : Hp) : List V → List V → List Bool → Prop
  | nil : PEqs H [] [] []
  | cons {x y : V} {b : Bool} {xs ys : List V} {bs : List Bool} : PEq H x y b → PEqs H xs ys bs → PEqs H (x :: xs) (y :: ys) (b :: bs)
theorem PEqs.len {H : Hp} : ∀ {xs ys : List V} {bs : List Bool}, PEqs H xs ys bs → ys.length = xs.length ∧ bs.length = xs.length
  | _, _, _, .nil => ⟨rfl, rfl⟩
  | _, _, _, .cons _ r => ⟨congrArg (· + 1) r.len.1, congrArg (· + 1) r.len.2⟩
theorem PEqs.at {H : Hp} : ∀ {xs ys : List V} {bs : List Bool}, PEqs H xs ys bs → ∀ j (x y : V), xs[j]? = some x → ys[j]? = some y → PEq H x y (bs.getD j true)
  | _, _, _, .nil, j, x, y, h, _ => by simp at h
  | _, _, _, .cons a r, 0, x, y, h, k => by
    have e1 : _ = x := Option.some.inj h
    have e2 : _ = y := Option.some.inj k
    rw [← e1, ← e2]
    exact a
  | _, _, _, .cons a r, j + 1, x, y, h, k => by
    have h : _ = some x := h
    have := r.at j x y (by simpa using h) (by simpa using k)
    simpa using this
theorem all_getD : ∀ bs : List Bool, (List.range bs.length).all (fun j => bs.getD j true) = bs.all id
  | [] => rfl
  | b :: bs => by
    have ih := all_getD bs
    rw [List.length_cons, List.range_succ_eq_map, List.all_cons, List.all_map, List.all_cons]
    rw [← ih]
    rfl
def rEqL : R2 := fun x y H Q => ∃ (p q : Addr) (xs ys : List V) (bs : List Bool), x = .ref p ∧ y = .ref q ∧ lstAt H p = some xs ∧ lstAt H q = some ys ∧ PEqs H xs ys bs ∧ Q (.bl (bs.all id)) H
theorem o_eqL {X : Cx} (hu : X.A.units + 64 < cLine) : OpR X (compareOp .Eq) rEqL := by
  intro pins s σ H x y v u Q I rx ry h
  obtain ⟨p, q, xs, ys, bs, rfl, rfl, hx, hy, hE, k⟩ := h
  obtain rfl : v = Value.ref p := rx
  obtain rfl : u = Value.ref q := ry
  obtain ⟨its, r1, t1, z1⟩ := I.list (lstAt_sq hx)
  obtain ⟨its2, r2, t2, z2⟩ := I.list (lstAt_sq hy)
  have l1 := r1.length
  have l2 := r2.length
  obtain ⟨m1, m2⟩ := hE.len
  have key : RcAt X.A s (.ref p) (.ref q) ((List.range its.toArray.size).all fun j => bs.getD j true) := by
    refine RcAt.lists t1.isList t2.isList (by rw [List.size_toArray, List.size_toArray]; omega) (by omega) fun j h1 h2 => ?_
    rw [List.size_toArray] at h1 h2
    have hj : j < xs.length := by omega
    have hj2 : j < ys.length := by omega
    have e1 := List.getElem?_eq_getElem hj
    have e2 := List.getElem?_eq_getElem hj2
    obtain ⟨u1, g1, ru1⟩ := r1.get e1
    obtain ⟨u2, g2, ru2⟩ := r2.get e2
    have f1 : its.toArray[j]'(by rw [List.size_toArray]; exact h1) = u1 := by
      rw [List.getElem?_eq_getElem h1] at g1
      simpa using g1
    have f2 : its2.toArray[j]'(by rw [List.size_toArray]; exact h2) = u2 := by
      rw [List.getElem?_eq_getElem h2] at g2
      simpa using g2
    rw [f1, f2]
    have hp := hE.at j _ _ e1 e2
    generalize xs[j] = x at ru1 hp
    generalize ys[j] = y at ru2 hp
    generalize bs.getD j true = b at hp
    cases hp with
    | same a =>
      obtain rfl : u1 = Value.ref a := ru1
      obtain rfl : u2 = Value.ref a := ru2
      exact EqAt.same _
    | dat h1 h2 h3 =>
      obtain ⟨as, d1⟩ := Dp.reads I _ x u1 h1.dp ru1
      obtain ⟨bs', d2⟩ := Dp.reads I _ y u2 h2.dp ru2
      refine SeqAt.eqAt_plain _ _ X.A.in1 s u1 u2 _ _ d1 d2 h1.plain h2.plain ?_
      show X.A.units + 1 + _ < _
      omega
  refine key _ _ _ _ ⟨.bl _, H, I, rfl, ?_⟩
  have e : (List.range its.toArray.size).all (fun j => bs.getD j true) = bs.all id := by
    rw [List.size_toArray, show its.length = bs.length by omega]
    exact all_getD bs
  rw [e]
  exact k
section
variable {X : Cx} {H : Hp} {Q : VK} {σ : L2.St}
def rIsN : R2 := fun x y H Q => y = .non ∧ Q (.bl (decide (x = .non))) H
def rNotN : R2 := fun x y H Q => y = .non ∧ Q (.bl (!decide (x = .non))) H
theorem o_notN : OpR X (compareOp .IsNot) Zb.rNotN := op_notN
theorem st_isN {x : V} (h : Q (.bl (decide (x = .non))) H) : Zb.rIsN x .non H Q := ⟨rfl, h⟩
theorem st_notN {x : V} (h : Q (.bl (!decide (x = .non))) H) : Zb.rNotN x .non H Q := ⟨rfl, h⟩
def rInt1 : List V → Hp → VK → Prop := fun vs H Q => match vs with
  | [.int i] => Q (.int i) H
  | [.bl k] => Q (.int (if k then 1 else 0)) H
  | _ => False
theorem c_int : CallR X (.type "int") rInt1 := by
  intro pins s σ H xs us Q I r h
  unfold rInt1 at h
  split at h
  · exact call_int1 pins s σ H _ us Q I r (.inl ⟨_, rfl, h⟩)
  · exact call_int1 pins s σ H _ us Q I r (.inr ⟨_, rfl, h⟩)
  · exact h.elim
theorem st_intI {i : Int} (h : Q (.int i) H) : rInt1 [.int i] H Q := h
theorem st_intB {k : Bool} (h : Q (.int (if k then 1 else 0)) H) : rInt1 [.bl k] H Q := h
theorem st_iR3 {ta : TA} {R : It → Hp → Prop} (h : ta σ H (fun vs H1 => ∃ (i j c : Int) (n : Nat), vs = [.int i, .int j, .int c] ∧ RgC i j c n ∧ R (Itc i c n) H1)) : iRng3 ta σ H R := h
end
end Zb
namespace Zb
open PySem PySem.Spec PyProof.Rows L2
/-- at these addresses these objects -/
inductive ObjsAt (H : Hp) : List Addr → List HO → Prop
  | nil : ObjsAt H [] []
  | cons {a : Addr} {o : HO} {ts : List Addr} {os : List HO} : H a = some o → ObjsAt H ts os → ObjsAt H (a :: ts) (o :: os)
section
variable {H H' : Hp}
theorem ObjsAt.len : ∀ {ts : List Addr} {os : List HO}, ObjsAt H ts os → ts.length = os.length
  | _, _, .nil => rfl
  | _, _, .cons _ r => congrArg (· + 1) r.len
theorem ObjsAt.ex (e : Ex H H') : ∀ {ts : List Addr} {os : List HO}, ObjsAt H ts os → ObjsAt H' ts os
  | _, _, .nil => .nil
  | _, _, .cons h r => .cons (e.get h) (r.ex e)
theorem ObjsAt.fr {M : Addr → Prop} (e : Fr M H H') : ∀ {ts : List Addr} {os : List HO}, (∀ a ∈ ts, ¬ M a) → ObjsAt H ts os → ObjsAt H' ts os
  | _, _, _, .nil => .nil
  | _, _, hm, .cons h r => .cons (e _ _ (hm _ List.mem_cons_self) h) (r.fr e fun a ha => hm a (List.mem_cons_of_mem _ ha))
theorem ObjsAt.up {D : Addr} {u : HO} : ∀ {ts : List Addr} {os : List HO}, D ∉ ts → ObjsAt H ts os → ObjsAt (upd H D u) ts os
  | _, _, _, .nil => .nil
  | _, _, hn, .cons h r => .cons (by rw [upd_ne (fun z => hn (by rw [← z]; exact List.mem_cons_self))]; exact h) (r.up fun z => hn (List.mem_cons_of_mem _ z))
theorem ObjsAt.app : ∀ {ts us : List Addr} {os ps : List HO}, ObjsAt H ts os → ObjsAt H us ps → ObjsAt H (ts ++ us) (os ++ ps)
  | _, _, _, _, .nil, k => k
  | _, _, _, _, .cons h r, k => .cons h (r.app k)
theorem ObjsAt.one {a : Addr} {o : HO} (h : H a = some o) : ObjsAt H [a] [o] := .cons h .nil
theorem ObjsAt.at : ∀ {ts : List Addr} {os : List HO}, ObjsAt H ts os → ∀ (k : Nat) a o, ts[k]? = some a → os[k]? = some o → H a = some o
  | _, _, .nil, k, a, o, h, _ => by simp at h
  | _, _, .cons h r, 0, a, o, h1, h2 => by
    have e1 : _ = a := Option.some.inj h1
    have e2 : _ = o := Option.some.inj h2
    rw [← e1, ← e2]; exact h
  | _, _, .cons h r, k + 1, a, o, h1, h2 => r.at k a o (by simpa using h1) (by simpa using h2)
theorem ObjsAt.of : ∀ {ts : List Addr} {os : List HO}, ts.length = os.length → (∀ (k : Nat) a o, ts[k]? = some a → os[k]? = some o → H a = some o) → ObjsAt H ts os
  | [], [], _, _ => .nil
  | [], _ :: _, h, _ => by simp at h
  | _ :: _, [], h, _ => by simp at h
  | a :: ts, o :: os, h, k => .cons (k 0 a o rfl rfl) (ObjsAt.of (by simpa using h) fun j x y h1 h2 => k (j + 1) x y (by simpa using h1) (by simpa using h2))
/-- one of them changes -/
theorem ObjsAt.set {a : Addr} {u : HO} {ts : List Addr} {os : List HO} {k : Nat} (h : ObjsAt H ts os) (nd : ts.Nodup) (hk : ts[k]? = some a) : ObjsAt (upd H a u) ts (os.set k u) := by
  refine .of (by rw [List.length_set, h.len]) fun j b o h1 h2 => ?_
  by_cases e : j = k
  · subst e
    rw [hk] at h1
    cases h1
    have hl : j < os.length := by
      rw [← h.len]
      exact (List.getElem?_eq_some_iff.mp hk).1
    rw [List.getElem?_set_self hl] at h2
    cases h2
    exact upd_same
  · rw [List.getElem?_set_ne (Ne.symm e)] at h2
    rw [upd_ne (fun z : b = a => e (nd_ix nd h1 (by rw [z]; exact hk)))]
    exact h.at j b o h1 h2
end
section
variable {J : It} {S : Hp → Prop} {g : TG} {σ : L2.St} {H1 : Hp}
theorem lc_objs {α : Type} {ys : List α} {val : α → V} {tt : TT} {te : TE} {vs : List Nat} {Q : VK} (hR : RunsV J ys val S) (hS : ∀ H', Ex H1 H' → S H') (hz : ys.length < 1000000) (p : α → Bool) (o : α → HO)
    (hs : ∀ y H', y ∈ ys → Ex H1 H' → ∀ (B : V → Hp → Prop) (A : Hp → Prop), (p y = true → ∀ a H'', H' a = none → Ex H' H'' → H'' a = some (o y) → B (.ref a) H'') → (p y = false → ∀ H'', Ex H' H'' → A H'') → g (val y) (wipe σ vs) H' fun σ2 H2 => wipe σ2 vs = wipe σ vs ∧ tt σ2 H2 fun b H3 => if b = true then te σ2 H3 B else A H3)
    (hd : ∀ D H' ts, H1 D = none → Ex H1 H' → H' D = some (.lst (ts.map V.ref)) → ObjsAt H' ts ((ys.filter p).map o) → ts.Nodup → D ∉ ts → (∀ a ∈ ts, H1 a = none) → Q (.ref D) H') : LcGoal J g tt te vs σ Q H1 := by
  intro D hD
  obtain ⟨W, hW⟩ : ∃ W : Nat → Hp → Prop, W = fun i H => ∃ ts : List Addr, H D = some (.lst (ts.map V.ref)) ∧ Ex H1 H ∧ ObjsAt H ts (((ys.take i).filter p).map o) ∧ ts.Nodup ∧ D ∉ ts ∧ ∀ a ∈ ts, H1 a = none := ⟨_, rfl⟩
  have hWi : ∀ i H, W i H ↔ ∃ ts : List Addr, H D = some (.lst (ts.map V.ref)) ∧ Ex H1 H ∧ ObjsAt H ts (((ys.take i).filter p).map o) ∧ ts.Nodup ∧ D ∉ ts ∧ ∀ a ∈ ts, H1 a = none := fun i H => by rw [hW]
  refine ⟨fun i m H => m = ys.length - i ∧ i ≤ ys.length ∧ W i H, ⟨ys.length, by simp, Nat.zero_le _, (hWi _ _).mpr ⟨[], upd_same, Fr.new hD, by rw [List.take_zero]; exact .nil, List.nodup_nil, by simp, by simp⟩⟩, ?_⟩
  rintro i m H ⟨rfl, hi, hw⟩
  obtain ⟨ts, h1, h2, h3, h4, h5, h6⟩ := (hWi _ _).mp hw
  by_cases hlt : i < ys.length
  · refine .inr ⟨hR.go i H hlt (hS H h2), W (i + 1), fun H' p' => ⟨ys.length - (i + 1), by omega, rfl, hlt, p'⟩, fun x H' y => ?_⟩
    obtain ⟨rfl, y0, hy, rfl⟩ := hR.yld i H x H' hlt (hS H h2) y
    have ht : ys.take (i + 1) = ys.take i ++ [y0] := by rw [List.take_add_one, hy]; rfl
    refine hs y0 H' (List.mem_of_getElem? hy) h2 (fun v H4 => ∃ acc, H4 D = some (.lst acc) ∧ acc.length < sizeLine ∧ W (i + 1) (upd H4 D (.lst (acc ++ [v])))) (W (i + 1)) ?_ ?_
    · intro hp a H4 ha e hv
      have hDa : a ≠ D := fun z => by rw [z, h1] at ha; cases ha
      have haN : a ∉ ts := fun z => by
        obtain ⟨k, hk⟩ := List.getElem?_of_mem z
        have hk2 : k < (((ys.take i).filter p).map o).length := by
          rw [← h3.len]; exact (List.getElem?_eq_some_iff.mp hk).1
        have := h3.at k a _ hk (List.getElem?_eq_getElem hk2)
        rw [this] at ha
        cases ha
      have hlen : ts.length < 1000000 := by
        rw [h3.len, List.length_map]
        have := List.length_filter_le p (ys.take i)
        rw [List.length_take] at this
        omega
      refine ⟨ts.map V.ref, e.get h1, by rw [List.length_map, sl16]; omega, (hWi _ _).mpr ⟨ts ++ [a], by rw [upd_same, List.map_append]; rfl, (h2.trans e).mut hD, ?_, ?_, ?_, ?_⟩⟩
      · rw [ht, List.filter_append, List.map_append, List.filter_cons_of_pos hp, List.filter_nil]
        refine .up ?_ ((h3.ex e).app (.one hv))
        rw [List.mem_append, List.mem_singleton]
        rintro (z | z)
        · exact h5 z
        · exact hDa z.symm
      · rw [List.nodup_append]
        exact ⟨h4, by simp, fun b hb c hc => by rw [List.mem_singleton.mp hc]; exact fun z => haN (z ▸ hb)⟩
      · rw [List.mem_append, List.mem_singleton]
        rintro (z | z)
        · exact h5 z
        · exact hDa z.symm
      · intro b hb
        rcases List.mem_append.mp hb with h | h
        · exact h6 b h
        · rw [List.mem_singleton.mp h]; exact Ex.free h2 ha
    · intro hp H4 e
      refine (hWi _ _).mpr ⟨ts, e.get h1, h2.trans e, ?_, h4, h5, h6⟩
      rw [ht, List.filter_append, List.filter_cons_of_neg (by rw [hp]; decide), List.filter_nil, List.append_nil]
      exact h3.ex e
  · have e : i = ys.length := by omega
    subst e
    rw [List.take_length] at h3
    exact .inl ⟨hR.stop H (hS H h2), hd D H ts hD h2 h1 h3 h4 h5 h6⟩
/-- no test -/
theorem lc_objs0 {α : Type} {ys : List α} {val : α → V} {te : TE} {vs : List Nat} {Q : VK} (hR : RunsV J ys val S) (hS : ∀ H', Ex H1 H' → S H') (hz : ys.length < 1000000) (o : α → HO)
    (hs : ∀ y H', y ∈ ys → Ex H1 H' → ∀ (B : V → Hp → Prop), (∀ a H'', H' a = none → Ex H' H'' → H'' a = some (o y) → B (.ref a) H'') → g (val y) (wipe σ vs) H' fun σ2 H2 => wipe σ2 vs = wipe σ vs ∧ te σ2 H2 B)
    (hd : ∀ D H' ts, H1 D = none → Ex H1 H' → H' D = some (.lst (ts.map V.ref)) → ObjsAt H' ts (ys.map o) → ts.Nodup → D ∉ ts → (∀ a ∈ ts, H1 a = none) → Q (.ref D) H')
    (hg : ∀ v σ H (P P' : L2.St → Hp → Prop), (∀ σ H, P σ H → P' σ H) → g v σ H P → g v σ H P' := by intro _ _ _ _ _ k h; exact k _ _ h) : LcGoal J g tYes te vs σ Q H1 := by
  refine lc_objs hR hS hz (fun _ => true) o (fun y H' hy e B A h1 h2 => ?_) (fun D H' ts hD e h h3 h4 h5 h6 => hd D H' ts hD e h ?_ h4 h5 h6)
  · exact hg _ _ _ _ _ (fun σ2 H2 h => ⟨h.1, h.2⟩) (hs y H' hy e B (h1 rfl))
  · rwa [List.filter_eq_self.mpr (fun _ _ => rfl)] at h3
end
section
variable {H : Hp} {Q : VK} {σ : L2.St}
theorem st_ext {l b : Addr} {xs zs : List V} (h1 : H l = some (.lst xs)) (h2 : H b = some (.lst zs)) (hz : xs.length + zs.length ≤ 16777216) (h : Q .non (upd H l (.lst (xs ++ zs)))) : rExtend (.ref l) [.ref b] H Q := ⟨l, b, xs, zs, rfl, rfl, h1, h2, by rw [sl16]; exact hz, h⟩
def DGet2P (a : Addr) (y z : V) (Q : VK) (H : Hp) : Prop := ∃ o, DGet H a y o ∧ Q (o.getD z) H
theorem st_dget2 {td ty tx : TE} (h : td σ H fun x H1 => ∃ a, x = .ref a ∧ IsD H1 a ∧ ty σ H1 fun y H2 => tx σ H2 fun z H3 => DGet2P a y z Q H3) : tDGet2 td ty tx σ H Q := h
theorem st_isD {a : Addr} {kvs : List (Key × V)} {P : Addr → Prop} (h1 : H a = some (.dK kvs)) (h : P a) : ∃ b, V.ref a = .ref b ∧ IsD H b ∧ P b := ⟨a, rfl, .inl ⟨kvs, .inl h1⟩, h⟩
theorem st_dget2P {a : Addr} {k : Key} {z : V} {kvs : List (Key × V)} (h1 : H a = some (.dK kvs)) (h : Q ((valV kvs k).getD z) H) : DGet2P a (kV k) z Q H := ⟨_, .inl ⟨kvs, k, .inl h1, rfl, rfl⟩, h⟩
def DSetP (a : Addr) (y z : V) (Q : VK) (H3 : Hp) : Prop := ∃ (kvs : List (Key × V)) (k : Key), H3 a = some (.dK kvs) ∧ y = kV k ∧ kvs.length < sizeLine ∧ (∀ v, valV kvs k = some v → Q v H3) ∧ (valV kvs k = none → Q z (upd H3 a (.dK (putK kvs k z))))
theorem st_dsetd {td ty tx : TE} (h : td σ H fun x H1 => ∃ a, x = .ref a ∧ IsD H1 a ∧ ty σ H1 fun y H2 => tx σ H2 fun z H3 => DSetP a y z Q H3) : tDSetd td ty tx σ H Q := h
theorem st_dsetP {a : Addr} {z : V} {kvs : List (Key × V)} (k : Key) (h1 : H a = some (.dK kvs)) (hl : kvs.length < 16777216) (h2 : ∀ v, valV kvs k = some v → Q v H) (h3 : valV kvs k = none → Q z (upd H a (.dK (putK kvs k z)))) : DSetP a (kV k) z Q H := ⟨kvs, k, h1, rfl, by rw [sl16]; exact hl, h2, h3⟩
/-- {} -/
def DNew (Q : VK) (H : Hp) : Prop := ∀ p H', H p = none → Ex H H' → H' p = some (.dK []) → Q (.ref p) H'
theorem st_dnew (h : DNew Q H) : tDNewK σ H Q := fun p hp => h p _ hp (Fr.new hp) upd_same
theorem st_dnewP (h : ∀ p H', H p = none → Ex H H' → H' p = some (.dK []) → Q (.ref p) H') : DNew Q H := h
end
theorem at_nat {α : Type} {xs : List α} {i : Nat} {a : α} (h : xs[i]? = some a) : atI xs (i : Int) = some a := by
  unfold atI
  rw [Evl.ixN_nat (List.getElem?_eq_some_iff.mp h).1]
  exact h
theorem at_mapN {α β : Type} {f : α → β} {xs : List α} {i : Nat} {a : α} (h : xs[i]? = some a) : atI (xs.map f) (i : Int) = some (f a) := at_nat (by rw [List.getElem?_map, h]; rfl)
theorem snoc_ind {α : Type} {P : List α → Prop} (h0 : P []) (hs : ∀ l a, P l → P (l ++ [a])) (l : List α) : P l := by
  have h : ∀ r : List α, P r.reverse := by
    intro r
    induction r with
    | nil => exact h0
    | cons a r ih => rw [List.reverse_cons]; exact hs _ _ ih
  have := h l.reverse
  rwa [List.reverse_reverse] at this
theorem nodup_map {α β : Type} {f : α → β} {l : List α} (nd : l.Nodup) (h : ∀ a b, f a = f b → a = b) : (l.map f).Nodup := List.pairwise_map.mpr (List.Pairwise.imp (fun n e => n (h _ _ e)) nd)
theorem valV_none {kvs : List (Key × V)} {k : Key} : valV kvs k = none ↔ ∀ q ∈ kvs, q.1 ≠ k := by
  unfold valV
  rw [Option.map_eq_none_iff, List.find?_eq_none]
  simp
theorem putK_new {kvs : List (Key × V)} {k : Key} {v : V} (h : valV kvs k = none) : putK kvs k v = kvs ++ [(k, v)] := by
  unfold putK
  rw [if_neg]
  rw [List.any_eq_true]
  rintro ⟨q, hq, e⟩
  exact valV_none.mp h q hq (by simpa using e)
theorem valV_at {kvs : List (Key × V)} {k : Key} {v : V} {i : Nat} (nd : (kvs.map (·.1)).Nodup) (h : kvs[i]? = some (k, v)) : valV kvs k = some v := by
  induction kvs generalizing i with
  | nil => simp at h
  | cons a r ih =>
    rw [List.map_cons, List.nodup_cons] at nd
    cases i with
    | zero =>
      have e : a = (k, v) := by simpa using h
      subst e
      unfold valV
      simp
    | succ i =>
      have h' : r[i]? = some (k, v) := by simpa using h
      have hm : k ∈ r.map (·.1) := List.mem_map.mpr ⟨(k, v), List.mem_of_getElem? h', rfl⟩
      have ne : a.1 ≠ k := fun z => nd.1 (z ▸ hm)
      have := ih nd.2 h'
      unfold valV at this ⊢
      rw [List.find?_cons_of_neg (by simpa using ne)]
      exact this
end Zb
namespace Zb
open PySem PySem.Spec PyProof.Rows L2
theorem Ex.trans {H H1 H2 : Hp} (a : Ex H H1) (b : Ex H1 H2) : Ex H H2 := Fr.trans a b
section
variable {X : Cx} {H : Hp} {Q : VK} {σ : L2.St} {K : PySem.W.Frag}
def rIsB : R2 := fun x y H Q => ∃ a b, x = .bl a ∧ y = .bl b ∧ Q (.bl (decide (a = b))) H
def rNotB : R2 := fun x y H Q => ∃ a b, x = .bl a ∧ y = .bl b ∧ Q (.bl (!decide (a = b))) H
theorem o_isB : OpR X (compareOp .Is) rIsB := op_is_bl
theorem c_sortP (hK : X.K = K := by rfl) : CallR X (.builtin "sorted") (rSortedPO K) := by subst hK; exact cr_sortedPO
theorem st_isB2 {a b : Bool} (h : Q (.bl (decide (a = b))) H) : rIsB (.bl a) (.bl b) H Q := ⟨a, b, rfl, rfl, h⟩
theorem st_notB2 {a b : Bool} (h : Q (.bl (!decide (a = b))) H) : rNotB (.bl a) (.bl b) H Q := ⟨a, b, rfl, rfl, h⟩
theorem st_chain {r r' : R2} {ta tb tc : TE} (h : ta σ H fun x H1 => tb σ H1 fun y H2 => r x y H2 fun z H3 => ∃ k, z = .bl k ∧ (if k = true then tc σ H3 fun w' H4 => r' y w' H4 Q else Q (.bl false) H3)) : tChain r r' ta tb tc σ H Q := h
def isIntV : V → Bool
  | .int _ => true
  | .bl _ => true
  | _ => false
theorem kb_int : kitB "NoneType" "int" = some false ∧ kitB "bool" "int" = some true ∧ kitB "int" "int" = some true ∧ kitB "str" "int" = some false ∧ kitB "list" "int" = some false ∧ kitB "tuple" "int" = some false ∧ kitB "dict" "int" = some false := by decide +kernel
theorem st_isIntT {x : V} (h1 : Ty H x) (h : Q (.bl (isIntV x)) H) : rIs [x, .ty "int"] H Q := by
  obtain ⟨t, h1⟩ := h1
  obtain ⟨k1, k2, k3, k4, k5, k6, k7⟩ := kb_int
  refine st_is h1 (b := isIntV x) ?_ h
  cases x with
  | ref p =>
    have h1 : tyO (H p) = some t := h1
    unfold tyO at h1
    split at h1 <;> first | (cases h1; assumption) | cases h1
  | _ => first | (cases h1; assumption) | cases h1
/-- a value as a test -/
def tTru (K : PySem.W.Frag) (ta : TE) : TT := fun σ H B => ta σ H fun x H' => ∃ k, TruV K x H' k ∧ B k H'
theorem pt_tru {a : Expr} {ta : TE} (ha : PE X a ta) (he : ∀ whole, isTrue a X.env whole = (do let v ← whole; standAt a.pos; holding [v] (truthy v))) (hK : X.K = K := by rfl) : PT X a (tTru K ta) := by subst hK; exact pt_truth ha he
theorem st_tru {ta : TE} {B : Bool → Hp → Prop} (h : ta σ H fun x H' => ∃ k, TruV K x H' k ∧ B k H') : tTru K ta σ H B := h
theorem st_truB {b : Bool} {P : Bool → Prop} (h : P b) : ∃ k, TruV K (.bl b) H k ∧ P k := ⟨b, rfl, h⟩
theorem st_truI {i : Int} {P : Bool → Prop} (h : P (i != 0)) : ∃ k, TruV K (.int i) H k ∧ P k := ⟨_, rfl, h⟩
def WhPost (W : Nat → L2.St → Hp → Prop) (m : Nat) (tb : TS) (D : Ends) (σ : L2.St) : Bool → Hp → Prop := fun b H1 => if b = true then ∃ N : L2.St → Hp → Prop, (∀ σ' H', N σ' H' → ∃ m', m' < m ∧ W m' σ' H') ∧ tb { D with nx := N, ct := N, bk := D.nx } σ H1 else D.nx σ H1
def WhGoal (c : TT) (tb : TS) (D : Ends) (σ : L2.St) (H : Hp) : Prop := ∃ W : Nat → L2.St → Hp → Prop, (∃ m, W m σ H) ∧ ∀ m σ H, W m σ H → c σ H (WhPost W m tb D σ)
theorem st_while {c : TT} {tb : TS} {D : Ends} (h : WhGoal c tb D σ H) : tWhile c tb D σ H := h
/-- W: the word of the loop, with a number that falls -/
theorem while_inv {c : TT} {tb : TS} {D : Ends} (W : Nat → L2.St → Hp → Prop) (h0 : ∃ m, W m σ H) (hs : ∀ m σ H, W m σ H → c σ H (WhPost W m tb D σ)) : WhGoal c tb D σ H := ⟨W, h0, hs⟩
theorem wh_T {W : Nat → L2.St → Hp → Prop} {m : Nat} {tb : TS} {D : Ends} {b : Bool} (hb : b = true) (h : tb { D with nx := fun σ' H' => ∃ m', m' < m ∧ W m' σ' H', ct := fun σ' H' => ∃ m', m' < m ∧ W m' σ' H', bk := D.nx } σ H) : WhPost W m tb D σ b H := by
  unfold WhPost
  rw [if_pos hb]
  exact ⟨_, fun _ _ z => z, h⟩
theorem wh_F {W : Nat → L2.St → Hp → Prop} {m : Nat} {tb : TS} {D : Ends} {b : Bool} (hb : b = false) (h : D.nx σ H) : WhPost W m tb D σ b H := by
  unfold WhPost
  rw [hb, if_neg Bool.false_ne_true]
  exact h
end
def tupO (q : Nat × Nat) : HO := .tup [.int (q.1 : Nat), .int (q.2 : Nat)]
abbrev ZP := Addr × (Nat × Nat)
abbrev zV (z : ZP) : V := .ref z.1
/-- each of these stands as its tuple -/
def TP (H : Hp) (zs : List ZP) : Prop := ∀ z ∈ zs, H z.1 = some (tupO z.2)
section
variable {H H' : Hp} {zs ys : List ZP}
theorem TP.ex (h : TP H zs) (e : Ex H H') : TP H' zs := fun z hz => e.get (h z hz)
theorem TP.sub (h : TP H zs) (e : ∀ z ∈ ys, z ∈ zs) : TP H ys := fun z hz => h z (e z hz)
theorem tup_ne_purse {a p : Addr} {q : Nat × Nat} (h : H a = some (tupO q)) (hp : Purse H p) : a ≠ p := fun e => by
  obtain ⟨x, y, z, hp⟩ := hp
  rw [e, hp] at h
  cases h
theorem zs_ne_purse {a p : Addr} (h : H a = some (.lst (zs.map zV))) (hp : Purse H p) : a ≠ p := fun e => by
  obtain ⟨x, y, z, hp⟩ := hp
  rw [e, hp] at h
  cases zs with
  | nil => cases h
  | cons c r =>
    have h : HO.lst [V.int x, V.int y, V.int z] = HO.lst (V.ref c.1 :: r.map zV) := Option.some.inj h
    cases h
theorem TP.frp {p : Addr} (h : TP H zs) (hp : Purse H p) (e : FrP p H H') : TP H' zs := fun z hz => e.get (tup_ne_purse (h z hz) hp) (h z hz)
theorem TP.up {D : Addr} {xs : List V} {u : HO} (h : TP H zs) (hD : H D = some (.lst xs)) : TP (upd H D u) zs := fun z hz => by
  rw [upd_ne fun e => ?_]
  · exact h z hz
  · have := h z hz
    rw [e, hD] at this
    cases this
theorem TP.app (h : TP H zs) (k : TP H ys) : TP H (zs ++ ys) := fun z hz => by
  rcases List.mem_append.mp hz with q | q
  · exact h z q
  · exact k z q
theorem TP.cons {z : ZP} (h : H z.1 = some (tupO z.2)) (k : TP H ys) : TP H (z :: ys) := fun y hy => by
  rcases List.mem_cons.mp hy with q | q
  · rw [q]; exact h
  · exact k y q
theorem TP.perm (h : TP H zs) (e : ys.Perm zs) : TP H ys := h.sub fun z hz => e.mem_iff.mp hz
def encQ (q : Nat × Nat) : PyData := .tuple [.int (q.1 : Nat), .int (q.2 : Nat)]
theorem TP.rp1 {z : ZP} (h : H z.1 = some (tupO z.2)) : Rp H (zV z) (encQ z.2) := .tup (tup_of h) (.cons (.int _) (.cons (.int _) .nil))
theorem TP.rp (h : TP H zs) : RpA H (zs.map zV) (zs.map fun z => encQ z.2) := rpA_map fun z hz => TP.rp1 (h z hz)
theorem TP.rpL {a : Addr} (h : TP H zs) (ha : H a = some (.lst (zs.map zV))) : Rp H (.ref a) (.list (zs.map fun z => encQ z.2)) := .lst (lst_of ha) h.rp
theorem encQ_depth (q : Nat × Nat) : (encQ q).depth ≤ 2 := by simp [encQ, PyData.depth, PyData.depthAll]
theorem zs_depth (zs : List ZP) : (PyData.list (zs.map fun z => encQ z.2)).depth ≤ 64 := by
  have : PyData.depthAll (zs.map fun z => encQ z.2) ≤ 2 := depth_map fun z _ => encQ_depth z.2
  simp only [PyData.depth]
  omega
theorem eqv_encQ (a b : Nat × Nat) : PyData.eqv (encQ a) (encQ b) = decide (a = b) := by
  obtain ⟨a1, a2⟩ := a
  obtain ⟨b1, b2⟩ := b
  simp only [encQ, PyData.eqv, PyData.eqvAll, Bool.and_true]
  rw [Bool.eq_iff_iff]
  simp [Prod.ext_iff]
  omega
theorem eqv_zs (zs ys : List ZP) : PyData.eqv (.list (zs.map fun z => encQ z.2)) (.list (ys.map fun z => encQ z.2)) = decide (zs.map (·.2) = ys.map (·.2)) := by
  have h := eqv_list (enc := encQ) eqv_encQ (zs.map (·.2)) (ys.map (·.2))
  rw [List.map_map, List.map_map] at h
  exact h
end
/-- pairs in the order of their firsts, then of their seconds -/
def lexLe (a b : Nat × Nat) : Prop := a.1 < b.1 ∨ (a.1 = b.1 ∧ a.2 ≤ b.2)
theorem sorted_uniq : ∀ {l m : List (Nat × Nat)}, l.Pairwise lexLe → m.Pairwise lexLe → l.Perm m → l = m
  | [], m, _, _, h => (List.Perm.eq_nil h.symm).symm
  | x :: l, [], _, _, h => absurd h.length_eq (by simp)
  | x :: l, y :: m, hl, hm, h => by
    obtain ⟨l1, l2⟩ := List.pairwise_cons.mp hl
    obtain ⟨m1, m2⟩ := List.pairwise_cons.mp hm
    have h1 : lexLe y x := by
      rcases List.mem_cons.mp (h.mem_iff.mp (List.mem_cons_self (a := x) (l := l))) with e | hx
      · rw [e]; exact .inr ⟨rfl, Nat.le_refl _⟩
      · exact m1 x hx
    have h2 : lexLe x y := by
      rcases List.mem_cons.mp (h.mem_iff.mpr (List.mem_cons_self (a := y) (l := m))) with e | hy
      · rw [e]; exact .inr ⟨rfl, Nat.le_refl _⟩
      · exact l1 y hy
    have e : x = y := by
      obtain ⟨a, b⟩ := x
      obtain ⟨c, d⟩ := y
      unfold lexLe at h1 h2
      dsimp only at h1 h2
      have : a = c := by omega
      have : b = d := by omega
      simp [*]
    subst e
    rw [sorted_uniq l2 m2 h.cons_inv]
section
variable {H : Hp} {K : PySem.W.Frag} {Q : VK}
/-- the two ints of the tuple that v is -/
def pairAt (H : Hp) (v : V) : Int × Int := match v with
  | .ref t => match H t with
    | some (.tup [.int i, .int j]) => (i, j)
    | _ => (0, 0)
  | _ => (0, 0)
theorem pairAt_of {t : Addr} {i j : Int} (h : H t = some (.tup [.int i, .int j])) : pairAt H (.ref t) = (i, j) := by
  unfold pairAt
  simp only [h]
/-- refs to tuples of two ints, each by what it is -/
abbrev GP (α : Type) := Addr × α
abbrev gV {α : Type} (z : GP α) : V := .ref z.1
def TG2 {α : Type} (enc : α → Int × Int) (H : Hp) (zs : List (GP α)) : Prop := ∀ z ∈ zs, H z.1 = some (.tup [.int (enc z.2).1, .int (enc z.2).2])
def lexI (a b : Int × Int) : Prop := a.1 < b.1 ∨ (a.1 = b.1 ∧ a.2 ≤ b.2)
theorem perm_mapV {α β : Type} [DecidableEq α] (f : α → β) : ∀ (ys : List β) (zs : List α), ys.Perm (zs.map f) → ∃ zs' : List α, zs'.Perm zs ∧ ys = zs'.map f := by
  intro ys
  induction ys with
  | nil =>
    intro zs hp
    have := hp.length_eq
    rw [List.length_map] at this
    have : zs = [] := List.eq_nil_of_length_eq_zero this.symm
    subst this
    exact ⟨[], .nil, rfl⟩
  | cons y ys ih =>
    intro zs hp
    obtain ⟨z, hz, e⟩ := List.mem_map.mp (hp.mem_iff.mp List.mem_cons_self)
    subst e
    have hz2 : zs.Perm (z :: zs.erase z) := List.perm_cons_erase hz
    have hp2 : ys.Perm ((zs.erase z).map f) := by
      have : (f z :: ys).Perm (f z :: (zs.erase z).map f) := hp.trans (hz2.map f)
      exact this.cons_inv
    obtain ⟨zs', h1, h2⟩ := ih _ hp2
    exact ⟨z :: zs', (List.Perm.cons z h1).trans hz2.symm, by rw [h2]; rfl⟩
theorem st_sortG {α : Type} [DecidableEq α] (enc : α → Int × Int) {p : Addr} {zs : List (GP α)} (h1 : SqL K H p (zs.map gV)) (ht : TG2 enc H zs) (h : ∀ (ys : List (GP α)) q H', ys.Perm zs → (ys.map fun z => enc z.2).Pairwise lexI → H q = none → Ex H H' → H' q = some (.lst (ys.map gV)) → Q (.ref q) H') : rSortedPO K [.ref p] H Q := by
  have hk : ∀ z ∈ zs, pairAt H (gV z) = enc z.2 := fun z hz => pairAt_of (ht z hz)
  refine ⟨p, zs.map gV, pairAt H, rfl, h1, fun x hx => ?_, fun ys q hs hst hq => ?_⟩
  · obtain ⟨z, hz, rfl⟩ := List.mem_map.mp hx
    refine ⟨z.1, rfl, ?_⟩
    rw [hk z hz]
    exact ht z hz
  · obtain ⟨zs', hp, rfl⟩ := perm_mapV gV ys zs hst.perm
    refine h zs' q _ hp ?_ hq (Fr.new hq) upd_same
    have hs2 := List.pairwise_map.mp hs
    rw [List.pairwise_map]
    refine List.Pairwise.imp_of_mem (fun {a b} ha hb hab => ?_) hs2
    have a2 := hk a (hp.mem_iff.mp ha)
    have b2 := hk b (hp.mem_iff.mp hb)
    have hab : SrtO.lexB (pairAt H (gV b)) (pairAt H (gV a)) = false := hab
    rw [a2, b2] at hab
    have := SrtO.lexB_no.mp hab
    unfold lexI
    omega
/-- sorted of a list of pairs of naturals -/
theorem st_sortZ {p : Addr} {zs : List ZP} (h1 : SqL K H p (zs.map zV)) (ht : TP H zs) (h : ∀ (ys : List ZP) q H', ys.Perm zs → (ys.map (·.2)).Pairwise lexLe → H q = none → Ex H H' → H' q = some (.lst (ys.map zV)) → Q (.ref q) H') : rSortedPO K [.ref p] H Q := by
  refine st_sortG (fun q : Nat × Nat => ((q.1 : Int), (q.2 : Int))) (zs := zs) h1 ht fun ys q H' hp hs => h ys q H' hp ?_
  rw [List.pairwise_map] at hs ⊢
  refine hs.imp fun {a b} hab => ?_
  unfold lexI at hab
  unfold lexLe
  dsimp only at hab
  omega
end
end Zb
namespace Zb
open PySem PySem.Spec PyProof.Rows L2
/-- a def's promise, where no list is being shown -/
structure FnG (P : Program) (w : World) (K : PySem.W.Frag) (mg : Str → Option Value) (base : Heap) (CX : CXT) (k : Nat) (f : Addr) (fd : FuncData) (ps : List Str) (sp : Sp) : Prop where
  len : ∀ vs H Q E, sp vs H Q E → vs.length = ps.length
  go : ∀ (A : Around) (outer : List Env) (s : Shared) (H : Hp) (args : Args) (us : List Value) (vs : List V) (Q : VK) (E : XK), A.guards = some [] → Room k A → Env0 P w K mg base A outer s H → BindsTo s fd args (ps.zip us) → Vals vs us → sp vs H Q E →
    codeAny (model P w) A (.call (.ref f) args) (CR CX outer P w H s Q E) s
section
variable {P : Program} {w : World} {K : PySem.W.Frag} {mg : Str → Option Value} {base : Heap} {k : Nat} {f : Addr} {fd : FuncData} {ps : List Str} {sp : Sp}
theorem FnG.of {CX : CXT} (F : FnOk P w K mg base CX k f fd ps sp) : FnG P w K mg base CX k f fd ps sp := ⟨F.len, fun A outer s H args us vs Q E _ => F.run A outer s H args us vs Q E⟩
end
def keyD : Key → PyData
  | .inl i => .int i
  | .inr x => .str x
mutual
inductive Rq (H : Hp) : V → PyData → Prop
  | non : Rq H .non .none
  | bl (b : Bool) : Rq H (.bl b) (.bool b)
  | int (i : Int) : Rq H (.int i) (.int i)
  | str (x : Str) : Rq H (.str x) (.str x)
  | lst {a : Addr} {xs : List V} {ds : List PyData} : lstAt H a = some xs → RqA H xs ds → Rq H (.ref a) (.list ds)
  | tup {a : Addr} {xs : List V} {ds : List PyData} : tupAt H a = some xs → RqA H xs ds → Rq H (.ref a) (.tuple ds)
  | dk {a : Addr} {kvs : List (Key × V)} {ds : List PyData} : H a = some (.dK kvs) → RqA H (kvs.map (·.2)) ds → Rq H (.ref a) (.dict ((kvs.map fun q => keyD q.1).zip ds))
inductive RqA (H : Hp) : List V → List PyData → Prop
  | nil : RqA H [] []
  | cons {v : V} {vs : List V} {d : PyData} {ds : List PyData} : Rq H v d → RqA H vs ds → RqA H (v :: vs) (d :: ds)
end
theorem RqA.len {H : Hp} : ∀ {vs : List V} {ds : List PyData}, RqA H vs ds → vs.length = ds.length
  | _, _, .nil => rfl
  | _, _, .cons _ k => congrArg (· + 1) k.len
theorem Rq.dk0 {H : Hp} {a : Addr} (h : H a = some (.dK [])) : Rq H (.ref a) (.dict []) := .dk h .nil
mutual
theorem Rp.rq {H : Hp} : ∀ {v : V} {d : PyData}, Rp H v d → Rq H v d
  | _, _, .non => .non
  | _, _, .bl b => .bl b
  | _, _, .int i => .int i
  | _, _, .str x => .str x
  | _, _, .lst h k => .lst h (RpA.rq k)
  | _, _, .tup h k => .tup h (RpA.rq k)
theorem RpA.rq {H : Hp} : ∀ {vs : List V} {ds : List PyData}, RpA H vs ds → RqA H vs ds
  | _, _, .nil => .nil
  | _, _, .cons h k => .cons (Rp.rq h) (RpA.rq k)
theorem noDict {H : Hp} : ∀ {v : V} {d : PyData}, Rp H v d → d.hasDict = false
  | _, _, .non => rfl
  | _, _, .bl b => rfl
  | _, _, .int i => rfl
  | _, _, .str x => rfl
  | _, _, .lst h k => by simp only [PyData.hasDict]; exact noDictA k
  | _, _, .tup h k => by simp only [PyData.hasDict]; exact noDictA k
theorem noDictA {H : Hp} : ∀ {vs : List V} {ds : List PyData}, RpA H vs ds → PyData.hasDictAll ds = false
  | _, _, .nil => rfl
  | _, _, .cons h k => by simp only [PyData.hasDictAll, noDict h, noDictA k, Bool.or_self]
end
section
variable {X : Cx} {pins : List (Addr × Obj)} {σ : L2.St} {H : Hp} {s : Shared}
theorem pairs_keys {h : Heap} {P : Program} {w : World} : ∀ {es : List DictEntry} {kvs : List (Key × V)} {vs : List (Key × Value)}, Pairs (mixKind P w) es vs → KV kvs vs → ∃ as, ReadsAll h (es.map (·.key)) (kvs.map fun q => keyD q.1) as
  | _, _, _, .nil, .nil => ⟨_, .nil⟩
  | _, _, _, .cons (e := e) (kv := kv) h1 h2 h3, .cons (a := p) q r => by
    obtain ⟨as, k⟩ := pairs_keys (h := h) h3 r
    have hk : (mixKind P w).is kv.1 e.key = true := h1
    rcases keyIs_shape hk with ⟨i, t, e1, e2⟩ | ⟨x, t, e1, e2⟩
    · refine ⟨_, .cons (as := []) ?_ k⟩
      show Reads h e.key (keyD p.1) []
      rw [q.1, e1, e2]
      exact .int i t
    · refine ⟨_, .cons (as := []) ?_ k⟩
      show Reads h e.key (keyD p.1) []
      rw [q.1, e1, e2]
      exact .str x t
theorem pairs_vals {P : Program} {w : World} : ∀ {es : List DictEntry} {kvs : List (Key × V)} {vs : List (Key × Value)}, Pairs (mixKind P w) es vs → KV kvs vs → Vals (kvs.map (·.2)) (es.map (·.val))
  | _, _, _, .nil, .nil => .nil
  | _, _, _, .cons (e := e) (kv := kv) h1 h2 h3, .cons (a := p) q r => .cons (by show RelV p.2 e.val; rw [h2]; exact q.2) (pairs_vals h3 r)
theorem zip_fst {α β : Type} : ∀ {xs : List α} {ys : List β}, xs.length = ys.length → (xs.zip ys).map (·.1) = xs := fun h => List.map_fst_zip (Nat.le_of_eq h)
theorem zip_snd {α β : Type} : ∀ {xs : List α} {ys : List β}, xs.length = ys.length → (xs.zip ys).map (·.2) = ys := fun h => List.map_snd_zip (Nat.le_of_eq h.symm)
/-- a tracked dict, as an object -/
theorem dk_obj (I : Inv X pins σ H s) {a : Addr} {kvs : List (Key × V)} (h : H a = some (.dK kvs)) : (a == sysModules) = false ∧ ∃ (o : Obj) (es : Array DictEntry) (n : Nat), s.heap.get? a = some o ∧ o.cls = .type "dict" ∧ o.data = .dict es n ∧ (∃ as, ReadsAll s.heap (es.toList.map (·.key)) (kvs.map fun q => keyD q.1) as) ∧ Vals (kvs.map (·.2)) (es.toList.map (·.val)) := by
  obtain ⟨_, hs, vs, rv, o, es, ep, e1, e2, e3, _, e5, _⟩ := dk_of I.hok h
  exact ⟨hs, o, es, ep, e1, e2.1, e3, pairs_keys e5 rv, pairs_vals e5 rv⟩
mutual
theorem Rq.reads (I : Inv X pins σ H s) : ∀ {v : V} {d : PyData} {u : Value}, Rq H v d → RelV v u → ∃ as, Reads s.heap u d as
  | _, _, u, .non, r => by cases r; exact ⟨_, .none⟩
  | _, _, u, .bl b, r => by cases r; exact ⟨_, .bool b⟩
  | _, _, u, .int i, r => by obtain ⟨t, rfl⟩ := r; exact ⟨_, .int i t⟩
  | _, _, u, .str x, r => by obtain ⟨t, rfl⟩ := r; exact ⟨_, .str x t⟩
  | _, _, u, @Rq.lst _ a xs ds h k, r => by
    obtain rfl : u = Value.ref a := r
    obtain ⟨its, rv, p, _⟩ := I.list (lstAt_sq h)
    obtain ⟨as, q1⟩ := RqA.reads I k rv
    obtain ⟨o, n, e1, e2, e3, e4⟩ := p
    exact ⟨_, .list e1 e2 e4 q1⟩
  | _, _, u, @Rq.tup _ a xs ds h k, r => by
    obtain rfl : u = Value.ref a := r
    obtain ⟨its, rv, p, _⟩ := I.tuple (tupAt_sq h)
    obtain ⟨as, q1⟩ := RqA.reads I k rv
    obtain ⟨o, e1, e2, n, e3⟩ := p
    exact ⟨_, .tuple e1 e2 e3 q1⟩
  | _, _, u, @Rq.dk _ a kvs ds h k, r => by
    obtain rfl : u = Value.ref a := r
    obtain ⟨_, o, es, n, e1, e2, e3, ⟨as, kr⟩, rv⟩ := dk_obj I h
    obtain ⟨bs, vr⟩ := RqA.reads I k rv
    have hl : (kvs.map fun q => keyD q.1).length = ds.length := by rw [List.length_map, ← k.len, List.length_map]
    exact ⟨_, .dict e1 e2 e3 (by rw [zip_fst hl]; exact kr) (by rw [zip_snd hl]; exact vr)⟩
theorem RqA.reads (I : Inv X pins σ H s) : ∀ {vs : List V} {ds : List PyData} {us : List Value}, RqA H vs ds → Vals vs us → ∃ as, ReadsAll s.heap us ds as
  | _, _, us, .nil, r => by cases r; exact ⟨_, .nil⟩
  | _, _, us, .cons h k, r => by
    cases r with
    | cons r1 r2 =>
      obtain ⟨as, a1⟩ := Rq.reads I h r1
      obtain ⟨bs, b1⟩ := RqA.reads I k r2
      exact ⟨_, .cons a1 b1⟩
end
end
end Zb
namespace Zb
open PySem PySem.Spec PyProof.Rows L2
def tyD : PyData → String
  | .none => "NoneType"
  | .bool _ => "bool"
  | .int _ => "int"
  | .str _ => "str"
  | .list _ => "list"
  | .tuple _ => "tuple"
  | .dict _ => "dict"
theorem Rq.tyn {H : Hp} {x : V} {d : PyData} (h : Rq H x d) : tyN H x = some (tyD d) := by
  cases h with
  | non => rfl
  | bl b => rfl
  | int i => rfl
  | str y => rfl
  | @lst a xs ds h _ =>
    show tyO (H a) = _
    unfold lstAt at h
    unfold tyO
    split at h <;> first | (rename_i e; rw [e]; rfl) | cases h
  | @tup a xs ds h _ =>
    show tyO (H a) = _
    unfold tupAt at h
    unfold tyO
    split at h <;> first | (rename_i e; rw [e]; rfl) | cases h
  | @dk a kvs ds h _ =>
    show tyO (H a) = _
    rw [h]
    rfl
theorem Rq.ty {H : Hp} {x : V} {d : PyData} (h : Rq H x d) : Ty H x := ⟨_, h.tyn⟩
theorem Rp.ty {H : Hp} {x : V} {d : PyData} (h : Rp H x d) : Ty H x := h.rq.ty
section
variable {H : Hp} {Q : VK} {K : PySem.W.Frag}
theorem st_isQ {x : V} {d : PyData} {n : String} {b : Bool} (h1 : Rq H x d) (h2 : kitB (tyD d) n = some b) (h : Q (.bl b) H) : rIs [x, .ty n] H Q := st_is h1.tyn h2 h
def isListD : PyData → Bool
  | .list _ => true
  | _ => false
def isTupD : PyData → Bool
  | .tuple _ => true
  | _ => false
theorem kb_list : kitB "NoneType" "list" = some false ∧ kitB "bool" "list" = some false ∧ kitB "int" "list" = some false ∧ kitB "str" "list" = some false ∧ kitB "list" "list" = some true ∧ kitB "tuple" "list" = some false ∧ kitB "dict" "list" = some false := by decide +kernel
theorem kb_tup : kitB "NoneType" "tuple" = some false ∧ kitB "bool" "tuple" = some false ∧ kitB "int" "tuple" = some false ∧ kitB "str" "tuple" = some false ∧ kitB "list" "tuple" = some false ∧ kitB "tuple" "tuple" = some true ∧ kitB "dict" "tuple" = some false := by decide +kernel
theorem st_isListD {x : V} {d : PyData} (h1 : Rq H x d) (h : Q (.bl (isListD d)) H) : rIs [x, .ty "list"] H Q := by
  obtain ⟨k1, k2, k3, k4, k5, k6, k7⟩ := kb_list
  refine st_isQ h1 (b := isListD d) ?_ h
  cases d <;> assumption
theorem st_isTupD {x : V} {d : PyData} (h1 : Rq H x d) (h : Q (.bl (isTupD d)) H) : rIs [x, .ty "tuple"] H Q := by
  obtain ⟨k1, k2, k3, k4, k5, k6, k7⟩ := kb_tup
  refine st_isQ h1 (b := isTupD d) ?_ h
  cases d <;> assumption
/-- the items of data -/
theorem Rp.listAt {x : V} {ds : List PyData} (h : Rp H x (.list ds)) : ∃ a xs, x = .ref a ∧ lstAt H a = some xs ∧ RpA H xs ds := by
  cases h with
  | lst h k => exact ⟨_, _, rfl, h, k⟩
theorem Rp.tupAt' {x : V} {ds : List PyData} (h : Rp H x (.tuple ds)) : ∃ a xs, x = .ref a ∧ tupAt H a = some xs ∧ RpA H xs ds := by
  cases h with
  | tup h k => exact ⟨_, _, rfl, h, k⟩
theorem RpA.len : ∀ {xs : List V} {ds : List PyData}, RpA H xs ds → xs.length = ds.length
  | _, _, .nil => rfl
  | _, _, .cons _ k => congrArg (· + 1) k.len
theorem RpA.at : ∀ {xs : List V} {ds : List PyData}, RpA H xs ds → ∀ (i : Nat) x, xs[i]? = some x → ∃ d, ds[i]? = some d ∧ Rp H x d
  | _, _, .nil, i, x, h => by simp at h
  | _, _, .cons a k, 0, x, h => by
    have e : _ = x := Option.some.inj h
    exact ⟨_, rfl, e ▸ a⟩
  | _, _, .cons a k, i + 1, x, h => k.at i x (by simpa using h)
theorem st_lenA {p : Addr} {xs : List V} (h1 : tupAt H p = some xs) (h : Q (.int xs.length) H) : rLen K [.ref p] H Q := ⟨xs, .inr (tupAt_sq h1), h⟩
theorem st_ixA2 {p : Addr} {i : Int} {v : V} {xs : List V} (h1 : tupAt H p = some xs) (h2 : atI xs i = some v) (h : Q v H) : rIxU K (.ref p) (.int i) H Q := ⟨xs, .inr (tupAt_sq h1), v, h2, h⟩
theorem st_gtupA {a : Addr} {xs : List V} {n : Nat} {t : TGs} {σ : L2.St} {R : L2.St → Hp → Prop} (h1 : tupAt H a = some xs) (hn : xs.length = n) (h : t xs σ H R) : gTup K n t (.ref a) σ H R := ⟨a, xs, rfl, tupAt_sq h1, hn, h⟩
end
end Zb
namespace Zb
open PySem PySem.Spec PyProof.Rows L2
mutual
/-- v is d, by things that are not frozen; empty dicts may be among them -/
inductive Rn (H : Hp) : V → PyData → Prop
  | non : Rn H .non .none
  | bl (b : Bool) : Rn H (.bl b) (.bool b)
  | int (i : Int) : Rn H (.int i) (.int i)
  | str (x : Str) : Rn H (.str x) (.str x)
  | lst {a : Addr} {xs : List V} {ds : List PyData} : H a = some (.lst xs) → RnA H xs ds → Rn H (.ref a) (.list ds)
  | tup {a : Addr} {xs : List V} {ds : List PyData} : H a = some (.tup xs) → RnA H xs ds → Rn H (.ref a) (.tuple ds)
  | dk {a : Addr} : H a = some (.dK []) → Rn H (.ref a) (.dict [])
inductive RnA (H : Hp) : List V → List PyData → Prop
  | nil : RnA H [] []
  | cons {v : V} {vs : List V} {d : PyData} {ds : List PyData} : Rn H v d → RnA H vs ds → RnA H (v :: vs) (d :: ds)
end
section
variable {H H' : Hp}
mutual
theorem Rn.rq : ∀ {v : V} {d : PyData}, Rn H v d → Rq H v d
  | _, _, .non => .non
  | _, _, .bl b => .bl b
  | _, _, .int i => .int i
  | _, _, .str x => .str x
  | _, _, .lst h k => .lst (lst_of h) (RnA.rq k)
  | _, _, .tup h k => .tup (tup_of h) (RnA.rq k)
  | _, _, .dk h => .dk0 h
theorem RnA.rq : ∀ {vs : List V} {ds : List PyData}, RnA H vs ds → RqA H vs ds
  | _, _, .nil => .nil
  | _, _, .cons h k => .cons (Rn.rq h) (RnA.rq k)
end
mutual
theorem Rn.rp : ∀ {v : V} {d : PyData}, Rn H v d → d.hasDict = false → Rp H v d
  | _, _, .non, _ => .non
  | _, _, .bl b, _ => .bl b
  | _, _, .int i, _ => .int i
  | _, _, .str x, _ => .str x
  | _, _, .lst h k, n => .lst (lst_of h) (RnA.rp k (by simpa only [PyData.hasDict] using n))
  | _, _, .tup h k, n => .tup (tup_of h) (RnA.rp k (by simpa only [PyData.hasDict] using n))
  | _, _, .dk h, n => by simp [PyData.hasDict] at n
theorem RnA.rp : ∀ {vs : List V} {ds : List PyData}, RnA H vs ds → PyData.hasDictAll ds = false → RpA H vs ds
  | _, _, .nil, _ => .nil
  | _, _, .cons h k, n => by
    simp only [PyData.hasDictAll, Bool.or_eq_false_iff] at n
    exact .cons (Rn.rp h n.1) (RnA.rp k n.2)
end
mutual
theorem Rn.ex (e : Ex H H') : ∀ {v : V} {d : PyData}, Rn H v d → Rn H' v d
  | _, _, .non => .non
  | _, _, .bl b => .bl b
  | _, _, .int i => .int i
  | _, _, .str x => .str x
  | _, _, .lst h k => .lst (e.get h) (RnA.ex e k)
  | _, _, .tup h k => .tup (e.get h) (RnA.ex e k)
  | _, _, .dk h => .dk (e.get h)
theorem RnA.ex (e : Ex H H') : ∀ {vs : List V} {ds : List PyData}, RnA H vs ds → RnA H' vs ds
  | _, _, .nil => .nil
  | _, _, .cons h k => .cons (Rn.ex e h) (RnA.ex e k)
end
theorem Rn.listAt {x : V} {ds : List PyData} (h : Rn H x (.list ds)) : ∃ a xs, x = .ref a ∧ H a = some (.lst xs) ∧ RnA H xs ds := by
  cases h with
  | lst h k => exact ⟨_, _, rfl, h, k⟩
theorem Rn.tupAt {x : V} {ds : List PyData} (h : Rn H x (.tuple ds)) : ∃ a xs, x = .ref a ∧ H a = some (.tup xs) ∧ RnA H xs ds := by
  cases h with
  | tup h k => exact ⟨_, _, rfl, h, k⟩
theorem RnA.len : ∀ {xs : List V} {ds : List PyData}, RnA H xs ds → xs.length = ds.length
  | _, _, .nil => rfl
  | _, _, .cons _ k => congrArg (· + 1) k.len
theorem RnA.zipped : ∀ {xs : List V} {ds : List PyData}, RnA H xs ds → ∃ zs : List (V × PyData), xs = zs.map (·.1) ∧ ds = zs.map (·.2) ∧ ∀ z ∈ zs, Rn H z.1 z.2
  | _, _, .nil => ⟨[], rfl, rfl, fun _ h => nomatch h⟩
  | _, _, .cons (v := v) (d := d) a k => by
    obtain ⟨zs, rfl, rfl, h⟩ := RnA.zipped k
    refine ⟨(v, d) :: zs, rfl, rfl, fun z hz => ?_⟩
    rcases List.mem_cons.mp hz with e | e
    · rw [e]; exact a
    · exact h z e
theorem rnA_map {α : Type} {val : α → V} {enc : α → PyData} : ∀ {xs : List α}, (∀ x ∈ xs, Rn H (val x) (enc x)) → RnA H (xs.map val) (xs.map enc)
  | [], _ => .nil
  | x :: xs, h => .cons (h x List.mem_cons_self) (rnA_map fun y hy => h y (List.mem_cons_of_mem _ hy))
theorem TP.rn1 {z : ZP} (h : H z.1 = some (tupO z.2)) : Rn H (zV z) (encQ z.2) := .tup h (.cons (.int _) (.cons (.int _) .nil))
theorem TP.rn {zs : List ZP} (h : TP H zs) : RnA H (zs.map zV) (zs.map fun z => encQ z.2) := rnA_map fun z hz => TP.rn1 (h z hz)
theorem TP.rnL {zs : List ZP} {a : Addr} (h : TP H zs) (ha : H a = some (.lst (zs.map zV))) : Rn H (.ref a) (.list (zs.map fun z => encQ z.2)) := .lst ha h.rn
end
mutual
/-- how many things data holds -/
def szD : PyData → Nat
  | .list ds => 1 + szA ds
  | .tuple ds => 1 + szA ds
  | .dict _ => 1
  | _ => 1
def szA : List PyData → Nat
  | [] => 0
  | d :: ds => szD d + szA ds
end
theorem szD_pos (d : PyData) : 0 < szD d := by cases d <;> simp [szD] <;> omega
theorem szA_len (ds : List PyData) : ds.length ≤ szA ds := by
  induction ds with
  | nil => simp [szA]
  | cons d ds ih =>
    have := szD_pos d
    simp only [szA, List.length_cons]
    omega
theorem szA_mem {ds : List PyData} {d : PyData} (h : d ∈ ds) : szD d ≤ szA ds := by
  induction ds with
  | nil => cases h
  | cons x ds ih =>
    simp only [szA]
    rcases List.mem_cons.mp h with e | e
    · subst e; omega
    · have := ih e; omega
theorem hasDictA_mem {ds : List PyData} {d : PyData} (h : PyData.hasDictAll ds = false) (hd : d ∈ ds) : d.hasDict = false := by
  induction ds with
  | nil => cases hd
  | cons x ds ih =>
    simp only [PyData.hasDictAll, Bool.or_eq_false_iff] at h
    rcases List.mem_cons.mp hd with e | e
    · subst e; exact h.1
    · exact ih h.2 e
theorem depthA_mem {ds : List PyData} {d : PyData} (hd : d ∈ ds) : d.depth ≤ PyData.depthAll ds := by
  induction ds with
  | nil => cases hd
  | cons x ds ih =>
    simp only [PyData.depthAll]
    rcases List.mem_cons.mp hd with e | e
    · subst e; omega
    · have := ih e; omega
end Zb
namespace Zb
open PySem PySem.Spec PyProof.Rows L2
mutual
/-- numbers of few figures, texts that are shown by few signs, no dict but the empty one -/
def okD : PyData → Bool
  | .none => true
  | .bool _ => true
  | .int i => decide (i.natAbs < 1000000)
  | .str x => decide ((reprText x).length ≤ 14)
  | .list ds => okA ds
  | .tuple ds => okA ds
  | .dict kvs => kvs.isEmpty
def okA : List PyData → Bool
  | [] => true
  | d :: ds => okD d && okA ds
end
/-- data that may be handed round: d is v, small, with no dict but itself -/
structure Sd (H : Hp) (v : V) (d : PyData) : Prop where
  rn : Rn H v d
  hd : d.hasDict = true → d = .dict []
  ok : okD d = true
  sz : szD d ≤ 999999
  dp : d.depth ≤ 59
theorem Sd.ex {H H' : Hp} {v : V} {d : PyData} (h : Sd H v d) (e : Ex H H') : Sd H' v d := ⟨h.rn.ex e, h.hd, h.ok, h.sz, h.dp⟩
/-- v is small data of n things, k deep -/
def Sm (H : Hp) (v : V) (n k : Nat) : Prop := ∃ d, Rn H v d ∧ d.hasDict = false ∧ okD d = true ∧ szD d ≤ n ∧ d.depth ≤ k
section
variable {H H' : Hp} {v : V} {n k m : Nat}
theorem Sm.up {n' k' : Nat} (h : Sm H v n k) (h1 : n ≤ n') (h2 : k ≤ k') : Sm H v n' k' := by
  obtain ⟨d, a, b, c, e, f⟩ := h
  exact ⟨d, a, b, c, by omega, by omega⟩
theorem Sm.ex (h : Sm H v n k) (e : Ex H H') : Sm H' v n k := by
  obtain ⟨d, a, b⟩ := h
  exact ⟨d, a.ex e, b⟩
theorem Sm.sd (h : Sm H v n k) (h1 : n ≤ 999999) (h2 : k ≤ 59) : ∃ d, Sd H v d := by
  obtain ⟨d, a, b, c, e, f⟩ := h
  exact ⟨d, a, (fun z => by rw [b] at z; cases z), c, by omega, by omega⟩
theorem Sm.non : Sm H .non 1 0 := ⟨_, .non, rfl, rfl, by simp [szD], by simp [PyData.depth]⟩
theorem Sm.bl (b : Bool) : Sm H (.bl b) 1 0 := ⟨_, .bl b, rfl, rfl, by simp [szD], by simp [PyData.depth]⟩
theorem Sm.int {i : Int} (h : i.natAbs < 1000000) : Sm H (.int i) 1 0 := ⟨_, .int i, rfl, by simpa only [okD, decide_eq_true_eq] using h, by simp [szD], by simp [PyData.depth]⟩
theorem Sm.str {x : Str} (h : (reprText x).length ≤ 14) : Sm H (.str x) 1 0 := ⟨_, .str x, rfl, by simpa only [okD, decide_eq_true_eq] using h, by simp [szD], by simp [PyData.depth]⟩
theorem Sm.all : ∀ {xs : List V}, (∀ x ∈ xs, Sm H x n k) → ∃ ds, RnA H xs ds ∧ PyData.hasDictAll ds = false ∧ okA ds = true ∧ szA ds ≤ xs.length * n ∧ PyData.depthAll ds ≤ k
  | [], _ => ⟨[], .nil, rfl, rfl, by simp [szA], by simp [PyData.depthAll]⟩
  | x :: xs, h => by
    obtain ⟨ds, a, b, c, e, f⟩ := Sm.all (xs := xs) fun y hy => h y (List.mem_cons_of_mem _ hy)
    obtain ⟨d, a1, b1, c1, e1, f1⟩ := h x List.mem_cons_self
    refine ⟨d :: ds, .cons a1 a, by simp [PyData.hasDictAll, b, b1], by simp [okA, c, c1], ?_, ?_⟩
    · simp only [szA, List.length_cons, Nat.succ_mul]; omega
    · simp only [PyData.depthAll]; omega
theorem Sm.lst {a : Addr} {xs : List V} (h : H a = some (.lst xs)) (hx : ∀ x ∈ xs, Sm H x n k) (hm : xs.length ≤ m) : Sm H (.ref a) (1 + m * n) (k + 1) := by
  obtain ⟨ds, h1, h2, h3, h4, h5⟩ := Sm.all hx
  refine ⟨.list ds, .lst h h1, by simpa only [PyData.hasDict] using h2, by simpa only [okD] using h3, ?_, by simp only [PyData.depth]; omega⟩
  have := Nat.mul_le_mul_right n hm
  simp only [szD]; omega
theorem Sm.tup {a : Addr} {xs : List V} (h : H a = some (.tup xs)) (hx : ∀ x ∈ xs, Sm H x n k) (hm : xs.length ≤ m) : Sm H (.ref a) (1 + m * n) (k + 1) := by
  obtain ⟨ds, h1, h2, h3, h4, h5⟩ := Sm.all hx
  refine ⟨.tuple ds, .tup h h1, by simpa only [PyData.hasDict] using h2, by simpa only [okD] using h3, ?_, by simp only [PyData.depth]; omega⟩
  have := Nat.mul_le_mul_right n hm
  simp only [szD]; omega
theorem Sd.dk {a : Addr} (h : H a = some (.dK [])) : Sd H (.ref a) (.dict []) := ⟨.dk h, fun _ => rfl, rfl, by simp [szD], by simp [PyData.depth, PyData.depthKv]⟩
theorem Sm.mem {xs : List V} (h : ∀ x ∈ xs, Sm H x n k) (hv : v ∈ xs) : Sm H v n k := h v hv
theorem Sm.cons {xs : List V} (h : Sm H v n k) (t : ∀ x ∈ xs, Sm H x n k) : ∀ x ∈ v :: xs, Sm H x n k := fun x hx => by
  rcases List.mem_cons.mp hx with e | e
  · rw [e]; exact h
  · exact t x e
theorem Sm.nil : ∀ x ∈ ([] : List V), Sm H x n k := fun _ h => nomatch h
theorem Sm.app {xs ys : List V} (h : ∀ x ∈ xs, Sm H x n k) (t : ∀ x ∈ ys, Sm H x n k) : ∀ x ∈ xs ++ ys, Sm H x n k := fun x hx => by
  rcases List.mem_append.mp hx with e | e
  · exact h x e
  · exact t x e
theorem Sm.upA {xs : List V} {n' k' : Nat} (h : ∀ x ∈ xs, Sm H x n k) (h1 : n ≤ n') (h2 : k ≤ k') : ∀ x ∈ xs, Sm H x n' k' := fun x hx => (h x hx).up h1 h2
variable {K : PySem.W.Frag} {Q : VK}
end
def cutL {α : Type} (xs : List α) (lo hi : Option Int) : List α := (xs.drop (HT.sIx xs.length 0 lo)).take (HT.sIx xs.length xs.length hi - HT.sIx xs.length 0 lo)
theorem cutV_map {α : Type} (f : α → V) (xs : List α) (lo hi : Option Int) : cutV (xs.map f) lo hi = (cutL xs lo hi).map f := by
  unfold cutV cutL
  rw [List.map_take, List.map_drop, List.length_map]
theorem cutL_sub {α : Type} (xs : List α) (lo hi : Option Int) : (cutL xs lo hi).Sublist xs := (List.take_sublist _ _).trans (List.drop_sublist _ _)
theorem cutV_mem {xs : List V} {lo hi : Option Int} {x : V} (h : x ∈ cutV xs lo hi) : x ∈ xs := by
  have h2 := cutV_map id xs lo hi
  rw [List.map_id, List.map_id] at h2
  rw [h2] at h
  exact (cutL_sub xs lo hi).subset h
abbrev HZ := Addr × List ZP
abbrev hV (g : HZ) : V := .ref g.1
/-- a few small pairs, each as its tuple -/
structure SP (H : Hp) (zs : List ZP) : Prop where
  tp : TP H zs
  few : zs.length ≤ 2305
  small : ∀ z ∈ zs, z.2.1 ≤ 1000 ∧ z.2.2 ≤ 1000
def HP (H : Hp) (gs : List HZ) : Prop := ∀ g ∈ gs, H g.1 = some (.lst (g.2.map zV)) ∧ SP H g.2
section
variable {H H' : Hp} {gs : List HZ} {zs ys : List ZP}
theorem SP.ex (h : SP H zs) (e : Ex H H') : SP H' zs := ⟨h.tp.ex e, h.few, h.small⟩
theorem SP.frp {p : Addr} (h : SP H zs) (hp : Purse H p) (e : FrP p H H') : SP H' zs := ⟨h.tp.frp hp e, h.few, h.small⟩
theorem SP.sub (h : SP H zs) (e : ys.Sublist zs) : SP H ys := ⟨h.tp.sub fun z hz => e.subset hz, Nat.le_trans e.length_le h.few, fun z hz => h.small z (e.subset hz)⟩
theorem SP.perm (h : SP H zs) (e : ys.Perm zs) : SP H ys := ⟨h.tp.perm e, by rw [e.length_eq]; exact h.few, fun z hz => h.small z (e.mem_iff.mp hz)⟩
theorem SP.up {D : Addr} {xs : List V} {u : HO} (h : SP H zs) (hD : H D = some (.lst xs)) : SP (upd H D u) zs := ⟨h.tp.up hD, h.few, h.small⟩
theorem HP.ex (h : HP H gs) (e : Ex H H') : HP H' gs := fun g hg => ⟨e.get (h g hg).1, (h g hg).2.ex e⟩
theorem HP.frp {p : Addr} (h : HP H gs) (hp : Purse H p) (e : FrP p H H') : HP H' gs := fun g hg => ⟨e.get (zs_ne_purse (h g hg).1 hp) (h g hg).1, (h g hg).2.frp hp e⟩
theorem HP.sub {fs : List HZ} (h : HP H gs) (e : ∀ g ∈ fs, g ∈ gs) : HP H fs := fun g hg => h g (e g hg)
/-- one of the lists changes -/
theorem HP.set {g : HZ} {i : Nat} (h : HP H gs) (nd : (gs.map (·.1)).Nodup) (hg : gs[i]? = some g) (hz : SP H zs) : HP (upd H g.1 (.lst (zs.map zV))) (gs.set i (g.1, zs)) := by
  have hgm := List.mem_of_getElem? hg
  have h1 := (h g hgm).1
  intro f hf
  obtain ⟨j, hj⟩ := List.getElem?_of_mem hf
  have hi : i < gs.length := (List.getElem?_eq_some_iff.mp hg).1
  by_cases e : j = i
  · subst e
    rw [List.getElem?_set_self hi] at hj
    cases hj
    exact ⟨upd_same, hz.up h1⟩
  · rw [List.getElem?_set_ne (Ne.symm e)] at hj
    have hfm := List.mem_of_getElem? hj
    have ne : f.1 ≠ g.1 := fun z => e (nd_ix (x := f.1) nd (by rw [List.getElem?_map, hj]; rfl) (by rw [List.getElem?_map, hg]; exact congrArg some z.symm))
    exact ⟨by rw [upd_ne ne]; exact (h f hfm).1, (h f hfm).2.up h1⟩
def encH (g : HZ) : PyData := .list (g.2.map fun z => encQ z.2)
theorem HP.rn {a : Addr} (h : HP H gs) (ha : H a = some (.lst (gs.map hV))) : Rn H (.ref a) (.list (gs.map encH)) := .lst ha (rnA_map fun g hg => (h g hg).2.tp.rnL (h g hg).1)
theorem HP.rp {a : Addr} (h : HP H gs) (ha : H a = some (.lst (gs.map hV))) : Rp H (.ref a) (.list (gs.map encH)) := .lst (lst_of ha) (rpA_map fun g hg => (h g hg).2.tp.rpL (h g hg).1)
theorem encH_depth (g : HZ) : (encH g).depth ≤ 3 := by
  have : PyData.depthAll (g.2.map fun z => encQ z.2) ≤ 2 := depth_map fun z _ => encQ_depth z.2
  simp only [encH, PyData.depth]
  omega
theorem gs_depth (gs : List HZ) : (PyData.list (gs.map encH)).depth ≤ 4 := by
  have : PyData.depthAll (gs.map encH) ≤ 3 := depth_map fun g _ => encH_depth g
  simp only [PyData.depth]
  omega
theorem okA_of {ds : List PyData} (h : ∀ d ∈ ds, okD d = true) : okA ds = true := by
  induction ds with
  | nil => rfl
  | cons d ds ih => simp only [okA, h d List.mem_cons_self, ih fun x hx => h x (List.mem_cons_of_mem _ hx), Bool.and_self]
theorem szA_le {ds : List PyData} {n : Nat} (h : ∀ d ∈ ds, szD d ≤ n) : szA ds ≤ ds.length * n := by
  induction ds with
  | nil => simp [szA]
  | cons d ds ih =>
    have h1 := h d List.mem_cons_self
    have h2 := ih fun x hx => h x (List.mem_cons_of_mem _ hx)
    simp only [szA, List.length_cons, Nat.succ_mul]
    omega
theorem hasDictA_of {ds : List PyData} (h : ∀ d ∈ ds, d.hasDict = false) : PyData.hasDictAll ds = false := by
  induction ds with
  | nil => rfl
  | cons d ds ih => simp only [PyData.hasDictAll, h d List.mem_cons_self, ih fun x hx => h x (List.mem_cons_of_mem _ hx), Bool.or_self]
theorem HP.sd {a : Addr} (h : HP H gs) (ha : H a = some (.lst (gs.map hV))) (hl : gs.length ≤ 100) : Sd H (.ref a) (.list (gs.map encH)) := by
  refine ⟨h.rn ha, fun z => ?_, ?_, ?_, Nat.le_trans (gs_depth gs) (by decide)⟩
  · have : PyData.hasDictAll (gs.map encH) = false := hasDictA_of fun d hd => by
      obtain ⟨g, hg, rfl⟩ := List.mem_map.mp hd
      exact hasDictA_of fun d hd => by
        obtain ⟨z, hz, rfl⟩ := List.mem_map.mp hd
        rfl
    simp only [PyData.hasDict, this] at z
    cases z
  · refine okA_of fun d hd => ?_
    obtain ⟨g, hg, rfl⟩ := List.mem_map.mp hd
    refine okA_of fun d hd => ?_
    obtain ⟨z, hz, rfl⟩ := List.mem_map.mp hd
    have := (h g hg).2.small z hz
    simp only [encQ, okD, okA, Bool.and_true, Bool.and_eq_true, decide_eq_true_eq]
    omega
  · have h1 : szA (gs.map encH) ≤ (gs.map encH).length * 6916 := szA_le fun d hd => by
      obtain ⟨g, hg, rfl⟩ := List.mem_map.mp hd
      have h2 : szA (g.2.map fun z => encQ z.2) ≤ (g.2.map fun z => encQ z.2).length * 3 := szA_le fun d hd => by
        obtain ⟨z, hz, rfl⟩ := List.mem_map.mp hd
        simp [encQ, szD, szA]
      have h3 := (h g hg).2.few
      rw [List.length_map] at h2
      simp only [encH, szD]
      omega
    rw [List.length_map] at h1
    simp only [szD]
    omega
variable {K : PySem.W.Frag} {Q : VK}
end
theorem Sm.cut {H : Hp} {xs : List V} {n k : Nat} {lo hi : Option Int} (h : ∀ x ∈ xs, Sm H x n k) : ∀ x ∈ cutV xs lo hi, Sm H x n k := fun x hx => h x (cutV_mem hx)
/-- any small data -/
def SdE (H : Hp) (v : V) : Prop := ∃ d, Sd H v d
theorem SdE.of {H : Hp} {v : V} {n k : Nat} (h : Sm H v n k) (h1 : n ≤ 999999) (h2 : k ≤ 59) : SdE H v := h.sd h1 h2
theorem SdE.ex {H H' : Hp} {v : V} (h : SdE H v) (e : Ex H H') : SdE H' v := by
  obtain ⟨d, h⟩ := h
  exact ⟨d, h.ex e⟩
theorem allE_nil {P : V → Prop} : ∀ x ∈ ([] : List V), P x := fun _ h => nomatch h
theorem allE_cons {P : V → Prop} {y : V} {ys : List V} (h : P y) (k : ∀ x ∈ ys, P x) : ∀ x ∈ y :: ys, P x := fun x hx => by
  rcases List.mem_cons.mp hx with e | e
  · rw [e]; exact h
  · exact k x e
mutual
/-- a thing is one data -/
theorem Rn.det {H : Hp} : ∀ {v : V} {d d' : PyData}, Rn H v d → Rn H v d' → d = d'
  | _, _, _, .non, .non => rfl
  | _, _, _, .bl _, .bl _ => rfl
  | _, _, _, .int _, .int _ => rfl
  | _, _, _, .str _, .str _ => rfl
  | _, _, _, .lst h k, .lst h' k' => by
    rw [h] at h'
    cases h'
    rw [RnA.det k k']
  | _, _, _, .tup h k, .tup h' k' => by
    rw [h] at h'
    cases h'
    rw [RnA.det k k']
  | _, _, _, .dk _, .dk _ => rfl
  | _, _, _, .lst h _, .tup h' _ => by rw [h] at h'; cases h'
  | _, _, _, .lst h _, .dk h' => by rw [h] at h'; cases h'
  | _, _, _, .tup h _, .lst h' _ => by rw [h] at h'; cases h'
  | _, _, _, .tup h _, .dk h' => by rw [h] at h'; cases h'
  | _, _, _, .dk h, .lst h' _ => by rw [h] at h'; cases h'
  | _, _, _, .dk h, .tup h' _ => by rw [h] at h'; cases h'
theorem RnA.det {H : Hp} : ∀ {vs : List V} {ds ds' : List PyData}, RnA H vs ds → RnA H vs ds' → ds = ds'
  | _, _, _, .nil, .nil => rfl
  | _, _, _, .cons h k, .cons h' k' => by rw [Rn.det h h', RnA.det k k']
end
theorem SdE.sd {H : Hp} {v : V} {d : PyData} (h : SdE H v) (r : Rn H v d) : Sd H v d := by
  obtain ⟨d', h⟩ := h
  rw [r.det h.rn]
  exact h
def SmA (H : Hp) (xs : List V) (n k : Nat) : Prop := ∃ ds, RnA H xs ds ∧ PyData.hasDictAll ds = false ∧ okA ds = true ∧ szA ds ≤ n ∧ PyData.depthAll ds ≤ k
section
variable {H : Hp} {v : V} {xs ys : List V} {n m k : Nat}
theorem SmA.of (h : ∀ x ∈ xs, Sm H x n k) (hm : xs.length ≤ m) : SmA H xs (m * n) k := by
  obtain ⟨ds, a, b, c, d, e⟩ := Sm.all h
  exact ⟨ds, a, b, c, Nat.le_trans d (Nat.mul_le_mul_right n hm), e⟩
theorem SmA.up {n' k' : Nat} (h : SmA H xs n k) (h1 : n ≤ n') (h2 : k ≤ k') : SmA H xs n' k' := by
  obtain ⟨ds, a, b, c, d, e⟩ := h
  exact ⟨ds, a, b, c, by omega, by omega⟩
theorem SmA.nil : SmA H [] 0 k := ⟨[], .nil, rfl, rfl, by simp [szA], by simp [PyData.depthAll]⟩
theorem SmA.cons (h : Sm H v n k) (t : SmA H xs m k) : SmA H (v :: xs) (n + m) k := by
  obtain ⟨ds, a, b, c, d, e⟩ := t
  obtain ⟨x, a1, b1, c1, d1, e1⟩ := h
  refine ⟨x :: ds, .cons a1 a, by simp [PyData.hasDictAll, b, b1], by simp [okA, c, c1], ?_, ?_⟩
  · simp only [szA]; omega
  · simp only [PyData.depthAll]; omega
theorem SmA.app : ∀ {xs : List V} {n : Nat}, SmA H xs n k → SmA H ys m k → SmA H (xs ++ ys) (n + m) k
  | [], n, _, t => t.up (by omega) (Nat.le_refl _)
  | x :: xs, n, ⟨ds, a, b, c, d, e⟩, t => by
    cases a with
    | @cons _ _ d0 ds0 a1 a2 =>
      simp only [PyData.hasDictAll, Bool.or_eq_false_iff] at b
      simp only [okA, Bool.and_eq_true] at c
      simp only [szA] at d
      simp only [PyData.depthAll] at e
      have h := SmA.app (xs := xs) ⟨ds0, a2, b.2, c.2, Nat.le_refl _, by omega⟩ t
      exact (SmA.cons (n := szD d0) ⟨d0, a1, b.1, c.1, Nat.le_refl _, by omega⟩ h).up (by omega) (Nat.le_refl _)
theorem SmA.lst {a : Addr} (h : H a = some (.lst xs)) (t : SmA H xs n k) : Sm H (.ref a) (1 + n) (k + 1) := by
  obtain ⟨ds, h1, h2, h3, h4, h5⟩ := t
  exact ⟨.list ds, .lst h h1, by simpa only [PyData.hasDict] using h2, by simpa only [okD] using h3, by simp only [szD]; omega, by simp only [PyData.depth]; omega⟩
theorem SmA.tup {a : Addr} (h : H a = some (.tup xs)) (t : SmA H xs n k) : Sm H (.ref a) (1 + n) (k + 1) := by
  obtain ⟨ds, h1, h2, h3, h4, h5⟩ := t
  exact ⟨.tuple ds, .tup h h1, by simpa only [PyData.hasDict] using h2, by simpa only [okD] using h3, by simp only [szD]; omega, by simp only [PyData.depth]; omega⟩
theorem ObjsAt.mem {ts : List Addr} {os : List HO} (h : ObjsAt H ts os) {a : Addr} (ha : a ∈ ts) : ∃ o ∈ os, H a = some o := by
  obtain ⟨j, hj⟩ := List.getElem?_of_mem ha
  have hl := h.len
  have hjl := (List.getElem?_eq_some_iff.mp hj).1
  obtain ⟨o, ho⟩ : ∃ o, os[j]? = some o := ⟨os[j]'(by omega), List.getElem?_eq_getElem _⟩
  exact ⟨o, List.mem_of_getElem? ho, h.at j a o hj ho⟩
end
theorem Ex.comp {M : Addr → Prop} {H0 H H' : Hp} (e0 : Ex H0 H) (e : Fr M H H') (n : ∀ b, M b → H0 b = none) : Ex H0 H' := fun b o _ q => e b o (fun m => by rw [n b m] at q; cases q) (e0 b o (fun z => z) q)
end Zb
namespace Zb
open PySem PySem.Spec PyProof.Rows L2
mutual
theorem Rq.ex {H H' : Hp} (e : Ex H H') : ∀ {v : V} {d : PyData}, Rq H v d → Rq H' v d
  | _, _, .non => .non
  | _, _, .bl b => .bl b
  | _, _, .int i => .int i
  | _, _, .str x => .str x
  | _, _, .lst h k => .lst (lstAt_ex e h) (RqA.ex e k)
  | _, _, .tup h k => .tup (tupAt_ex e h) (RqA.ex e k)
  | _, _, .dk h k => .dk (e.get h) (RqA.ex e k)
theorem RqA.ex {H H' : Hp} (e : Ex H H') : ∀ {vs : List V} {ds : List PyData}, RqA H vs ds → RqA H' vs ds
  | _, _, .nil => .nil
  | _, _, .cons h k => .cons (Rq.ex e h) (RqA.ex e k)
end
/-- v is d, and is shown by n signs at most, k deep -/
structure Sh (H : Hp) (v : V) (d : PyData) (n k : Nat) : Prop where
  rq : Rq H v d
  sw : d.showable = true
  dp : d.depth ≤ k
  sz : d.shown.length ≤ n
section
variable {H H' : Hp} {v : V} {d : PyData} {n k : Nat} {Q : VK}
theorem Sh.ex (h : Sh H v d n k) (e : Ex H H') : Sh H' v d n k := ⟨h.rq.ex e, h.sw, h.dp, h.sz⟩
theorem Sh.up {n' k' : Nat} (h : Sh H v d n k) (h1 : n ≤ n') (h2 : k ≤ k') : Sh H v d n' k' := ⟨h.rq, h.sw, by have := h.dp; omega, by have := h.sz; omega⟩
theorem Sh.non : Sh H .non .none 4 0 := ⟨.non, rfl, by simp [PyData.depth], by decide⟩
theorem Sh.bl (b : Bool) : Sh H (.bl b) (.bool b) 5 0 := ⟨.bl b, rfl, by simp [PyData.depth], by cases b <;> decide⟩
theorem Sh.str {x : Str} (hx : ∀ c ∈ x.cps.toList, c < 16 ^ 8) : Sh H (.str x) (.str x) (10 * x.length + 2) 0 := ⟨.str x, rfl, by simp [PyData.depth], PySem.StrLaws.reprText_len x hx⟩
theorem Sh.int {i : Int} {m : Nat} (hm : 0 < m) (h : i.natAbs < 10 ^ m) (h2 : i.natAbs.log2 < 1920) : Sh H (.int i) (.int i) (m + 1) 0 := ⟨.int i, by simpa only [PyData.showable, decide_eq_true_eq] using h2, by simp [PyData.depth], by
  have e := int_text_length_le10 hm h
  have e2 : (Str.ofString (toString i)).length = (toString i).length := PySem.ofString_length _
  show (Str.ofString (toString i)).length ≤ _
  omega⟩
/-- rows of shown things -/
inductive ShA (H : Hp) (k : Nat) : List V → List PyData → Nat → Prop
  | nil : ShA H k [] [] 0
  | cons {v : V} {d : PyData} {n : Nat} {vs : List V} {ds : List PyData} {m : Nat} : Sh H v d n k → ShA H k vs ds m → ShA H k (v :: vs) (d :: ds) (n + 2 + m)
theorem ShA.all : ∀ {vs : List V} {ds : List PyData} {m : Nat}, ShA H k vs ds m → RqA H vs ds ∧ PyData.showableAll ds = true ∧ PyData.depthAll ds ≤ k ∧ ((PyData.shownAll ds).map (·.length)).sum + 2 * ds.length ≤ m
  | _, _, _, .nil => ⟨.nil, rfl, by simp [PyData.depthAll], by simp [PyData.shownAll]⟩
  | _, _, _, .cons h t => by
    obtain ⟨a, b, c, e⟩ := ShA.all t
    refine ⟨.cons h.rq a, by simp [PyData.showableAll, h.sw, b], ?_, ?_⟩
    · have := h.dp
      simp only [PyData.depthAll]; omega
    · have := h.sz
      simp only [PyData.shownAll, List.map_cons, List.sum_cons, List.length_cons]; omega
theorem ShA.lst {a : Addr} {xs : List V} {ds : List PyData} (h : H a = some (.lst xs)) (t : ShA H k xs ds n) : Sh H (.ref a) (.list ds) (n + 3) (k + 1) := by
  obtain ⟨r, s, dp, sz⟩ := t.all
  have h2 := listText_len_le (PyData.shownAll ds)
  have h3 := PyData.shownAll_length ds
  exact ⟨.lst (lst_of h) r, by simpa only [PyData.showable] using s, by simp only [PyData.depth]; omega, by simp only [PyData.shown]; omega⟩
theorem ShA.tup {a : Addr} {xs : List V} {ds : List PyData} (h : H a = some (.tup xs)) (t : ShA H k xs ds n) : Sh H (.ref a) (.tuple ds) (n + 3) (k + 1) := by
  obtain ⟨r, s, dp, sz⟩ := t.all
  have h2 := tupleText_len_le (PyData.shownAll ds)
  have h3 := PyData.shownAll_length ds
  exact ⟨.tup (tup_of h) r, by simpa only [PyData.showable] using s, by simp only [PyData.depth]; omega, by simp only [PyData.shown]; omega⟩
theorem ShA.map {α : Type} {val : α → V} {enc : α → PyData} {m : Nat} : ∀ {xs : List α}, (∀ x ∈ xs, Sh H (val x) (enc x) m k) → ShA H k (xs.map val) (xs.map enc) (xs.length * (m + 2))
  | [], _ => by rw [List.length_nil, Nat.zero_mul]; exact .nil
  | x :: xs, h => by
    have := ShA.cons (h x List.mem_cons_self) (ShA.map fun y hy => h y (List.mem_cons_of_mem _ hy))
    rw [List.length_cons, Nat.succ_mul]
    rwa [show xs.length * (m + 2) + (m + 2) = m + 2 + xs.length * (m + 2) by omega]
theorem Sh.dk0 {a : Addr} (h : H a = some (.dK [])) : Sh H (.ref a) (.dict []) 2 1 := ⟨.dk0 h, rfl, by simp [PyData.depth, PyData.depthKv], by decide +kernel⟩
end
def rIsXs (K : PySem.W.Frag) (a : Addr) (cls : Value) (d : Option Addr) : List V → Hp → VK → Prop := fun xs H Q => ∃ (tp : Addr) (cs : List V) (cvs : List Value) (b : Bool) (C dd : Addr) (fs : List (Str × V)), xs = [.ref a, .ref tp] ∧ H tp = some (.tup cs) ∧ (∀ us, Vals cs us → us = cvs) ∧ cls = .ref C ∧ XI K C ∧ d = some dd ∧ H dd = some (.xd fs) ∧ PySem.W.kitAny K (.ref C) cvs = some b ∧ Q (.bl b) H
section
variable {K : PySem.W.Frag} {H : Hp} {Q : VK}
theorem st_isXs2 {a C C1 C2 dd tp : Addr} {fs : List (Str × V)} {b1 b2 : Bool} (T : XI K C) (h1 : H dd = some (.xd fs)) (ht : H tp = some (.tup [.ref C1, .ref C2])) (e1 : PySem.W.kitOne K (.ref C) (.ref C1) = some b1) (e2 : PySem.W.kitOne K (.ref C) (.ref C2) = some b2) (h : Q (.bl (b1 || b2)) H) : rIsXs K a (.ref C) (some dd) [.ref a, .ref tp] H Q := by
  refine ⟨tp, _, [.ref C1, .ref C2], b1 || b2, C, dd, fs, rfl, ht, fun us r => ?_, rfl, T, rfl, h1, ?_, h⟩
  · cases r with
    | cons r1 rr =>
      cases rr with
      | cons r2 rr =>
        cases rr
        cases r1
        cases r2
        rfl
  · unfold PySem.W.kitAny
    rw [e1]
    cases b1 with
    | true => rfl
    | false =>
      show PySem.W.kitAny K _ [.ref C2] = _
      unfold PySem.W.kitAny
      rw [e2]
      cases b2 <;> rfl
end
def hid (p : Addr) (H : Hp) : Hp := fun b => if b = p then none else H b
theorem hid_get {p a : Addr} {H : Hp} {o : HO} (h : H a = some o) (n : a ≠ p) : hid p H a = some o := by
  unfold hid
  rw [if_neg n]
  exact h
theorem hid_ex (p : Addr) (H : Hp) : Ex (hid p H) H := fun b o _ h => by
  unfold hid at h
  split at h
  · cases h
  · exact h
theorem hid_frp {p : Addr} {H H' : Hp} (e : FrP p H H') : Ex (hid p H) (hid p H') := fun b o _ h => by
  unfold hid at h ⊢
  by_cases n : b = p
  · rw [if_pos n] at h; cases h
  · rw [if_neg n] at h ⊢
    exact e b o n h
end Zb
namespace Zb
open PySem PySem.Spec PyProof.Rows L2
section
variable {K : PySem.W.Frag} {H : Hp} {Q : VK}
mutual
theorem eqv_self : ∀ d : PyData, d.hasDict = false → PyData.eqv d d = true
  | .none, _ => rfl
  | .bool b, _ => by simp [PyData.eqv]
  | .int i, _ => by simp [PyData.eqv]
  | .str x, _ => by simp [PyData.eqv]
  | .list ds, h => by
    simp only [PyData.eqv]
    exact eqvAll_self ds (by simpa only [PyData.hasDict] using h)
  | .tuple ds, h => by
    simp only [PyData.eqv]
    exact eqvAll_self ds (by simpa only [PyData.hasDict] using h)
  | .dict kvs, h => by simp [PyData.hasDict] at h
theorem eqvAll_self : ∀ ds : List PyData, PyData.hasDictAll ds = false → PyData.eqvAll ds ds = true
  | [], _ => rfl
  | d :: ds, h => by
    simp only [PyData.hasDictAll, Bool.or_eq_false_iff] at h
    simp only [PyData.eqvAll, eqv_self d h.1, eqvAll_self ds h.2, Bool.and_self]
end
end
end Zb
namespace Zb
open PySem PySem.Spec PyProof.Rows L2
def gSl (to : TE) (tl th : TO) : TG := fun v σ H Q => to σ H fun o H1 => tl σ H1 fun l H2 => th σ H2 fun u H3 => ∃ (p q : Addr) (xs ys : List V) (a c : Int), o = .ref p ∧ v = .ref q ∧ l = some a ∧ u = some c ∧ H3 p = some (.lst xs) ∧ H3 q = some (.lst ys) ∧ p ≠ q ∧ 0 ≤ a ∧ a ≤ c ∧ c ≤ xs.length ∧ xs.length + ys.length ≤ 16777216 ∧ Q σ (upd H3 p (.lst (xs.take a.toNat ++ ys ++ xs.drop c.toNat)))
theorem st_gsl {to : TE} {tl th : TO} {v : V} {σ : L2.St} {H : Hp} {R : L2.St → Hp → Prop} (h : to σ H fun o H1 => tl σ H1 fun l H2 => th σ H2 fun u H3 => ∃ (p q : Addr) (xs ys : List V) (a c : Int), o = .ref p ∧ v = .ref q ∧ l = some a ∧ u = some c ∧ H3 p = some (.lst xs) ∧ H3 q = some (.lst ys) ∧ p ≠ q ∧ 0 ≤ a ∧ a ≤ c ∧ c ≤ xs.length ∧ xs.length + ys.length ≤ 16777216 ∧ R σ (upd H3 p (.lst (xs.take a.toNat ++ ys ++ xs.drop c.toNat)))) : gSl to tl th v σ H R := h
abbrev TRg := L2.St → Hp → (Int → Int → Int → Hp → Prop) → Prop
def PRgC (X : Cx) (e : Expr) (t : TRg) : Prop := ∀ (pins : List (Addr × Obj)) (s : Shared) (σ : L2.St) (H : Hp) (Q : Int → Int → Int → Hp → Prop), Inv X pins σ H s → t σ H Q →
  wpAny (model X.prog X.w) X.A (eval e X.env) (fun x s' => ∃ r a b c t u v H', x = .ref r ∧ IsRange s'.heap r a b c t u v ∧ Inv X pins σ H' s' ∧ Q a b c H') X.xe s
def tRgC (ta : TA) : TRg := fun σ H Q => ta σ H fun vs H1 => match vs with
  | [.int n] => Q 0 n 1 H1
  | [.int i, .int j] => Q i j 1 H1
  | [.int i, .int j, .int c] => c ≠ 0 ∧ c.natAbs < 1073741824 ∧ Q i j c H1
  | _ => False
section
variable {X : Cx}
theorem prgC {es : List Expr} {e : Expr} {ta : TA} {p pos : Pos} (hg : Gl X "range") (hm : X.mg "range" = none) (ha : PA X (e :: es) ta) (hs : starEach (e :: es) X.env = (false, eval e X.env) :: starEach es X.env := by rfl)
    (hpl : (backTo pos (starEach es X.env)).any (·.1) = false := by rfl) : PRgC X (.Call (.Name "range" p) (e :: es) [] pos) (tRgC ta) := by
  intro pins s σ H Q I h
  refine Call_ (ld_blt I hg hm boot_range (PyProof.Rows.callWith_type1 (thn (ha.run pos pins s σ H _ I h) fun us s1 ⟨vs, H1, I1, r1, q1⟩ => ?_) hs hpl))
  dsimp only at q1
  split at q1
  · obtain ⟨u, rfl, t, rfl⟩ := vals1 r1
    exact call_range_1 ⟨_, _, _, _, _, _, _, H1, rfl, IsRange.new _ _ _ _ _ _ _, I1.kept fun _ _ z => Heap.get?_push_of_some _ z, q1⟩
  · obtain ⟨u, w, rfl, ⟨t, rfl⟩, t', rfl⟩ := vals2 r1
    exact call_range_2 ⟨_, _, _, _, _, _, _, H1, rfl, IsRange.new _ _ _ _ _ _ _, I1.kept fun _ _ z => Heap.get?_push_of_some _ z, q1⟩
  · obtain ⟨c0, c1, q1⟩ := q1
    cases r1 with
    | cons r rr =>
      obtain ⟨u, w, rfl, ⟨t1, rfl⟩, t2, rfl⟩ := vals2 rr
      obtain ⟨t, rfl⟩ := r
      exact call_range_3 c0 ⟨_, _, _, _, _, _, _, H1, rfl, IsRange.new _ _ _ _ _ _ _, I1.kept fun _ _ z => Heap.get?_push_of_some _ z, q1⟩ (.inl (PyProof.noPylong_small c1))
  · exact q1.elim
def rgL (a c : Int) (n : Nat) : List Int := (List.range n).map fun i : Nat => a + (i : Int) * c
theorem vals_rgL {a c : Int} {n : Nat} {acc : Array Value} (h : ItemsOf (fun i v => ∃ t, v = .int (a + i * c) t) acc n) : Vals ((rgL a c n).map V.int) acc.toList := by
  have e : acc.toList.length = n := by rw [Array.length_toList]; exact h.1
  unfold rgL
  rw [← e, List.map_map]
  refine vals_of_get acc.toList _ fun j u hj => ?_
  obtain ⟨t, rfl⟩ := h.2 j u (by rw [← hj, Array.getElem?_toList])
  exact ⟨t, rfl⟩
def tListRg (t : TRg) : TE := fun σ H Q => t σ H fun a b c H1 => ∃ n : Nat, Builtin.Range.small a b c = true ∧ Builtin.Range.rangeSize a b c = n ∧ n ≤ 16777216 ∧ ∀ q, H1 q = none → Q (.ref q) (upd H1 q (.lst ((rgL a c n).map V.int)))
theorem pe_listRgC {e : Expr} {t : TRg} {p pos : Pos} (hc : X.calm = true) (hg : Gl X "list") (hm : X.mg "list" = none) (he : PRgC X e t) (na : starEach [e] X.env = (false, eval e X.env) :: starEach [] X.env := by rfl) : PE X (.Call (.Name "list" p) [e] [] pos) (tListRg t) := by
  refine ⟨fun pins s σ H Q I h => ?_⟩
  refine Call_ (ld_blt I hg hm boot_list (PyProof.Rows.callWith_type1 (args_cons (thn (he pins s σ H _ I h) fun x s1 ⟨r, a, b, c, t, u, v, H1, ex, hr, I1, n, o1, o2, o3, q⟩ => args_nil ?_) na) na))
  subst ex
  refine call_list_range (n := n) (I1.ok.hd hc) hr o1 o2 o3 fun h' tk acc c' hk e' hi => ?_
  have hl : ((rgL a c n).map V.int).length ≤ sizeLine := by rw [List.length_map, rgL, List.length_map, List.length_range, sl16]; exact o3
  refine ⟨.ref s1.heap.objs.size, _, I1.laid (t' := tk) hk (Nat.le_refl _) (show ObjOk X.prog X.w _ h' _ (.lst _) from ⟨hl, acc.toList, c', vals_rgL hi, ?_⟩), rfl, q _ (I1.hok.fresh (Nat.le_refl _))⟩
  rw [Array.toArray_toList]
  exact e'
end
section
variable {σ : L2.St} {H : Hp} {Q : VK} {K : PySem.W.Frag}
def RgP (Q : VK) (a b c : Int) (H1 : Hp) : Prop := ∃ n : Nat, Builtin.Range.small a b c = true ∧ Builtin.Range.rangeSize a b c = n ∧ n ≤ 16777216 ∧ ∀ q, H1 q = none → Q (.ref q) (upd H1 q (.lst ((rgL a c n).map V.int)))
theorem st_listRg {t : TRg} (h : t σ H (RgP Q)) : tListRg t σ H Q := h
def RgQ (P : Int → Int → Int → Hp → Prop) (vs : List V) (H1 : Hp) : Prop := match vs with
  | [.int n] => P 0 n 1 H1
  | [.int i, .int j] => P i j 1 H1
  | [.int i, .int j, .int c] => c ≠ 0 ∧ c.natAbs < 1073741824 ∧ P i j c H1
  | _ => False
theorem st_rgC {ta : TA} {P : Int → Int → Int → Hp → Prop} (h : ta σ H (RgQ P)) : tRgC ta σ H P := h
theorem st_rg1 {n : Int} {P : Int → Int → Int → Hp → Prop} (h : P 0 n 1 H) : RgQ P [.int n] H := h
theorem st_rg2 {i j : Int} {P : Int → Int → Int → Hp → Prop} (h : P i j 1 H) : RgQ P [.int i, .int j] H := h
theorem st_rg3 {i j : Int} {P : Int → Int → Int → Hp → Prop} (h : P i j (-1) H) : RgQ P [.int i, .int j, .int (-1)] H := ⟨by decide, by decide, h⟩
theorem st_rgUp {a b : Int} (hz : -1000000 ≤ a ∧ a ≤ 1000000 ∧ -1000000 ≤ b ∧ b ≤ 1000000) (h : ∀ q H', H q = none → Ex H H' → H' q = some (.lst ((rgL a 1 (b - a).toNat).map V.int)) → Q (.ref q) H') : RgP Q a b 1 H :=
  ⟨(b - a).toNat, small_one (by omega) (by omega) (by omega) (by omega), rangeSize_nat a b, by omega, fun q hq => h q _ hq (Fr.new hq) upd_same⟩
theorem st_rgDown {a b : Int} (hz : -1000000 ≤ a ∧ a ≤ 1000000 ∧ -1000000 ≤ b ∧ b ≤ 1000000) (h : ∀ q H', H q = none → Ex H H' → H' q = some (.lst ((rgL a (-1) (a - b).toNat).map V.int)) → Q (.ref q) H') : RgP Q a b (-1) H :=
  ⟨(a - b).toNat, PySem.W.small_down (by omega) (by omega) (by omega) (by omega), PySem.W.rangeSize_downNat a b, by omega, fun q hq => h q _ hq (Fr.new hq) upd_same⟩
end
def iSeq (K : PySem.W.Frag) (tl : TE) : TI := fun σ H R => tl σ H fun x H1 => ∃ a xs, x = .ref a ∧ seqAt H1 a = some xs ∧ ∀ (J : It) (S : Hp → Prop), Runs J xs.length S (fun i x H H' => H' = H ∧ xs[i]? = some x) → (∀ H', H' a = H1 a → S H') → R J H1
theorem lstAt_eq {H H' : Hp} {a : Addr} {xs : List V} (h : lstAt H a = some xs) (e : H' a = H a) : lstAt H' a = some xs := by
  unfold lstAt at h ⊢
  rw [e]
  exact h
theorem tupAt_eq {H H' : Hp} {a : Addr} {xs : List V} (h : tupAt H a = some xs) (e : H' a = H a) : tupAt H' a = some xs := by
  unfold tupAt at h ⊢
  rw [e]
  exact h
theorem pi_seq {X : Cx} {l tg : Expr} {tl : TE} {K : PySem.W.Frag} (hl : PE X l tl) (hK : X.K = K := by rfl) : PI X tg l (iSeq K tl) := by
  subst hK
  refine ⟨fun pins s σ H R I h => ?_⟩
  refine thn (hl.run pins s σ H _ I h) fun v s1 ⟨x, H1, I1, r1, q1⟩ => ?_
  obtain ⟨a, xs, rfl, hq, q⟩ := q1
  cases r1
  have fp : ∀ b ∈ [s1.heap.objs.size], b = s1.heap.objs.size := fun b hb => by simpa using hb
  rcases seqAt_cases hq with hq | hq
  · obtain ⟨its, rv, p, hz⟩ := I1.list (lstAt_sq hq)
    refine wpAny_pyIter_list p.isList ?_
    refine ⟨s1.heap.objs.size, [s1.heap.objs.size], _, _, H1, rfl, I1.kept (t' := s1.toks) fun _ _ e => Heap.get?_push_of_some _ e, turn_list a _, ⟨_, Heap.get?_push_size _ rfl, rfl, rfl⟩, fun b hb => ?_, q _ _ (runs_list X.K a xs) fun H' e => lstAt_eq hq e⟩
    rw [fp b hb]
    exact I1.fpOk (Nat.le_refl _) (I1.hok.fresh (Nat.le_refl _))
  · obtain ⟨its, rv, p, hz⟩ := I1.tuple (tupAt_sq hq)
    refine wpAny_pyIter_tuple (show s1.heap.IsTuple a its.toArray from p) ?_
    refine ⟨s1.heap.objs.size, [s1.heap.objs.size], _, _, H1, rfl, I1.kept (t' := s1.toks) fun _ _ e => Heap.get?_push_of_some _ e, turn_tuple a _, ⟨_, Heap.get?_push_size _ rfl, rfl, rfl⟩, fun b hb => ?_, q _ _ (runs_tup X.K a xs) fun H' e => tupAt_eq hq e⟩
    rw [fp b hb]
    exact I1.fpOk (Nat.le_refl _) (I1.hok.fresh (Nat.le_refl _))
def Itet (K : PySem.W.Frag) (a : Addr) : It :=
  ⟨fun i H => ∃ (xs : List V) (x : V), SqT K H a xs ∧ xs[i]? = some x, fun i H v H' => ∃ T x, v = .ref T ∧ H T = none ∧ H' = upd H T (.tup [.int (i : Nat), x]) ∧ ∀ xs, SqT K H a xs → xs[i]? = some x, fun i H => ∃ xs : List V, SqT K H a xs ∧ xs.length ≤ i⟩
theorem sqT_inj {X : Cx} {pins : List (Addr × Obj)} {σ : L2.St} {H : Hp} {s : Shared} {a : Addr} {xs ys : List V} (I : Inv X pins σ H s) (h1 : SqT X.K H a xs) (h2 : SqT X.K H a ys) : xs = ys := I.tuple_inj h1 h2
theorem turn_enumT {P : Program} {w : World} {K : PySem.W.Frag} {elts : List Expr} {kk : Nat} {tpos : Pos} (a e it : Addr) :
    Turn P w K (.Tuple elts kk tpos) (Itet K a) [e, it] e (fun i h => (∃ old, IsEnum h e it ((i : Nat) : Int) old) ∧ h.IsTupleIter it a i ∧ e ≠ it) where
  mem := by simp
  obj := fun i h st b hb => by
    obtain ⟨⟨old, he⟩, ⟨o, ho, hc, hd⟩, _⟩ := st
    rcases (show b = e ∨ b = it by simpa using hb) with z | z
    · rw [z]; exact ⟨_, he, fun v q => nomatch q⟩
    · rw [z]; exact ⟨o, ho, fun v q => by rw [hd] at q; cases q⟩
  keep := fun i h h' st k => let ⟨⟨old, he⟩, hi, hne⟩ := st; ⟨⟨old, k e (by simp) _ he⟩, hi.at fun _ q => k it (by simp) _ q, hne⟩
  item := by
    intro X hP hw hK hc i pins s σ H E I hf st hg
    subst hP hw hK
    obtain ⟨⟨old, he⟩, hit, hne⟩ := st
    obtain ⟨xs, x, hq, hx⟩ := hg
    obtain ⟨its, rv, p, hz⟩ := I.tuple hq
    obtain ⟨u, hu, ru⟩ := rv.get hx
    have hel : e < s.heap.objs.size := Heap.lt_size he
    have hil : it < s.heap.objs.size := by obtain ⟨_, q, _⟩ := hit; exact Heap.lt_size q
    have hta : a ≠ it := fun z => by
      obtain ⟨o1, g1, c1, _⟩ := hit
      obtain ⟨o2, g2, c2, _⟩ := p
      rw [z] at g2
      rw [g1] at g2
      cases g2
      rw [c1] at c2
      exact absurd c2 (by decide)
    have hte : e ≠ a := fun z => by
      obtain ⟨o2, g2, c2, _⟩ := p
      rw [← z, he] at g2
      cases g2
      exact absurd (show Value.type "enumerate" = Value.type "tuple" from c2) (by decide)
    have D : Draws X.prog X.w X.A.in1 it [it, a] its.toArray.size (fun i v => its.toArray[i]? = some v) (fun i h => h.IsTupleIter it a i ∧ h.IsTuple a its.toArray) := Draws.tuple (A := X.A.in1) (I.ok.hd hc) it a hta its.toArray
    have hlt : i < its.toArray.size := by
      rw [List.size_toArray, ← rv.length]
      exact (List.getElem?_eq_some_iff.mp hx).1
    refine wpAny_pyNext_enum_itemC D he ⟨hit, p⟩ hlt hne (by simp [hne, hte]) fun y h' tk hy ho st2 hT hsz hk => ?_
    have hyu : y = u := by
      have : its.toArray[i]? = some u := by simpa using hu
      rw [this] at hy
      exact (Option.some.inj hy).symm
    subst hyu
    refine ⟨_, rfl, wpAny_letOwnedTupleGo_enum (s := { s with heap := h', toks := tk + 1 }) ho fun h'' he' sb => ?_⟩
    have hT2 : h''.get? s.heap.objs.size = some { cls := .type "tuple", data := .seq #[.int (i : Nat) tk, y] } := (sb.2 _ (Nat.ne_of_gt hel)).trans hT
    have new : ObjOk X.prog X.w (upd H s.heap.objs.size (.tup [.int (i : Nat), x])) h'' s.heap.objs.size (.tup [.int (i : Nat), x]) :=
      ⟨by show 2 ≤ sizeLine; rw [sl16]; decide, [.int (i : Nat) tk, y], .cons ⟨_, rfl⟩ (.cons ru .nil), ⟨_, hT2, rfl, _, rfl⟩⟩
    have I1 : Inv X pins σ (upd H s.heap.objs.size (.tup [.int (i : Nat), x])) { s with heap := h'', toks := tk + 1 } :=
      I.turnedNew (ch := [e, it]) (fun b ob hb q => (sb.2 b (fun z => hb (by simp [z]))).trans (hk b ob (fun z => hb (by simp [z])) (fun z => hb (by simp [z])) q)) hf (Nat.le_refl _) new
    refine ⟨.ref s.heap.objs.size, _, I1, rfl, ⟨_, x, rfl, I.hok.fresh (Nat.le_refl _), rfl, fun ys hy => by rw [sqT_inj I hy hq]; exact hx⟩, ⟨⟨y, ?_⟩, st2.1.at fun o q => (sb.2 it (Ne.symm hne)).trans q, hne⟩, fun b hb => ?_⟩
    · rw [show ((i + 1 : Nat) : Int) = (i : Int) + 1 by omega]; exact he'
    · have hb' : b < s.heap.objs.size := by
        rcases (show b = e ∨ b = it by simpa using hb) with z | z
        · rw [z]; exact hel
        · rw [z]; exact hil
      rw [upd_ne (Nat.ne_of_lt hb')]
      exact (hf b hb).1
  done := by
    intro X hP hw hK hc i pins s σ H E I hf st hg
    subst hP hw hK
    obtain ⟨⟨old, he⟩, hit, hne⟩ := st
    obtain ⟨xs, hq, hx⟩ := hg
    obtain ⟨its, rv, p, hz⟩ := I.tuple hq
    obtain ⟨f0, f1, f2, f3, f4, f5⟩ := hf it (by simp)
    have hl := rv.length
    have hT : s.TypeIs (.ref e) "enumerate" := ⟨_, he, rfl⟩
    unfold pyNext
    refine wpAny_bind (wpAny_attempt (wpAny_callSpecial?_slot (name := Str.ofString "__next__") hT F.slot_enumerate_next (wpAny_call_entry F.slot_enumerate_next hT F.entry_enumerate_next ?_ (F.args_enumerate_next_1 _))))
    show wpAny _ _ (field (.ref e) 2 >>= _) _ _ _
    refine wpAny_bind (wpAny_field he rfl (x := .ref it) rfl ?_)
    refine wpAny_bind (wpAny_nextOf_tuple_end (I.ok.hd hc) hit p (by simp; omega) fun h' x xb hx' => ?_)
    obtain ⟨o, ho, hoc⟩ := hx'
    refine wpAny_bind (wpAny_isInstance (T := "StopIteration") (b := true) ⟨o, ho, hoc⟩ isSubtype_stop ?_)
    exact wpAny_pure ⟨rfl, I.turned (t' := s.toks) (fun b o hb q => xb b o hb q) f0 f1 f3 f4 f5⟩
  self := fun A i s Q E st h => let ⟨⟨_, he⟩, _⟩ := st; wpAny_pyIter_enum he h
theorem meets_enumT (l : Addr) (items : Array Value) (n : Nat) (dct : Option Addr) (sl : Array (Option Value)) :
    Meets (Builtin.«enumerate.__new__» ⟨[.type "enumerate", .ref l], []⟩) (fun _ R s => s.heap.get? l = some { cls := .type "tuple", dict := dct, data := .seq items n, slots := sl } ∧
      R (.ok (.ret (.ref (s.heap.push { cls := .type "tuple_iterator", data := .fields #[.ref l, .int 0 0] }).objs.size)))
        { s with heap := (s.heap.push { cls := .type "tuple_iterator", data := .fields #[.ref l, .int 0 0] }).push { cls := .type "enumerate", data := .fields #[.none, .bool false, .ref s.heap.objs.size, rawInt 0, .none, .none] } }) :=
  .of_wp fun prog w A R s h => by
    obtain ⟨hp, g, d, tk, os⟩ := s
    obtain ⟨hl, h⟩ := h
    have hsub := sub_enumerate
    have hT : Heap.IsTuple (Shared.heap ⟨hp, g, d, tk, os⟩) l items := ⟨_, hl, rfl, n, rfl⟩
    wp_walk using AutoSeq1.wpAny_loadPart' hl
    refine wpAny_stack_any fun st => wpAny_pure ?_
    split
    · rename_i c _ _ _ _ _
      cases (c == Value.type "enumerate")
      · wp_walk using AutoSeq1.wpAny_loadPart' hl, wpAny_pyIter_tuple hT
        exact ⟨_, rfl, h⟩
      · wp_walk using AutoSeq1.wpAny_loadPart' hl, wpAny_pyIter_tuple hT
        exact ⟨_, rfl, h⟩
    · wp_walk using AutoSeq1.wpAny_loadPart' hl, wpAny_pyIter_tuple hT
      exact ⟨_, rfl, h⟩
theorem call_enumT {prog : Program} {w : World} {A : Around} {E : Value → Shared → Prop} {s : Shared} {l : Addr} {items : Array Value} {Q : Value → Shared → Prop} (hL : s.heap.IsTuple l items)
    (h : ∀ h', IsEnum h' (s.heap.objs.size + 1) s.heap.objs.size 0 .none → h'.IsTupleIter s.heap.objs.size l 0 → h'.objs.size = s.heap.objs.size + 2 →
      (∀ b o, s.heap.get? b = some o → h'.get? b = some o) → Q (.ref (s.heap.objs.size + 1)) { s with heap := h' }) : wpAny (model prog w) A (call (.type "enumerate") [.ref l]) Q E s := by
  obtain ⟨⟨c, dct, dt, sl⟩, hl, hc, n, hd⟩ := hL
  replace hc : c = .type "tuple" := hc
  replace hd : dt = .seq items n := hd
  subst hc hd
  obtain ⟨io, hio⟩ : ∃ io : Obj, io = { cls := .type "tuple_iterator", data := .fields #[.ref l, .int 0 0] } := ⟨_, rfl⟩
  obtain ⟨eo, heo⟩ : ∃ eo : Obj, eo = { cls := .type "enumerate", data := .fields #[.none, .bool false, .ref s.heap.objs.size, rawInt 0, .none, .none] } := ⟨_, rfl⟩
  refine callType_new F.called_enumerate (by decide) (F.typeCall_enumerate_1 _) (F.newCall_enumerate_1 _) (fun obj => F.args_object_init_2 obj _) F.entry_enumerate_new (meets_enumT l items n dct sl) ⟨hl, ?_⟩
  rw [← hio, ← heo]
  have hz : (s.heap.push io).objs.size = s.heap.objs.size + 1 := Heap.size_push ..
  show _ ∧ _
  rw [hz]
  have he : IsEnum ((s.heap.push io).push eo) (s.heap.objs.size + 1) s.heap.objs.size 0 .none := by
    have := Heap.get?_push_size (s.heap.push io) (o := eo) (by rw [heo]; rfl)
    rw [hz, heo] at this
    rw [heo]
    exact this
  refine ⟨⟨_, he, rfl⟩, h _ he ⟨_, Heap.get?_push_of_some _ (Heap.get?_push_size _ (by rw [hio]; rfl)), by rw [hio], by rw [hio]; rfl⟩ (by rw [Heap.size_push, hz]) fun b o x => Heap.get?_push_of_some _ (Heap.get?_push_of_some _ x)⟩
theorem runs_enumT (K : PySem.W.Frag) (a : Addr) (xs : List V) : Runs (Itet K a) xs.length (fun H => tupAt H a = some xs) (fun i x H H' => ∃ T v, x = .ref T ∧ H T = none ∧ Ex H H' ∧ H' T = some (.tup [.int (i : Nat), v]) ∧ xs[i]? = some v) :=
  ⟨fun i H h s => ⟨xs, xs[i], tupAt_sq s, by simp [h]⟩, fun _ s => ⟨xs, tupAt_sq s, Nat.le_refl _⟩, fun i H x H' _ s y => by
    obtain ⟨T, v, e1, e2, e3, e4⟩ := y
    subst e3
    exact ⟨T, v, e1, e2, Fr.new e2, upd_same, e4 xs (tupAt_sq s)⟩⟩
/-- enumerate of a list or a tuple -/
def iEnQ (K : PySem.W.Frag) (ta : TA) : TI := fun σ H R => ta σ H fun vs H1 => ∃ a xs, vs = [.ref a] ∧ seqAt H1 a = some xs ∧ ∀ (J : It) (S : Hp → Prop), Runs J xs.length S (fun i x H H' => ∃ T v, x = .ref T ∧ H T = none ∧ Ex H H' ∧ H' T = some (.tup [.int (i : Nat), v]) ∧ xs[i]? = some v) → (∀ H', H' a = H1 a → S H') → R J H1
theorem pi_enumQ {X : Cx} {e : Expr} {ta : TA} {p pos tpos : Pos} {elts : List Expr} {kk : Nat} {K : PySem.W.Frag} (hg : Gl X "enumerate") (hm : X.mg "enumerate" = none) (ha : PA X [e] ta) (hs : starEach [e] X.env = [(false, eval e X.env)] := by rfl) (hK : X.K = K := by rfl) :
    PI X (.Tuple elts kk tpos) (.Call (.Name "enumerate" p) [e] [] pos) (iEnQ K ta) := by
  subst hK
  refine ⟨fun pins s σ H R I h => ?_⟩
  refine Call_ (ld_blt I hg hm boot_enumerate (PyProof.Rows.callWith_type1 (thn (ha.run pos pins s σ H _ I h) fun us s1 ⟨vs, H1, I1, r1, q1⟩ => ?_) hs rfl))
  obtain ⟨a, xs, ex, hq, q⟩ := q1
  subst ex
  obtain ⟨u, rfl, ru⟩ := vals1 r1
  cases ru
  have bnd : ∀ b ∈ [s1.heap.objs.size + 1, s1.heap.objs.size], s1.heap.objs.size ≤ b := fun b hb => by
    rcases (show b = s1.heap.objs.size + 1 ∨ b = s1.heap.objs.size by simpa using hb) with z | z <;> omega
  rcases seqAt_cases hq with hq | hq
  · obtain ⟨its, rv, p', hz⟩ := I1.list (lstAt_sq hq)
    refine call_enumerate_list p'.isList fun h' he hit hsz hk => wpAny_pyIter_enum he ?_
    have I2 : Inv X pins σ H1 { s1 with heap := h' } := I1.kept (t' := s1.toks) hk
    exact ⟨s1.heap.objs.size + 1, [s1.heap.objs.size + 1, s1.heap.objs.size], _, _, H1, rfl, I2, turn_enum a (s1.heap.objs.size + 1) s1.heap.objs.size, ⟨⟨.none, he⟩, hit, Nat.succ_ne_self _⟩, fun b hb => I1.fpOk (bnd b hb) (I1.hok.fresh (bnd b hb)), q _ _ (runs_enum X.K a xs) fun H' e => lstAt_eq hq e⟩
  · obtain ⟨its, rv, p', hz⟩ := I1.tuple (tupAt_sq hq)
    refine call_enumT (show s1.heap.IsTuple a its.toArray from p') fun h' he hit hsz hk => wpAny_pyIter_enum he ?_
    have I2 : Inv X pins σ H1 { s1 with heap := h' } := I1.kept (t' := s1.toks) hk
    exact ⟨s1.heap.objs.size + 1, [s1.heap.objs.size + 1, s1.heap.objs.size], _, _, H1, rfl, I2, turn_enumT a (s1.heap.objs.size + 1) s1.heap.objs.size, ⟨⟨.none, he⟩, hit, Nat.succ_ne_self _⟩, fun b hb => I1.fpOk (bnd b hb) (I1.hok.fresh (bnd b hb)), q _ _ (runs_enumT X.K a xs) fun H' e => tupAt_eq hq e⟩
section
variable {σ : L2.St} {H : Hp} {K : PySem.W.Frag}
theorem st_iSeq {tl : TE} {R : It → Hp → Prop} (h : tl σ H fun x H1 => ∃ a xs, x = .ref a ∧ seqAt H1 a = some xs ∧ ∀ (J : It) (S : Hp → Prop), Runs J xs.length S (fun i x H H' => H' = H ∧ xs[i]? = some x) → (∀ H', H' a = H1 a → S H') → R J H1) : iSeq K tl σ H R := h
theorem st_isSeq {a : Addr} {xs : List V} {R : It → Hp → Prop} (h1 : seqAt H a = some xs) (h : ∀ (J : It) (S : Hp → Prop), Runs J xs.length S (fun i x H H' => H' = H ∧ xs[i]? = some x) → (∀ H', H' a = H a → S H') → R J H) : ∃ a' xs', V.ref a = .ref a' ∧ seqAt H a' = some xs' ∧ ∀ (J : It) (S : Hp → Prop), Runs J xs'.length S (fun i x H H' => H' = H ∧ xs'[i]? = some x) → (∀ H', H' a' = H a' → S H') → R J H := ⟨a, xs, rfl, h1, h⟩
theorem st_iEnQ {ta : TA} {R : It → Hp → Prop} (h : ta σ H fun vs H1 => ∃ a xs, vs = [.ref a] ∧ seqAt H1 a = some xs ∧ ∀ (J : It) (S : Hp → Prop), Runs J xs.length S (fun i x H H' => ∃ T v, x = .ref T ∧ H T = none ∧ Ex H H' ∧ H' T = some (.tup [.int (i : Nat), v]) ∧ xs[i]? = some v) → (∀ H', H' a = H1 a → S H') → R J H1) : iEnQ K ta σ H R := h
theorem st_isEnQ {a : Addr} {xs : List V} {R : It → Hp → Prop} (h1 : seqAt H a = some xs) (h : ∀ (J : It) (S : Hp → Prop), Runs J xs.length S (fun i x H H' => ∃ T v, x = .ref T ∧ H T = none ∧ Ex H H' ∧ H' T = some (.tup [.int (i : Nat), v]) ∧ xs[i]? = some v) → (∀ H', H' a = H a → S H') → R J H) : ∃ a' xs', [V.ref a] = [.ref a'] ∧ seqAt H a' = some xs' ∧ ∀ (J : It) (S : Hp → Prop), Runs J xs'.length S (fun i x H H' => ∃ T v, x = .ref T ∧ H T = none ∧ Ex H H' ∧ H' T = some (.tup [.int (i : Nat), v]) ∧ xs'[i]? = some v) → (∀ H', H' a' = H a' → S H') → R J H := ⟨a, xs, rfl, h1, h⟩
end
def rIsT2 : List V → Hp → VK → Prop := fun vs H Q => ∃ (x : V) (tp : Addr) (n m t : String) (b c : Bool), vs = [x, .ref tp] ∧ H tp = some (.tup [.ty n, .ty m]) ∧ tyN H x = some t ∧ kitB t n = some b ∧ kitB t m = some c ∧ Q (.bl (b || c)) H
theorem kitAny_two {K : PySem.W.Frag} {t n m : String} {b c : Bool} (h1 : kitB t n = some b) (h2 : kitB t m = some c) : PySem.W.kitAny K (.type t) [.type n, .type m] = some (b || c) := by
  refine kitAny_cons (kit_ty h1) (fun hb => ?_) (fun hb => by rw [hb]; rfl)
  refine kitAny_cons (kit_ty h2) (fun hc => ?_) (fun hc => by rw [hc, Bool.or_true])
  rw [hb, hc]
  rfl
theorem c_isT2 {X : Cx} : CallR X (.builtin "isinstance") rIsT2 := by
  intro pins s σ H xs us Q I r h
  obtain ⟨x, tp, n, m, t, b, c, rfl, hT, ht, h1, h2, q⟩ := h
  exact call_isiT pins s σ H _ us Q I r ⟨x, tp, _, _, [.type n, .type m], b || c, rfl, hT, .cons (.ty _) (.cons (.ty _) .nil), tyN_ok ht, kitAny_two h1 h2, q⟩
theorem st_isT2 {H : Hp} {Q : VK} {x : V} {tp : Addr} {n m t : String} {b c : Bool} (hT : H tp = some (.tup [.ty n, .ty m])) (ht : tyN H x = some t) (h1 : kitB t n = some b) (h2 : kitB t m = some c) (h : Q (.bl (b || c)) H) : rIsT2 [x, .ref tp] H Q := ⟨x, tp, n, m, t, b, c, rfl, hT, ht, h1, h2, h⟩
theorem seqAt_eq {H H' : Hp} {a : Addr} {xs : List V} (h : seqAt H a = some xs) (e : H' a = H a) : seqAt H' a = some xs := by
  unfold seqAt at h ⊢
  rw [e]
  exact h
theorem seqAt_ex {H H' : Hp} {a : Addr} {xs : List V} (e : Ex H H') (h : seqAt H a = some xs) : seqAt H' a = some xs := by
  cases q : H a with
  | none => unfold seqAt at h; rw [q] at h; cases h
  | some o => exact seqAt_eq h (by rw [e a o (fun z => z) q, q])
theorem seqAt_same {H H' : Hp} {a : Addr} {xs : List V} (e : Ex H H') (h : seqAt H a = some xs) : H' a = H a := by
  cases q : H a with
  | none => unfold seqAt at h; rw [q] at h; cases h
  | some o => exact e a o (fun z => z) q
theorem seqAt_same' {M : Addr → Prop} {H H' : Hp} {a : Addr} {xs : List V} (e : Fr M H H') (n : ¬ M a) (h : seqAt H a = some xs) : H' a = H a := by
  cases q : H a with
  | none => unfold seqAt at h; rw [q] at h; cases h
  | some o => exact e a o n q
theorem st_isLT {H : Hp} {Q : VK} {x : V} {d : PyData} {tp : Addr} (h1 : Rq H x d) (hT : H tp = some (.tup [.ty "list", .ty "tuple"])) (h : Q (.bl (isListD d || isTupD d)) H) : rIsT2 [x, .ref tp] H Q := by
  obtain ⟨a1, a2, a3, a4, a5, a6, a7⟩ := kb_list
  obtain ⟨b1, b2, b3, b4, b5, b6, b7⟩ := kb_tup
  refine st_isT2 hT h1.tyn (b := isListD d) (c := isTupD d) ?_ ?_ h
  all_goals (cases d <;> assumption)
theorem Rn.seq {H : Hp} {x : V} {d : PyData} (h : Rn H x d) (hd : (isListD d || isTupD d) = true) : ∃ a xs ds, x = .ref a ∧ seqAt H a = some xs ∧ RnA H xs ds ∧ (d = .list ds ∨ d = .tuple ds) := by
  cases h with
  | lst h k => exact ⟨_, _, _, rfl, seq_l h, k, .inl rfl⟩
  | tup h k => exact ⟨_, _, _, rfl, seq_t h, k, .inr rfl⟩
  | _ => cases hd
def rDivW : R2 := fun x y H Q => match x, y with
  | .int i, .int j => 0 < j ∧ j < 1267650600228229401496703205376 ∧ Q (.int (i / j)) H
  | _, _ => False
theorem st_divW {H : Hp} {Q : VK} {i j : Int} (hc : 0 < j ∧ j < 1267650600228229401496703205376) (h : Q (.int (i / j)) H) : rDivW (.int i) (.int j) H Q := ⟨hc.1, hc.2, h⟩
section
variable {K : PySem.W.Frag} {H : Hp} {Q : VK}
theorem s_slA {X : Cx} (hK : X.K = K := by rfl) : SlR X (rSlA K) := by
  subst hK
  exact sl_tupA
theorem st_slA {a : Addr} {xs : List V} {lo hi : Option Int} (h1 : tupAt H a = some xs) (hw : ¬ (HT.sIx xs.length 0 lo = 0 ∧ HT.sIx xs.length xs.length hi = xs.length)) (h : ∀ q H', H q = none → Ex H H' → H' q = some (.tup (cutV xs lo hi)) → Q (.ref q) H') : rSlA K (.ref a) lo hi H Q :=
  ⟨a, xs, rfl, tupAt_sq h1, fun z => absurd z hw, fun _ q hq => h q _ hq (Fr.new hq) upd_same⟩
end
end Zb
namespace Zb
open PySem PySem.Spec PyProof.Rows L2
theorem rv_of {α : Type} {J : It} {S : Hp → Prop} {ys : List α} {val : α → V} (h : Runs J (ys.map val).length S (fun i x H H' => H' = H ∧ (ys.map val)[i]? = some x)) : RunsV J ys val S := by
  rw [List.length_map] at h
  refine ⟨h.go, h.stop, fun i H x H' hi s y => ?_⟩
  obtain ⟨e1, e2⟩ := h.yld i H x H' hi s y
  rw [List.getElem?_map] at e2
  cases q : ys[i]? with
  | none => rw [q] at e2; cases e2
  | some z =>
    rw [q] at e2
    exact ⟨e1, z, rfl, (Option.some.inj e2).symm⟩
/-- a comprehension, turn by turn, no test -/
theorem lc_turns {J : It} {S : Hp → Prop} {item : Nat → V → Hp → Hp → Prop} {g : TG} {σ : L2.St} {H1 : Hp} {te : TE} {vs : List Nat} {Q : VK} {n : Nat} (hR : Runs J n S item) (hE : ∀ i x H H', item i x H H' → Ex H H') (hS : ∀ H', Ex H1 H' → S H') (hz : n < 1000000) (f : Nat → V)
    (hs : ∀ i x H' H'', i < n → Ex H1 H' → item i x H' H'' → ∀ (B : V → Hp → Prop), (∀ H3, Ex H'' H3 → B (f i) H3) → g x (wipe σ vs) H'' fun σ2 H2 => wipe σ2 vs = wipe σ vs ∧ te σ2 H2 B)
    (hd : ∀ D H', H1 D = none → Ex H1 H' → H' D = some (.lst ((List.range n).map f)) → Q (.ref D) H')
    (hg : ∀ v σ H (P P' : L2.St → Hp → Prop), (∀ σ H, P σ H → P' σ H) → g v σ H P → g v σ H P' := by intro _ _ _ _ _ k h; exact k _ _ h) : LcGoal J g tYes te vs σ Q H1 := by
  refine lc_runs hR (fun _ => False) (fun i acc _ => acc = (List.range i).map f) (fun _ z => z.elim) rfl (fun i acc H' D o _ _ e => e) (fun i acc H' e _ => hS H' e) ?_ ?_
  · rintro D i acc x H' H'' hi L rfl hx
    have e := hE _ _ _ _ hx
    refine hg _ _ _ _ _ (fun σ2 H2 h => ⟨h.1, h.2⟩) (hs i x H' H'' hi L.fr hx (fun v H4 => ∃ acc, H4 D = some (.lst acc) ∧ acc.length < sizeLine ∧ LcW (fun _ => False) H1 (fun i acc _ => acc = (List.range i).map f) D (i + 1) (upd H4 D (.lst (acc ++ [v])))) fun H3 e3 => ?_)
    refine lc_yes L (fun i acc H' D o _ _ e => e) (e.trans e3) (by rw [List.length_map, List.length_range]; omega) ?_
    rw [List.range_succ, List.map_append]
    rfl
  · rintro D acc H' hD e h rfl
    exact hd D H' hD e h
theorem gTup_mono {K : PySem.W.Frag} {n i j : Nat} : ∀ v σ H (P P' : L2.St → Hp → Prop), (∀ σ H, P σ H → P' σ H) → gTup K n (gCons (gName i) (gCons (gName j) gNil)) v σ H P → gTup K n (gCons (gName i) (gCons (gName j) gNil)) v σ H P' := by
  intro v σ H P P' k h
  obtain ⟨a, xs, h1, h2, h3, v1, r1, e1, v2, r2, e2, e3, h4⟩ := h
  exact ⟨a, xs, h1, h2, h3, v1, r1, e1, v2, r2, e2, e3, k _ _ h4⟩
/-- tuples of like things: the very same ones, or data that are alike -/
inductive Lk (H : Hp) : V → V → Prop
  | same (a : Addr) : Lk H (.ref a) (.ref a)
  | dat {x y : V} {d e : PyData} : Rp H x d → Rp H y e → min d.depth e.depth ≤ 60 → PyData.eqv d e = true → Lk H x y
section
variable {K : PySem.W.Frag} {H : Hp} {Q : VK}
theorem Lk.str (z : Str) : Lk H (.str z) (.str z) := .dat (.str z) (.str z) (by simp [PyData.depth]) (by rw [eqv_str]; exact decide_eq_true rfl)
theorem Lk.bl (z : Bool) : Lk H (.bl z) (.bl z) := .dat (.bl z) (.bl z) (by simp [PyData.depth]) (by cases z <;> rfl)
theorem Lk.int (z : Int) : Lk H (.int z) (.int z) := .dat (.int z) (.int z) (by simp [PyData.depth]) (by rw [eqv_int]; exact decide_eq_true rfl)
theorem st_dinU {ty td : TE} {σ : L2.St} (h : ty σ H fun y H1 => td σ H1 fun x H2 => ∃ a o, x = .ref a ∧ DGet H2 a y o ∧ Q (.bl o.isSome) H2) : tDIn ty td σ H Q := h
theorem st_dninU {ty td : TE} {σ : L2.St} (h : ty σ H fun y H1 => td σ H1 fun x H2 => ∃ a o, x = .ref a ∧ DGet H2 a y o ∧ Q (.bl (!o.isSome)) H2) : tDNotIn ty td σ H Q := h
theorem st_dputU {td ty tv : TE} {D : Ends} {σ : L2.St} (h : tv σ H fun v H1 => td σ H1 fun x H2 => ty σ H2 fun y H3 => ∃ a H4, x = .ref a ∧ DPut H3 a y v H4 ∧ D.nx σ H4) : sDPut td ty tv D σ H := h
theorem st_dnewT {σ : L2.St} (h : ∀ p H', H p = none → Ex H H' → H' p = some (.dT []) → Q (.ref p) H') : tDNewT σ H Q := fun p hp => h p _ hp (Fr.new hp) upd_same
end
end Zb
namespace Zb
open PySem PySem.Spec PyProof.Rows L2
/-- a method of the class cls -/
structure Dm (K : PySem.W.Frag) (cls m qual : Str) (st : Stmt) (ps : List Str) (f : Addr) (fd : FuncData) : Prop where
  g : Meth K (clsA K cls) m f
  F : Fun K m qual st f fd
  b : Binds K fd ps []
theorem dm_mk {K : PySem.W.Frag} {cls m qual : Str} {st : Stmt} {ps : List Str} {f : Addr} {oc : Value} {od an : Option Addr} {osl : Array (Option Value)} {kV dc pm cd ct : Value}
    (a : PySem.W.findIn K (.ref (clsA K cls)) m = some (some (.ref f))) (i : PySem.W.isFn K (.ref f) = true) (l : K.lookup f = some ⟨oc, od, .func (PySem.W.fnOf m qual (defArgs st) (defBody st) (defScope st) .none kV dc pm an cd ct), osl⟩) (c : PySem.W.codeIn K cd qual = true) (k : PySem.W.keepIn K (.ref f) = true)
    (hb : ∀ (kV doc pm : Value) (an : Option Addr) (cdv ct : Value) (us : List Value), us.length = ps.length → bindArgs (PySem.W.fnOf m qual (defArgs st) (defBody st) (defScope st) .none kV doc pm an cdv ct) ⟨us, []⟩ = pure (ps.zip us)) :
    Dm K cls m qual st ps f (PySem.W.fnOf m qual (defArgs st) (defBody st) (defScope st) .none kV dc pm an cd ct) :=
  have F := fun_mk (st := st) l c k
  ⟨⟨a, i, k⟩, F, F.binds hb⟩
section
variable {X : Cx} {K : PySem.W.Frag} {e o value : Expr} {f : Str} {pos pos' : Pos} {ta tv : TE}
theorem pe_fldK (he : PE X e ta) (hb : attributeBase e f X.env (eval e X.env) = eval e X.env) (hK : X.K = K := by rfl) : PE X (.Attribute e f pos) (tFld K ta f) := by subst hK; exact pe_fld he hb
theorem ps_fldK (ha : PE X o ta) (hv : PE X value tv) (hs : swapsWith value (some (.Attribute o f pos')) pos.line X.env = pure false) (hK : X.K = K := by rfl) : PS X (.Assign [.Attribute o f pos'] value pos) (sFld K ta tv f) := by subst hK; exact ps_fld ha hv hs
end
section
variable {K : PySem.W.Frag} {σ : L2.St} {H : Hp} {Q : VK} {D : Ends} {C : Addr}
def FldP (K : PySem.W.Frag) (f : Str) (Q : VK) (x : V) (H1 : Hp) : Prop := ∃ a C dx fs v, x = .ref a ∧ H1 a = some (.ins C dx fs) ∧ Cls K C ∧ NoAttr K C f ∧ fs.lookup f = some v ∧ Q v H1
theorem st_fld {ta : TE} {f : Str} (h : ta σ H (FldP K f Q)) : tFld K ta f σ H Q := h
theorem st_fldP {f : Str} {a dx : Addr} {fs : List (Str × V)} {v : V} (h1 : H a = some (.ins C dx fs)) (c : Cls K C) (n : NoAttr K C f) (l : fs.lookup f = some v) (h : Q v H) : FldP K f Q (.ref a) H := ⟨a, C, dx, fs, v, rfl, h1, c, n, l, h⟩
def FldS (K : PySem.W.Frag) (f : Str) (y : V) (P : Hp → Prop) (x : V) (H2 : Hp) : Prop := ∃ a C dx fs, x = .ref a ∧ H2 a = some (.ins C dx fs) ∧ Cls K C ∧ NoAttr K C f ∧ fs.length < 1000 ∧ P (upd H2 a (.ins C dx (putF f y fs)))
theorem st_fldS {ta tv : TE} {f : Str} (h : tv σ H fun y H1 => ta σ H1 (FldS K f y (D.nx σ))) : sFld K ta tv f D σ H := h
theorem st_fldSP {f : Str} {y : V} {P : Hp → Prop} {a dx : Addr} {fs : List (Str × V)} (h1 : H a = some (.ins C dx fs)) (c : Cls K C) (n : NoAttr K C f) (l : fs.length < 1000) (h : P (upd H a (.ins C dx (putF f y fs)))) : FldS K f y P (.ref a) H := ⟨a, C, dx, fs, rfl, h1, c, n, l, h⟩
theorem putF_nil {f : Str} {y : V} : putF f y [] = [(f, y)] := rfl
theorem putF_ne {f g : Str} {y v : V} {r : List (Str × V)} (h : ¬ g = f) : putF f y ((g, v) :: r) = (g, v) :: putF f y r := by
  show (if g = f then _ else _) = _
  rw [if_neg h]
def MethP (C : Addr) (m : Str) (sp : Sp) (dvs : List V) (E : XK) (t : TA) (σ : L2.St) (Q : VK) (x : V) (H1 : Hp) : Prop := ∃ a dx fs, x = .ref a ∧ H1 a = some (.ins C dx fs) ∧ fs.lookup m = none ∧ t σ H1 fun vs H2 => sp (x :: (vs ++ dvs)) H2 Q E
theorem st_meth {m : Str} {sp : Sp} {dvs : List V} {E : XK} {ta : TE} {t : TA} (h : ta σ H (MethP C m sp dvs E t σ Q)) : tMeth C m sp dvs E ta t σ H Q := h
theorem st_methP {m : Str} {sp : Sp} {dvs : List V} {E : XK} {t : TA} {a dx : Addr} {fs : List (Str × V)} (h1 : H a = some (.ins C dx fs)) (l : fs.lookup m = none) (h : t σ H fun vs H2 => sp (.ref a :: (vs ++ dvs)) H2 Q E) : MethP C m sp dvs E t σ Q (.ref a) H := ⟨a, dx, fs, rfl, h1, l, h⟩
def MakeP (C : Addr) (sp : Sp) (dvs : List V) (E : XK) (Q : VK) (vs : List V) (H1 : Hp) : Prop := ∀ x dx, H1 x = none → H1 dx = none → dx ≠ x → sp (.ref x :: (vs ++ dvs)) (upd (upd H1 dx (.own x)) x (.ins C dx [])) (fun v H2 => v = .non ∧ Q (.ref x) H2) E
theorem st_make {sp : Sp} {dvs : List V} {E : XK} {t : TA} (h : t σ H (MakeP C sp dvs E Q)) : tMake C sp dvs E t σ H Q := h
theorem st_makeP {sp : Sp} {dvs : List V} {E : XK} {vs : List V} (h : ∀ x dx H', H x = none → Ex H H' → H' x = some (.ins C dx []) → sp (.ref x :: (vs ++ dvs)) H' (fun v H2 => v = .non ∧ Q (.ref x) H2) E) : MakeP C sp dvs E Q vs H := fun x dx nx nd ne =>
  h x dx _ nx ((Fr.new nd).trans (Fr.new (by rw [upd_ne (Ne.symm ne)]; exact nx))) upd_same
end
/-- a comprehension whose items are new objects of which something is told -/
theorem lc_mk {J : It} {S : Hp → Prop} {item : Nat → V → Hp → Hp → Prop} {g : TG} {σ : L2.St} {H1 : Hp} {te : TE} {vs : List Nat} {Q : VK} {n : Nat} (hR : Runs J n S item) (hE : ∀ i x H H', item i x H H' → Ex H H') (hS : ∀ H', Ex H1 H' → S H') (hz : n < 1000000) (R : Nat → HO → Prop)
    (hs : ∀ i x H' H'', i < n → Ex H1 H' → item i x H' H'' → ∀ (B : V → Hp → Prop), (∀ a H3 o, H'' a = none → Ex H'' H3 → H3 a = some o → R i o → B (.ref a) H3) → g x (wipe σ vs) H'' fun σ2 H2 => wipe σ2 vs = wipe σ vs ∧ te σ2 H2 B)
    (hd : ∀ D H' ts os, H1 D = none → Ex H1 H' → H' D = some (.lst (ts.map V.ref)) → ObjsAt H' ts os → os.length = n → (∀ i o, os[i]? = some o → R i o) → D ∉ ts → (∀ a ∈ ts, H1 a = none) → Q (.ref D) H')
    (hg : ∀ v σ H (P P' : L2.St → Hp → Prop), (∀ σ H, P σ H → P' σ H) → g v σ H P → g v σ H P' := by intro _ _ _ _ _ k h; exact k _ _ h) : LcGoal J g tYes te vs σ Q H1 := by
  intro D hD
  let W : Nat → Hp → Prop := fun i H => ∃ (ts : List Addr) (os : List HO), H D = some (.lst (ts.map V.ref)) ∧ Ex H1 H ∧ ObjsAt H ts os ∧ os.length = i ∧ (∀ j o, os[j]? = some o → R j o) ∧ D ∉ ts ∧ ∀ a ∈ ts, H1 a = none
  refine ⟨fun i m H => m = n - i ∧ i ≤ n ∧ W i H, ⟨n, by simp, Nat.zero_le _, [], [], upd_same, Fr.new hD, .nil, rfl, by simp, by simp, by simp⟩, ?_⟩
  rintro i m H ⟨rfl, hi, ts, os, h1, h2, h3, h4, h5, h6, h7⟩
  by_cases hlt : i < n
  · refine .inr ⟨hR.go i H hlt (hS H h2), W (i + 1), fun H' p' => ⟨n - (i + 1), by omega, rfl, hlt, p'⟩, fun x H' y => ?_⟩
    have hx := hR.yld i H x H' hlt (hS H h2) y
    have e := hE _ _ _ _ hx
    refine hg _ _ _ _ _ (fun σ2 H2 h => ⟨h.1, h.2⟩) (hs i x H H' hlt h2 hx (fun v H4 => ∃ acc, H4 D = some (.lst acc) ∧ acc.length < sizeLine ∧ W (i + 1) (upd H4 D (.lst (acc ++ [v])))) ?_)
    intro a H3 o ha e3 hv hr
    have h1' := e.get h1
    have hDa : a ≠ D := fun z => by rw [z, h1'] at ha; cases ha
    have haN : a ∉ ts := fun z => by
      obtain ⟨k, hk⟩ := List.getElem?_of_mem z
      have hk2 : k < os.length := by
        rw [← h3.len]; exact (List.getElem?_eq_some_iff.mp hk).1
      have := e.get (h3.at k a _ hk (List.getElem?_eq_getElem hk2))
      rw [this] at ha
      cases ha
    refine ⟨ts.map V.ref, e3.get h1', by rw [List.length_map, h3.len, sl16]; omega, ts ++ [a], os ++ [o], by rw [upd_same, List.map_append]; rfl, ((h2.trans e).trans e3).mut hD, ?_, by rw [List.length_append, h4]; rfl, ?_, ?_, ?_⟩
    · refine .up ?_ (((h3.ex e).ex e3).app (.one hv))
      rw [List.mem_append, List.mem_singleton]
      rintro (z | z)
      · exact h6 z
      · exact hDa z.symm
    · intro j o' ho
      by_cases hj : j < os.length
      · rw [List.getElem?_append_left hj] at ho
        exact h5 j o' ho
      · rw [List.getElem?_append_right (by omega)] at ho
        have hj0 : j - os.length = 0 := by
          have := (List.getElem?_eq_some_iff.mp ho).1
          rw [List.length_singleton] at this
          omega
        rw [hj0] at ho
        cases ho
        rw [show j = i by omega]
        exact hr
    · rw [List.mem_append, List.mem_singleton]
      rintro (z | z)
      · exact h6 z
      · exact hDa z.symm
    · intro b hb
      rcases List.mem_append.mp hb with h | h
      · exact h7 b h
      · rw [List.mem_singleton.mp h]; exact Ex.free (h2.trans e) ha
  · have e : i = n := by omega
    subst e
    exact .inl ⟨hR.stop H (hS H h2), hd D H ts os hD h2 h1 h3 h4 h5 h6 h7⟩
theorem objs_choose {α : Type} {f : α → HO} {P : Nat → α → Prop} : ∀ {os : List HO}, (∀ i o, os[i]? = some o → ∃ c, o = f c ∧ P i c) → ∃ cs : List α, os = cs.map f ∧ ∀ i c, cs[i]? = some c → P i c := by
  intro os
  induction os using snoc_ind with
  | h0 => intro _; exact ⟨[], rfl, by simp⟩
  | hs l a ih =>
    intro h
    obtain ⟨cs, h1, h2⟩ := ih fun i o ho => h i o (by rw [List.getElem?_append_left (List.getElem?_eq_some_iff.mp ho).1]; exact ho)
    obtain ⟨c, h3, h4⟩ := h l.length a (by rw [List.getElem?_append_right (Nat.le_refl _), Nat.sub_self]; rfl)
    have hl : l.length = cs.length := by rw [h1, List.length_map]
    refine ⟨cs ++ [c], by rw [h1, h3, List.map_append]; rfl, fun i d hd => ?_⟩
    by_cases hi : i < cs.length
    · rw [List.getElem?_append_left hi] at hd
      exact h2 i d hd
    · rw [List.getElem?_append_right (by omega)] at hd
      have hi0 : i - cs.length = 0 := by
        have := (List.getElem?_eq_some_iff.mp hd).1
        rw [List.length_singleton] at this
        omega
      rw [hi0] at hd
      cases hd
      rw [show i = l.length by omega]
      exact h4
theorem evL_len {α : Type} : ∀ xs : List α, (evL xs).length = (xs.length + 1) / 2
  | [] => by simp [evL]
  | [_] => by simp [evL]
  | a :: b :: r => by
    show (evL r).length + 1 = (r.length + 2 + 1) / 2
    rw [evL_len r]
    omega
theorem odL_len {α : Type} : ∀ xs : List α, (odL xs).length = xs.length / 2
  | [] => by simp [odL]
  | [_] => by simp [odL]
  | a :: b :: r => by
    show (odL r).length + 1 = (r.length + 2) / 2
    rw [odL_len r]
    omega
/-- what is new in H' -/
def newO (H H' : Hp) : Hp := fun b => if H b = none then H' b else none
theorem newO_get {H H' : Hp} {a : Addr} {o : HO} (h : H' a = some o) (n : H a = none) : newO H H' a = some o := by
  unfold newO
  rw [if_pos n]
  exact h
theorem newO_is {H H' : Hp} {a : Addr} {o : HO} (h : newO H H' a = some o) : H a = none ∧ H' a = some o := by
  unfold newO at h
  by_cases n : H a = none
  · rw [if_pos n] at h; exact ⟨n, h⟩
  · rw [if_neg n] at h; cases h
theorem newO_ex (H H' : Hp) : Ex (newO H H') H' := fun _ _ _ h => (newO_is h).2
theorem newO_mono {H H' H'' : Hp} (e : Ex H' H'') : Ex (newO H H') (newO H H'') := fun b o _ h => newO_get (e.get (newO_is h).2) (newO_is h).1
/-- an old place is changed, a new thing stands -/
theorem newO_fr {H H' G : Hp} (h : ∀ b o, H b = none → H' b = some o → G b = some o) : Ex (newO H H') G := fun b o _ q => h b o (newO_is q).1 (newO_is q).2
theorem objs_in {H G : Hp} : ∀ {ts : List Addr} {os : List HO}, (∀ a ∈ ts, ∀ o, H a = some o → G a = some o) → ObjsAt H ts os → ObjsAt G ts os
  | _, _, _, .nil => .nil
  | _, _, hm, .cons h r => .cons (hm _ List.mem_cons_self _ h) (objs_in (fun a ha => hm a (List.mem_cons_of_mem _ ha)) r)
/-- a comprehension of which something is told item by item -/
theorem lc_rel {J : It} {S : Hp → Prop} {item : Nat → V → Hp → Hp → Prop} {g : TG} {σ : L2.St} {H1 : Hp} {te : TE} {vs : List Nat} {Q : VK} {n : Nat} (hR : Runs J n S item) (hE : ∀ i x H H', item i x H H' → Ex H H') (hS : ∀ H', Ex H1 H' → S H') (hz : n < 1000000) (R : Nat → V → Prop)
    (hs : ∀ i x H' H'', i < n → Ex H1 H' → item i x H' H'' → ∀ (B : V → Hp → Prop), (∀ v H3, R i v → Ex H'' H3 → B v H3) → g x (wipe σ vs) H'' fun σ2 H2 => wipe σ2 vs = wipe σ vs ∧ te σ2 H2 B)
    (hd : ∀ D H' acc, H1 D = none → Ex H1 H' → H' D = some (.lst acc) → acc.length = n → (∀ i v, acc[i]? = some v → R i v) → Q (.ref D) H')
    (hg : ∀ v σ H (P P' : L2.St → Hp → Prop), (∀ σ H, P σ H → P' σ H) → g v σ H P → g v σ H P' := by intro _ _ _ _ _ k h; exact k _ _ h) : LcGoal J g tYes te vs σ Q H1 := by
  refine lc_runs hR (fun _ => False) (fun i acc _ => acc.length = i ∧ ∀ j v, acc[j]? = some v → R j v) (fun _ z => z.elim) ⟨rfl, by simp⟩ (fun i acc H' D o _ _ e => e) (fun i acc H' e _ => hS H' e) ?_ ?_
  · rintro D i acc x H' H'' hi L ⟨hl, hacc⟩ hx
    have e := hE _ _ _ _ hx
    refine hg _ _ _ _ _ (fun σ2 H2 h => ⟨h.1, h.2⟩) (hs i x H' H'' hi L.fr hx (fun v H4 => ∃ acc, H4 D = some (.lst acc) ∧ acc.length < sizeLine ∧ LcW (fun _ => False) H1 (fun i acc _ => acc.length = i ∧ ∀ j v, acc[j]? = some v → R j v) D (i + 1) (upd H4 D (.lst (acc ++ [v])))) fun v H3 hr e3 => ?_)
    refine lc_yes L (fun i acc H' D o _ _ e => e) (e.trans e3) (by omega) ⟨by rw [List.length_append, hl]; rfl, fun j w hw => ?_⟩
    by_cases hj : j < acc.length
    · rw [List.getElem?_append_left hj] at hw
      exact hacc j w hw
    · rw [List.getElem?_append_right (by omega)] at hw
      have hj0 : j - acc.length = 0 := by
        have := (List.getElem?_eq_some_iff.mp hw).1
        rw [List.length_singleton] at this
        omega
      rw [hj0] at hw
      cases hw
      rw [show j = i by omega]
      exact hr
  · rintro D acc H' hD e h ⟨hl, hacc⟩
    exact hd D H' acc hD e h hl hacc
end Zb
namespace Zb
open PySem PySem.Spec PyProof.Rows L2
end Zb
namespace Zb
open PySem PySem.Spec PyProof.Rows L2
open Evl (tCut pss_cut)
/-- an exception of the class cls, its dict at d, kept at a -/
def XkO (a : Addr) (cls : Value) (d : Option Addr) : HO := .ext fun h => ∃ (oe : Obj) (vs : Array Value), h.get? a = some oe ∧ Zc cls d oe ∧ oe.data = .fields vs
def XkP (K : PySem.W.Frag) (n : Str) (Q : VK) : VK := fun x H1 => ∃ (a C dd : Addr) (fs : List (Str × V)) (v : V), x = .ref a ∧ H1 a = some (XkO a (.ref C) (some dd)) ∧ XI K C ∧ PySem.W.findIn K (.ref C) n = some none ∧ H1 dd = some (.xd fs) ∧ fs.lookup n = some v ∧ Q v H1
def tXk (K : PySem.W.Frag) (n : Str) (te : TE) : TE := fun σ H Q => te σ H (XkP K n Q)
section
variable {X : Cx} {K : PySem.W.Frag}
/-- isinstance(e, C), isinstance(e, (C1, ..)), e a kept exception -/
def rIsK (K : PySem.W.Frag) : List V → Hp → VK → Prop := fun xs H Q => ∃ (a : Addr) (c : V) (cv : Value) (b : Bool) (C dd : Addr) (fs : List (Str × V)), xs = [.ref a, c] ∧ H a = some (XkO a (.ref C) (some dd)) ∧ (∀ u, RelV c u → u = cv) ∧ XI K C ∧ H dd = some (.xd fs) ∧ PySem.W.kitOne K (.ref C) cv = some b ∧ Q (.bl b) H
def rIsKs (K : PySem.W.Frag) : List V → Hp → VK → Prop := fun xs H Q => ∃ (a tp : Addr) (cs : List V) (cvs : List Value) (b : Bool) (C dd : Addr) (fs : List (Str × V)), xs = [.ref a, .ref tp] ∧ H a = some (XkO a (.ref C) (some dd)) ∧ H tp = some (.tup cs) ∧ (∀ us, Vals cs us → us = cvs) ∧ XI K C ∧ H dd = some (.xd fs) ∧ PySem.W.kitAny K (.ref C) cvs = some b ∧ Q (.bl b) H
end
section
variable {K : PySem.W.Frag} {σ : L2.St} {H : Hp} {Q : VK}
theorem st_xk {n : Str} {te : TE} (h : te σ H (XkP K n Q)) : tXk K n te σ H Q := h
theorem st_xkP {a C dd : Addr} {n : Str} {fs : List (Str × V)} {v : V} (h0 : H a = some (XkO a (.ref C) (some dd))) (T : XI K C) (hno : PySem.W.findIn K (.ref C) n = some none) (h1 : H dd = some (.xd fs)) (h2 : fs.lookup n = some v) (h : Q v H) : XkP K n Q (.ref a) H := ⟨a, C, dd, fs, v, rfl, h0, T, hno, h1, h2, h⟩
theorem st_isK {a C C' dd : Addr} {fs : List (Str × V)} {b : Bool} (h0 : H a = some (XkO a (.ref C) (some dd))) (T : XI K C) (h1 : H dd = some (.xd fs)) (e : PySem.W.kitOne K (.ref C) (.ref C') = some b) (h : Q (.bl b) H) : rIsK K [.ref a, .ref C'] H Q :=
  ⟨a, .ref C', .ref C', b, C, dd, fs, rfl, h0, fun u r => by cases r; rfl, T, h1, e, h⟩
theorem st_isKT {a C dd : Addr} {fs : List (Str × V)} {n : String} {b : Bool} (h0 : H a = some (XkO a (.ref C) (some dd))) (T : XI K C) (h1 : H dd = some (.xd fs)) (e : PySem.W.kitOne K (.ref C) (.type n) = some b) (h : Q (.bl b) H) : rIsK K [.ref a, .ty n] H Q :=
  ⟨a, .ty n, .type n, b, C, dd, fs, rfl, h0, fun u r => by cases r; rfl, T, h1, e, h⟩
/-- of no class among these -/
inductive KitN (K : PySem.W.Frag) (C : Addr) : List V → Prop
  | nil : KitN K C []
  | cons {D : Addr} {l : List V} : PySem.W.kitOne K (.ref C) (.ref D) = some false → KitN K C l → KitN K C (.ref D :: l)
theorem KitN.any {C : Addr} : ∀ {l : List V}, KitN K C l → ∃ cvs : List Value, (∀ us, Vals l us → us = cvs) ∧ PySem.W.kitAny K (.ref C) cvs = some false
  | _, .nil => ⟨[], fun us r => by cases r; rfl, rfl⟩
  | _, .cons (D := D) h t => by
    obtain ⟨cvs, h1, h2⟩ := t.any
    refine ⟨.ref D :: cvs, fun us r => ?_, ?_⟩
    · cases r with
      | cons r1 rr =>
        cases r1
        rw [h1 _ rr]
    · unfold PySem.W.kitAny
      rw [h]
      exact h2
theorem st_isKs {a C dd tp : Addr} {cs : List V} {fs : List (Str × V)} (h0 : H a = some (XkO a (.ref C) (some dd))) (T : XI K C) (h1 : H dd = some (.xd fs)) (ht : H tp = some (.tup cs)) (k : KitN K C cs) (h : Q (.bl false) H) : rIsKs K [.ref a, .ref tp] H Q := by
  obtain ⟨cvs, k1, k2⟩ := k.any
  exact ⟨a, tp, cs, cvs, false, C, dd, fs, rfl, h0, ht, k1, T, h1, k2, h⟩
end
end Zb
namespace Zb
open PySem PySem.Spec PyProof.Rows L2
open Evl (tCut pss_cut)
def rRv : V → Hp → VK → Prop := fun x H Q => ∃ a xs, x = .ref a ∧ ((lstAt H a = some xs ∧ ∀ q, H q = none → Q (.ref q) (upd H q (.lst xs.reverse))) ∨ (tupAt H a = some xs ∧ ∀ q, H q = none → Q (.ref q) (upd H q (.tup xs.reverse))))
def tRv (te ts : TE) : TE := fun σ H Q => te σ H fun x H1 => ts σ H1 fun s H4 => s = .int (-1) ∧ rRv x H4 Q
section
variable {K : PySem.W.Frag} {σ : L2.St} {H : Hp} {Q : VK}
def RvP (Q : VK) (x s : V) (H4 : Hp) : Prop := s = .int (-1) ∧ rRv x H4 Q
theorem st_rv {te ts : TE} (h : te σ H fun x H1 => ts σ H1 fun s H4 => RvP Q x s H4) : tRv te ts σ H Q := h
theorem st_rvQ {a : Addr} {xs : List V} (h1 : seqAt H a = some xs) (h : ∀ q H', H q = none → Ex H H' → seqAt H' q = some xs.reverse → Q (.ref q) H') : RvP Q (.ref a) (.int (-1)) H :=
  ⟨rfl, a, xs, rfl, (seqAt_cases h1).elim (fun z => .inl ⟨z, fun q hq => h q _ hq (Fr.new hq) (seq_l upd_same)⟩) fun z => .inr ⟨z, fun q hq => h q _ hq (Fr.new hq) (seq_t upd_same)⟩⟩
end
end Zb
namespace SrtO
open PySem PyProof.Rows Srt
end SrtO
namespace Zb
open PySem PySem.Spec PyProof.Rows L2
end Zb
namespace Zb
open PySem PySem.Spec PyProof.Rows L2
/-- x += a text -/
def rIpS : R2 := fun x y H Q => ∃ a b : Str, x = .str a ∧ y = .str b ∧ a.length + b.length ≤ 16777216 ∧ Q (.str (a ++ b)) H
theorem ip_addS {X : Cx} : PIp X .Add rIpS := by
  intro pins s σ H x y v u Q I r1 r2 h
  obtain ⟨a, b, rfl, rfl, hz, q⟩ := h
  exact iop_add_str pins s σ H _ _ v u Q I r1 r2 ⟨a, b, rfl, rfl, by rw [sl16]; exact hz, q⟩
section
variable {σ : L2.St} {H : Hp} {Q : VK} {D : Ends}
theorem st_augS {i : Nat} {te : TE} {z : Str} (hx : σ[i]? = some (some (.str z))) (h : te σ H (fun y H1 => rIpS (.str z) y H1 fun z H2 => D.nx (σ.set i (some z)) H2)) : tAug i te rIpS D σ H := ⟨_, hx, h⟩
theorem st_ipS {x y : Str} (hz : x.length + y.length ≤ 16777216) (h : Q (.str (x ++ y)) H) : rIpS (.str x) (.str y) H Q := ⟨x, y, rfl, rfl, hz, h⟩
end
end Zb
namespace Zb
open PySem PySem.Spec PyProof.Rows L2
end Zb
namespace Zb
open PySem PySem.Spec PyProof.Rows L2
section
variable {X : Cx} {CX : CXT} {k : Nat} {f C : Addr} {fd : FuncData} {ps : List Str} {sp : Sp} {E : L2.St → XK} {x m : Str} {p pos apos : Pos} {e o : Expr} {es : List Expr} {ta : TE} {t : TA}
def tMethS (C : Addr) (m : Str) (sp : Sp) (E : L2.St → XK) (ta : TE) (t : TA) : TE := fun σ H Q => ta σ H (MethP C m sp [] (E σ) t σ Q)
def tMakeS (C : Addr) (sp : Sp) (E : L2.St → XK) (t : TA) : TE := fun σ H Q => t σ H (MakeP C sp [] (E σ) Q)
end
section
variable {σ : L2.St} {H : Hp} {Q : VK} {C : Addr} {sp : Sp} {W : WX}
theorem st_methS {m : Str} {ta : TE} {t : TA} (h : ta σ H (MethP C m sp [] (WE W σ) t σ Q)) : tMethS C m sp (WE W) ta t σ H Q := h
theorem st_makeS {t : TA} (h : t σ H (MakeP C sp [] (WE W σ) Q)) : tMakeS C sp (WE W) t σ H Q := h
end
end Zb
namespace Zb
open PySem PySem.Spec PyProof.Rows L2 SrtO
def IsTri (h : Heap) (v : Value) (k : Int × Int × Int) : Prop := ∃ a o t u r n, v = .ref a ∧ h.get? a = some o ∧ o.cls = .type "tuple" ∧ o.data = .seq #[.int k.1 t, .int k.2.1 u, .int k.2.2 r] n
theorem IsTri.keeps {h h' : Heap} {v : Value} {k : Int × Int × Int} (p : IsTri h v k) (kk : ∀ b o, h.get? b = some o → o.cls = .type "tuple" → h'.get? b = some o) : IsTri h' v k := by
  obtain ⟨a, o, t, u, r, n, e, ho, hc, hd⟩ := p
  exact ⟨a, o, t, u, r, n, e, kk _ _ ho hc, hc, hd⟩
def tri3 (q : Int × Int × Int) : HO := .tup [.int q.1, .int q.2.1, .int q.2.2]
abbrev ZT := Addr × (Int × Int × Int)
def T3 (H : Hp) (zs : List ZT) : Prop := ∀ z ∈ zs, H z.1 = some (tri3 z.2)
section
variable {H H' : Hp} {zs ys : List ZT}
theorem T3.ex (h : T3 H zs) (e : Ex H H') : T3 H' zs := fun z hz => e.get (h z hz)
theorem T3.up {D : Addr} {xs : List V} {u : HO} (h : T3 H zs) (hD : H D = some (.lst xs)) : T3 (upd H D u) zs := fun z hz => by
  rw [upd_ne fun e => by have := h z hz; rw [e, hD] at this; cases this]
  exact h z hz
theorem T3.app (h : T3 H zs) (k : T3 H ys) : T3 H (zs ++ ys) := fun z hz => (List.mem_append.mp hz).elim (h z) (k z)
theorem T3.cons {z : ZT} (h : H z.1 = some (tri3 z.2)) (k : T3 H ys) : T3 H (z :: ys) := fun y hy => by
  rcases List.mem_cons.mp hy with rfl | hy
  · exact h
  · exact k y hy
theorem T3.perm (h : T3 H zs) (e : ys.Perm zs) : T3 H ys := fun z hz => h z (e.mem_iff.mp hz)
end
def rMin3 : List V → Hp → VK → Prop := fun vs H Q => match vs with
  | [.int i, .int j, .int k] => Q (.int (min (min i j) k)) H
  | _ => False
theorem c_min3 {X : Cx} (hc : X.calm = true) : CallR X (.builtin "min") rMin3 := by
  intro pins s σ H xs us Q I r h
  unfold rMin3 at h
  split at h
  · rename_i i j k
    refine call_min3Nu hc pins s σ H _ us Q I r ⟨_, _, _, V.int (min (min i j) k), rfl, ?_, h⟩
    show ((nuLt (V.int j) (V.int i)).map fun c => if c = true then V.int j else V.int i).bind (fun m => (nuLt (V.int k) m).map fun c => if c = true then V.int k else m) = _
    have lt : ∀ a b : Int, nuLt (V.int a) (V.int b) = some (decide (a < b)) := fun a b => rfl
    rw [lt]
    by_cases c : j < i
    · rw [show min i j = j by omega]
      simp only [Option.map_some, Option.bind_some, decide_eq_true c, if_true, lt]
      by_cases d : k < j
      · rw [show min j k = k by omega, decide_eq_true d]; rfl
      · rw [show min j k = j by omega, decide_eq_false d]; rfl
    · rw [show min i j = i by omega]
      simp only [Option.map_some, Option.bind_some, decide_eq_false c, if_false, lt, Bool.false_eq_true]
      by_cases d : k < i
      · rw [show min i k = k by omega, decide_eq_true d]; rfl
      · rw [show min i k = i by omega, decide_eq_false d]; rfl
  · exact h.elim
theorem st_min3 {i j k : Int} {H : Hp} {Q : VK} (h : Q (.int (min (min i j) k)) H) : Zb.rMin3 [.int i, .int j, .int k] H Q := h
end Zb
namespace Zb
open PySem PySem.Spec PyProof.Rows L2
section
variable {X : Cx} {CX : CXT} {k : Nat} {f : Addr} {fd : FuncData} {ps : List Str} {sp : Sp} {E : XK} {e o : Expr} {es : List Expr} {ta : TE} {t : TA} {p1 p2 pos apos : Pos} {nm m : Str}
def MethD (CS : Addr → Prop) (m : Str) (sp : Addr → Sp) (E : XK) (t : TA) (σ : L2.St) (Q : VK) (x : V) (H1 : Hp) : Prop := ∃ a C dx fs, x = .ref a ∧ H1 a = some (.ins C dx fs) ∧ CS C ∧ fs.lookup m = none ∧ t σ H1 fun vs H2 => sp C (x :: vs) H2 Q E
def tMethD (CS : Addr → Prop) (m : Str) (sp : Addr → Sp) (E : XK) (ta : TE) (t : TA) : TE := fun σ H Q => ta σ H (MethD CS m sp E t σ Q)
variable {CS : Addr → Prop} {spD : Addr → Sp}
end
section
variable {σ : L2.St} {H : Hp} {Q : VK} {CS : Addr → Prop} {m : Str} {sp : Addr → Sp} {E : XK}
theorem st_methD {ta : TE} {t : TA} (h : ta σ H (MethD CS m sp E t σ Q)) : tMethD CS m sp E ta t σ H Q := h
end
end Zb
namespace Zb
open PySem PySem.Spec PyProof.Rows L2
section
variable {K : PySem.W.Frag} {H : Hp} {Q : VK}
theorem st_dget {td ty : TE} {σ : L2.St} (h : td σ H fun x H1 => ty σ H1 fun y H2 => ∃ a v, x = .ref a ∧ DGet H2 a y (some v) ∧ Q v H2) : tDGet td ty σ H Q := h
end
/-- == of a list of any things with an empty one -/
def rEqE (K : PySem.W.Frag) : R2 := fun x y H Q => ∃ (p q : Addr) (xs : List V), x = .ref p ∧ y = .ref q ∧ lstAt H p = some xs ∧ lstAt H q = some [] ∧ Q (.bl xs.isEmpty) H
open PySem.SeqAt in
theorem o_eqE {X : Cx} {K : PySem.W.Frag} (hu : X.A.units + 64 < cLine) : OpR X (compareOp .Eq) (rEqE K) := by
  intro pins s σ H x y v u Q I rx ry h
  obtain ⟨p, q, xs, rfl, rfl, hx, hy, k⟩ := h
  cases xs with
  | nil => exact o_eqL hu pins s σ H _ _ v u Q I rx ry ⟨p, q, [], [], [], rfl, rfl, hx, hy, .nil, k⟩
  | cons a r =>
    obtain rfl : v = Value.ref p := rx
    obtain rfl : u = Value.ref q := ry
    obtain ⟨its, r1, t1, z1⟩ := I.list (lstAt_sq hx)
    obtain ⟨its2, r2, t2, z2⟩ := I.list (lstAt_sq hy)
    have l1 := r1.length
    have l2 := r2.length
    have key : RcAt X.A s (.ref p) (.ref q) false := RcAt.lists_lengths t1.isList t2.isList (by rw [List.size_toArray, List.size_toArray, bne_iff_ne]; simp at l1 l2; omega) (by omega)
    exact key _ _ _ _ ⟨.bl _, H, I, rfl, k⟩
theorem st_eqE {K : PySem.W.Frag} {H : Hp} {Q : VK} {p q : Addr} {xs : List V} (h1 : H p = some (.lst xs)) (h2 : H q = some (.lst [])) (h : Q (.bl xs.isEmpty) H) : rEqE K (.ref p) (.ref q) H Q := ⟨p, q, xs, rfl, rfl, lst_of h1, lst_of h2, h⟩
end Zb
namespace Zb
open PySem PySem.Spec PyProof.Rows L2
def gvEq : V → Value → Bool
  | .int i, .int j _ => i == j
  | .str x, .str y _ => x == y
  | _, _ => false
theorem gvEq_rel {v : V} {u : Value} (h : gvEq v u = true) : RelV v u := by
  cases v <;> cases u <;> simp only [gvEq, Bool.false_eq_true, beq_iff_eq] at h
  · subst h; exact ⟨_, rfl⟩
  · subst h; exact ⟨_, rfl⟩
def gdAll : List DictEntry → List (Str × V) → Bool
  | [], [] => true
  | e :: es, p :: ps => (match e.key with | .str x _ => x == p.1 | _ => false) && (gvEq p.2 e.val && gdAll es ps)
  | _, _ => false
def valS (kvs : List (Str × V)) (x : Str) : Option V := (kvs.find? fun p => p.1 == x).map (·.2)
theorem gd_find {x : Str} : ∀ {es : List DictEntry} {kvs : List (Str × V)}, gdAll es kvs = true → RelO (valS kvs x) ((es.find? fun e => Value.isStrOf x e.key).map (·.val))
  | [], [], _ => trivial
  | [], _ :: _, h => by cases h
  | _ :: _, [], h => by cases h
  | e :: es, p :: ps, h => by
    unfold gdAll at h
    rw [Bool.and_eq_true, Bool.and_eq_true] at h
    obtain ⟨h1, h2, h3⟩ := h
    obtain ⟨k, t, hk⟩ : ∃ k t, e.key = .str k t := by
      cases q : e.key <;> rw [q] at h1 <;> first | exact ⟨_, _, rfl⟩ | cases h1
    rw [hk] at h1
    have h1 : (k == p.1) = true := h1
    unfold valS
    rw [List.find?_cons, List.find?_cons, hk]
    have e1 : Value.isStrOf x (.str k t) = (p.1 == x) := by
      rw [beq_iff_eq.mp h1]
      unfold Value.isStrOf
      by_cases c : p.1 = x
      · simp [c]
      · have c' : x ≠ p.1 := fun z => c z.symm
        simp [c, c']
    rw [e1]
    cases (p.1 == x) with
    | true => exact gvEq_rel h2
    | false => exact gd_find h3
/-- the dict at a, as the top has written it -/
structure GDat (w : World) (K : PySem.W.Frag) (a : Addr) (kvs : List (Str × V)) : Prop where
  lo : (a == sysModules) = false
  ex : ∃ es n, K.lookup a = some ⟨.type "dict", none, .dict es n, #[]⟩ ∧ PySem.W.KeysLit w.params es.toList ∧ gdAll es.toList kvs = true
section
variable {X : Cx} {pins : List (Addr × Obj)} {σ : L2.St} {H : Hp} {s : Shared} {a : Addr} {kvs : List (Str × V)}
theorem GDat.map (g : GDat X.w X.K a kvs) (I : Inv X pins σ H s) : ∃ f, s.heap.MapOf (PySem.strKind X.prog X.w) a f ∧ ∀ x, RelO (valS kvs x) (f x) := by
  obtain ⟨es, n, h1, h2, h3⟩ := g.ex
  refine ⟨_, PySem.W.mapOf_K I.kIn h1 h2, fun x => ?_⟩
  obtain ⟨l⟩ := es
  have := gd_find (x := x) h3
  unfold PySem.findBy
  rw [List.find?_toArray]
  exact this
end
def tGGet1 (w : World) (K : PySem.W.Frag) (td ty : TE) : TE := fun σ H Q => td σ H fun x H1 => ∃ a kvs, x = .ref a ∧ GDat w K a kvs ∧ ty σ H1 fun y H2 => ∃ k, y = .str k ∧ Q ((valS kvs k).getD .non) H2
def tGGet2 (w : World) (K : PySem.W.Frag) (td ty tx : TE) : TE := fun σ H Q => td σ H fun x H1 => ∃ a kvs, x = .ref a ∧ GDat w K a kvs ∧ ty σ H1 fun y H2 => tx σ H2 fun z H3 => ∃ k, y = .str k ∧ Q ((valS kvs k).getD z) H3
def tGItem (w : World) (K : PySem.W.Frag) (td ty : TE) : TE := fun σ H Q => td σ H fun x H1 => ∃ a kvs, x = .ref a ∧ GDat w K a kvs ∧ ty σ H1 fun y H2 => ∃ k v, y = .str k ∧ valS kvs k = some v ∧ Q v H2
section
variable {X : Cx} {o i e f : Expr} {apos cpos pos : Pos} {td ty tx : TE}
theorem pe_gget2 (ho : PE X o td) (he : PE X e ty) (hf : PE X f tx) (m : M2 X o "get" apos e f cpos) : PE X (.Call (.Attribute o "get" apos) [e, f] [] cpos) (tGGet2 X.w X.K td ty tx) := by
  refine ⟨fun pins s σ H Q I h => ?_⟩
  refine wpAny_Call_method m.base m.few m.line PySem.F.plainAttrs_dict PySem.F.slot_dict_get PySem.F.type_dict_get (thn (ho.run pins s σ H _ I h) fun u s1 ⟨x, H1, I1, rx, a, kvs, ex, g, q1⟩ => ?_)
  subst ex
  obtain rfl : u = Value.ref a := rx
  obtain ⟨fm, hm, hr⟩ := g.map I1
  refine ⟨hm.typeIs, fun b q => ?_, ?_⟩
  · cases q
    obtain ⟨es, n, h1, h2, h3⟩ := g.ex
    exact ⟨_, I1.kIn _ _ h1, rfl⟩
  rw [m.trees]
  refine Calls.callWith_builtin rfl (Calls.evalArgs_plain (Calls.spliced_cons (thn (he.run pins s1 σ H1 _ I1 q1) fun iv s2 ⟨y, H2, I2, ry, q2⟩ =>
    Calls.spliced_cons (thn (hf.run pins s2 σ H2 _ I2 q2) fun fv s3 ⟨z, H3, I3, rz, k, ey, q3⟩ => Calls.spliced_nil ?_))))
  subst ey
  obtain ⟨t, rfl⟩ := ry
  obtain ⟨fm, hm, hr⟩ := g.map I3
  refine call_meetsIn PySem.F.slot_dict_get hm.typeIs PySem.F.entry_dict_get (PySem.F.args_dict_get_3 _ _ _) (meets_dict_get_default (PySem.strKind X.prog X.w) a (PySem.strKind_is _ _ k t) g.lo fv) ⟨_, hm, ⟨_, H3, I3.tok _, (hr k).getD rz, q3⟩⟩
end
section
variable {w : World} {K : PySem.W.Frag} {σ : L2.St} {H : Hp} {Q : VK} {td ty tx : TE}
theorem st_gget1 (h : td σ H fun x H1 => ∃ a kvs, x = .ref a ∧ GDat w K a kvs ∧ ty σ H1 fun y H2 => ∃ k, y = .str k ∧ Q ((valS kvs k).getD .non) H2) : tGGet1 w K td ty σ H Q := h
theorem st_gget2 (h : td σ H fun x H1 => ∃ a kvs, x = .ref a ∧ GDat w K a kvs ∧ ty σ H1 fun y H2 => tx σ H2 fun z H3 => ∃ k, y = .str k ∧ Q ((valS kvs k).getD z) H3) : tGGet2 w K td ty tx σ H Q := h
theorem st_gitem (h : td σ H fun x H1 => ∃ a kvs, x = .ref a ∧ GDat w K a kvs ∧ ty σ H1 fun y H2 => ∃ k v, y = .str k ∧ valS kvs k = some v ∧ Q v H2) : tGItem w K td ty σ H Q := h
theorem st_gdat {a : Addr} {kvs : List (Str × V)} {P : List (Str × V) → Prop} (g : GDat w K a kvs) (h : P kvs) : ∃ a' kvs', V.ref a = .ref a' ∧ GDat w K a' kvs' ∧ P kvs' := ⟨a, kvs, rfl, g, h⟩
theorem st_gkey {k : Str} {P : Str → Prop} (h : P k) : ∃ k', V.str k = .str k' ∧ P k' := ⟨k, rfl, h⟩
end
theorem st_isXsN {K : PySem.W.Frag} {H : Hp} {Q : VK} {a C dd tp : Addr} {cs : List V} {fs : List (Str × V)} (T : XI K C) (h1 : H dd = some (.xd fs)) (ht : H tp = some (.tup cs)) (k : KitN K C cs) (h : Q (.bl false) H) : rIsXs K a (.ref C) (some dd) [.ref a, .ref tp] H Q := by
  obtain ⟨cvs, k1, k2⟩ := k.any
  exact ⟨tp, cs, cvs, false, C, dd, fs, rfl, ht, k1, rfl, T, rfl, h1, k2, h⟩
def rUpper : V → List V → Hp → VK → Prop := fun x xs H Q => ∃ z, x = .str z ∧ xs = [] ∧ z.length ≤ 5592405 ∧ Q (.str (Txt.upper z)) H
theorem st_upper {z : Str} {H : Hp} {Q : VK} (hz : z.length ≤ 5592405) (h : Q (.str (Txt.upper z)) H) : rUpper (.str z) [] H Q := ⟨z, rfl, rfl, hz, h⟩
end Zb
namespace Zb
open PySem PySem.Spec PyProof.Rows L2
theorem sIx_some (n : Nat) (b : Nat) : HT.sIx n 0 (some (b : Int)) = min b n := by
  show (if (b : Int) < 0 then ((b : Int) + (n : Int)).toNat else min (b : Int).toNat n) = min b n
  rw [if_neg (by omega), Int.toNat_natCast]
theorem cutS_list (z : Str) (lo hi : Option Int) : (cutS z lo hi).cps.toList = (z.cps.toList.drop (HT.sIx z.length 0 lo)).take (HT.sIx z.length z.length hi - HT.sIx z.length 0 lo) := by simp [cutS]
theorem lenStr (z : Str) : z.cps.toList.length = z.length := Array.length_toList
theorem cutS_from (z : Str) (b : Nat) (h : b ≤ z.length) : (cutS z (some (b : Int)) none).cps.toList = z.cps.toList.drop b := by
  rw [cutS_list, sIx_some, show HT.sIx z.length z.length none = z.length from rfl, Nat.min_eq_left h, List.take_of_length_le]
  rw [List.length_drop, lenStr]
  exact Nat.le_refl _
theorem take_minL {α : Type} (l : List α) (b : Nat) : l.take (min b l.length) = l.take b := by
  by_cases h : b ≤ l.length
  · rw [Nat.min_eq_left h]
  · rw [Nat.min_eq_right (by omega), List.take_of_length_le (Nat.le_refl _), List.take_of_length_le (by omega)]
theorem tx_of {z : Str} {l : List Nat} (h : z.cps.toList = l) : z = tx l := by rw [← h, tx_eta]
theorem pick_map {α β : Type} {f : α → β} (is : List Nat) (xs : List α) : pick is (xs.map f) = (pick is xs).map f := by
  unfold pick
  induction is with
  | nil => rfl
  | cons i is ih =>
    rw [List.filterMap_cons, List.filterMap_cons, List.getElem?_map, ih]
    cases xs[i]? <;> rfl
theorem st_stL {K : PySem.W.Frag} {H : Hp} {Q : VK} {p : Addr} {ns : List Int} {lo hi : Option Int} {k : Int} (hx : SqL K H p (ns.map V.int)) (hk : k ≠ 0) (hl : ns.length ≤ 1000) (h : ∀ q (cs : List Int) H', H q = none → Ex H H' → H' q = some (.lst (cs.map V.int)) → cs.length ≤ 1000 → Q (.ref q) H') : rSt K (.ref p) lo hi k H Q :=
  ⟨_, hx, hk, fun q hq => by
    rw [pick_map]
    refine h q _ _ hq (Fr.new hq) upd_same (Nat.le_trans (pick_len _ _) (Nat.le_trans (ixSt_len _ _ _ _) ?_))
    rw [List.length_map]
    exact hl⟩
theorem sqL_exV {K : PySem.W.Frag} {H H' : Hp} {a : Addr} {xs : List V} (h : SqL K H a xs) (e : Ex H H') : SqL K H' a xs := by
  rcases h with (h | ⟨v, h⟩) | h
  · exact .inl (.inl (e.get h))
  · exact .inl (.inr ⟨v, e.get h⟩)
  · exact .inr h
theorem cutL_to {α : Type} (l : List α) (b : Nat) : cutL l none (some (b : Int)) = l.take b := by
  unfold cutL
  rw [show HT.sIx l.length l.length (some (b : Int)) = min b l.length from HT.sIx_nat _ _ b, show HT.sIx l.length 0 none = 0 from rfl, List.drop_zero, Nat.sub_zero, take_minL]
theorem cutL_from {α : Type} (l : List α) (b : Nat) : cutL l (some (b : Int)) none = l.drop b := by
  unfold cutL
  rw [sIx_some, show HT.sIx l.length l.length none = l.length from rfl]
  by_cases h : b ≤ l.length
  · rw [Nat.min_eq_left h, List.take_of_length_le (by rw [List.length_drop]; exact Nat.le_refl _)]
  · rw [List.drop_of_length_le (i := min b l.length) (by omega), List.drop_of_length_le (i := b) (by omega), List.take_nil]
end Zb
namespace Zb
open PySem PySem.Spec PyProof.Rows L2 PySem.W
def tLk : List (R2 × TE) → V → L2.St → Hp → VK → Prop
  | [], _, _, _, _ => False
  | [(r, tb)], x, σ, H, Q => tb σ H fun y H1 => r x y H1 Q
  | (r, tb) :: p :: rest, x, σ, H, Q => tb σ H fun y H1 => r x y H1 fun z H2 => ∃ k, z = .bl k ∧ if k = true then tLk (p :: rest) y σ H2 Q else Q (.bl false) H2
def tChN (ta : TE) (l : List (R2 × TE)) : TE := fun σ H Q => ta σ H fun x H1 => tLk l x σ H1 Q
section
variable {σ : L2.St} {H : Hp} {Q : VK} {x : V} {r : R2} {tb ta : TE} {p : R2 × TE} {l : List (R2 × TE)}
theorem st_chN (h : ta σ H fun x H1 => tLk l x σ H1 Q) : tChN ta l σ H Q := h
theorem st_lk (h : tb σ H fun y H1 => r x y H1 fun z H2 => ∃ k, z = .bl k ∧ if k = true then tLk (p :: l) y σ H2 Q else Q (.bl false) H2) : tLk ((r, tb) :: p :: l) x σ H Q := h
theorem st_lk1 (h : tb σ H fun y H1 => r x y H1 Q) : tLk [(r, tb)] x σ H Q := h
end
section
variable {K : PySem.W.Frag} {σ : L2.St} {H : Hp} {D : Ends} {ta tv : TE} {rd : V → V → Hp → VK → Prop} {f : Str}
def AugP (K : PySem.W.Frag) (tv : TE) (rd : V → V → Hp → VK → Prop) (f : Str) (D : Ends) (σ : L2.St) (x : V) (H1 : Hp) : Prop := ∃ a C dx fs v, x = .ref a ∧ H1 a = some (.ins C dx fs) ∧ Cls K C ∧ NoAttr K C f ∧ fs.lookup f = some v ∧ tv σ H1 fun y H2 => rd v y H2 fun z H3 => ∃ dx' fs', H3 a = some (.ins C dx' fs') ∧ fs'.length < 1000 ∧ D.nx σ (upd H3 a (.ins C dx' (putF f z fs')))
theorem st_aug (h : ta σ H (AugP K tv rd f D σ)) : sFldAug K ta tv rd f D σ H := h
theorem st_augP {a C dx : Addr} {fs : List (Str × V)} {v : V} (h1 : H a = some (.ins C dx fs)) (c : Cls K C) (n : NoAttr K C f) (l : fs.lookup f = some v) (h : tv σ H fun y H2 => rd v y H2 fun z H3 => ∃ dx' fs', H3 a = some (.ins C dx' fs') ∧ fs'.length < 1000 ∧ D.nx σ (upd H3 a (.ins C dx' (putF f z fs')))) : AugP K tv rd f D σ (.ref a) H := ⟨a, C, dx, fs, v, rfl, h1, c, n, l, h⟩
theorem st_inAdd {i j : Int} {Q : VK} (h : Q (.int (i + j)) H) : L2.rAdd (.int i) (.int j) H Q := ⟨i, j, rfl, rfl, h⟩
theorem st_augE {a C dx : Addr} {fs : List (Str × V)} {g : List (Str × V) → List (Str × V)} {P : Hp → Prop} (h1 : H a = some (.ins C dx fs)) (hl : fs.length < 1000) (h : P (upd H a (.ins C dx (g fs)))) : ∃ dx' fs', H a = some (.ins C dx' fs') ∧ fs'.length < 1000 ∧ P (upd H a (.ins C dx' (g fs'))) := ⟨dx, fs, h1, hl, h⟩
end
end Zb
namespace Zb
open PySem PySem.Spec PyProof.Rows L2 PySem.W
def DSetT (a : Addr) (y z : V) (Q : VK) (H : Hp) : Prop := ∃ (kvs : List (List Key × V)) (k : List Key) (b : Addr), H a = some (.dT kvs) ∧ y = .ref b ∧ H b = some (.tup (k.map kV)) ∧ kvs.length < sizeLine ∧ (∀ v, valV kvs k = some v → Q v H) ∧ (valV kvs k = none → Q z (upd H a (.dT (putK kvs k z))))
def tDSetT (td ty tx : TE) : TE := fun σ H Q => td σ H fun x H1 => ∃ a, x = .ref a ∧ IsD H1 a ∧ ty σ H1 fun y H2 => tx σ H2 fun z H3 => DSetT a y z Q H3
section
variable {K : PySem.W.Frag} {H : Hp} {Q : VK} {σ : L2.St}
theorem st_dsetTU {td ty tx : TE} (h : td σ H fun x H1 => ∃ a, x = .ref a ∧ IsD H1 a ∧ ty σ H1 fun y H2 => tx σ H2 fun z H3 => DSetT a y z Q H3) : tDSetT td ty tx σ H Q := h
theorem st_isDT {a : Addr} {kvs : List (List Key × V)} {P : Addr → Prop} (h1 : H a = some (.dT kvs)) (h : P a) : ∃ b, V.ref a = .ref b ∧ IsD H b ∧ P b := ⟨a, rfl, .inr ⟨kvs, .inl h1⟩, h⟩
end
end Zb
namespace Zb
open PySem PySem.Spec PyProof.Rows L2 PySem.W
end Zb
namespace Zb
open PySem PySem.Spec PyProof.Rows L2
open Evl (tCut pss_cut)
/-- C(e, ..), an exception's class with an own __init__, as a value -/
def tExcV (C : Addr) (sp : Sp) (dvs : List V) (ta : TA) : TE := fun σ H Q => ta σ H fun vs H1 => vs.length ≤ 1000 ∧ ∀ a, H1 a = none → sp (.ref a :: (vs ++ dvs)) (upd H1 a (exo a C none))
  (fun v H2 => v = .non ∧ ∃ (d : Addr) (fs : List (Str × V)), H2 a = some (exo a C (some d)) ∧ H2 d = some (exd d fs) ∧ Q (.ref a) (upd (upd H2 a (XkO a (.ref C) (some d))) d (.xd fs))) (fun _ _ _ => False)
section
variable {K : PySem.W.Frag} {C : Addr} {Q : VK} {H : Hp} {f g : Str} {σ : L2.St}
def ExcVP (C : Addr) (sp : Sp) (vs : List V) (Q : VK) (H1 : Hp) : Prop := vs.length ≤ 1000 ∧ ∀ a, H1 a = none → sp (.ref a :: (vs ++ [])) (upd H1 a (exo a C none))
  (fun v H2 => v = .non ∧ ∃ (d : Addr) (fs : List (Str × V)), H2 a = some (exo a C (some d)) ∧ H2 d = some (exd d fs) ∧ Q (.ref a) (upd (upd H2 a (XkO a (.ref C) (some d))) d (.xd fs))) (fun _ _ _ => False)
theorem st_excV {sp : Sp} {ta : TA} (h : ta σ H (ExcVP C sp · Q ·)) : tExcV C sp [] ta σ H Q := h
/-- a made exception at a: of the class, with these fields -/
structure XcV (H : Hp) (a C d : Addr) (fs : List (Str × V)) : Prop where
  at_ : H a = some (XkO a (.ref C) (some d))
  fd : H d = some (.xd fs)
theorem XcV.ex {H H' : Hp} {a C d : Addr} {fs : List (Str × V)} (h : XcV H a C d fs) (e : Ex H H') : XcV H' a C d fs := ⟨e.get h.at_, e.get h.fd⟩
theorem st_exv1 {v : V} (T : OexC K C) (hf : PySem.W.findIn K (.ref C) f = some none) (h : ∀ a d H', H a = none → H d = none → Ex H H' → XcV H' a C d [(f, v)] → Q (.ref a) H') : ExcVP C (spI1 K f) [v] Q H := by
  refine ⟨(by decide : 1 ≤ 1000), fun a ha => ⟨a, C, v, rfl, T, hf, upd_same, fun dx hdx ne => ⟨rfl, dx, [(f, v)], upd_same, ?_, ?_⟩⟩⟩
  · rw [upd_ne ne]; exact upd_same
  · rw [upd_ne ne] at hdx
    refine h a dx _ ha hdx (fun b o _ hb => ?_) ⟨?_, upd_same⟩
    · have n1 : b ≠ a := fun z => by rw [z, ha] at hb; cases hb
      have n2 : b ≠ dx := fun z => by rw [z, hdx] at hb; cases hb
      rw [upd_ne n2, upd_ne n1, upd_ne n1, upd_ne n2, upd_ne n1]
      exact hb
    · rw [upd_ne (Ne.symm ne)]
      exact upd_same
theorem st_exv2 {v z : V} (T : OexC K C) (hf : PySem.W.findIn K (.ref C) f = some none) (hg : PySem.W.findIn K (.ref C) g = some none) (h : ∀ a d H', H a = none → H d = none → Ex H H' → XcV H' a C d [(g, z), (f, v)] → Q (.ref a) H') : ExcVP C (spI2 K f g) [v, z] Q H := by
  refine ⟨(by decide : 2 ≤ 1000), fun a ha => ⟨a, C, v, z, rfl, T, hf, hg, upd_same, fun dx hdx ne => ⟨rfl, dx, [(g, z), (f, v)], ?_, upd_same, ?_⟩⟩⟩
  · rw [upd_ne (Ne.symm ne)]; exact upd_same
  · rw [upd_ne ne] at hdx
    refine h a dx _ ha hdx (fun b o _ hb => ?_) ⟨?_, upd_same⟩
    · have n1 : b ≠ a := fun z => by rw [z, ha] at hb; cases hb
      have n2 : b ≠ dx := fun z => by rw [z, hdx] at hb; cases hb
      rw [upd_ne n2, upd_ne n1, upd_ne n2, upd_ne n1, upd_ne n2, upd_ne n1]
      exact hb
    · rw [upd_ne (Ne.symm ne)]
      exact upd_same
end
/-- at a: an exception of that class, made here or kept behind its clause -/
def HasX (H : Hp) (a C : Addr) : Prop := (∃ (d : Addr) (fs : List (Str × V)), H a = some (XkO a (.ref C) (some d)) ∧ H d = some (.xd fs)) ∨ H a = some (ExO (.ref C) a)
theorem XcV.has {H : Hp} {a C d : Addr} {fs : List (Str × V)} (h : XcV H a C d fs) : HasX H a C := .inl ⟨d, fs, h.at_, h.fd⟩
theorem HasX.ex {H H' : Hp} {a C : Addr} (h : HasX H a C) (e : Ex H H') : HasX H' a C := by
  rcases h with ⟨d, fs, h1, h2⟩ | h
  · exact .inl ⟨d, fs, e.get h1, e.get h2⟩
  · exact .inr (e.get h)
def rIsV (K : PySem.W.Frag) : List V → Hp → VK → Prop := fun xs H Q => ∃ (a : Addr) (c : V) (cv : Value) (b : Bool) (C : Addr), xs = [.ref a, c] ∧ HasX H a C ∧ (∀ u, RelV c u → u = cv) ∧ XI K C ∧ PySem.W.kitOne K (.ref C) cv = some b ∧ Q (.bl b) H
section
variable {K : PySem.W.Frag} {H : Hp} {Q : VK}
theorem st_isV {a C D : Addr} {b : Bool} (h0 : HasX H a C) (T : XI K C) (e : PySem.W.kitOne K (.ref C) (.ref D) = some b) (h : Q (.bl b) H) : rIsV K [.ref a, .ref D] H Q :=
  ⟨a, .ref D, .ref D, b, C, rfl, h0, fun u r => by cases r; rfl, T, e, h⟩
theorem st_isVT {a C : Addr} {n : String} {b : Bool} (h0 : HasX H a C) (T : XI K C) (e : PySem.W.kitOne K (.ref C) (.type n) = some b) (h : Q (.bl b) H) : rIsV K [.ref a, .ty n] H Q :=
  ⟨a, .ty n, .type n, b, C, rfl, h0, fun u r => by cases r; rfl, T, e, h⟩
end
def rDivX : R2 := fun x y H Q => match x, y with
  | .int i, .int j => 0 < j ∧ j < 1606938044258990275541962092341162602522202993782792835301376 ∧ Q (.int (i / j)) H
  | _, _ => False
theorem st_divX {H : Hp} {Q : VK} {i j : Int} (hc : 0 < j ∧ j < 1606938044258990275541962092341162602522202993782792835301376) (h : Q (.int (i / j)) H) : rDivX (.int i) (.int j) H Q := ⟨hc.1, hc.2, h⟩
end Zb
namespace Zb
open PySem PySem.Spec PyProof.Rows L2
end Zb
namespace Zb
open PySem PySem.Spec PyProof.Rows L2
end Zb
namespace Zb
open PySem PySem.Spec PyProof.Rows L2 LamX NdefX
open Evl (tCut pss_cut)
/-- a lambda: its words, what it captured, its code object -/
structure LF where
  qual : Str
  params : Arguments
  body : Expr
  scope : Scope
  cl : List (Str × Addr)
  c : Addr
abbrev LF.nf (F : LF) : NF := ⟨"<lambda>", F.qual, F.params, [], F.scope, F.cl, F.c⟩
abbrev LF.fd (F : LF) (pm ctv : Value) : FuncData := PySem.W.kla_fn "<lambda>" F.qual F.params F.body F.scope F.cl pm (.ref F.c) ctv
def LamO (f : Addr) (F : LF) : HO := .ext fun h => ∃ (od : Option Addr) (sl : Array (Option Value)) (pm ctv : Value), h.get? f = some (⟨.type "function", od, .func (F.fd pm ctv), sl⟩ : Obj)
theorem lamO_at {P : Program} {w : World} {H : Hp} {h : Heap} {f : Addr} {F : LF} (hok : HOk P w H h) (e : H f = some (LamO f F)) : ∃ (od : Option Addr) (sl : Array (Option Value)) (pm ctv : Value), h.get? f = some (⟨.type "function", od, .func (F.fd pm ctv), sl⟩ : Obj) := (hok f _ e).1
/-- all but the tables stay -/
abbrev ExT (H H' : Hp) : Prop := LamX.ExtN H H'
/-- a heap without its tables -/
def noT (H : Hp) : Hp := fun b => match H b with
  | some (.tbl _) => none
  | x => x
theorem noT_get {H : Hp} {a : Addr} {o : HO} (h : H a = some o) (n : ∀ ps, o ≠ .tbl ps) : noT H a = some o := by
  unfold noT
  rw [h]
  cases o <;> first | rfl | exact absurd rfl (n _)
theorem noT_of {H : Hp} {a : Addr} {o : HO} (h : noT H a = some o) : H a = some o ∧ ∀ ps, o ≠ .tbl ps := by
  unfold noT at h
  split at h
  · cases h
  · rename_i x hx
    exact ⟨h, fun ps z => hx ps (h.trans (by rw [z]))⟩
theorem ExT.ex {H H' : Hp} (e : ExT H H') : Ex (noT H) H' := fun b o _ h => e b o (noT_of h).1 (noT_of h).2
theorem ExT.of {H H' : Hp} (e : Ex H H') : ExT H H' := fun b o h _ => e b o (fun z => z) h
theorem ExT.nn {H H' : Hp} (e : ExT H H') : Ex (noT H) (noT H') := fun b o _ h => noT_get (e b o (noT_of h).1 (noT_of h).2) (noT_of h).2
theorem noT_mono {H H' : Hp} (e : Ex H H') : Ex (noT H) (noT H') := (ExT.of e).nn
theorem ExT.get {H H' : Hp} {a : Addr} {o : HO} (e : ExT H H') (h : H a = some o) (n : ∀ ps, o ≠ .tbl ps := by intro _ z; cases z) : H' a = some o := e a o h n
section
variable {X : Cx} {pins : List (Addr × Obj)} {σ : L2.St} {H : Hp} {s : Shared}
theorem inv_lam {F : LF} {o : Obj} {t' : Nat} {pm ctv : Value} (I : Inv X pins σ H s) (ho : o = { cls := .type "function", data := .func (F.fd pm ctv) }) :
    Inv X pins σ (upd H s.heap.objs.size (LamO s.heap.objs.size F)) { s with heap := s.heap.push o, toks := t' } := by
  subst ho
  have e : (s.heap.push ({ cls := .type "function", data := .func (F.fd pm ctv) } : Obj)).get? s.heap.objs.size = some { cls := .type "function", data := .func (F.fd pm ctv) } := Heap.get?_push_size _ rfl
  exact I.laid (a := s.heap.objs.size) (fun b u q => Heap.get?_push_of_some _ q) (Nat.le_refl _) ⟨⟨_, _, pm, ctv, e⟩, ⟨_, e⟩, fun h1 h2 ⟨od, sl, p, t, z⟩ st => ⟨od, sl, p, t, st _ z⟩⟩
/-- the tables, when one of them has grown by a code object -/
theorem tabs_more {T : List (Addr × Str)} {P c' : Addr} {q : Str} {pos : Pos} {ps : Array Value} (hT : Tabs T H) (hu : ∀ p ∈ T, p.1 = P → p.2 = q) (hP : H P = some (.tbl ps)) (ht : TriplesOk ps.toList) (ha : ∀ (pos : Pos) (cv : Value), codeAmong pos ps.toList = some cv → ∃ c, cv = .ref c ∧ H c = some (CodeO c q)) (nC : H c' = none) :
    Tabs T (upd (upd H P (.tbl (ps ++ #[rawInt pos.line, rawInt pos.col, .ref c']))) c' (CodeO c' q)) ∧ ExT H (upd (upd H P (.tbl (ps ++ #[rawInt pos.line, rawInt pos.col, .ref c']))) c' (CodeO c' q)) := by
  have hE : ExT H (upd (upd H P (.tbl (ps ++ #[rawInt pos.line, rawInt pos.col, .ref c']))) c' (CodeO c' q)) := fun b o e n => by
    have n1 : b ≠ c' := ne_of_none e nC
    have n2 : b ≠ P := fun z => by
      subst z
      rw [hP] at e
      exact n ps (Option.some.inj e).symm
    rw [upd_ne n1, upd_ne n2]
    exact e
  have eL : (ps ++ #[rawInt pos.line, rawInt pos.col, .ref c']).toList = ps.toList ++ [rawInt pos.line, rawInt pos.col, .ref c'] := by simp
  refine ⟨fun p hp => ?_, hE⟩
  by_cases hb : p.1 = P
  · have hq := hu p hp hb
    rw [hb, hq]
    refine ⟨_, (upd_ne (ne_of_none hP nC)).trans upd_same, ?_, fun p' cv h => ?_⟩
    · rw [eL]
      exact PySem.TriplesOk_snoc _ _ _ _ ht
    · rw [eL] at h
      rcases among_app _ ht h with z | z
      · obtain ⟨c0, e1, e2⟩ := ha p' cv z
        exact ⟨c0, e1, hE _ _ e2 codeO_ne⟩
      · exact ⟨c', z, upd_same⟩
  · obtain ⟨ps', a1, a2, a3⟩ := hT p hp
    refine ⟨ps', (upd_ne (ne_of_none a1 nC)).trans ((upd_ne hb).trans a1), a2, fun p' cv h => ?_⟩
    obtain ⟨c0, e1, e2⟩ := a3 p' cv h
    exact ⟨c0, e1, hE _ _ e2 codeO_ne⟩
theorem lam_new {T : List (Addr × Str)} {c P : Addr} {params : Arguments} {body : Expr} {scope : Scope} {pos : Pos} {E : Value → Shared → Prop} {Q : Value → Shared → Prop} (I : Inv X pins σ H s) (TB : TabB X.base X.mg c P) (hcode : X.env.code = .ref c)
    (hm : (P, X.env.qual ++ "<lambda>") ∈ T) (hu : ∀ p ∈ T, p.1 = P → p.2 = X.env.qual ++ "<lambda>") (hT : Tabs T H) (hdef : defaultsOf params X.env = ([], [])) (hfree : ∀ y ∈ scope.names, y.2 = .free → ∃ c, X.env.cells.lookup y.1 = some c)
    (h : ∀ (f c' : Addr) (H1 : Hp) (s' : Shared), Inv X pins σ H1 s' → ExT H H1 → (∀ b, H1 b = none → H b = none) → Tabs T H1 → H f = none → H1 f = some (LamO f ⟨X.env.qual ++ "<lambda>", params, body, scope, cloFrom X.env.cells scope.names [], c'⟩) → H1 c' = some (CodeO c' (X.env.qual ++ "<lambda>")) → Q (.ref f) s') :
    wpAny (model X.prog X.w) X.A (eval (.Lambda params body scope pos) X.env) Q E s := by
  obtain ⟨ps, hP, ht, ha⟩ := hT _ hm
  have bP := TB.bm.keeps I.bk
  have hP' := I.hok P _ hP
  have un : ∀ {b a : Addr} {G : Hp} {o : HO}, upd G a o b = none → G b = none := fun e => upd_free e
  refine PySem.W.kla_eval hdef ?_
  cases hc : codeAmong pos ps.toList with
  | none =>
    refine PySem.W.kla_makeFunction (closure_ok hfree) I.ok.glob (I.mod.glob.keeps I.bk) hcode (TB.code.keeps I.bk) hP' ht hc TB.gP bP ?_
    intro c' ctv h' tk hx hge hlt hrec htb
    obtain ⟨c2, oc, vs, t, e2, hoc, hd, hv⟩ := hrec
    cases e2
    have nC := I.hok.fresh hge
    obtain ⟨T1, hE⟩ := tabs_more (pos := pos) hT hu hP ht ha nC
    have I1 := inv_table (t' := tk) (more := #[rawInt pos.line, rawInt pos.col, .ref c']) (h' := h') I hP (fun b o n e => hx b o n e) htb hge ⟨oc, vs, t, hoc, hd, hv⟩
    have I2 := inv_lam (F := ⟨X.env.qual ++ "<lambda>", params, body, scope, cloFrom X.env.cells scope.names [], c'⟩) (t' := tk) (pm := (X.mg "__name__").getD .none) (ctv := ctv) I1 rfl
    have nF := I1.hok.fresh (Nat.le_refl h'.objs.size)
    have keepF : ∀ b o, upd (upd H P (.tbl (ps ++ #[rawInt pos.line, rawInt pos.col, .ref c']))) c' (CodeO c' (X.env.qual ++ "<lambda>")) b = some o → b ≠ h'.objs.size := fun b o e => ne_of_none e nF
    refine h h'.objs.size c' _ _ I2 (fun b o e n => ?_) (fun b e => un (un (un e))) (T1.ext fun b o e => ?_) (un (un nF)) upd_same ?_
    · have e1 := hE b o e n
      rw [upd_ne (keepF b o e1)]
      exact e1
    · rw [upd_ne (keepF b o e)]
      exact e
    · rw [upd_ne (keepF c' _ upd_same)]
      exact upd_same
  | some cv =>
    obtain ⟨c', e, hco⟩ := ha pos cv hc
    subst e
    refine PySem.W.kla_makeFunctionHit (closure_ok hfree) I.ok.glob (I.mod.glob.keeps I.bk) hcode (TB.code.keeps I.bk) hP' ht hc bP ?_
    intro ctv h' tk hx hsz
    have I1 : Inv X pins σ H { s with heap := h', toks := tk } := I.kept hx
    have nF := I1.hok.fresh (Nat.le_refl h'.objs.size)
    have I2 := inv_lam (F := ⟨X.env.qual ++ "<lambda>", params, body, scope, cloFrom X.env.cells scope.names [], c'⟩) (t' := tk) (pm := (X.mg "__name__").getD .none) (ctv := ctv) I1 rfl
    have keepF : ∀ b o, H b = some o → b ≠ h'.objs.size := fun b o e => ne_of_none e nF
    refine h h'.objs.size c' _ _ I2 (fun b o e _ => ?_) (fun b e => un e) (hT.ext fun b o e => ?_) nF upd_same ?_
    · rw [upd_ne (keepF b o e)]
      exact e
    · rw [upd_ne (keepF b o e)]
      exact e
    · rw [upd_ne (keepF c' _ hco)]
      exact hco
end
/-- the reading of a lambda as a value -/
def tLamb (T : List (Addr × Str)) (mk : Addr → LF) : TE := fun σ H Q => Tabs T H ∧ ∀ (f c' : Addr) (H1 : Hp), ExT H H1 → (∀ b, H1 b = none → H b = none) → Tabs T H1 → H f = none → H1 f = some (LamO f (mk c')) → H1 c' = some (CodeO c' (mk c').qual) → Q (.ref f) H1
section
variable {X : Cx}
theorem pe_lamb {T : List (Addr × Str)} {c P : Addr} {params : Arguments} {body : Expr} {scope : Scope} {pos : Pos} (TB : TabB X.base X.mg c P) (hcode : X.env.code = .ref c) (hm : (P, X.env.qual ++ "<lambda>") ∈ T) (hu : ∀ p ∈ T, p.1 = P → p.2 = X.env.qual ++ "<lambda>")
    (hdef : defaultsOf params X.env = ([], [])) (hfree : ∀ y ∈ scope.names, y.2 = .free → X.env.scope.names.lookup y.1 = some .cell ∨ X.env.scope.names.lookup y.1 = some .free) :
    PE X (.Lambda params body scope pos) (tLamb T fun c' => ⟨X.env.qual ++ "<lambda>", params, body, scope, cloFrom X.env.cells scope.names [], c'⟩) := by
  refine ⟨fun pins s σ H Q I h => ?_⟩
  obtain ⟨hT, h⟩ := h
  refine lam_new I TB hcode hm hu hT hdef (fun y hy e => (hfree y hy e).elim (fun z => I.ok.has _ (.inl z)) fun z => I.ok.has _ (.inr z)) ?_
  intro f c' H1 s' I1 eN nn T1 f0 f1 c1
  exact ⟨.ref f, H1, I1, rfl, h f c' H1 eN nn T1 f0 f1 c1⟩
end
structure LOk (P : Program) (w : World) (K : PySem.W.Frag) (mg : Str → Option Value) (base : Heap) (k : Nat) (f : Addr) (F : LF) (ps fr : List Str) (sp : List (Option V) → List V → Hp → VK → Prop) : Prop where
  len : ∀ ws vs H Q, sp ws vs H Q → vs.length = ps.length
  run : ∀ (A : Around) (outer : List Env) (s : Shared) (H : Hp) (us : List Value) (vs : List V) (ws : List (Option V)) (Q : VK), Room k A → Env0 P w K mg base A outer s H → H f = some (LamO f F) → H F.c = some (CodeO F.c F.qual) →
    CellsAt F.cl fr ws s.heap H → Vals vs us → sp ws vs H Q → codeAny (model P w) A (.call (.ref f) ⟨us, []⟩) (CR CX0 outer P w H s Q E0) s
section
variable {P : Program} {w : World} {K : PySem.W.Frag} {mg : Str → Option Value} {base : Heap} {N ps fr : List Str} {F : LF} {f : Addr} {k : Nat} {sp : List (Option V) → List V → Hp → VK → Prop}
/-- .. by its body -/
theorem lok_of (S : NScope N ps fr F.scope) (hb : ∀ (pm ctv : Value) (us : List Value), us.length = ps.length → bindArgs (F.fd pm ctv) ⟨us, []⟩ = pure (ps.zip us)) (len : ∀ ws vs H Q, sp ws vs H Q → vs.length = ps.length)
    (hbody : ∀ (A : Around) (outer : List Env) (s : Shared) (H : Hp) (vs : List V) (ws : List (Option V)) (Q : VK), Room k (A.deeper (envF F.nf f s.heap.objs.size)) → sp ws vs H Q →
      ∃ t, PE (ncx CX0 P w K mg base N F.nf f A outer s H E0) F.body t ∧ t (startF N vs ws) H Q) : LOk P w K mg base (k + 1) f F ps fr sp := by
  refine ⟨len, fun A outer s H us vs ws Q hr e0 hf hc C r hsp => ?_⟩
  have hl := len _ _ _ _ hsp
  have lim : s.heap.NoLimit := e0.mod.nolimit.keeps fun b o e => (e0.bs b o e).1
  obtain ⟨od, sl, pm, ctv, ho⟩ := lamO_at e0.hok hf
  refine PySem.W.kla_callFunE hr.depth ho rfl S.co S.gen rfl (codeO_at e0.hok hc) ?_
  rw [hb pm ctv us (by rw [← r.length]; exact hl)]
  refine wpAny_pure (wpAny_newFunctionEnv S.nocell (fun ⟨n, _⟩ hy => S.par n (List.of_mem_zip hy).1) ?_ S.kind)
  intro h₁ hns hsb
  refine ⟨lim.fresh _ hsb, ?_⟩
  show codeAny _ _ (.expr F.body (envF F.nf f s.heap.objs.size)) _ _
  obtain ⟨t, ht, hq⟩ := hbody A outer s H vs ws Q (hr.deeper _) hsp
  have kp : ∀ b o, s.heap.get? b = some o → h₁.get? b = some o := fun b o e => hsb.extBut b o (Nat.ne_of_lt (Heap.lt_size e)) (Heap.get?_push_of_some _ e)
  have I : Inv (ncx CX0 P w K mg base N F.nf f A outer s H E0) [] (startF N vs ws) H { s with heap := h₁, toks := s.toks + (ps.zip us).length } := inv_startN (F := F.nf) S hr.hd e0 hl r C hns kp
  refine PySem.W.kla_codeExpr (wpAny_mono (ht.run [] _ (startF N vs ws) H Q I hq) (fun v s' hs => ?_) fun e s' hs => hs)
  obtain ⟨x, H', J, rv, q⟩ := hs
  exact ⟨x, H', J.os, J.bare, J.base, J.hok, rv, q⟩
end
section
variable {X : Cx} {pins : List (Addr × Obj)} {σ : L2.St} {H : Hp} {s : Shared} {cl : List (Str × Addr)} {fr : List Str} {ws : List (Option V)}
/-- captured cells that stood at the entry stand -/
theorem cells_later (C : CellsAt cl fr ws X.s_0.heap X.H_0) (hex : X.ex = []) (I : Inv X pins σ H s) : CellsAt cl fr ws s.heap H := by
  have nx : ∀ b, b ∉ X.ex := fun b z => by rw [hex] at z; cases z
  have kp : ∀ y c, cl.lookup y = some c → ∀ v, X.s_0.heap.IsCell c v → s.heap.IsCell c v := fun y c e v ⟨o, ho, hd⟩ => by
    obtain ⟨sl, q⟩ := I.base.any ho (C.all y c e).1 (nx c)
    exact ⟨_, q, hd⟩
  refine ⟨C.len, fun y c e => ?_, C.inj, fun i y e => ?_⟩
  · obtain ⟨n, v, z⟩ := C.all y c e
    have z' := kp y c e v z
    obtain ⟨o, ho, _⟩ := z
    exact ⟨I.base.free c o ho n (nx c), v, z'⟩
  · obtain ⟨c, hc, hv⟩ := C.has i y e
    refine ⟨c, hc, fun v ev => ?_⟩
    obtain ⟨u, r, z⟩ := hv v ev
    exact ⟨u, r, kp y c hc _ z⟩
theorem lam_fn {f : Addr} {F : LF} (I : Inv X pins σ H s) (e : H f = some (LamO f F)) : PySem.W.FnAt f s.heap := by
  obtain ⟨od, sl, pm, ctv, ho⟩ := lamO_at I.hok e
  exact ⟨_, od, _, sl, ho⟩
end
/-- x(..), x a name that holds a lambda: tl, what it does -/
def tCb (f : Addr) (F : LF) (i : Nat) (tl : List V → Hp → VK → Prop) (t : TA) : TE := fun σ H Q => σ[i]? = some (some (.ref f)) ∧ H f = some (LamO f F) ∧ t σ H fun vs H1 => H1 f = some (LamO f F) ∧ H1 F.c = some (CodeO F.c F.qual) ∧ tl vs H1 Q
/-- in X calls of the lambda may be read so -/
def CbAt (X : Cx) (f : Addr) (F : LF) (tl : List V → Hp → VK → Prop) : Prop := ∀ {i : Nat} {x : Str} {e : Expr} {es : List Expr} {t : TA} {p pos : Pos}, X.N[i]? = some x → Vis X.env.scope x → PA X (e :: es) t → (x == ("__debug__" : Str)) = false → (x == ("__classdict__" : Str)) = false →
  starEach (e :: es) X.env = (false, eval e X.env) :: starEach es X.env → (backTo pos (starEach es X.env)).any (·.1) = false → PE X (.Call (.Name x p) (e :: es) [] pos) (tCb f F i tl t)
theorem cbAt_of {X : Cx} {k j : Nat} {f : Addr} {F : LF} {ps fr : List Str} {ws : List (Option V)} {sp : List (Option V) → List V → Hp → VK → Prop} (L : LOk X.prog X.w X.K X.mg X.base k f F ps fr sp) (C : CellsAt F.cl fr ws X.s_0.heap X.H_0) (hex : X.ex = []) (hr : Room j X.A) (hk : k ≤ j) : CbAt X f F (sp ws) := by
  intro i x e es t p pos hN hv ha hd hcd he hpl
  refine ⟨fun pins s σ H Q I h => ?_⟩
  obtain ⟨hs, hf, ht⟩ := h
  refine wpAny_Call_Name_kw (thn ((pe_var (pos := p) hN hv hd hcd).run pins s σ H (fun v H1 => v = .ref f ∧ H1 = H) I ⟨.ref f, hs, rfl, rfl⟩) fun u s1 ⟨v, H1, I1, r1, ev, eH⟩ => ?_)
  subst ev
  subst eH
  obtain rfl : u = Value.ref f := r1
  refine PySem.W.callWith_F (first := []) (lam_fn I1 hf) (thn (ha.run pos pins s1 σ _ _ I1 ht) fun us s2 ⟨vs, H2, I2, r, h1, h2, q⟩ => ⟨lam_fn I2 h1, ?_⟩) he hpl
  show wpAny _ _ (call (.ref f) us) _ _ _
  refine wpAny_call (codeAny_mono (L.run X.A X.stack s2 H2 us vs ws _ (hr.mono hk) I2.env0 h1 h2 (cells_later C hex I2) r q) fun r' s' hq => ?_)
  cases r' with
  | error e => exact (show False from hq).elim
  | ok fl =>
    cases fl with
    | ret u => exact I2.after hq
    | next => exact False.elim hq
    | brk => exact False.elim hq
    | cont => exact False.elim hq
structure FnCb (P : Program) (w : World) (K : PySem.W.Frag) (mg : Str → Option Value) (base : Heap) (k j : Nat) (f : Addr) (fd : FuncData) (ps : List Str) (spc : Addr → LF → (List V → Hp → VK → Prop) → Sp) : Prop where
  len : ∀ fl F tl vs H Q E, spc fl F tl vs H Q E → vs.length = ps.length
  run : ∀ (A : Around) (outer : List Env) (s : Shared) (H : Hp) (us : List Value) (vs : List V) (Q : VK) (E : XK) (fl : Addr) (F : LF) (pl fr : List Str) (spl : List (Option V) → List V → Hp → VK → Prop) (ws : List (Option V)), Room k A → Env0 P w K mg base A outer s H → BindsTo s fd ⟨us, []⟩ (ps.zip us) → Vals vs us →
    LOk P w K mg base j fl F pl fr spl → CellsAt F.cl fr ws s.heap H → spc fl F (spl ws) vs H Q E → codeAny (model P w) A (.call (.ref f) ⟨us, []⟩) (CR CX0 outer P w H s Q E) s
section
variable {P : Program} {w : World} {K : PySem.W.Frag} {mg : Str → Option Value} {base : Heap}
theorem okCb {x qual : Str} {st : Stmt} {f : Addr} {fd : FuncData} {N ps : List Str} {k j : Nat} {spc : Addr → LF → (List V → Hp → VK → Prop) → Sp} (F : Fun K x qual st f fd) (S : FnScope N ps (defScope st)) (hj : j ≤ k) (len : ∀ fl F tl vs H Q E, spc fl F tl vs H Q E → vs.length = ps.length)
    (hbody : ∀ (cdv : Value) (A : Around) (outer : List Env) (s : Shared) (H : Hp) (vs : List V) (Q : VK) (E : XK) (fl : Addr) (G : LF) (tl : List V → Hp → VK → Prop), Room k (A.deeper (envOfC qual (defScope st) s.heap.objs.size f cdv)) → CbAt (cxOf CX0 P w K mg base N qual (defScope st) f cdv A outer s H E).nox fl G tl → spc fl G tl vs H Q E →
      ∃ t, PSs (cxOf CX0 P w K mg base N qual (defScope st) f cdv A outer s H E).nox (defBody st) t ∧ t { nx := fun _ H' => Q .non H', rt := Q } (L2.start N vs) H) : FnCb P w K mg base (k + 1) j f fd ps spc := by
  obtain ⟨oc, od, kV, doc, pm, an, cdv, ct, osl, rfl, lk, hcd⟩ := F.ex
  refine ⟨len, fun A outer s H us vs Q E fl G pl fr spl ws hr e0 hb r L C hsp => ?_⟩
  have hl := len _ _ _ _ _ _ _ hsp
  refine LamX.run_ofS (N := N) (ps := ps) lk hcd S hr e0 hb r hl fun hr' => ?_
  obtain ⟨t, h, q⟩ := hbody cdv A outer s H vs Q E fl G (spl ws) hr' (cbAt_of L C rfl hr' hj) hsp
  exact ⟨t, h.nox, q⟩
end
/-- a call that hands on a lambda which the caller has made: mk, its words; js: the slots of what it captured -/
def tCallCb (mk : Addr → LF) (js : List Nat) (spl : Addr → Addr → List (Option V) → List V → Hp → VK → Prop) (spc : Addr → LF → (List V → Hp → VK → Prop) → Sp) (t : TA) : TE := fun σ H Q => t σ H fun vs H1 => ∃ fl c', spc fl (mk c') (spl fl c' (js.map (slotAt σ))) vs H1 Q E0
section
variable {X : Cx} {k j i : Nat} {f : Addr} {fd : FuncData} {ps pl fr : List Str} {mk : Addr → LF} {cl : List (Str × Addr)} {js : List Nat} {spl : Addr → Addr → List (Option V) → List V → Hp → VK → Prop} {spc : Addr → LF → (List V → Hp → VK → Prop) → Sp} {x : Str} {t : TA} {e : Expr} {es : List Expr} {p pos : Pos}
theorem pe_callCb (F : FnCb X.prog X.w X.K X.mg X.base k j f fd ps spc) (Lk : ∀ fl c', LOk X.prog X.w X.K X.mg X.base j fl (mk c') pl fr (spl fl c')) (hcl : ∀ c', (mk c').cl = cl) (cp : X.Ok → Caps X cl fr js) (hr : Room k X.A) (gl : Gl X x) (hm : X.mg x = some (.ref f)) (hk : PySem.W.keepIn X.K (.ref f) = true) (hb : Binds X.K fd ps [])
    (ha : PA X (e :: es) t) (hdb : (x == ("__debug__" : Str)) = false := by decide) (he : starEach (e :: es) X.env = (false, eval e X.env) :: starEach es X.env := by rfl) (hpl : (backTo pos (starEach es X.env)).any (·.1) = false := by rfl) : PE X (.Call (.Name x p) (e :: es) [] pos) (tCallCb mk js spl spc t) := by
  refine ⟨fun pins s σ H Q I h => ?_⟩
  refine wpAny_Call_Name_kw (ld_glob I gl hm ?_ hdb)
  refine PySem.W.callWith_K (h₀ := X.base) I.ok.mod.kin hk (thn (ha.run pos pins s σ H _ I h) fun us s2 ⟨vs, H2, I2, r, fl, c', q⟩ => ⟨I2.kIn, ?_⟩) he hpl
  have hl := F.len _ _ _ _ _ _ _ q
  have C := cells_of I2 (cp I2.ok)
  rw [← hcl c'] at C
  have hbt : BindsTo s2 fd ⟨us, []⟩ (ps.zip us) := by
    have := hb s2 us I2.kIn (by rw [List.append_nil, ← r.length]; exact hl)
    rwa [List.append_nil] at this
  show wpAny _ _ (call (.ref f) us) _ _ _
  refine wpAny_call (codeAny_mono (F.run X.A X.stack s2 H2 us vs Q E0 fl (mk c') pl fr _ _ hr I2.env0 hbt r (Lk fl c') C q) fun r' s' hq => ?_)
  cases r' with
  | error e => exact (show False from hq).elim
  | ok fl =>
    cases fl with
    | ret u => exact I2.after hq
    | next => exact False.elim hq
    | brk => exact False.elim hq
    | cont => exact False.elim hq
end
structure FunC (K : PySem.W.Frag) (x qual : Str) (st : Stmt) (f : Addr) (fd : FuncData) (c : Addr) : Prop where
  ex : ∃ (oc : Value) (od : Option Addr) (kV doc pm : Value) (an : Option Addr) (ct : Value) (osl : Array (Option Value)),
    fd = PySem.W.fnOf x qual (defArgs st) (defBody st) (defScope st) .none kV doc pm an (.ref c) ct ∧ K.lookup f = some ⟨oc, od, .func fd, osl⟩ ∧ PySem.W.codeIn K (.ref c) qual = true
section
variable {P : Program} {w : World} {K : PySem.W.Frag} {mg : Str → Option Value} {base : Heap}
theorem FunC.ok {x qual : Str} {st : Stmt} {f c : Addr} {fd : FuncData} {N ps : List Str} {k : Nat} {sp : Sp} (F : FunC K x qual st f fd c) (S : FnScope N ps (defScope st)) (len : ∀ vs H Q E, sp vs H Q E → vs.length = ps.length)
    (hbody : ∀ (A : Around) (outer : List Env) (s : Shared) (H : Hp) (vs : List V) (Q : VK) (E : XK), Room k (A.deeper (envOfC qual (defScope st) s.heap.objs.size f (.ref c))) → sp vs H Q E →
      ∃ t, PSs (cxOf CX0 P w K mg base N qual (defScope st) f (.ref c) A outer s H E).nox (defBody st) t ∧ t { nx := fun _ H' => Q .non H', rt := Q } (L2.start N vs) H) : FnOk P w K mg base CX0 (k + 1) f fd ps sp := by
  obtain ⟨oc, od, kV, doc, pm, an, ct, osl, rfl, lk, hcd⟩ := F.ex
  refine fn_of lk hcd S len fun A outer s H vs Q E hr hsp => ?_
  obtain ⟨t, h, q⟩ := hbody A outer s H vs Q E hr hsp
  exact ⟨t, h.nox, q⟩
theorem FunC.okX {x qual : Str} {st : Stmt} {f c : Addr} {fd : FuncData} {N ps : List Str} {k : Nat} {sp : Sp} (F : FunC K x qual st f fd c) (S : FnScope N ps (defScope st)) (len : ∀ vs H Q E, sp vs H Q E → vs.length = ps.length)
    (hbody : ∀ (A : Around) (outer : List Env) (s : Shared) (H : Hp) (vs : List V) (Q : VK) (E : XK), Room k (A.deeper (envOfC qual (defScope st) s.heap.objs.size f (.ref c))) → sp vs H Q E →
      ∃ t, PSs (cxOf (L2.CX P w) P w K mg base N qual (defScope st) f (.ref c) A outer s H E) (defBody st) t ∧ t { nx := fun _ H' => Q .non H', rt := Q } (L2.start N vs) H) : FnOk P w K mg base (L2.CX P w) (k + 1) f fd ps sp := by
  obtain ⟨oc, od, kV, doc, pm, an, ct, osl, rfl, lk, hcd⟩ := F.ex
  exact fn_of lk hcd S len fun A outer s H vs Q E hr hsp => hbody A outer s H vs Q E hr hsp
end
section
variable {σ : L2.St} {H : Hp} {Q : VK}
theorem st_lamb {T : List (Addr × Str)} {mk : Addr → LF} (hT : Tabs T H) (h : ∀ (f c' : Addr) (H1 : Hp), ExT H H1 → (∀ b, H1 b = none → H b = none) → Tabs T H1 → H f = none → H1 f = some (LamO f (mk c')) → H1 c' = some (CodeO c' (mk c').qual) → Q (.ref f) H1) : tLamb T mk σ H Q := ⟨hT, h⟩
def CbP (f : Addr) (F : LF) (tl : List V → Hp → VK → Prop) (Q : VK) (vs : List V) (H1 : Hp) : Prop := H1 f = some (LamO f F) ∧ H1 F.c = some (CodeO F.c F.qual) ∧ tl vs H1 Q
theorem st_cbk {f : Addr} {F : LF} {i : Nat} {tl : List V → Hp → VK → Prop} {t : TA} (h1 : σ[i]? = some (some (.ref f))) (h2 : H f = some (LamO f F)) (h : t σ H (CbP f F tl Q)) : tCb f F i tl t σ H Q := ⟨h1, h2, h⟩
theorem st_cbP {f : Addr} {F : LF} {tl : List V → Hp → VK → Prop} {vs : List V} (h1 : H f = some (LamO f F)) (h2 : H F.c = some (CodeO F.c F.qual)) (h : tl vs H Q) : CbP f F tl Q vs H := ⟨h1, h2, h⟩
end
end Zb
namespace Zb
open PySem PySem.Spec PyProof.Rows L2 LamX NdefX
section
variable {P : Program} {w : World} {K : PySem.W.Frag} {mg : Str → Option Value} {base : Heap} {N ps fr : List Str} {F : LF} {f : Addr} {k : Nat} {t : TE}
/-- a lambda's promise is its body's reading -/
theorem lok_t (S : NScope N ps fr F.scope) (hb : ∀ (pm ctv : Value) (us : List Value), us.length = ps.length → bindArgs (F.fd pm ctv) ⟨us, []⟩ = pure (ps.zip us))
    (hbody : ∀ (A : Around) (outer : List Env) (s : Shared) (H : Hp), Room k (A.deeper (envF F.nf f s.heap.objs.size)) → PE (ncx CX0 P w K mg base N F.nf f A outer s H E0) F.body t) : LOk P w K mg base (k + 1) f F ps fr (fun ws vs H Q => vs.length = ps.length ∧ t (startF N vs ws) H Q) :=
  lok_of S hb (fun _ _ _ _ h => h.1) fun A outer s H vs ws Q hr h => ⟨t, hbody A outer s H hr, h.2⟩
end
def asgE : Stmt → Expr
  | .Assign _ e _ => e
  | .Return (some e) _ => e
  | _ => .Constant .none 0 ⟨0, 0, 0, 0⟩
def bodyS (st : Stmt) (i : Nat) : Stmt := (defBody st).getD i (.Pass ⟨0, 0, 0, 0⟩)
def lamA : Expr → Arguments
  | .Lambda a _ _ _ => a
  | _ => { posonlyargs := [], args := [], vararg := none, kwonlyargs := [], kw_defaults := [], kwarg := none, defaults := [] }
def lamB : Expr → Expr
  | .Lambda _ b _ _ => b
  | e => e
def lamSc : Expr → Scope
  | .Lambda _ _ s _ => s
  | _ => { kind := .function, names := [], isGenerator := false, isCoroutine := false }
section
variable {σ : L2.St} {H : Hp} {Q : VK}
def CbC (mk : Addr → LF) (js : List Nat) (spl : Addr → Addr → List (Option V) → List V → Hp → VK → Prop) (spc : Addr → LF → (List V → Hp → VK → Prop) → Sp) (σ : L2.St) (Q : VK) (vs : List V) (H1 : Hp) : Prop := ∃ fl c', spc fl (mk c') (spl fl c' (js.map (slotAt σ))) vs H1 Q E0
theorem st_callCb {mk : Addr → LF} {js : List Nat} {spl : Addr → Addr → List (Option V) → List V → Hp → VK → Prop} {spc : Addr → LF → (List V → Hp → VK → Prop) → Sp} {t : TA} (h : t σ H (CbC mk js spl spc σ Q)) : tCallCb mk js spl spc t σ H Q := h
end
end Zb
namespace Zb
open PySem PySem.Spec PyProof.Rows L2
end Zb
set_option Elab.async false
set_option linter.all false
set_option maxRecDepth 100000
set_option maxHeartbeats 4000000
namespace My
open PySem PySem.Spec PyProof.Rows L2 Zb LamX NdefX
open Evl (tCut pss_cut)
def top (i : Nat) : Stmt := PySem.Challenge.pw_panethread_k66_whole_no_changes_pay_less.main.body.getD i (.Pass ⟨0, 0, 0, 0⟩)
abbrev s_is_whole : Stmt := top 16
abbrev N_is_whole : List Str := ["thing"]
theorem sc_is_whole : FnScope N_is_whole ["thing"] (defScope s_is_whole) := ⟨rfl, rfl, rfl, by decide +kernel, rfl, by decide +kernel, by decide +kernel⟩
abbrev s_is_within : Stmt := top 17
abbrev N_is_within : List Str := ["thing", "low", "high"]
theorem sc_is_within : FnScope N_is_within ["thing", "low", "high"] (defScope s_is_within) := ⟨rfl, rfl, rfl, by decide +kernel, rfl, by decide +kernel, by decide +kernel⟩
abbrev s_is_letter : Stmt := top 18
abbrev N_is_letter : List Str := ["thing"]
theorem sc_is_letter : FnScope N_is_letter ["thing"] (defScope s_is_letter) := ⟨rfl, rfl, rfl, by decide +kernel, rfl, by decide +kernel, by decide +kernel⟩
abbrev s_is_row : Stmt := top 19
abbrev N_is_row : List Str := ["thing", "sign"]
theorem sc_is_row : FnScope N_is_row ["thing"] (defScope s_is_row) := ⟨rfl, rfl, rfl, by decide +kernel, rfl, by decide +kernel, by decide +kernel⟩
abbrev s_is_plain : Stmt := top 20
abbrev N_is_plain : List Str := ["thing"]
theorem sc_is_plain : FnScope N_is_plain ["thing"] (defScope s_is_plain) := ⟨rfl, rfl, rfl, by decide +kernel, rfl, by decide +kernel, by decide +kernel⟩
abbrev s_need_row : Stmt := top 21
abbrev N_need_row : List Str := ["row"]
theorem sc_need_row : FnScope N_need_row ["row"] (defScope s_need_row) := ⟨rfl, rfl, rfl, by decide +kernel, rfl, by decide +kernel, by decide +kernel⟩
abbrev s_need_rows : Stmt := top 22
abbrev N_need_rows : List Str := ["side", "top"]
theorem sc_need_rows : FnScope N_need_rows ["side", "top"] (defScope s_need_rows) := ⟨rfl, rfl, rfl, by decide +kernel, rfl, by decide +kernel, by decide +kernel⟩
abbrev s_need_plain : Stmt := top 23
abbrev N_need_plain : List Str := ["row"]
theorem sc_need_plain : FnScope N_need_plain ["row"] (defScope s_need_plain) := ⟨rfl, rfl, rfl, by decide +kernel, rfl, by decide +kernel, by decide +kernel⟩
abbrev s_need_span : Stmt := top 24
abbrev N_need_span : List Str := ["begin", "end", "many"]
theorem sc_need_span : FnScope N_need_span ["begin", "end", "many"] (defScope s_need_span) := ⟨rfl, rfl, rfl, by decide +kernel, rfl, by decide +kernel, by decide +kernel⟩
abbrev s_parted : Stmt := top 25
abbrev N_parted : List Str := ["row", "sign"]
theorem sc_parted : FnScope N_parted ["row"] (defScope s_parted) := ⟨rfl, rfl, rfl, by decide +kernel, rfl, by decide +kernel, by decide +kernel⟩
abbrev s_places_of : Stmt := top 26
abbrev N_places_of : List Str := ["row", "found", "at", "sign"]
theorem sc_places_of : FnScope N_places_of ["row"] (defScope s_places_of) := ⟨rfl, rfl, rfl, by decide +kernel, rfl, by decide +kernel, by decide +kernel⟩
abbrev s_led : Stmt := top 28
abbrev N_led : List Str := ["many", "far", "crosses", "downs", "rights", "meetings", "signs", "row", "across", "met", "told", "column", "above", "goals", "goal", "line"]
theorem sc_led : FnScope N_led ["many", "far", "crosses"] (defScope s_led) := ⟨rfl, rfl, rfl, by decide +kernel, rfl, by decide +kernel, by decide +kernel⟩
abbrev s_is_turning : Stmt := top 32
abbrev N_is_turning : List Str := ["thing", "seen", "goal"]
theorem sc_is_turning : FnScope N_is_turning ["thing"] (defScope s_is_turning) := ⟨rfl, rfl, rfl, by decide +kernel, rfl, by decide +kernel, by decide +kernel⟩
abbrev s_need_turning : Stmt := top 33
abbrev N_need_turning : List Str := ["turning"]
theorem sc_need_turning : FnScope N_need_turning ["turning"] (defScope s_need_turning) := ⟨rfl, rfl, rfl, by decide +kernel, rfl, by decide +kernel, by decide +kernel⟩
abbrev s_need_place : Stmt := top 34
abbrev N_need_place : List Str := ["place", "most"]
theorem sc_need_place : FnScope N_need_place ["place", "most"] (defScope s_need_place) := ⟨rfl, rfl, rfl, by decide +kernel, rfl, by decide +kernel, by decide +kernel⟩
abbrev s_opposite : Stmt := top 35
abbrev N_opposite : List Str := ["turning", "found", "start", "goal"]
theorem sc_opposite : FnScope N_opposite ["turning"] (defScope s_opposite) := ⟨rfl, rfl, rfl, by decide +kernel, rfl, by decide +kernel, by decide +kernel⟩
abbrev s_mixed : Stmt := top 37
abbrev N_mixed : List Str := ["one", "other", "found", "at", "number"]
theorem sc_mixed : FnScope N_mixed ["one", "other"] (defScope s_mixed) := ⟨rfl, rfl, rfl, by decide +kernel, rfl, by decide +kernel, by decide +kernel⟩
abbrev s_floors_of : Stmt := top 38
abbrev N_floors_of : List Str := ["ends", "floors", "blocks", "above", "end", "left", "right"]
theorem sc_floors_of : FnScope N_floors_of ["ends"] (defScope s_floors_of) := ⟨rfl, rfl, rfl, by decide +kernel, rfl, by decide +kernel, by decide +kernel⟩
abbrev s_lesser : Stmt := top 39
abbrev N_lesser : List Str := ["block", "end", "low", "high", "amid"]
theorem sc_lesser : FnScope N_lesser ["block", "end"] (defScope s_lesser) := ⟨rfl, rfl, rfl, by decide +kernel, rfl, by decide +kernel, by decide +kernel⟩
abbrev s_need_window : Stmt := top 42
abbrev N_need_window : List Str := ["tall", "wide", "spans", "first", "last", "begin", "end", "starts", "stops"]
theorem sc_need_window : FnScope N_need_window ["tall", "wide", "spans"] (defScope s_need_window) := ⟨rfl, rfl, rfl, by decide +kernel, rfl, by decide +kernel, by decide +kernel⟩
abbrev s_Tally_init : Stmt := inClass (top 40) 0
abbrev N_Tally_init : List Str := ["self", "turning"]
theorem sc_Tally_init : FnScope N_Tally_init ["self", "turning"] (defScope s_Tally_init) := ⟨rfl, rfl, rfl, by decide +kernel, rfl, by decide +kernel, by decide +kernel⟩
abbrev s_Asks_init : Stmt := inClass (top 43) 0
abbrev N_Asks_init : List Str := ["self", "lines", "many"]
theorem sc_Asks_init : FnScope N_Asks_init ["self", "lines", "many"] (defScope s_Asks_init) := ⟨rfl, rfl, rfl, by decide +kernel, rfl, by decide +kernel, by decide +kernel⟩
abbrev s_Board_init : Stmt := inClass (top 29) 0
abbrev N_Board_init : List Str := ["self", "side", "top", "rule", "meetings", "signs", "goals"]
theorem sc_Board_init : FnScope N_Board_init ["self", "side", "top"] (defScope s_Board_init) := ⟨rfl, rfl, rfl, by decide +kernel, rfl, by decide +kernel, by decide +kernel⟩
abbrev s_Board_lines : Stmt := inClass (top 29) 3
abbrev N_Board_lines : List Str := ["self"]
theorem sc_Board_lines : FnScope N_Board_lines ["self"] (defScope s_Board_lines) := ⟨rfl, rfl, rfl, by decide +kernel, rfl, by decide +kernel, by decide +kernel⟩
abbrev s_asks_of : Stmt := top 44
abbrev N_asks_of : List Str := ["side", "top"]
theorem sc_asks_of : FnScope N_asks_of ["side", "top"] (defScope s_asks_of) := ⟨rfl, rfl, rfl, by decide +kernel, rfl, by decide +kernel, by decide +kernel⟩
abbrev s_is_change : Stmt := top 48
abbrev N_is_change : List Str := ["thing", "letter"]
theorem sc_is_change : FnScope N_is_change ["thing"] (defScope s_is_change) := ⟨rfl, rfl, rfl, by decide +kernel, rfl, by decide +kernel, by decide +kernel⟩
abbrev s_is_changes : Stmt := top 49
abbrev N_is_changes : List Str := ["thing", "change"]
theorem sc_is_changes : FnScope N_is_changes ["thing"] (defScope s_is_changes) := ⟨rfl, rfl, rfl, by decide +kernel, rfl, by decide +kernel, by decide +kernel⟩
abbrev s_need_changes : Stmt := top 50
abbrev N_need_changes : List Str := ["thing"]
theorem sc_need_changes : FnScope N_need_changes ["thing"] (defScope s_need_changes) := ⟨rfl, rfl, rfl, by decide +kernel, rfl, by decide +kernel, by decide +kernel⟩
abbrev s_old_of : Stmt := top 51
abbrev N_old_of : List Str := ["change"]
theorem sc_old_of : FnScope N_old_of ["change"] (defScope s_old_of) := ⟨rfl, rfl, rfl, by decide +kernel, rfl, by decide +kernel, by decide +kernel⟩
abbrev s_new_of : Stmt := top 52
abbrev N_new_of : List Str := ["change"]
theorem sc_new_of : FnScope N_new_of ["change"] (defScope s_new_of) := ⟨rfl, rfl, rfl, by decide +kernel, rfl, by decide +kernel, by decide +kernel⟩
abbrev s_old_row : Stmt := top 53
abbrev N_old_row : List Str := ["changes", "change"]
theorem sc_old_row : FnScope N_old_row ["changes"] (defScope s_old_row) := ⟨rfl, rfl, rfl, by decide +kernel, rfl, by decide +kernel, by decide +kernel⟩
abbrev s_new_row : Stmt := top 54
abbrev N_new_row : List Str := ["changes", "change"]
theorem sc_new_row : FnScope N_new_row ["changes"] (defScope s_new_row) := ⟨rfl, rfl, rfl, by decide +kernel, rfl, by decide +kernel, by decide +kernel⟩
abbrev s_come_to : Stmt := top 55
abbrev N_come_to : List Str := ["old", "new"]
theorem sc_come_to : FnScope N_come_to ["old", "new"] (defScope s_come_to) := ⟨rfl, rfl, rfl, by decide +kernel, rfl, by decide +kernel, by decide +kernel⟩
abbrev s_paid : Stmt := top 56
abbrev N_paid : List Str := ["changes", "change"]
theorem sc_paid : FnScope N_paid ["changes"] (defScope s_paid) := ⟨rfl, rfl, rfl, by decide +kernel, rfl, by decide +kernel, by decide +kernel⟩
abbrev s_done : Stmt := top 57
abbrev N_done : List Str := ["row", "changes"]
theorem sc_done : FnScope N_done ["row", "changes"] (defScope s_done) := ⟨rfl, rfl, rfl, by decide +kernel, rfl, by decide +kernel, by decide +kernel⟩
abbrev s_back : Stmt := top 58
abbrev N_back : List Str := ["changes", "found", "change"]
theorem sc_back : FnScope N_back ["changes"] (defScope s_back) := ⟨rfl, rfl, rfl, by decide +kernel, rfl, by decide +kernel, by decide +kernel⟩
abbrev s_after : Stmt := top 59
abbrev N_after : List Str := ["one", "other", "found", "i", "j"]
theorem sc_after : FnScope N_after ["one", "other"] (defScope s_after) := ⟨rfl, rfl, rfl, by decide +kernel, rfl, by decide +kernel, by decide +kernel⟩
abbrev s_lengths : Stmt := top 61
abbrev N_lengths : List Str := ["side", "top", "table", "sign", "above", "row", "at", "other", "most"]
theorem sc_lengths : FnScope N_lengths ["side", "top"] (defScope s_lengths) := ⟨rfl, rfl, rfl, by decide +kernel, rfl, by decide +kernel, by decide +kernel⟩
abbrev s_longest : Stmt := top 62
abbrev N_longest : List Str := ["side", "top"]
theorem sc_longest : FnScope N_longest ["side", "top"] (defScope s_longest) := ⟨rfl, rfl, rfl, by decide +kernel, rfl, by decide +kernel, by decide +kernel⟩
abbrev s_is_pair : Stmt := top 63
abbrev N_is_pair : List Str := ["side", "top", "thing", "i", "j"]
theorem sc_is_pair : FnScope N_is_pair ["side", "top", "thing"] (defScope s_is_pair) := ⟨rfl, rfl, rfl, by decide +kernel, rfl, by decide +kernel, by decide +kernel⟩
abbrev s_pairs_of : Stmt := top 65
abbrev N_pairs_of : List Str := ["side", "top", "there", "found", "i", "sign", "j"]
theorem sc_pairs_of : FnScope N_pairs_of ["side", "top"] (defScope s_pairs_of) := ⟨rfl, rfl, rfl, by decide +kernel, rfl, by decide +kernel, by decide +kernel⟩
abbrev s_is_heap : Stmt := top 66
abbrev N_is_heap : List Str := ["side", "top", "thing", "least", "before", "i", "j", "pair"]
theorem sc_is_heap : FnScope N_is_heap ["side", "top", "thing"] (defScope s_is_heap) := ⟨rfl, rfl, rfl, by decide +kernel, rfl, by decide +kernel, by decide +kernel⟩
abbrev s_are_heaps : Stmt := top 67
abbrev N_are_heaps : List Str := ["side", "top", "thing", "pairs", "found", "heap"]
theorem sc_are_heaps : FnScope N_are_heaps ["side", "top", "thing"] (defScope s_are_heaps) := ⟨rfl, rfl, rfl, by decide +kernel, rfl, by decide +kernel, by decide +kernel⟩
abbrev s_need_plains : Stmt := top 69
abbrev N_need_plains : List Str := ["side", "top"]
theorem sc_need_plains : FnScope N_need_plains ["side", "top"] (defScope s_need_plains) := ⟨rfl, rfl, rfl, by decide +kernel, rfl, by decide +kernel, by decide +kernel⟩
abbrev s_cost : Stmt := top 70
abbrev N_cost : List Str := ["side", "top"]
theorem sc_cost : FnScope N_cost ["side", "top"] (defScope s_cost) := ⟨rfl, rfl, rfl, by decide +kernel, rfl, by decide +kernel, by decide +kernel⟩
abbrev s_cost_table : Stmt := top 72
abbrev N_cost_table : List Str := ["side", "top", "table", "sign", "above", "row", "at", "other"]
theorem sc_cost_table : FnScope N_cost_table ["side", "top"] (defScope s_cost_table) := ⟨rfl, rfl, rfl, by decide +kernel, rfl, by decide +kernel, by decide +kernel⟩
abbrev s_changes_of : Stmt := top 73
abbrev N_changes_of : List Str := ["side", "top", "table", "i", "j", "found"]
theorem sc_changes_of : FnScope N_changes_of ["side", "top"] (defScope s_changes_of) := ⟨rfl, rfl, rfl, by decide +kernel, rfl, by decide +kernel, by decide +kernel⟩
abbrev s_shows_cost : Stmt := top 74
abbrev N_shows_cost : List Str := ["side", "top", "thing", "changes", "heaps"]
theorem sc_shows_cost : FnScope N_shows_cost ["side", "top", "thing"] (defScope s_shows_cost) := ⟨rfl, rfl, rfl, by decide +kernel, rfl, by decide +kernel, by decide +kernel⟩
abbrev s__law_cell_at : Stmt := top 76
abbrev N__law_cell_at : List Str := ["_law_script", "_law_k"]
theorem sc__law_cell_at : FnScope N__law_cell_at ["_law_script", "_law_k"] (defScope s__law_cell_at) := ⟨rfl, rfl, rfl, by decide +kernel, rfl, by decide +kernel, by decide +kernel⟩
abbrev s__law_great : Stmt := top 77
abbrev N__law_great : List Str := ["_law_cell", "_law_found", "_law_number", "_law_k"]
theorem sc__law_great : FnScope N__law_great ["_law_cell"] (defScope s__law_great) := ⟨rfl, rfl, rfl, by decide +kernel, rfl, by decide +kernel, by decide +kernel⟩
abbrev s__law_letter : Stmt := top 78
abbrev N__law_letter : List Str := ["_law_number"]
theorem sc__law_letter : FnScope N__law_letter ["_law_number"] (defScope s__law_letter) := ⟨rfl, rfl, rfl, by decide +kernel, rfl, by decide +kernel, by decide +kernel⟩
abbrev s__law_row : Stmt := top 79
abbrev N__law_row : List Str := ["_law_cell", "_law_most", "_law_number", "_law_many", "_law_wide", "_law_first", "_law_row_here", "_law_k"]
theorem sc__law_row : FnScope N__law_row ["_law_cell", "_law_most"] (defScope s__law_row) := ⟨rfl, rfl, rfl, by decide +kernel, rfl, by decide +kernel, by decide +kernel⟩
abbrev s__law_list : Stmt := top 80
abbrev N__law_list : List Str := ["_law_row_here", "_law_cells", "_law_most", "_law_changes", "_law_at", "_law_many", "_law_cell", "_law_old_here", "_law_other", "_law_letter_here"]
theorem sc__law_list : FnScope N__law_list ["_law_row_here", "_law_cells", "_law_most"] (defScope s__law_list) := ⟨rfl, rfl, rfl, by decide +kernel, rfl, by decide +kernel, by decide +kernel⟩
abbrev s__law_new : Stmt := top 81
abbrev N__law_new : List Str := ["_law_changes", "_law_change"]
theorem sc__law_new : FnScope N__law_new ["_law_changes"] (defScope s__law_new) := ⟨rfl, rfl, rfl, by decide +kernel, rfl, by decide +kernel, by decide +kernel⟩
abbrev s__law_old : Stmt := top 82
abbrev N__law_old : List Str := ["_law_changes", "_law_change"]
theorem sc__law_old : FnScope N__law_old ["_law_changes"] (defScope s__law_old) := ⟨rfl, rfl, rfl, by decide +kernel, rfl, by decide +kernel, by decide +kernel⟩
abbrev s__law_pays : Stmt := top 83
abbrev N__law_pays : List Str := ["_law_changes", "_law_change"]
theorem sc__law_pays : FnScope N__law_pays ["_law_changes"] (defScope s__law_pays) := ⟨rfl, rfl, rfl, by decide +kernel, rfl, by decide +kernel, by decide +kernel⟩
abbrev s__law_parted : Stmt := top 84
abbrev N__law_parted : List Str := ["_law_row_here", "_law_letter_here"]
theorem sc__law_parted : FnScope N__law_parted ["_law_row_here"] (defScope s__law_parted) := ⟨rfl, rfl, rfl, by decide +kernel, rfl, by decide +kernel, by decide +kernel⟩
abbrev s__law_heaps : Stmt := top 85
abbrev N__law_heaps : List Str := ["_law_side", "_law_top", "_law_found", "_law_row_here", "_law_i", "_law_below", "_law_j"]
theorem sc__law_heaps : FnScope N__law_heaps ["_law_side", "_law_top"] (defScope s__law_heaps) := ⟨rfl, rfl, rfl, by decide +kernel, rfl, by decide +kernel, by decide +kernel⟩
abbrev s__law_part_one : Stmt := top 86
abbrev N__law_part_one : List Str := ["_law_heaps_here", "_law_at", "_law_heap", "_law_head", "_law_one"]
theorem sc__law_part_one : FnScope N__law_part_one ["_law_heaps_here", "_law_at"] (defScope s__law_part_one) := ⟨rfl, rfl, rfl, by decide +kernel, rfl, by decide +kernel, by decide +kernel⟩
abbrev s__law_leads : Stmt := top 87
abbrev N__law_leads : List Str := ["_law_changes", "_law_row_here", "_law_goal", "_law_change"]
theorem sc__law_leads : FnScope N__law_leads ["_law_changes", "_law_row_here", "_law_goal"] (defScope s__law_leads) := ⟨rfl, rfl, rfl, by decide +kernel, rfl, by decide +kernel, by decide +kernel⟩
abbrev s__law_shown : Stmt := top 88
abbrev N__law_shown : List Str := ["_law_row_here", "_law_goal", "_law_drawn", "_law_heaps_here", "_law_handed", "_law_due", "_law_found", "_law_heap"]
theorem sc__law_shown : FnScope N__law_shown ["_law_row_here", "_law_goal", "_law_drawn", "_law_heaps_here"] (defScope s__law_shown) := ⟨rfl, rfl, rfl, by decide +kernel, rfl, by decide +kernel, by decide +kernel⟩
abbrev s__law_both_ways : Stmt := top 89
abbrev N__law_both_ways : List Str := ["_law_row_here", "_law_goal", "_law_drawn", "_law_at", "_law_heaps_here", "_law_least", "_law_more", "_law_cheap", "_law_other", "_law_there"]
theorem sc__law_both_ways : FnScope N__law_both_ways ["_law_row_here", "_law_goal", "_law_drawn", "_law_at"] (defScope s__law_both_ways) := ⟨rfl, rfl, rfl, by decide +kernel, rfl, by decide +kernel, by decide +kernel⟩
abbrev s_Asks_gains : Stmt := inClass (top 43) 6
abbrev N_Asks_gains : List Str := ["self", "begin", "at"]
theorem sc_Asks_gains : FnScope N_Asks_gains ["self", "begin"] (defScope s_Asks_gains) := ⟨rfl, rfl, rfl, by decide +kernel, rfl, by decide +kernel, by decide +kernel⟩
abbrev s_Tally_from_on : Stmt := inClass (top 40) 1
abbrev N_Tally_from_on : List Str := ["self", "begin", "end", "total", "at", "floor"]
theorem sc_Tally_from_on : FnScope N_Tally_from_on ["self", "begin", "end"] (defScope s_Tally_from_on) := ⟨rfl, rfl, rfl, by decide +kernel, rfl, by decide +kernel, by decide +kernel⟩
abbrev s_Tally_below : Stmt := inClass (top 40) 2
abbrev N_Tally_below : List Str := ["self", "begin", "end"]
theorem sc_Tally_below : FnScope N_Tally_below ["self", "begin", "end"] (defScope s_Tally_below) := ⟨rfl, rfl, rfl, by decide +kernel, rfl, by decide +kernel, by decide +kernel⟩
abbrev s_Asks_window : Stmt := inClass (top 43) 1
abbrev N_Asks_window : List Str := ["self", "first", "last", "begin", "end"]
theorem sc_Asks_window : FnScope N_Asks_window ["self", "first", "last", "begin", "end"] (defScope s_Asks_window) := ⟨rfl, rfl, rfl, by decide +kernel, rfl, by decide +kernel, by decide +kernel⟩
abbrev s_Asks_stretch : Stmt := inClass (top 43) 2
abbrev N_Asks_stretch : List Str := ["self", "begin", "end"]
theorem sc_Asks_stretch : FnScope N_Asks_stretch ["self", "begin", "end"] (defScope s_Asks_stretch) := ⟨rfl, rfl, rfl, by decide +kernel, rfl, by decide +kernel, by decide +kernel⟩
abbrev s_Asks_table : Stmt := inClass (top 43) 8
abbrev N_Asks_table : List Str := ["self", "found", "begin", "row", "more", "at"]
theorem sc_Asks_table : FnScope N_Asks_table ["self"] (defScope s_Asks_table) := ⟨rfl, rfl, rfl, by decide +kernel, rfl, by decide +kernel, by decide +kernel⟩
abbrev s_Costs_init : Stmt := inClass (top 71) 0
abbrev N_Costs_init : List Str := ["self", "side", "top", "table", "begin", "lengths", "at", "many"]
theorem sc_Costs_init : FnScope N_Costs_init ["self", "side", "top"] (defScope s_Costs_init) := ⟨rfl, rfl, rfl, by decide +kernel, rfl, by decide +kernel, by decide +kernel⟩
abbrev s_Costs_of : Stmt := inClass (top 71) 3
abbrev N_Costs_of : List Str := ["self", "begin", "end"]
theorem sc_Costs_of : FnScope N_Costs_of ["self", "begin", "end"] (defScope s_Costs_of) := ⟨rfl, rfl, rfl, by decide +kernel, rfl, by decide +kernel, by decide +kernel⟩
abbrev s_law : Stmt := top 90
abbrev N_law : List Str := ["_law_script", "_law_first", "_law_drawn", "_law_second", "_law_further", "_law_third", "_law_at", "_law_through", "_law_whole"]
theorem sc_law : FnScope N_law ["_law_script"] (defScope s_law) := ⟨rfl, rfl, rfl, by decide +kernel, rfl, by decide +kernel, by decide +kernel⟩
local macro_rules | `(tactic| walk_at "hp") => `(tactic| first
  | assumption
  | exact upd_same
  | (refine upd_old (by assumption) ?_; walk_at "hp")
  | (refine Ex.get (by assumption) ?_; walk_at "hp")
  | (refine Fr.get (by assumption) (by assumption) ?_; walk_at "hp"))
local macro_rules | `(tactic| walk_at "kn") => `(tactic| first
  | exact KitN.nil
  | (refine KitN.cons ?_ ?_; (walk_at "ki"); (walk_at "kn")))
local macro_rules | `(tactic| walk_at "pu") => `(tactic| first
  | assumption
  | (refine Purse.ex ?_ (by assumption); walk_at "pu"))
local macro_rules | `(tactic| walk_at "fr") => `(tactic| first
  | exact Fr.refl _
  | assumption
  | exact Fr.ex (by assumption)
  | (refine Fr.trans ?_ (by assumption); walk_at "fr")
  | (refine Fr.trans ?_ (Fr.ex (by assumption)); walk_at "fr"))
local macro_rules | `(tactic| walk_at "sd") => `(tactic| first
  | omega
  | (simp only [tx_length, List.length_append, List.length_cons, List.length_nil, List.length_map, List.length_take, List.length_drop]; omega)
  | assumption
  | exact rfl
  | decide)
local macro_rules | `(tactic| walk_at "nw") => `(tactic| (intro q H' hq he hv; (try (have hne := Purse.ne (by assumption) hq; have hpu := Purse.ex (by assumption) he))))
local macro_rules | `(tactic| walk_at "nx") => `(tactic| (intro a d H' ha hd he hv; (try (have hpu := Purse.ex (by assumption) he))))
local macro_rules | `(tactic| walk_at "hx") => `(tactic| first
  | assumption
  | exact XcV.has (by assumption)
  | (refine' HasX.ex ?a7 (by assumption); (case a7 => walk_at "hx")))
local macro_rules | `(tactic| walk_at "sm") => `(tactic| first
  | exact Sm.nil
  | assumption
  | (refine Sm.app ?_ ?_ <;> walk_at "sm")
  | (refine Sm.cons ?_ ?_ <;> walk_at "sm")
  | exact Sm.up Sm.non (Nat.le_of_ble_eq_true rfl) (Nat.le_of_ble_eq_true rfl)
  | exact Sm.up (Sm.bl _) (Nat.le_of_ble_eq_true rfl) (Nat.le_of_ble_eq_true rfl)
  | exact Sm.up (Sm.int (by omega)) (Nat.le_of_ble_eq_true rfl) (Nat.le_of_ble_eq_true rfl)
  | exact Sm.up (Sm.str (by decide +kernel)) (Nat.le_of_ble_eq_true rfl) (Nat.le_of_ble_eq_true rfl)
  | (refine Sm.up (Sm.tup (n := 1) (k := 1) (by walk_at "hp") ?_ (Nat.le_refl _)) (Nat.le_of_ble_eq_true rfl) (Nat.le_of_ble_eq_true rfl); walk_at "sm")
  | (refine Sm.up (Sm.lst (n := 1) (k := 1) (by walk_at "hp") ?_ (Nat.le_refl _)) (Nat.le_of_ble_eq_true rfl) (Nat.le_of_ble_eq_true rfl); walk_at "sm"))
local macro_rules | `(tactic| walk_at "ln") => `(tactic| first | omega | (simp only [List.length_append, List.length_cons, List.length_nil, List.length_map, List.length_singleton]; omega))
local macro_rules | `(tactic| walk_at "sn") => `(tactic| first
  | exact Sm.nil
  | assumption
  | exact Sm.upA (by assumption) (Nat.le_of_ble_eq_true rfl) (Nat.le_of_ble_eq_true rfl)
  | exact Sm.up (by assumption) (Nat.le_of_ble_eq_true rfl) (Nat.le_of_ble_eq_true rfl)
  | (refine Sm.app ?_ ?_ <;> walk_at "sn")
  | (refine Sm.cons ?_ ?_ <;> walk_at "sn")
  | (refine Sm.cut ?_ ; walk_at "sn")
  | walk_at "sm"
  | (refine Sm.up (Sm.lst (n := 100) (k := 3) (by walk_at "hp") ?_ (Nat.le_refl _)) (Nat.le_of_ble_eq_true rfl) (Nat.le_of_ble_eq_true rfl); walk_at "sn")
  | (refine Sm.up (Sm.lst (n := 4) (k := 2) (m := 4612) (by walk_at "hp") ?_ (by walk_at "ln")) (Nat.le_of_ble_eq_true rfl) (Nat.le_of_ble_eq_true rfl); walk_at "sn")
  | (refine Sm.up (Sm.tup (n := 4) (k := 2) (m := 4612) (by walk_at "hp") ?_ (by walk_at "ln")) (Nat.le_of_ble_eq_true rfl) (Nat.le_of_ble_eq_true rfl); walk_at "sn"))
local macro_rules | `(tactic| walk_at "sg") => `(tactic| first
  | exact allE_nil
  | (refine allE_cons ?_ ?_ <;> walk_at "sg")
  | exact ⟨_, Sd.dk (by walk_at "hp")⟩
  | (refine SdE.of (n := 1) (k := 1) ?_ (by decide) (by decide); walk_at "sm")
  | (refine SdE.of (Sm.lst (n := 18500) (k := 5) (m := 50) (by walk_at "hp") ?_ (by walk_at "ln")) (by decide) (by decide); walk_at "sn")
  | (refine SdE.of (Sm.tup (n := 18500) (k := 5) (m := 50) (by walk_at "hp") ?_ (by walk_at "ln")) (by decide) (by decide); walk_at "sn"))
local macro_rules | `(tactic| walk_at "s") => `(tactic| first
  | ((with_reducible refine' st_var ?a0 ?_); (case a0 => exact rfl))
  | ((with_reducible refine' st_isR1 ?a0 ?_); (case a0 => constructor <;> walk_at "sd"))
  | ((with_reducible refine' st_isR2 ?a0 ?_); (case a0 => refine ⟨?_, ?_, ?_, ?_⟩ <;> walk_at "sd"))
  | ((with_reducible refine' st_c ?_))
  | ((with_reducible refine' st_op ?_))
  | ((with_reducible refine' st_seq ?_))
  | ((with_reducible refine' st_asg ?_))
  | ((with_reducible refine' st_name ?_))
  | ((with_reducible refine' st_cons ?_))
  | ((with_reducible refine' st_nil ?_))
  | ((with_reducible refine' st_call ?_))
  | ((with_reducible refine' st_cb ?_))
  | ((with_reducible refine' st_ret ?_))
  | ((with_reducible refine' st_drop ?_))
  | ((with_reducible refine' st_ifS ?_))
  | ((with_reducible refine' st_test ?_))
  | ((with_reducible refine' st_B ?_))
  | ((with_reducible refine' st_isb ?_))
  | ((with_reducible refine' st_and ?_))
  | ((with_reducible refine' st_or ?_))
  | ((with_reducible refine' st_not ?_))
  | ((with_reducible refine' st_andV ?_))
  | ((with_reducible refine' st_orV ?_))
  | ((with_reducible refine' st_notV ?_))
  | ((with_reducible refine' st_if ?_))
  | ((with_reducible refine' st_lst ?_))
  | ((with_reducible refine' st_tup ?_))
  | ((with_reducible refine' st_sl ?_))
  | ((with_reducible refine' st_part ?_))
  | ((with_reducible refine' st_nopart ?_))
  | ((with_reducible refine' st_isi ?_))
  | ((with_reducible refine' st_sub ?_))
  | ((with_reducible refine' st_next ?_))
  | ((with_reducible refine' st_un ?_))
  | ((with_reducible refine' st_rU ?_))
  | ((with_reducible refine' st_augI ?a0 ?_); (case a0 => exact rfl))
  | ((with_reducible refine' st_ipI ?_))
  | ((with_reducible refine' st_par ?_))
  | ((with_reducible refine' st_par2 ?_))
  | ((with_reducible refine' st_addI ?_))
  | ((with_reducible refine' st_subI ?_))
  | ((with_reducible refine' st_cmpI ?_))
  | ((with_reducible refine' st_eqI ?_))
  | ((with_reducible refine' st_neI ?_))
  | ((with_reducible refine' st_eqS ?_))
  | ((with_reducible refine' st_neS ?_))
  | ((with_reducible refine' st_eqB ?_))
  | ((with_reducible refine' st_neB ?_))
  | ((with_reducible refine' st_max2 ?_))
  | ((with_reducible refine' st_min2 ?_))
  | ((with_reducible refine' st_min3 ?_))
  | ((with_reducible refine' st_brk ?_))
  | ((with_reducible refine' st_cont ?_))
  | ((with_reducible refine' st_retN ?_))
  | ((with_reducible refine' st_new ?a0 ?_); (case a0 => exact Nat.le_of_ble_eq_true rfl); walk_at "nw")
  | ((with_reducible refine' st_modI ?a0 ?_); (case a0 => walk_at "sd"))
  | ((with_reducible refine' st_divI ?a0 ?_); (case a0 => constructor <;> walk_at "sd"))
  | ((with_reducible refine' st_mulI ?a0 ?_); (case a0 => walk_at "sd"))
  | ((with_reducible refine' st_powI ?a0 ?_); (case a0 => refine ⟨?_, ?_, ?_⟩ <;> decide))
  | ((with_reducible refine' st_addS ?a0 ?_); (case a0 => walk_at "sd"))
  | ((with_reducible refine' st_ixL ?a0 ?a1 ?_); (case a0 => walk_at "hp"); (case a1 => exact rfl))
  | ((with_reducible refine' st_ixT ?a0 ?a1 ?_); (case a0 => walk_at "hp"); (case a1 => exact rfl))
  | ((with_reducible refine' st_lenL ?a0 ?_); (case a0 => walk_at "hp"))
  | ((with_reducible refine' st_lenT ?a0 ?_); (case a0 => walk_at "hp"))
  | ((with_reducible refine' st_lenS ?a0 ?_); (case a0 => walk_at "sd"))
  | ((with_reducible refine' st_slS ?a0 ?_); (case a0 => walk_at "sd"))
  | ((with_reducible refine' st_slL (lst_of ?a0) ?_); (case a0 => walk_at "hp"); walk_at "nw")
  | ((with_reducible refine' st_addL ?a0 ?a1 ?a2 ?_); (case a0 => walk_at "hp"); (case a1 => walk_at "hp"); (case a2 => walk_at "sd"); walk_at "nw")
  | ((with_reducible refine' st_setL ?a0 ?a1 ?_); (case a0 => walk_at "hp"); (case a1 => exact rfl))
  | ((with_reducible refine' st_yes ?_))
  | ((with_reducible refine' st_isI ?a0 ?_); (case a0 => first | exact kit_ii | exact kit_ib | exact kit_il | exact kit_is | exact kit_it | decide +kernel))
  | ((with_reducible refine' st_isL ?a0 ?a1 ?_); (case a0 => walk_at "hp"); (case a1 => first | exact kit_ll | exact kit_lt | decide +kernel))
  | ((with_reducible refine' st_isT ?a0 ?a1 ?_); (case a0 => walk_at "hp"); (case a1 => first | exact kit_tt | exact kit_tl | decide +kernel))
  | ((with_reducible refine' st_isS' ?a0 ?_); (case a0 => first | exact kit_ss | decide +kernel))
  | ((with_reducible refine' st_isB ?a0 ?_); (case a0 => first | exact kit_bb | exact kit_bi | decide +kernel))
  | ((with_reducible refine' st_clear ?a0 ?_); (case a0 => walk_at "hp"))
  | ((with_reducible refine' st_gtup ?a0 ?a1 ?_); (case a0 => walk_at "hp"); (case a1 => exact rfl))
  | ((with_reducible refine' st_glst ?a0 ?a1 ?_); (case a0 => walk_at "hp"); (case a1 => exact rfl))
  | ((with_reducible refine' st_gcons ?_))
  | ((with_reducible refine' st_gnil ?_))
  | ((with_reducible refine' st_iEnS ?_))
  | ((with_reducible refine' st_isEnS ?_))
  | ((with_reducible refine' st_mulL ?a0 ?a1 ?a2 ?a3 ?_); (case a0 => walk_at "hp"); (case a1 => walk_at "sd"); (case a2 => walk_at "sd"); (case a3 => walk_at "sd"); walk_at "nw")
  | ((with_reducible refine' st_isBool ?_))
  | ((with_reducible refine' st_pair ?_))
  | ((with_reducible refine' st_pairs0 ?_))
  | ((with_reducible refine' st_disp ?_); walk_at "nw")
  | ((with_reducible refine' st_listS ?a0 ?_); (case a0 => walk_at "sd"); walk_at "nw")
  | ((with_reducible refine' st_tupS ?a0 ?_); (case a0 => walk_at "sd"); walk_at "nw")
  | ((with_reducible refine' st_listQ (seq_l ?a0) ?_); (case a0 => walk_at "hp"); walk_at "nw")
  | ((with_reducible refine' st_tupL (lst_of ?a0) ?_); (case a0 => walk_at "hp"); walk_at "nw")
  | ((with_reducible refine' st_for ?_))
  | ((with_reducible refine' st_lc ?_))
  | ((with_reducible refine' st_iStr ?_))
  | ((with_reducible refine' st_isStr ?_))
  | ((with_reducible refine' st_iList ?_))
  | ((with_reducible refine' st_isList (lst_of ?a0) ?_); (case a0 => walk_at "hp"))
  | ((with_reducible refine' st_iTup ?_))
  | ((with_reducible refine' st_isTup (tup_of ?a0) ?_); (case a0 => walk_at "hp"))
  | ((with_reducible refine' st_iR1 ?_))
  | ((with_reducible refine' st_iR2 ?_))
  | ((with_reducible refine' st_iEn ?_))
  | ((with_reducible refine' st_isEn (lst_of ?a0) ?_); (case a0 => walk_at "hp"))
  | ((with_reducible refine' st_iZp ?_))
  | ((with_reducible refine' st_isZp (lst_of ?a0) (lst_of ?a1) ?_); (case a0 => walk_at "hp"); (case a1 => walk_at "hp"))
  | ((with_reducible refine' st_inC ?_))
  | ((with_reducible refine' st_ninC ?_))
  | ((with_reducible refine' st_m1 ?_))
  | ((with_reducible refine' st_isS ?_))
  | ((with_reducible refine' st_bm ?_))
  | ((with_reducible refine' st_bm0 ?_))
  | ((with_reducible refine' st_tyL ?a0 ?_); (case a0 => walk_at "hp"))
  | ((with_reducible refine' st_isN ?_))
  | ((with_reducible refine' st_notN ?_))
  | ((with_reducible refine' st_intB ?_))
  | ((with_reducible refine' st_intI ?_))
  | ((with_reducible refine' st_iR3 ?_))
  | ((with_reducible refine' st_dget2 ?_))
  | ((with_reducible refine' st_dsetTU ?_))
  | ((with_reducible refine' st_isDT ?a0 ?_); (case a0 => walk_at "hp"))
  | ((with_reducible refine' st_dsetd ?_))
  | ((with_reducible refine' st_dnew ?_))
  | ((with_reducible refine' st_dnewP ?_); walk_at "nw")
  | ((with_reducible refine' st_isD ?a0 ?_); (case a0 => walk_at "hp"))
  | ((with_reducible refine' st_isB2 ?_))
  | ((with_reducible refine' st_notB2 ?_))
  | ((with_reducible refine' st_chain ?_))
  | ((with_reducible refine' st_tru ?_))
  | ((with_reducible refine' st_chN ?_))
  | ((with_reducible refine' st_aug ?_))
  | ((with_reducible refine' st_augP ?a0 ?a1 ?a2 ?a3 ?_); (case a0 => walk_at "hp"); (case a1 => walk_at "cl"); (case a2 => walk_at "na"); (case a3 => exact rfl))
  | ((with_reducible refine' st_inAdd ?_))
  | ((with_reducible refine' st_augE ?a0 ?a1 ?_); (case a0 => walk_at "hp"); (case a1 => exact Nat.le_of_ble_eq_true rfl))
  | ((with_reducible refine' st_lk ?_))
  | ((with_reducible refine' st_lk1 ?_))
  | ((with_reducible refine' st_truB ?_))
  | ((with_reducible refine' st_truI ?_))
  | ((with_reducible refine' st_while ?_))
  | ((with_reducible refine' st_st3 ?_))
  | ((with_reducible refine' st_revS ?a0 ?_); (case a0 => walk_at "sd"))
  | ((with_reducible refine' st_evS ?a0 ?_); (case a0 => walk_at "sd"))
  | ((with_reducible refine' st_odS ?a0 ?_); (case a0 => walk_at "sd"))
  | ((with_reducible refine' st_raise ?_))
  | ((with_reducible refine' st_mk1 ?a0 ?a1 ?_); (case a0 => walk_at "xo"); (case a1 => walk_at "nf"); walk_at "nw")
  | ((with_reducible refine' st_mk2 ?a0 ?a1 ?a2 ?_); (case a0 => walk_at "xo"); (case a1 => walk_at "nf"); (case a2 => walk_at "nf"); walk_at "nw")
  | ((with_reducible refine' st_try ?_))
  | ((with_reducible refine' st_callS ?_))
  | ((with_reducible refine' st_hYn ?a0 ?_); (case a0 => walk_at "ex"); intro ax hax)
  | ((with_reducible refine' st_hY0 ?a0 ?_); (case a0 => walk_at "ex"); intro ax hax)
  | ((with_reducible refine' st_hN ?a0 ?_); (case a0 => walk_at "ex"))
  | ((with_reducible refine' st_xe ?_))
  | ((with_reducible refine' st_xeP ?a0 ?a1 ?a2 ?a3 ?_); (case a0 => walk_at "xi"); (case a1 => walk_at "nf"); (case a2 => walk_at "hp"); (case a3 => exact rfl))
  | ((with_reducible refine' st_isX ?a0 ?a1 ?a2 ?_); (case a0 => walk_at "xi"); (case a1 => walk_at "hp"); (case a2 => walk_at "ki"))
  | ((with_reducible refine' st_isXT ?a0 ?a1 ?a2 ?_); (case a0 => walk_at "xi"); (case a1 => walk_at "hp"); (case a2 => walk_at "ki"))
  | ((with_reducible refine' st_isXs2 ?a0 ?a1 ?a2 ?a3 ?a4 ?_); (case a0 => walk_at "xi"); (case a1 => walk_at "hp"); (case a2 => walk_at "hp"); (case a3 => walk_at "ki"); (case a4 => walk_at "ki"))
  | ((with_reducible refine' st_isXsN ?a0 ?a1 ?a2 ?a3 ?_); (case a0 => walk_at "xi"); (case a1 => walk_at "hp"); (case a2 => walk_at "hp"); (case a3 => walk_at "kn"))
  | ((with_reducible refine' st_listRg ?_))
  | ((with_reducible refine' st_rgC ?_))
  | ((with_reducible refine' st_rg1 ?_))
  | ((with_reducible refine' st_rg2 ?_))
  | ((with_reducible refine' st_rg3 ?_))
  | ((with_reducible refine' st_rgUp ?a0 ?_); (case a0 => refine ⟨?_, ?_, ?_, ?_⟩ <;> walk_at "sd"); walk_at "nw")
  | ((with_reducible refine' st_rgDown ?a0 ?_); (case a0 => refine ⟨?_, ?_, ?_, ?_⟩ <;> walk_at "sd"); walk_at "nw")
  | ((with_reducible refine' st_divW ?a0 ?_); (case a0 => constructor <;> walk_at "sd"))
  | ((with_reducible refine' st_iSeq ?_))
  | ((with_reducible refine' st_iEnQ ?_))
  | ((with_reducible refine' st_gsl ?_))
  | ((with_reducible refine' st_augS ?a0 ?_); (case a0 => exact rfl))
  | ((with_reducible refine' st_ipS ?a0 ?_); (case a0 => walk_at "sd"))
  | ((with_reducible refine' st_rv ?_))
  | ((with_reducible refine' st_rvQ ?a0 ?_); (case a0 => first | walk_at "hp" | exact seq_l (by walk_at "hp") | exact seq_t (by walk_at "hp")); walk_at "nw")
  | ((with_reducible refine' st_xk ?_))
  | ((with_reducible refine' st_xkP ?a0 ?a1 ?a2 ?a3 ?a4 ?_); (case a0 => walk_at "hp"); (case a1 => walk_at "xi"); (case a2 => walk_at "nf"); (case a3 => walk_at "hp"); (case a4 => exact rfl))
  | ((with_reducible refine' st_isV ?a0 ?a1 ?a2 ?_); (case a0 => first | assumption | walk_at "hx"); (case a1 => first | assumption | walk_at "xi"); (case a2 => first | assumption | walk_at "ki"))
  | ((with_reducible refine' st_isVT ?a0 ?a1 ?a2 ?_); (case a0 => first | assumption | walk_at "hx"); (case a1 => first | assumption | walk_at "xi"); (case a2 => first | assumption | walk_at "ki"))
  | ((with_reducible refine' st_excV ?_))
  | ((with_reducible refine' st_exv1 ?a0 ?a1 ?_); (case a0 => walk_at "xo"); (case a1 => walk_at "nf"); walk_at "nx")
  | ((with_reducible refine' st_exv2 ?a0 ?a1 ?a2 ?_); (case a0 => walk_at "xo"); (case a1 => walk_at "nf"); (case a2 => walk_at "nf"); walk_at "nx")
  | ((with_reducible refine' st_divX ?a0 ?_); (case a0 => constructor <;> walk_at "sd"))
  | ((with_reducible refine' st_isK ?a0 ?a1 ?a2 ?a3 ?_); (case a0 => walk_at "hp"); (case a1 => walk_at "xi"); (case a2 => walk_at "hp"); (case a3 => walk_at "ki"))
  | ((with_reducible refine' st_isKT ?a0 ?a1 ?a2 ?a3 ?_); (case a0 => walk_at "hp"); (case a1 => walk_at "xi"); (case a2 => walk_at "hp"); (case a3 => walk_at "ki"))
  | ((with_reducible refine' st_isKs ?a0 ?a1 ?a2 ?a3 ?a4 ?_); (case a0 => walk_at "hp"); (case a1 => walk_at "xi"); (case a2 => walk_at "hp"); (case a3 => walk_at "hp"); (case a4 => walk_at "kn"))
  | ((with_reducible refine' st_fld ?_))
  | ((with_reducible refine' st_fldP ?a0 ?a1 ?a2 ?a3 ?_); (case a0 => walk_at "hp"); (case a1 => walk_at "cl"); (case a2 => walk_at "na"); (case a3 => exact rfl))
  | ((with_reducible refine' st_fldS ?_))
  | ((with_reducible refine' st_fldSP ?a0 ?a1 ?a2 ?a3 ?_); (case a0 => walk_at "hp"); (case a1 => walk_at "cl"); (case a2 => walk_at "na"); (case a3 => exact Nat.le_of_ble_eq_true rfl))
  | ((with_reducible refine' st_meth ?_))
  | ((with_reducible refine' st_methP ?a0 ?a1 ?_); (case a0 => walk_at "hp"); (case a1 => exact rfl))
  | ((with_reducible refine' st_make ?_))
  | ((with_reducible refine' st_methS ?_))
  | ((with_reducible refine' st_methD ?_))
  | ((with_reducible refine' st_makeS ?_))
  | ((with_reducible refine' st_dnewT ?_); walk_at "nw")
  | ((with_reducible refine' st_dputU ?_))
  | ((with_reducible refine' st_dget ?_))
  | ((with_reducible refine' st_gget1 ?_))
  | ((with_reducible refine' st_gget2 ?_))
  | ((with_reducible refine' st_gitem ?_))
  | ((with_reducible refine' st_gdat ?a0 ?_); (case a0 => walk_at "gd"))
  | ((with_reducible refine' st_gkey ?_))
  | ((with_reducible refine' st_upper ?a0 ?_); (case a0 => walk_at "sd"))
  | ((with_reducible refine' st_dinU ?_))
  | ((with_reducible refine' st_dninU ?_))
  | ((with_reducible refine' st_T ?a0 ?_); (case a0 => exact rfl))
  | ((with_reducible refine' st_F ?a0 ?_); (case a0 => exact rfl)))
local macro_rules | `(tactic| walk_at "go") => `(tactic| repeat walk_at "s")
local macro_rules | `(tactic| walk_at "s") => `(tactic| first
  | ((with_reducible refine' st_callCb ?_))
  | ((with_reducible refine' st_cbk ?a0 ?a1 ?_); (case a0 => exact rfl); (case a1 => walk_at "hp"))
  | ((with_reducible refine' st_cbP ?a0 ?a1 ?_); (case a0 => walk_at "hp"); (case a1 => walk_at "hp")))
def tabsL (tc : Nat → Addr × Addr) : List (Addr × Str) := [((tc 0).2, ("Board.__init__" : Str) ++ ".<locals>." ++ "<lambda>")]
abbrev L_Board_init : Expr := asgE (bodyS s_Board_init 3)
abbrev q_Board_init : Str := ("Board.__init__" : Str) ++ ".<locals>." ++ "<lambda>"
theorem ndf_Board_init : ndefB (defScope s_Board_init) (lamSc L_Board_init) ["side", "top"] = true := by decide +kernel
theorem nsc_Board_init : nscB ["row", "column", "across", "above", "side", "top"] ["row", "column", "across", "above"] ["side", "top"] (lamSc L_Board_init) = true := by decide +kernel
abbrev si_TooLong : Stmt := inClass (top 10) 0
theorem sci_TooLong : FnScope ["self", "found"] ["self", "found"] (defScope si_TooLong) := ⟨rfl, rfl, rfl, by decide +kernel, rfl, by decide +kernel, by decide +kernel⟩
abbrev si_Unlike : Stmt := inClass (top 9) 0
theorem sci_Unlike : FnScope ["self", "one", "other"] ["self", "one", "other"] (defScope si_Unlike) := ⟨rfl, rfl, rfl, by decide +kernel, rfl, by decide +kernel, by decide +kernel⟩
abbrev si_NoChanges : Stmt := inClass (top 11) 0
theorem sci_NoChanges : FnScope ["self", "found"] ["self", "found"] (defScope si_NoChanges) := ⟨rfl, rfl, rfl, by decide +kernel, rfl, by decide +kernel, by decide +kernel⟩
abbrev si_NoPlace : Stmt := inClass (top 5) 0
theorem sci_NoPlace : FnScope ["self", "found"] ["self", "found"] (defScope si_NoPlace) := ⟨rfl, rfl, rfl, by decide +kernel, rfl, by decide +kernel, by decide +kernel⟩
abbrev si_NoTurning : Stmt := inClass (top 7) 0
theorem sci_NoTurning : FnScope ["self", "found"] ["self", "found"] (defScope si_NoTurning) := ⟨rfl, rfl, rfl, by decide +kernel, rfl, by decide +kernel, by decide +kernel⟩
abbrev si_NoSpan : Stmt := inClass (top 6) 0
theorem sci_NoSpan : FnScope ["self", "begin", "end"] ["self", "begin", "end"] (defScope si_NoSpan) := ⟨rfl, rfl, rfl, by decide +kernel, rfl, by decide +kernel, by decide +kernel⟩
abbrev si_NoPlain : Stmt := inClass (top 4) 0
theorem sci_NoPlain : FnScope ["self", "found"] ["self", "found"] (defScope si_NoPlain) := ⟨rfl, rfl, rfl, by decide +kernel, rfl, by decide +kernel, by decide +kernel⟩
abbrev si_NoRow : Stmt := inClass (top 3) 0
theorem sci_NoRow : FnScope ["self", "found"] ["self", "found"] (defScope si_NoRow) := ⟨rfl, rfl, rfl, by decide +kernel, rfl, by decide +kernel, by decide +kernel⟩
/-- what the top has written -/
structure Tx (K : PySem.W.Frag) (mg : Str → Option Value) (ad : Nat → Addr) (fd : Nat → FuncData) (tk : Nat → Tok) (base : Heap) (tc : Nat → Addr × Addr) (w : World) : Prop where
  d_is_whole : Df K mg "is_whole" s_is_whole ["thing"] (ad 0) (fd 0)
  d_is_within : Df K mg "is_within" s_is_within ["thing", "low", "high"] (ad 1) (fd 1)
  d_is_letter : Df K mg "is_letter" s_is_letter ["thing"] (ad 2) (fd 2)
  d_is_row : Df K mg "is_row" s_is_row ["thing"] (ad 3) (fd 3)
  d_is_plain : Df K mg "is_plain" s_is_plain ["thing"] (ad 4) (fd 4)
  d_need_row : Df K mg "need_row" s_need_row ["row"] (ad 5) (fd 5)
  d_need_rows : Df K mg "need_rows" s_need_rows ["side", "top"] (ad 6) (fd 6)
  d_need_plain : Df K mg "need_plain" s_need_plain ["row"] (ad 7) (fd 7)
  d_need_span : Df K mg "need_span" s_need_span ["begin", "end", "many"] (ad 8) (fd 8)
  d_parted : Df K mg "parted" s_parted ["row"] (ad 9) (fd 9)
  d_places_of : Df K mg "places_of" s_places_of ["row"] (ad 10) (fd 10)
  d_led : Df K mg "led" s_led ["many", "far", "crosses"] (ad 11) (fd 11)
  d_is_turning : Df K mg "is_turning" s_is_turning ["thing"] (ad 12) (fd 12)
  d_need_turning : Df K mg "need_turning" s_need_turning ["turning"] (ad 13) (fd 13)
  d_need_place : Df K mg "need_place" s_need_place ["place", "most"] (ad 14) (fd 14)
  d_opposite : Df K mg "opposite" s_opposite ["turning"] (ad 15) (fd 15)
  d_mixed : Df K mg "mixed" s_mixed ["one", "other"] (ad 16) (fd 16)
  d_floors_of : Df K mg "floors_of" s_floors_of ["ends"] (ad 17) (fd 17)
  d_lesser : Df K mg "lesser" s_lesser ["block", "end"] (ad 18) (fd 18)
  d_need_window : Df K mg "need_window" s_need_window ["tall", "wide", "spans"] (ad 19) (fd 19)
  d_Tally_init : Dm K "Tally" "__init__" "Tally.__init__" s_Tally_init ["self", "turning"] (ad 20) (fd 20)
  d_Asks_init : Dm K "Asks" "__init__" "Asks.__init__" s_Asks_init ["self", "lines", "many"] (ad 21) (fd 21)
  d_Board_init : Dm K "Board" "__init__" "Board.__init__" s_Board_init ["self", "side", "top"] (ad 22) (fd 22)
  fc_Board_init : FunC K "__init__" "Board.__init__" s_Board_init (ad 22) (fd 22) (tc 0).1
  tb_Board_init : TabB base mg (tc 0).1 (tc 0).2
  d_Board_lines : Dm K "Board" "lines" "Board.lines" s_Board_lines ["self"] (ad 23) (fd 23)
  d_asks_of : Df K mg "asks_of" s_asks_of ["side", "top"] (ad 24) (fd 24)
  d_is_change : Df K mg "is_change" s_is_change ["thing"] (ad 25) (fd 25)
  d_is_changes : Df K mg "is_changes" s_is_changes ["thing"] (ad 26) (fd 26)
  d_need_changes : Df K mg "need_changes" s_need_changes ["thing"] (ad 27) (fd 27)
  d_old_of : Df K mg "old_of" s_old_of ["change"] (ad 28) (fd 28)
  d_new_of : Df K mg "new_of" s_new_of ["change"] (ad 29) (fd 29)
  d_old_row : Df K mg "old_row" s_old_row ["changes"] (ad 30) (fd 30)
  d_new_row : Df K mg "new_row" s_new_row ["changes"] (ad 31) (fd 31)
  d_come_to : Df K mg "come_to" s_come_to ["old", "new"] (ad 32) (fd 32)
  d_paid : Df K mg "paid" s_paid ["changes"] (ad 33) (fd 33)
  d_done : Df K mg "done" s_done ["row", "changes"] (ad 34) (fd 34)
  d_back : Df K mg "back" s_back ["changes"] (ad 35) (fd 35)
  d_after : Df K mg "after" s_after ["one", "other"] (ad 36) (fd 36)
  d_lengths : Df K mg "lengths" s_lengths ["side", "top"] (ad 37) (fd 37)
  d_longest : Df K mg "longest" s_longest ["side", "top"] (ad 38) (fd 38)
  d_is_pair : Df K mg "is_pair" s_is_pair ["side", "top", "thing"] (ad 39) (fd 39)
  d_pairs_of : Df K mg "pairs_of" s_pairs_of ["side", "top"] (ad 40) (fd 40)
  d_is_heap : Df K mg "is_heap" s_is_heap ["side", "top", "thing"] (ad 41) (fd 41)
  d_are_heaps : Df K mg "are_heaps" s_are_heaps ["side", "top", "thing"] (ad 42) (fd 42)
  d_need_plains : Df K mg "need_plains" s_need_plains ["side", "top"] (ad 43) (fd 43)
  d_cost : Df K mg "cost" s_cost ["side", "top"] (ad 44) (fd 44)
  d_cost_table : Df K mg "cost_table" s_cost_table ["side", "top"] (ad 45) (fd 45)
  d_changes_of : Df K mg "changes_of" s_changes_of ["side", "top"] (ad 46) (fd 46)
  d_shows_cost : Df K mg "shows_cost" s_shows_cost ["side", "top", "thing"] (ad 47) (fd 47)
  d__law_cell_at : Df K mg "_law_cell_at" s__law_cell_at ["_law_script", "_law_k"] (ad 48) (fd 48)
  d__law_great : Df K mg "_law_great" s__law_great ["_law_cell"] (ad 49) (fd 49)
  d__law_letter : Df K mg "_law_letter" s__law_letter ["_law_number"] (ad 50) (fd 50)
  d__law_row : Df K mg "_law_row" s__law_row ["_law_cell", "_law_most"] (ad 51) (fd 51)
  d__law_list : Df K mg "_law_list" s__law_list ["_law_row_here", "_law_cells", "_law_most"] (ad 52) (fd 52)
  d__law_new : Df K mg "_law_new" s__law_new ["_law_changes"] (ad 53) (fd 53)
  d__law_old : Df K mg "_law_old" s__law_old ["_law_changes"] (ad 54) (fd 54)
  d__law_pays : Df K mg "_law_pays" s__law_pays ["_law_changes"] (ad 55) (fd 55)
  d__law_parted : Df K mg "_law_parted" s__law_parted ["_law_row_here"] (ad 56) (fd 56)
  d__law_heaps : Df K mg "_law_heaps" s__law_heaps ["_law_side", "_law_top"] (ad 57) (fd 57)
  d__law_part_one : Df K mg "_law_part_one" s__law_part_one ["_law_heaps_here", "_law_at"] (ad 58) (fd 58)
  d__law_leads : Df K mg "_law_leads" s__law_leads ["_law_changes", "_law_row_here", "_law_goal"] (ad 59) (fd 59)
  d__law_shown : Df K mg "_law_shown" s__law_shown ["_law_row_here", "_law_goal", "_law_drawn", "_law_heaps_here"] (ad 60) (fd 60)
  d__law_both_ways : Df K mg "_law_both_ways" s__law_both_ways ["_law_row_here", "_law_goal", "_law_drawn", "_law_at"] (ad 61) (fd 61)
  d_Asks_gains : Dm K "Asks" "gains" "Asks.gains" s_Asks_gains ["self", "begin"] (ad 62) (fd 62)
  d_Tally_from_on : Dm K "Tally" "from_on" "Tally.from_on" s_Tally_from_on ["self", "begin", "end"] (ad 63) (fd 63)
  d_Tally_below : Dm K "Tally" "below" "Tally.below" s_Tally_below ["self", "begin", "end"] (ad 64) (fd 64)
  d_Asks_window : Dm K "Asks" "window" "Asks.window" s_Asks_window ["self", "first", "last", "begin", "end"] (ad 65) (fd 65)
  d_Asks_stretch : Dm K "Asks" "stretch" "Asks.stretch" s_Asks_stretch ["self", "begin", "end"] (ad 66) (fd 66)
  d_Asks_table : Dm K "Asks" "table" "Asks.table" s_Asks_table ["self"] (ad 67) (fd 67)
  d_Costs_init : Dm K "Costs" "__init__" "Costs.__init__" s_Costs_init ["self", "side", "top"] (ad 68) (fd 68)
  d_Costs_of : Dm K "Costs" "of" "Costs.of" s_Costs_of ["self", "begin", "end"] (ad 69) (fd 69)
  d_law : Df K mg "law" s_law ["_law_script"] (ad 70) (fd 70)
  c_LETTERS : mg "LETTERS" = some (.str "abcdefghijklmnopqrstuvwxyz" (tk 0))
  c_MOST_SIGNS : mg "MOST_SIGNS" = some (.int 48 (tk 1))
  c_MOST_LETTERS : mg "MOST_LETTERS" = some (.int 24 (tk 2))
  c_MOST_LINES : mg "MOST_LINES" = some (.int 96 (tk 3))
  c_MOST_CHANGES : mg "MOST_CHANGES" = some (.int 48 (tk 4))
  b_isinstance : mg "isinstance" = none
  b_int : mg "int" = none
  b_bool : mg "bool" = none
  b_str : mg "str" = none
  b_len : mg "len" = none
  b_all : mg "all" = none
  b_enumerate : mg "enumerate" = none
  b_list : mg "list" = none
  b_range : mg "range" = none
  b_tuple : mg "tuple" = none
  b_zip : mg "zip" = none
  b_max : mg "max" = none
  b_sorted : mg "sorted" = none
  b_min : mg "min" = none
  b_ord : mg "ord" = none
  b_abs : mg "abs" = none
  g_NoRow : mg "NoRow" = some (.ref (clsA K "NoRow"))
  o_NoRow : OexC K (clsA K "NoRow")
  n_NoRow_found : PySem.W.findIn K (.ref (clsA K "NoRow")) "found" = some none
  i_NoRow : IniF K "NoRow" "NoRow.__init__" si_NoRow ["self", "found"]
  g_NoPlain : mg "NoPlain" = some (.ref (clsA K "NoPlain"))
  o_NoPlain : OexC K (clsA K "NoPlain")
  n_NoPlain_found : PySem.W.findIn K (.ref (clsA K "NoPlain")) "found" = some none
  i_NoPlain : IniF K "NoPlain" "NoPlain.__init__" si_NoPlain ["self", "found"]
  g_NoSpan : mg "NoSpan" = some (.ref (clsA K "NoSpan"))
  o_NoSpan : OexC K (clsA K "NoSpan")
  n_NoSpan_begin : PySem.W.findIn K (.ref (clsA K "NoSpan")) "begin" = some none
  n_NoSpan_end : PySem.W.findIn K (.ref (clsA K "NoSpan")) "end" = some none
  i_NoSpan : IniF K "NoSpan" "NoSpan.__init__" si_NoSpan ["self", "begin", "end"]
  g_NoTurning : mg "NoTurning" = some (.ref (clsA K "NoTurning"))
  o_NoTurning : OexC K (clsA K "NoTurning")
  n_NoTurning_found : PySem.W.findIn K (.ref (clsA K "NoTurning")) "found" = some none
  i_NoTurning : IniF K "NoTurning" "NoTurning.__init__" si_NoTurning ["self", "found"]
  g_NoPlace : mg "NoPlace" = some (.ref (clsA K "NoPlace"))
  o_NoPlace : OexC K (clsA K "NoPlace")
  n_NoPlace_found : PySem.W.findIn K (.ref (clsA K "NoPlace")) "found" = some none
  i_NoPlace : IniF K "NoPlace" "NoPlace.__init__" si_NoPlace ["self", "found"]
  g_NoChanges : mg "NoChanges" = some (.ref (clsA K "NoChanges"))
  o_NoChanges : OexC K (clsA K "NoChanges")
  n_NoChanges_found : PySem.W.findIn K (.ref (clsA K "NoChanges")) "found" = some none
  i_NoChanges : IniF K "NoChanges" "NoChanges.__init__" si_NoChanges ["self", "found"]
  g_Unlike : mg "Unlike" = some (.ref (clsA K "Unlike"))
  o_Unlike : OexC K (clsA K "Unlike")
  n_Unlike_one : PySem.W.findIn K (.ref (clsA K "Unlike")) "one" = some none
  n_Unlike_other : PySem.W.findIn K (.ref (clsA K "Unlike")) "other" = some none
  i_Unlike : IniF K "Unlike" "Unlike.__init__" si_Unlike ["self", "one", "other"]
  g_TooLong : mg "TooLong" = some (.ref (clsA K "TooLong"))
  o_TooLong : OexC K (clsA K "TooLong")
  n_TooLong_found : PySem.W.findIn K (.ref (clsA K "TooLong")) "found" = some none
  i_TooLong : IniF K "TooLong" "TooLong.__init__" si_TooLong ["self", "found"]
  bi_PaneError : BI K mg "PaneError"
  mg_Tally : mg "Tally" = some (.ref (clsA K "Tally"))
  cl_Tally : Cls K (clsA K "Tally")
  na_Tally_many : NoAttr K (clsA K "Tally") "many"
  na_Tally_floors : NoAttr K (clsA K "Tally") "floors"
  m_Tally : Mk K (clsA K "Tally") (ad 20)
  mg_Asks : mg "Asks" = some (.ref (clsA K "Asks"))
  cl_Asks : Cls K (clsA K "Asks")
  na_Asks_tall : NoAttr K (clsA K "Asks") "tall"
  na_Asks_wide : NoAttr K (clsA K "Asks") "wide"
  na_Asks_tally : NoAttr K (clsA K "Asks") "tally"
  na_Asks_goals : NoAttr K (clsA K "Asks") "goals"
  na_Asks_starts : NoAttr K (clsA K "Asks") "starts"
  m_Asks : Mk K (clsA K "Asks") (ad 21)
  mg_Board : mg "Board" = some (.ref (clsA K "Board"))
  cl_Board : Cls K (clsA K "Board")
  na_Board_left_row : NoAttr K (clsA K "Board") "left_row"
  na_Board_upper_row : NoAttr K (clsA K "Board") "upper_row"
  na_Board_meetings : NoAttr K (clsA K "Board") "meetings"
  na_Board_signs : NoAttr K (clsA K "Board") "signs"
  na_Board_goals : NoAttr K (clsA K "Board") "goals"
  m_Board : Mk K (clsA K "Board") (ad 22)
  mg_Costs : mg "Costs" = some (.ref (clsA K "Costs"))
  cl_Costs : Cls K (clsA K "Costs")
  na_Costs_turned_row : NoAttr K (clsA K "Costs") "turned_row"
  na_Costs_goal_row : NoAttr K (clsA K "Costs") "goal_row"
  na_Costs_wide : NoAttr K (clsA K "Costs") "wide"
  na_Costs_costs : NoAttr K (clsA K "Costs") "costs"
  m_Costs : Mk K (clsA K "Costs") (ad 68)
  c_SIZES : mg "SIZES" = some (.ref (clsA K "SIZES"))
  gd_SIZES : GDat w K (clsA K "SIZES") [("keep", .int 2), ("change", .int 3), ("out", .int 2), ("in", .int 2)]
local macro_rules | `(tactic| walk_at "ex") => `(tactic| first
  | assumption)
local macro_rules | `(tactic| walk_at "ki") => `(tactic| first
  | assumption)
local macro_rules | `(tactic| walk_at "xi") => `(tactic| first
  | assumption)
local macro_rules | `(tactic| walk_at "xo") => `(tactic| first
  | exact Tx.o_NoRow (by assumption)
  | exact Tx.o_NoPlain (by assumption)
  | exact Tx.o_NoSpan (by assumption)
  | exact Tx.o_NoTurning (by assumption)
  | exact Tx.o_NoPlace (by assumption)
  | exact Tx.o_NoChanges (by assumption)
  | exact Tx.o_Unlike (by assumption)
  | exact Tx.o_TooLong (by assumption))
local macro_rules | `(tactic| walk_at "nf") => `(tactic| first
  | exact Tx.n_NoRow_found (by assumption)
  | exact Tx.n_NoPlain_found (by assumption)
  | exact Tx.n_NoSpan_begin (by assumption)
  | exact Tx.n_NoSpan_end (by assumption)
  | exact Tx.n_NoTurning_found (by assumption)
  | exact Tx.n_NoPlace_found (by assumption)
  | exact Tx.n_NoChanges_found (by assumption)
  | exact Tx.n_Unlike_one (by assumption)
  | exact Tx.n_Unlike_other (by assumption)
  | exact Tx.n_TooLong_found (by assumption))
local macro_rules | `(tactic| walk_at "cl") => `(tactic| first
  | exact Tx.cl_Tally (by assumption)
  | exact Tx.cl_Asks (by assumption)
  | exact Tx.cl_Board (by assumption)
  | exact Tx.cl_Costs (by assumption))
local macro_rules | `(tactic| walk_at "gd") => `(tactic| first
  | exact Tx.gd_SIZES (by assumption))
local macro_rules | `(tactic| walk_at "na") => `(tactic| first
  | exact Tx.na_Tally_many (by assumption)
  | exact Tx.na_Tally_floors (by assumption)
  | exact Tx.na_Asks_tall (by assumption)
  | exact Tx.na_Asks_wide (by assumption)
  | exact Tx.na_Asks_tally (by assumption)
  | exact Tx.na_Asks_goals (by assumption)
  | exact Tx.na_Asks_starts (by assumption)
  | exact Tx.na_Board_left_row (by assumption)
  | exact Tx.na_Board_upper_row (by assumption)
  | exact Tx.na_Board_meetings (by assumption)
  | exact Tx.na_Board_signs (by assumption)
  | exact Tx.na_Board_goals (by assumption)
  | exact Tx.na_Costs_turned_row (by assumption)
  | exact Tx.na_Costs_goal_row (by assumption)
  | exact Tx.na_Costs_wide (by assumption)
  | exact Tx.na_Costs_costs (by assumption))
section
variable {P : Program} {w : World} {K : PySem.W.Frag} {mg : Str → Option Value} {base : Heap} {ad : Nat → Addr} {fd : Nat → FuncData} {tk : Nat → Tok} {tc : Nat → Addr × Addr}
theorem tabs_m_Board_init : ((tc 0).2, q_Board_init) ∈ tabsL tc := by
  unfold tabsL
  simp
theorem tabs_u_Board_init (T : Tx K mg ad fd tk base tc w) : ∀ p ∈ tabsL tc, p.1 = (tc 0).2 → p.2 = q_Board_init := by
  intro p hp e
  simp only [tabsL, List.mem_cons, List.not_mem_nil, or_false] at hp
  rcases hp with rfl
  all_goals first
  | rfl
theorem ex_NoRow (T : Tx K mg ad fd tk base tc w) : EX P w K mg base "NoRow" ["self", "found"] (spI1 K "found") := by
  obtain ⟨f, fd, i1, i2, F, b⟩ := T.i_NoRow.ex
  refine ⟨T.g_NoRow, T.o_NoRow, f, fd, i1, i2, F.ok sci_NoRow (fun vs H Q E h => ?_) (fun cdv A outer s H vs Q E hr h => ?_), b⟩
  · obtain ⟨a, C, y0, rfl, _⟩ := h
    rfl
  · obtain ⟨a, C, y0, rfl, hO, hn0, ha, k⟩ := h
    refine ⟨_, (pss_cons (ps_expr (pe_oinit T.bi_PaneError rfl (pa_cons (pv 0) (pa_cons pe_str pa_nil))))
      (pss_one (ps_ost (pv 0) (pv 1)))), ?_⟩
    exact ini1_go hO hn0 ha k
theorem ex_NoPlain (T : Tx K mg ad fd tk base tc w) : EX P w K mg base "NoPlain" ["self", "found"] (spI1 K "found") := by
  obtain ⟨f, fd, i1, i2, F, b⟩ := T.i_NoPlain.ex
  refine ⟨T.g_NoPlain, T.o_NoPlain, f, fd, i1, i2, F.ok sci_NoPlain (fun vs H Q E h => ?_) (fun cdv A outer s H vs Q E hr h => ?_), b⟩
  · obtain ⟨a, C, y0, rfl, _⟩ := h
    rfl
  · obtain ⟨a, C, y0, rfl, hO, hn0, ha, k⟩ := h
    refine ⟨_, (pss_cons (ps_expr (pe_oinit T.bi_PaneError rfl (pa_cons (pv 0) (pa_cons pe_str pa_nil))))
      (pss_one (ps_ost (pv 0) (pv 1)))), ?_⟩
    exact ini1_go hO hn0 ha k
theorem ex_NoSpan (T : Tx K mg ad fd tk base tc w) : EX P w K mg base "NoSpan" ["self", "begin", "end"] (spI2 K "begin" "end") := by
  obtain ⟨f, fd, i1, i2, F, b⟩ := T.i_NoSpan.ex
  refine ⟨T.g_NoSpan, T.o_NoSpan, f, fd, i1, i2, F.ok sci_NoSpan (fun vs H Q E h => ?_) (fun cdv A outer s H vs Q E hr h => ?_), b⟩
  · obtain ⟨a, C, y0, y1, rfl, _⟩ := h
    rfl
  · obtain ⟨a, C, y0, y1, rfl, hO, hn0, hn1, ha, k⟩ := h
    refine ⟨_, (pss_cons (ps_expr (pe_oinit T.bi_PaneError rfl (pa_cons (pv 0) (pa_cons pe_str pa_nil))))
      (pss_cons (ps_ost (pv 0) (pv 1)) (pss_one (ps_ost (pv 0) (pv 2))))), ?_⟩
    exact ini2_go hO hn0 hn1 ha k
theorem ex_NoTurning (T : Tx K mg ad fd tk base tc w) : EX P w K mg base "NoTurning" ["self", "found"] (spI1 K "found") := by
  obtain ⟨f, fd, i1, i2, F, b⟩ := T.i_NoTurning.ex
  refine ⟨T.g_NoTurning, T.o_NoTurning, f, fd, i1, i2, F.ok sci_NoTurning (fun vs H Q E h => ?_) (fun cdv A outer s H vs Q E hr h => ?_), b⟩
  · obtain ⟨a, C, y0, rfl, _⟩ := h
    rfl
  · obtain ⟨a, C, y0, rfl, hO, hn0, ha, k⟩ := h
    refine ⟨_, (pss_cons (ps_expr (pe_oinit T.bi_PaneError rfl (pa_cons (pv 0) (pa_cons pe_str pa_nil))))
      (pss_one (ps_ost (pv 0) (pv 1)))), ?_⟩
    exact ini1_go hO hn0 ha k
theorem ex_NoPlace (T : Tx K mg ad fd tk base tc w) : EX P w K mg base "NoPlace" ["self", "found"] (spI1 K "found") := by
  obtain ⟨f, fd, i1, i2, F, b⟩ := T.i_NoPlace.ex
  refine ⟨T.g_NoPlace, T.o_NoPlace, f, fd, i1, i2, F.ok sci_NoPlace (fun vs H Q E h => ?_) (fun cdv A outer s H vs Q E hr h => ?_), b⟩
  · obtain ⟨a, C, y0, rfl, _⟩ := h
    rfl
  · obtain ⟨a, C, y0, rfl, hO, hn0, ha, k⟩ := h
    refine ⟨_, (pss_cons (ps_expr (pe_oinit T.bi_PaneError rfl (pa_cons (pv 0) (pa_cons pe_str pa_nil))))
      (pss_one (ps_ost (pv 0) (pv 1)))), ?_⟩
    exact ini1_go hO hn0 ha k
theorem ex_NoChanges (T : Tx K mg ad fd tk base tc w) : EX P w K mg base "NoChanges" ["self", "found"] (spI1 K "found") := by
  obtain ⟨f, fd, i1, i2, F, b⟩ := T.i_NoChanges.ex
  refine ⟨T.g_NoChanges, T.o_NoChanges, f, fd, i1, i2, F.ok sci_NoChanges (fun vs H Q E h => ?_) (fun cdv A outer s H vs Q E hr h => ?_), b⟩
  · obtain ⟨a, C, y0, rfl, _⟩ := h
    rfl
  · obtain ⟨a, C, y0, rfl, hO, hn0, ha, k⟩ := h
    refine ⟨_, (pss_cons (ps_expr (pe_oinit T.bi_PaneError rfl (pa_cons (pv 0) (pa_cons pe_str pa_nil))))
      (pss_one (ps_ost (pv 0) (pv 1)))), ?_⟩
    exact ini1_go hO hn0 ha k
theorem ex_Unlike (T : Tx K mg ad fd tk base tc w) : EX P w K mg base "Unlike" ["self", "one", "other"] (spI2 K "one" "other") := by
  obtain ⟨f, fd, i1, i2, F, b⟩ := T.i_Unlike.ex
  refine ⟨T.g_Unlike, T.o_Unlike, f, fd, i1, i2, F.ok sci_Unlike (fun vs H Q E h => ?_) (fun cdv A outer s H vs Q E hr h => ?_), b⟩
  · obtain ⟨a, C, y0, y1, rfl, _⟩ := h
    rfl
  · obtain ⟨a, C, y0, y1, rfl, hO, hn0, hn1, ha, k⟩ := h
    refine ⟨_, (pss_cons (ps_expr (pe_oinit T.bi_PaneError rfl (pa_cons (pv 0) (pa_cons pe_str pa_nil))))
      (pss_cons (ps_ost (pv 0) (pv 1)) (pss_one (ps_ost (pv 0) (pv 2))))), ?_⟩
    exact ini2_go hO hn0 hn1 ha k
theorem ex_TooLong (T : Tx K mg ad fd tk base tc w) : EX P w K mg base "TooLong" ["self", "found"] (spI1 K "found") := by
  obtain ⟨f, fd, i1, i2, F, b⟩ := T.i_TooLong.ex
  refine ⟨T.g_TooLong, T.o_TooLong, f, fd, i1, i2, F.ok sci_TooLong (fun vs H Q E h => ?_) (fun cdv A outer s H vs Q E hr h => ?_), b⟩
  · obtain ⟨a, C, y0, rfl, _⟩ := h
    rfl
  · obtain ⟨a, C, y0, rfl, hO, hn0, ha, k⟩ := h
    refine ⟨_, (pss_cons (ps_expr (pe_oinit T.bi_PaneError rfl (pa_cons (pv 0) (pa_cons pe_str pa_nil))))
      (pss_one (ps_ost (pv 0) (pv 1)))), ?_⟩
    exact ini1_go hO hn0 ha k
def isWholeV : V → Bool
  | .int _ => true
  | _ => false
def sp_is_whole : Sp := fun vs H Q _ => ∃ x, vs = [x] ∧ Ty H x ∧ Q (.bl (isWholeV x)) H
theorem ok_is_whole (T : Tx K mg ad fd tk base tc w) : FnOk P w K mg base CX0 1 (ad 0) (fd 0) ["thing"] sp_is_whole := by
  refine T.d_is_whole.F.ok sc_is_whole (fun vs H Q E h => ?_) (fun cdv A outer s H vs Q E hr h => ?_)
  · obtain ⟨x, rfl, _⟩ := h
    rfl
  · obtain ⟨x, rfl, ht, k⟩ := h
    refine ⟨_, (pss_one (ps_ret (pe_and (pe_callB c_is (by rfl) T.b_isinstance (by decide +kernel) (pa_cons (pv 0) (pa_cons (pe_bltn (v := .ty "int") rfl T.b_int (by decide +kernel) rfl) pa_nil))) (pe_one (pe_not (pe_callB c_is (by rfl) T.b_isinstance (by decide +kernel) (pa_cons (pv 0) (pa_cons (pe_bltn (v := .ty "bool") rfl T.b_bool (by decide +kernel) rfl) pa_nil)))))))), ?_⟩
    walk_at "go"
    refine st_isIntT ht ?_
    walk_at "go"
    cases x with
    | int i =>
      refine st_T rfl ?_
      walk_at "go"
      exact k
    | bl b =>
      refine st_T rfl ?_
      walk_at "go"
      exact k
    | _ =>
      refine st_F rfl ?_
      walk_at "go"
      exact k
def withinV (x : V) (lo hi : Int) : Bool := match x with
  | .int i => decide (lo ≤ i ∧ i ≤ hi)
  | _ => false
def sp_is_within : Sp := fun vs H Q _ => ∃ (x : V) (lo hi : Int), vs = [x, .int lo, .int hi] ∧ Ty H x ∧ Q (.bl (withinV x lo hi)) H
theorem ok_is_within (T : Tx K mg ad fd tk base tc w) : FnOk P w K mg base CX0 2 (ad 1) (fd 1) ["thing", "low", "high"] sp_is_within := by
  refine T.d_is_within.F.ok sc_is_within (fun vs H Q E h => ?_) (fun cdv A outer s H vs Q E hr h => ?_)
  · obtain ⟨x, lo, hi, rfl, _⟩ := h
    rfl
  · obtain ⟨x, lo, hi, rfl, ht, k⟩ := h
    refine ⟨_, (pss_one (ps_ret (pe_and (pe_call (ok_is_whole T) (hr.mono (by decide)) rfl T.d_is_whole.g T.d_is_whole.F.kp T.d_is_whole.b .nil pass0 (pa_cons (pv 0) pa_nil)) (pe_one (pe_chain o_le o_le (pv 1) (pv 0) (pv 2)))))), ?_⟩
    walk_at "go"
    refine ⟨x, rfl, ht, ?_⟩
    cases x with
    | int i =>
      walk_at "go"
      refine st_br2 (fun c => ?_) (fun c => ?_)
      · walk_at "go"
        have e : withinV (.int i) lo hi = decide (i ≤ hi) := by
          unfold withinV
          simp [c]
        rw [e] at k
        exact k
      · have e : withinV (.int i) lo hi = false := by
          unfold withinV
          simp [c]
        rw [e] at k
        exact k
    | _ =>
      walk_at "go"
      exact k
def rowSign (c : Nat) : Bool := decide (97 ≤ c ∧ c ≤ 122) || decide (c = 46)
def isRow : V → Bool
  | .str z => decide (z.length ≤ 48) && z.cps.toList.all rowSign
  | _ => false
theorem letters_eq : ("abcdefghijklmnopqrstuvwxyz" : Str).cps.toList = List.range' 97 26 := by decide +kernel
theorem letters_mem (c : Nat) : (c ∈ ("abcdefghijklmnopqrstuvwxyz" : Str).cps.toList) ↔ (97 ≤ c ∧ c ≤ 122) := by
  rw [letters_eq, List.mem_range'_1]
  omega
theorem point_eq : ("." : Str) = tx [46] := by decide +kernel
def isLetter : V → Bool
  | .str z => decide (z.length = 1) && z.cps.toList.all fun c => decide (97 ≤ c ∧ c ≤ 122)
  | _ => false
def sp_is_letter : Sp := fun vs H Q _ => ∃ x, vs = [x] ∧ Ty H x ∧ (∀ z, x = .str z → z.length ≤ 16777216) ∧ Q (.bl (isLetter x)) H
theorem ok_is_letter (T : Tx K mg ad fd tk base tc w) : FnOk P w K mg base CX0 1 (ad 2) (fd 2) ["thing"] sp_is_letter := by
  refine T.d_is_letter.F.ok sc_is_letter (fun vs H Q E h => ?_) (fun cdv A outer s H vs Q E hr h => ?_)
  · obtain ⟨x, rfl, _⟩ := h
    rfl
  · obtain ⟨x, rfl, ht, hz, k⟩ := h
    refine ⟨_, (pss_one (ps_ret (pe_and (pe_callB c_is (by rfl) T.b_isinstance (by decide +kernel) (pa_cons (pv 0) (pa_cons (pe_bltn (v := .ty "str") rfl T.b_str (by decide +kernel) rfl) pa_nil))) (pe_and (pe_cmpR (o_eq hr.units) (pe_callB (c_len (K := K)) (by rfl) T.b_len (by decide +kernel) (pa_cons (pv 0) pa_nil)) pe_int (nomark _)) (pe_one (pe_cmpR (o_in hr.units) (pv 0) (pe_glob (v := .str "abcdefghijklmnopqrstuvwxyz") rfl T.c_LETTERS ⟨_, rfl⟩) rfl)))))), ?_⟩
    walk_at "go"
    refine st_isStrT ht ?_
    walk_at "go"
    cases x with
    | str z =>
      have hz' := hz z rfl
      refine st_T rfl ?_
      walk_at "go"
      refine st_br2 (fun c => ?_) (fun c => ?_)
      · obtain ⟨a, rfl⟩ : ∃ a, z = tx [a] := by
          have hl : z.cps.toList.length = 1 := by rw [Array.length_toList]; exact (by omega : z.length = 1)
          obtain ⟨a, ha⟩ := List.length_eq_one_iff.mp hl
          exact ⟨a, by rw [← tx_eta z, ha]⟩
        walk_at "go"
        have e : isLetter (.str (tx [a])) = decide (a ∈ ("abcdefghijklmnopqrstuvwxyz" : Str).cps.toList) := by
          simp only [isLetter, tx_length, tx_toList, List.length_singleton, decide_true, Bool.true_and, List.all_cons, List.all_nil, Bool.and_true]
          exact decide_eq_decide.mpr (letters_mem a).symm
        rw [e] at k
        exact k
      · walk_at "go"
        have e : isLetter (.str z) = false := by
          show (decide (z.length = 1) && _) = false
          rw [decide_eq_false (by omega)]
          rfl
        rw [e] at k
        exact k
    | _ =>
      refine st_F rfl ?_
      walk_at "go"
      exact k
def sp_is_row : Sp := fun vs H Q _ => ∃ v, vs = [v] ∧ Ty H v ∧ (∀ z, v = .str z → z.length ≤ 16777216) ∧ ∀ H', Ex H H' → Q (.bl (isRow v)) H'
theorem ok_is_row (T : Tx K mg ad fd tk base tc w) : FnOk P w K mg base CX0 1 (ad 3) (fd 3) ["thing"] sp_is_row := by
  refine T.d_is_row.F.ok sc_is_row (fun vs H Q E h => ?_) (fun cdv A outer s H vs Q E hr h => ?_)
  · obtain ⟨v, rfl, _⟩ := h
    rfl
  · obtain ⟨v, rfl, ht, hz, k⟩ := h
    refine ⟨_, (pss_cons (ps_if (PW.pt (pw_or (pt_not (pt_val (pe_callB c_is (by rfl) T.b_isinstance (by decide +kernel) (pa_cons (pv 0) (pa_cons (pe_bltn (v := .ty "str") rfl T.b_str (by decide +kernel) rfl) pa_nil))))) (pw_or1 (pt_cmpR o_gt (pe_callB (c_len (K := K)) (by rfl) T.b_len (by decide +kernel) (pa_cons (pv 0) pa_nil)) (pe_glob (v := .int 48) rfl T.c_MOST_SIGNS ⟨_, rfl⟩) (nomark _))))) (pss_one (ps_ret pe_bl)) pss_nil)
      (pss_one (ps_ret (pe_callB (c_all rfl) (by rfl) T.b_all (by decide +kernel) (pa_cons (pe_lc (own := [("sign", 1)]) (g := gName 1) rfl sc_is_row.nd (pi_str (pv 0)) (blkOk_by (own := [("sign", 1)]) (N := N_is_row) (sc := defScope s_is_row) (by decide +kernel)) (fun _ _ _ _ _ => pg_name (i := 1) sc_is_row.nd rfl (Or.inl rfl)) (fun _ _ _ _ _ => pts_nil) (fun _ _ _ _ _ => (pe_or (pe_cmpR (o_in hr.units) (pv 1) (pe_glob (v := .str "abcdefghijklmnopqrstuvwxyz") rfl T.c_LETTERS ⟨_, rfl⟩) rfl) (pe_one (pe_cmpR (o_eq hr.units) (pv 1) pe_str (nomark _)))))) pa_nil))))), ?_⟩
    walk_at "go"
    refine st_isStrT ht ?_
    walk_at "go"
    cases v with
    | str z =>
      have hz' := hz z rfl
      refine st_F rfl ?_
      walk_at "go"
      refine st_br2 (fun c => ?_) (fun c => ?_)
      · walk_at "go"
        have e : isRow (.str z) = false := by
          show (decide (z.length ≤ 48) && _) = false
          rw [decide_eq_false (by omega)]
          rfl
        have k' := k _ (Fr.refl H)
        rw [e] at k'
        exact k'
      · walk_at "go"
        refine lc_pure (rv_str z) (fun _ _ => trivial) (by show z.cps.toList.length < _; simp only [Array.length_toList]; have : z.cps.size = z.length := rfl; omega) (fun _ => true) (fun c => .bl (rowSign c)) ?_ ?_
        · intro c' H' hc e B A h1 h2
          refine ⟨rfl, ?_⟩
          have h1' := h1 rfl _ (Fr.refl _)
          walk_at "go"
          refine st_br2 (fun m => ?_) (fun m => ?_)
          · rw [letters_mem] at m
            have e1 : rowSign c' = true := by
              unfold rowSign
              rw [decide_eq_true m]
              rfl
            rw [e1] at h1'
            exact h1'
          · rw [letters_mem] at m
            walk_at "go"
            have e1 : rowSign c' = decide (tx [c'] = ".") := by
              unfold rowSign
              rw [decide_eq_false m, point_eq, Bool.false_or]
              simp [tx_inj]
            rw [e1] at h1'
            exact h1'
        · intro D H' hD e hd
          walk_at "go"
          refine st_all (bs := z.cps.toList.map rowSign) hd (by rw [List.filter_eq_self.mpr (fun _ _ => rfl), List.map_map]; rfl) ?_
          have e1 : isRow (.str z) = (z.cps.toList.map rowSign).all id := by
            show (decide (z.length ≤ 48) && _) = _
            rw [decide_eq_true (by omega), Bool.true_and, List.all_map]
            rfl
          have k' := k _ e
          rw [e1] at k'
          exact k'
    | _ =>
      refine st_T rfl ?_
      walk_at "go"
      exact k _ (Fr.refl H)
def isPlain : V → Bool
  | .str z => isRow (.str z) && (decide (z.length ≤ 24) && !decide (46 ∈ z.cps.toList))
  | _ => false
def sp_is_plain : Sp := fun vs H Q _ => ∃ v, vs = [v] ∧ Ty H v ∧ (∀ z, v = .str z → z.length ≤ 16777216) ∧ ∀ H', Ex H H' → Q (.bl (isPlain v)) H'
theorem ok_is_plain (T : Tx K mg ad fd tk base tc w) : FnOk P w K mg base CX0 2 (ad 4) (fd 4) ["thing"] sp_is_plain := by
  refine T.d_is_plain.F.ok sc_is_plain (fun vs H Q E h => ?_) (fun cdv A outer s H vs Q E hr h => ?_)
  · obtain ⟨v, rfl, _⟩ := h
    rfl
  · obtain ⟨v, rfl, ht, hz, k⟩ := h
    refine ⟨_, (pss_one (ps_ret (pe_and (pe_call (ok_is_row T) (hr.mono (by decide)) rfl T.d_is_row.g T.d_is_row.F.kp T.d_is_row.b .nil pass0 (pa_cons (pv 0) pa_nil)) (pe_and (pe_cmpR o_le (pe_callB (c_len (K := K)) (by rfl) T.b_len (by decide +kernel) (pa_cons (pv 0) pa_nil)) (pe_glob (v := .int 24) rfl T.c_MOST_LETTERS ⟨_, rfl⟩) (nomark _)) (pe_one (pe_cmpR (o_nin hr.units) pe_str (pv 0) rfl)))))), ?_⟩
    walk_at "go"
    refine ⟨v, rfl, ht, hz, fun H' e => ?_⟩
    walk_at "go"
    cases v with
    | str z =>
      have hz' := hz z rfl
      refine st_br (fun c => ?_) (fun c => ?_)
      · walk_at "go"
        refine st_br (fun c2 => ?_) (fun c2 => ?_)
        · walk_at "go"
          rw [point_eq]
          walk_at "go"
          have k' := k _ e
          have e1 : isPlain (.str z) = !decide (46 ∈ z.cps.toList) := by
            show (isRow (.str z) && (decide (z.length ≤ 24) && _)) = _
            rw [c, decide_eq_true (by have := of_decide_eq_true c2; omega)]
            rfl
          rw [e1] at k'
          exact k'
        · have k' := k _ e
          have e1 : isPlain (.str z) = false := by
            show (isRow (.str z) && (decide (z.length ≤ 24) && _)) = _
            rw [c, decide_eq_false (by have := of_decide_eq_false c2; omega)]
            rfl
          rw [e1] at k'
          exact k'
      · have k' := k _ e
        have e1 : isPlain (.str z) = false := by
          show (isRow (.str z) && (decide (z.length ≤ 24) && _)) = _
          rw [c]
          rfl
        rw [e1] at k'
        exact k'
    | _ => exact k _ e
/-- a text that is a row -/
def RowS (z : Str) : Prop := isRow (.str z) = true
theorem RowS.len {z : Str} (h : RowS z) : z.length ≤ 48 := by
  have h : (decide (z.length ≤ 48) && z.cps.toList.all rowSign) = true := h
  rw [Bool.and_eq_true] at h
  exact of_decide_eq_true h.1
theorem RowS.len2 {z : Str} (h : RowS z) : z.cps.toList.length ≤ 48 := by
  have e : z.cps.toList.length = z.length := Array.length_toList
  rw [e]
  exact h.len
theorem rowS_of_true {x : V} (h : isRow x = true) : ∃ s, x = .str s ∧ RowS s := by
  cases x with
  | str s => exact ⟨s, rfl, h⟩
  | _ => cases h
/-- a row, or refused -/
def Row1 (K : PySem.W.Frag) (E : XK) (H : Hp) (x : V) (k : Str → Prop) : Prop := (∃ s, x = .str s ∧ RowS s ∧ k s) ∨ (Thg H x ∧ isRow x = false ∧ RaR K E H "NoRow" "found" x)
theorem Row1.imp {K : PySem.W.Frag} {E : XK} {H : Hp} {x : V} {k k' : Str → Prop} (h : Row1 K E H x k) (f : ∀ s, x = .str s → RowS s → k s → k' s) : Row1 K E H x k' := by
  rcases h with ⟨s, e, hs, h⟩ | h
  · exact .inl ⟨s, e, hs, f s e hs h⟩
  · exact .inr h
def sp_need_row (K : PySem.W.Frag) : Sp := fun vs H Q E => ∃ x, vs = [x] ∧ Row1 K E H x fun _ => ∀ H', Ex H H' → Q .non H'
theorem ok_need_row (T : Tx K mg ad fd tk base tc w) : FnOk P w K mg base (L2.CX P w) 3 (ad 5) (fd 5) ["row"] (sp_need_row K) := by
  refine T.d_need_row.F.okX sc_need_row (fun vs H Q E h => ?_) (fun cdv A outer s H vs Q E hr h => ?_)
  · obtain ⟨x, rfl, _⟩ := h
    rfl
  · obtain ⟨x, rfl, k⟩ := h
    refine ⟨_, (pss_one (ps_if (pt_not (pt_val (pe_call (ok_is_row T) (hr.mono (by decide)) rfl T.d_is_row.g T.d_is_row.F.kp T.d_is_row.b .nil pass0 (pa_cons (pv 0) pa_nil)))) (pss_one (ps_raiseG rfl (ex_NoRow T) (hr.mono (by decide)) (takes_of rfl rfl rfl rfl) rfl (pa_cons (pv 0) pa_nil))) pss_nil)), ?_⟩
    walk_at "go"
    rcases k with ⟨s, rfl, hs, k⟩ | ⟨ht, hb, k⟩
    · have hs' := hs.len
      refine ⟨.str s, rfl, ty_str _, fun z' e => by cases e; omega, fun H1 e1 => ?_⟩
      rw [show isRow (.str s) = true from hs]
      walk_at "go"
      exact k _ e1
    · refine ⟨x, rfl, ht.1, ht.2, fun H1 e1 => ?_⟩
      rw [hb]
      walk_at "go"
      rename_i d H2 hd e2 hv
      exact k d H2 (Ex.free e1 hd) (e1.trans e2) hv
/-- two rows, or the first that is none is refused -/
def Rows2 (K : PySem.W.Frag) (E : XK) (H : Hp) (x y : V) (k : Str → Str → Prop) : Prop := (∃ s t, x = .str s ∧ y = .str t ∧ RowS s ∧ RowS t ∧ k s t) ∨
  (Thg H x ∧ Thg H y ∧ ((isRow x = false ∧ RaR K E H "NoRow" "found" x) ∨ (isRow x = true ∧ isRow y = false ∧ RaR K E H "NoRow" "found" y)))
theorem Rows2.imp {K : PySem.W.Frag} {E : XK} {H : Hp} {x y : V} {k k' : Str → Str → Prop} (h : Rows2 K E H x y k) (f : ∀ s t, x = .str s → y = .str t → RowS s → RowS t → k s t → k' s t) : Rows2 K E H x y k' := by
  rcases h with ⟨s, t, e1, e2, hs, ht, h⟩ | h
  · exact .inl ⟨s, t, e1, e2, hs, ht, f s t e1 e2 hs ht h⟩
  · exact .inr h
def sp_need_rows (K : PySem.W.Frag) : Sp := fun vs H Q E => ∃ x y, vs = [x, y] ∧ Rows2 K E H x y fun _ _ => ∀ H', Ex H H' → Q .non H'
theorem ok_need_rows (T : Tx K mg ad fd tk base tc w) : FnOk P w K mg base (L2.CX P w) 4 (ad 6) (fd 6) ["side", "top"] (sp_need_rows K) := by
  refine T.d_need_rows.F.okX sc_need_rows (fun vs H Q E h => ?_) (fun cdv A outer s H vs Q E hr h => ?_)
  · obtain ⟨x, y, rfl, _⟩ := h
    rfl
  · obtain ⟨x, y, rfl, k⟩ := h
    refine ⟨_, (pss_cons (ps_expr (pe_call (ok_need_row T) (hr.mono (by decide)) rfl T.d_need_row.g T.d_need_row.F.kp T.d_need_row.b .nil (passes_call (takes_of rfl rfl rfl rfl) (fun _ _ _ _ h => h)) (pa_cons (pv 0) pa_nil)))
      (pss_one (ps_expr (pe_call (ok_need_row T) (hr.mono (by decide)) rfl T.d_need_row.g T.d_need_row.F.kp T.d_need_row.b .nil (passes_call (takes_of rfl rfl rfl rfl) (fun _ _ _ _ h => h)) (pa_cons (pv 1) pa_nil))))), ?_⟩
    walk_at "go"
    rcases k with ⟨s, t, rfl, rfl, hs, ht, k⟩ | ⟨h1, h2, ⟨hb, k⟩ | ⟨ha, hb, k⟩⟩
    · refine ⟨.str s, rfl, .inl ⟨s, rfl, hs, fun H1 e1 => ?_⟩⟩
      walk_at "go"
      refine ⟨.str t, rfl, .inl ⟨t, rfl, ht, fun H2 e2 => ?_⟩⟩
      walk_at "go"
      exact k _ (e1.trans e2)
    · exact ⟨x, rfl, .inr ⟨h1, hb, k⟩⟩
    · obtain ⟨s, rfl, hs⟩ := rowS_of_true ha
      refine ⟨.str s, rfl, .inl ⟨s, rfl, hs, fun H1 e1 => ?_⟩⟩
      walk_at "go"
      exact ⟨y, rfl, .inr ⟨h2.ex e1, hb, k.ex e1⟩⟩
/-- a plain row -/
def PlainS (z : Str) : Prop := isPlain (.str z) = true
theorem PlainS.len {z : Str} (h : PlainS z) : z.length ≤ 24 := by
  have h : (isRow (.str z) && (decide (z.length ≤ 24) && !decide (46 ∈ z.cps.toList))) = true := h
  rw [Bool.and_eq_true, Bool.and_eq_true] at h
  exact of_decide_eq_true h.2.1
theorem PlainS.len2 {z : Str} (h : PlainS z) : z.cps.toList.length ≤ 24 := by
  have e : z.cps.toList.length = z.length := Array.length_toList
  rw [e]
  exact h.len
theorem plainS_of_true {x : V} (h : isPlain x = true) : ∃ s, x = .str s ∧ PlainS s := by
  cases x with
  | str s => exact ⟨s, rfl, h⟩
  | _ => cases h
/-- a plain row, or refused -/
def Plain1 (K : PySem.W.Frag) (E : XK) (H : Hp) (x : V) (k : Str → Prop) : Prop := (∃ s, x = .str s ∧ PlainS s ∧ k s) ∨ (Thg H x ∧ isPlain x = false ∧ RaR K E H "NoPlain" "found" x)
theorem Plain1.imp {K : PySem.W.Frag} {E : XK} {H : Hp} {x : V} {k k' : Str → Prop} (h : Plain1 K E H x k) (f : ∀ s, x = .str s → PlainS s → k s → k' s) : Plain1 K E H x k' := by
  rcases h with ⟨s, e, hs, h⟩ | h
  · exact .inl ⟨s, e, hs, f s e hs h⟩
  · exact .inr h
def sp_need_plain (K : PySem.W.Frag) : Sp := fun vs H Q E => ∃ x, vs = [x] ∧ Plain1 K E H x fun _ => ∀ H', Ex H H' → Q .non H'
theorem ok_need_plain (T : Tx K mg ad fd tk base tc w) : FnOk P w K mg base (L2.CX P w) 3 (ad 7) (fd 7) ["row"] (sp_need_plain K) := by
  refine T.d_need_plain.F.okX sc_need_plain (fun vs H Q E h => ?_) (fun cdv A outer s H vs Q E hr h => ?_)
  · obtain ⟨x, rfl, _⟩ := h
    rfl
  · obtain ⟨x, rfl, k⟩ := h
    refine ⟨_, (pss_one (ps_if (pt_not (pt_val (pe_call (ok_is_plain T) (hr.mono (by decide)) rfl T.d_is_plain.g T.d_is_plain.F.kp T.d_is_plain.b .nil pass0 (pa_cons (pv 0) pa_nil)))) (pss_one (ps_raiseG rfl (ex_NoPlain T) (hr.mono (by decide)) (takes_of rfl rfl rfl rfl) rfl (pa_cons (pv 0) pa_nil))) pss_nil)), ?_⟩
    walk_at "go"
    rcases k with ⟨s, rfl, hs, k⟩ | ⟨ht, hb, k⟩
    · have hs' := hs.len
      refine ⟨.str s, rfl, ty_str _, fun z' e => by cases e; omega, fun H1 e1 => ?_⟩
      rw [show isPlain (.str s) = true from hs]
      walk_at "go"
      exact k _ e1
    · refine ⟨x, rfl, ht.1, ht.2, fun H1 e1 => ?_⟩
      rw [hb]
      walk_at "go"
      rename_i d H2 hd e2 hv
      exact k d H2 (Ex.free e1 hd) (e1.trans e2) hv
/-- a stretch of m places -/
def spanV (b e : V) (m : Int) : Bool := match b with
  | .int i => decide (0 ≤ i ∧ i ≤ m) && withinV e i m
  | _ => false
def sp_need_span (K : PySem.W.Frag) : Sp := fun vs H Q E => ∃ (b e : V) (m : Int), vs = [b, e, .int m] ∧ Ty H b ∧ Ty H e ∧ (spanV b e m = false → RaF K E H "NoSpan" [("end", e), ("begin", b)]) ∧ (spanV b e m = true → Q .non H)
theorem span_nat {b e : V} {m : Nat} (h : spanV b e m = true) : ∃ i j : Nat, b = .int (i : Nat) ∧ e = .int (j : Nat) ∧ i ≤ j ∧ j ≤ m := by
  cases b with
  | int i =>
    cases e with
    | int j =>
      have h : (decide (0 ≤ i ∧ i ≤ (m : Int)) && decide (i ≤ j ∧ j ≤ (m : Int))) = true := h
      rw [Bool.and_eq_true, decide_eq_true_eq, decide_eq_true_eq] at h
      exact ⟨i.toNat, j.toNat, by rw [show ((i.toNat : Nat) : Int) = i by omega], by rw [show ((j.toNat : Nat) : Int) = j by omega], by omega, by omega⟩
    | _ => simp [spanV, withinV] at h
  | _ => cases h
theorem nat_span {i j m : Nat} (h1 : i ≤ j) (h2 : j ≤ m) : spanV (.int (i : Nat)) (.int (j : Nat)) m = true := by
  show (decide (0 ≤ ((i : Nat) : Int) ∧ ((i : Nat) : Int) ≤ (m : Int)) && decide (((i : Nat) : Int) ≤ ((j : Nat) : Int) ∧ ((j : Nat) : Int) ≤ (m : Int))) = true
  rw [Bool.and_eq_true, decide_eq_true_eq, decide_eq_true_eq]
  omega
theorem ok_need_span (T : Tx K mg ad fd tk base tc w) : FnOk P w K mg base (L2.CX P w) 3 (ad 8) (fd 8) ["begin", "end", "many"] (sp_need_span K) := by
  refine T.d_need_span.F.okX sc_need_span (fun vs H Q E h => ?_) (fun cdv A outer s H vs Q E hr h => ?_)
  · obtain ⟨b, e, m, rfl, _⟩ := h
    rfl
  · obtain ⟨b, e, m, rfl, hb, he, k0, k1⟩ := h
    refine ⟨_, (pss_one (ps_if (PW.pt (pw_or (pt_not (pt_val (pe_call (ok_is_within T) (hr.mono (by decide)) rfl T.d_is_within.g T.d_is_within.F.kp T.d_is_within.b .nil pass0 (pa_cons (pv 0) (pa_cons pe_int (pa_cons (pv 2) pa_nil)))))) (pw_or1 (pt_not (pt_val (pe_call (ok_is_within T) (hr.mono (by decide)) rfl T.d_is_within.g T.d_is_within.F.kp T.d_is_within.b .nil pass0 (pa_cons (pv 1) (pa_cons (pv 0) (pa_cons (pv 2) pa_nil))))))))) (pss_one (ps_raiseG rfl (ex_NoSpan T) (hr.mono (by decide)) (takes_of rfl rfl rfl rfl) rfl (pa_cons (pv 0) (pa_cons (pv 1) pa_nil)))) pss_nil)), ?_⟩
    walk_at "go"
    refine ⟨b, 0, m, rfl, hb, ?_⟩
    cases b with
    | int i =>
      have h1 : withinV (.int i) 0 m = decide (0 ≤ i ∧ i ≤ m) := rfl
      have h2 : spanV (.int i) e m = (decide (0 ≤ i ∧ i ≤ m) && withinV e i m) := rfl
      rw [h2] at k0 k1
      rw [h1]
      by_cases q : 0 ≤ i ∧ i ≤ m
      · rw [decide_eq_true q] at k0 k1 ⊢
        rw [Bool.true_and] at k0 k1
        walk_at "go"
        refine ⟨e, i, m, rfl, he, ?_⟩
        cases hb : withinV e i m with
        | true =>
          walk_at "go"
          exact k1 hb
        | false =>
          have k2 := k0 hb
          walk_at "go"
          rename_i d2 H2 hd2 e2 hv2
          exact k2 d2 H2 hd2 e2 hv2
      · rw [decide_eq_false q] at k0 ⊢
        have k2 := k0 rfl
        walk_at "go"
        rename_i d2 H2 hd2 e2 hv2
        exact k2 d2 H2 hd2 e2 hv2
    | _ =>
      have k2 := k0 rfl
      refine ⟨false, rfl, ?_⟩
      walk_at "go"
      rename_i d2 H2 hd2 e2 hv2
      exact k2 d2 H2 hd2 e2 hv2
/-- a point ahead of each -/
def parts (l : List Nat) : List Nat := (l.map fun c => [46, c]).flatten
theorem parts_cons (a : Nat) (l : List Nat) : parts (a :: l) = 46 :: a :: parts l := rfl
theorem parts_len (l : List Nat) : (parts l).length = 2 * l.length := by
  induction l with
  | nil => rfl
  | cons a l ih => rw [parts_cons, List.length_cons, List.length_cons, ih, List.length_cons]; omega
def sp_parted (K : PySem.W.Frag) : Sp := fun vs H Q E => ∃ x, vs = [x] ∧ Plain1 K E H x fun s => ∀ H', Ex H H' → Q (.str (tx (parts s.cps.toList))) H'
theorem ok_parted (T : Tx K mg ad fd tk base tc w) : FnOk P w K mg base (L2.CX P w) 4 (ad 9) (fd 9) ["row"] (sp_parted K) := by
  refine T.d_parted.F.okX sc_parted (fun vs H Q E h => ?_) (fun cdv A outer s H vs Q E hr h => ?_)
  · obtain ⟨x, rfl, _⟩ := h
    rfl
  · obtain ⟨x, rfl, k⟩ := h
    refine ⟨_, (pss_cons (ps_expr (pe_call (ok_need_plain T) (hr.mono (by decide)) rfl T.d_need_plain.g T.d_need_plain.F.kp T.d_need_plain.b .nil (passes_call (takes_of rfl rfl rfl rfl) (fun _ _ _ _ h => h)) (pa_cons (pv 0) pa_nil)))
      (pss_one (ps_ret (pe_join pe_str (pe_lc (own := [("sign", 1)]) (g := gName 1) rfl sc_parted.nd (pi_str (pv 0)) (blkOk_by (own := [("sign", 1)]) (N := N_parted) (sc := defScope s_parted) (by decide +kernel)) (fun _ _ _ _ _ => pg_name (i := 1) sc_parted.nd rfl (Or.inl rfl)) (fun _ _ _ _ _ => pts_nil) (fun _ _ _ _ _ => (pe_op o_add pe_str (pv 1)))))))), ?_⟩
    walk_at "go"
    refine ⟨x, rfl, k.imp fun s e hs kq H1 e1 => ?_⟩
    subst e
    have hl := hs.len2
    walk_at "go"
    rw [Zb.tx_nil]
    walk_at "go"
    refine lc_map (rv_str s) (fun _ _ => trivial) (by omega) (fun c => .str (tx [46, c])) ?_ ?_
    · intro c H' hc e B h1
      refine ⟨rfl, ?_⟩
      have h1' := h1 _ (Fr.refl _)
      walk_at "go"
      rw [point_eq]
      walk_at "go"
      rw [tx_append]
      exact h1'
    · intro D H' hD e hd
      have hd' : H' D = some (.lst ((s.cps.toList.map fun c => tx [46, c]).map V.str)) := by rw [hd, List.map_map]; rfl
      walk_at "go"
      refine st_join (ys := (s.cps.toList.map fun c => [46, c]).map tx) hd' (by rw [List.map_map, List.map_map, List.map_map]; rfl) ?_ ?_
      · rw [List.length_map, List.length_map, tx_length]
        have e3 : (((s.cps.toList.map fun c => [46, c]).map tx).map (·.length)).sum = 2 * s.cps.toList.length := by
          generalize s.cps.toList = l
          induction l with
          | nil => rfl
          | cons a l ih => rw [List.map_cons, List.map_cons, List.map_cons, List.sum_cons, ih, tx_length]; simp; omega
        rw [e3]
        simp only [List.length_nil]
        omega
      · have kk := kq _ (e1.trans e)
        unfold parts at kk
        rw [← join_txs, Zb.tx_nil] at kk
        exact kk
/-- where c stands in l -/
def posOf (c : Nat) (l : List Nat) : List Nat := (List.range l.length).filter fun j => decide (l[j]? = some c)
/-- the signs, each once, in the order in which they come -/
def firsts : List Nat → List Nat := fun l => l.foldl (fun acc c => if c ∈ acc then acc else acc ++ [c]) []
theorem firsts_snoc (l : List Nat) (c : Nat) : firsts (l ++ [c]) = if c ∈ firsts l then firsts l else firsts l ++ [c] := by
  unfold firsts
  rw [List.foldl_append]
  rfl
theorem firsts_mem (l : List Nat) (c : Nat) : c ∈ firsts l ↔ c ∈ l := by
  refine snoc_ind (P := fun l => ∀ c, c ∈ firsts l ↔ c ∈ l) (by simp [firsts]) (fun l a ih c => ?_) l c
  rw [firsts_snoc]
  split
  · rename_i h
    rw [ih] at h
    rw [ih, List.mem_append, List.mem_singleton]
    constructor
    · exact .inl
    · rintro (z | z)
      · exact z
      · rw [z]; exact h
  · rw [List.mem_append, List.mem_append, ih]
theorem firsts_nodup (l : List Nat) : (firsts l).Nodup := by
  refine snoc_ind (P := fun l => (firsts l).Nodup) (by simp [firsts]) (fun l a ih => ?_) l
  · skip
    rw [firsts_snoc]
    split
    · exact ih
    · rename_i h
      rw [List.nodup_append]
      exact ⟨ih, by simp, fun b hb c hc => by rw [List.mem_singleton.mp hc]; exact fun z => h (z ▸ hb)⟩
theorem firsts_len (l : List Nat) : (firsts l).length ≤ l.length := by
  refine snoc_ind (P := fun l => (firsts l).length ≤ l.length) (by simp [firsts]) (fun l a ih => ?_) l
  · skip
    rw [firsts_snoc]
    split
    · rw [List.length_append]; omega
    · rw [List.length_append, List.length_append]; simp; exact ih
theorem posOf_snoc (c a : Nat) (l : List Nat) : posOf c (l ++ [a]) = posOf c l ++ (if a = c then [l.length] else []) := by
  unfold posOf
  rw [List.length_append, List.length_singleton, List.range_succ, List.filter_append]
  congr 1
  · apply List.filter_congr
    intro j hj
    rw [List.mem_range] at hj
    rw [List.getElem?_append_left hj]
  · by_cases h : a = c
    · rw [if_pos h, List.filter_cons_of_pos (by rw [List.getElem?_append_right (Nat.le_refl _)]; simp [h]), List.filter_nil]
    · rw [if_neg h, List.filter_cons_of_neg (by rw [List.getElem?_append_right (Nat.le_refl _)]; simp [h]), List.filter_nil]
/-- the dict at d of the places in l: its lists at rs, for each of the signs -/
structure PlacesAt (H0 H : Hp) (d : Addr) (rs : List Addr) (l : List Nat) : Prop where
  new : H0 d = none
  at_ : H d = some (.dK (((firsts l).zip rs).map fun q => (Sum.inr (tx [q.1]), V.ref q.2)))
  len : rs.length = (firsts l).length
  rows : ObjsAt H rs ((firsts l).map fun c => .lst ((posOf c l).map fun (j : Nat) => V.int j))
  nd : rs.Nodup
  non : d ∉ rs
  news : ∀ r ∈ rs, H0 r = none
theorem places_get {fs : List Nat} {rs : List Addr} (hl : rs.length = fs.length) (nd : fs.Nodup) {k : Nat} {c : Nat} {r : Addr} (h1 : fs[k]? = some c) (h2 : rs[k]? = some r) :
    valV ((fs.zip rs).map fun q => ((Sum.inr (tx [q.1]) : Key), V.ref q.2)) (Sum.inr (tx [c])) = some (.ref r) := by
  refine valV_at (i := k) ?_ ?_
  · rw [List.map_map]
    have : ((fun x => x.1) ∘ fun (q : Nat × Addr) => ((Sum.inr (tx [q.1]) : Key), V.ref q.2)) = (fun c => (Sum.inr (tx [c]) : Key)) ∘ Prod.fst := rfl
    rw [this, ← List.map_map, List.map_fst_zip (by omega)]
    refine nodup_map nd (fun a b h => ?_)
    have h : tx [a] = tx [b] := Sum.inr.inj h
    rw [tx_inj] at h
    simpa using h
  · rw [List.getElem?_map, (List.getElem?_zip_eq_some (z := (c, r))).mpr ⟨h1, h2⟩]
    rfl
theorem places_none {fs : List Nat} {rs : List Addr} {c : Nat} (h : c ∉ fs) : valV ((fs.zip rs).map fun q => ((Sum.inr (tx [q.1]) : Key), V.ref q.2)) (Sum.inr (tx [c])) = none := by
  rw [valV_none]
  intro q hq
  obtain ⟨⟨a, r⟩, hz, rfl⟩ := List.mem_map.mp hq
  intro e
  have e : tx [a] = tx [c] := Sum.inr.inj e
  rw [tx_inj] at e
  have e : a = c := by simpa using e
  exact h (e ▸ (List.of_mem_zip hz).1)
def sp_places_of (K : PySem.W.Frag) : Sp := fun vs H Q E => ∃ x, vs = [x] ∧ Row1 K E H x fun s => ∀ d rs H', Ex H H' → PlacesAt H H' d rs s.cps.toList → Q (.ref d) H'
theorem ok_places_of (T : Tx K mg ad fd tk base tc w) : FnOk P w K mg base (L2.CX P w) 4 (ad 10) (fd 10) ["row"] (sp_places_of K) := by
  refine T.d_places_of.F.okX sc_places_of (fun vs H Q E h => ?_) (fun cdv A outer s H vs Q E hr h => ?_)
  · obtain ⟨x, rfl, _⟩ := h
    rfl
  · obtain ⟨x, rfl, hR⟩ := h
    refine ⟨_, (pss_cons (ps_expr (pe_call (ok_need_row T) (hr.mono (by decide)) rfl T.d_need_row.g T.d_need_row.F.kp T.d_need_row.b .nil (passes_call (takes_of rfl rfl rfl rfl) (fun _ _ _ _ h => h)) (pa_cons (pv 0) pa_nil)))
      (pss_cons (ps_set (i := 1) sc_places_of.nd rfl (Or.inl rfl) pe_dnewK)
      (pss_cons (ps_for (passes_of rfl) rfl (pi_enumS rfl T.b_enumerate (pa_cons (pv 0) pa_nil)) (pg_tup rfl (pgs_cons (pg_name (i := 2) sc_places_of.nd rfl (Or.inl rfl)) (pgs_cons (pg_name (i := 3) sc_places_of.nd rfl (Or.inl rfl)) pgs_nil))) (pss_one (ps_expr (pe_bm PySem.F.plainAttrs_list PySem.F.slot_list_append PySem.F.type_list_append mt_append (pe_dsetd (pv 1) (pv 3) (pe_lst pa_nil) ⟨rfl, rfl, rfl, rfl⟩) (pa_cons (pv 2) pa_nil)))))
      (pss_one (ps_ret (pv 1)))))), ?_⟩
    walk_at "go"
    refine ⟨x, rfl, hR.imp fun s ex hs k H1 e1 => ?_⟩
    subst ex
    have hs1 := hs.len
    have hsl : s.cps.toList.length = s.length := Array.length_toList
    walk_at "go"
    rename_i d G1 n1 ex1 v1
    have e2 := e1.trans ex1
    have hd0 : H d = none := Ex.free e1 n1
    refine for_runs (runs_enumS s) (fun i σ H' => Ex H H' ∧ (∃ rs, PlacesAt H H' d rs (s.cps.toList.take i)) ∧ ∃ a b, σ = [some (.str s), some (.ref d), a, b]) ⟨e2, ⟨[], hd0, v1, rfl, .nil, List.nodup_nil, by simp, by simp⟩, _, _, rfl⟩ (fun _ _ _ _ _ => trivial) ?_ ?_
    · rintro i x σ H' H'' hi ⟨e, ⟨rs, P⟩, a, b, rfl⟩ ⟨T, c, rfl, hT, eT, vT, hc⟩
      have ht : s.cps.toList.take (i + 1) = s.cps.toList.take i ++ [c] := by rw [List.take_add_one, hc]; rfl
      have hl : (s.cps.toList.take i).length = i := by rw [List.length_take]; omega
      have hfl := firsts_len (s.cps.toList.take i)
      have hdT : H'' d = _ := eT.get P.at_
      have hz : (((firsts (s.cps.toList.take i)).zip rs).map fun q => ((Sum.inr (tx [q.1]) : Key), V.ref q.2)).length < 1000 := by
        rw [List.length_map, List.length_zip]; omega
      walk_at "go"
      rename_i q G2 n2 ex3 v2
      have hd2 : G2 d = _ := ex3.get hdT
      have rows2 := (P.rows.ex eT).ex ex3
      refine st_dsetP (Sum.inr (tx [c])) hd2 (by omega) (fun v hv => ?_) (fun hv => ?_)
      · have hcm : c ∈ firsts (s.cps.toList.take i) := by
          by_cases z : c ∈ firsts (s.cps.toList.take i)
          · exact z
          · rw [places_none z] at hv; cases hv
        obtain ⟨kx, hkx⟩ := List.getElem?_of_mem hcm
        have hkl : kx < rs.length := by rw [P.len]; exact (List.getElem?_eq_some_iff.mp hkx).1
        have hkr : rs[kx]? = some rs[kx] := List.getElem?_eq_getElem hkl
        rw [places_get P.len (firsts_nodup _) hkx hkr] at hv
        cases hv
        have hrow := rows2.at kx _ _ hkr (by rw [List.getElem?_map, hkx]; rfl)
        walk_at "go"
        refine st_app hrow (by rw [List.length_map]; have := List.length_filter_le (fun j => decide ((s.cps.toList.take i)[j]? = some c)) (List.range (s.cps.toList.take i).length); rw [List.length_range] at this; unfold posOf; omega) ?_
        have hdn : d ≠ rs[kx] := fun z => P.non (z ▸ List.getElem_mem hkl)
        refine ⟨((e.trans eT).trans ex3).mut (P.news _ (List.getElem_mem hkl)), ⟨rs, hd0, ?_, ?_, ?_, P.nd, P.non, P.news⟩, _, _, rfl⟩
        · rw [upd_ne hdn, hd2, ht, firsts_snoc, if_pos hcm]
        · rw [ht, firsts_snoc, if_pos hcm]; exact P.len
        · have hset := rows2.set (u := .lst (((posOf c (s.cps.toList.take i)).map fun (j : Nat) => V.int j) ++ [V.int i])) P.nd hkr
          rw [ht, firsts_snoc, if_pos hcm]
          have hos : ((firsts (s.cps.toList.take i)).map fun c' => HO.lst ((posOf c' (s.cps.toList.take i ++ [c])).map fun (j : Nat) => V.int j)) = (((firsts (s.cps.toList.take i)).map fun c => HO.lst ((posOf c (s.cps.toList.take i)).map fun (j : Nat) => V.int j)).set kx (.lst (((posOf c (s.cps.toList.take i)).map fun (j : Nat) => V.int j) ++ [V.int i]))) := by
            apply List.ext_getElem?
            intro m
            rw [List.getElem?_map]
            by_cases hm : m = kx
            · subst hm
              rw [hkx, List.getElem?_set_self (by rw [List.length_map]; exact (List.getElem?_eq_some_iff.mp hkx).1)]
              show some (HO.lst _) = _
              rw [posOf_snoc, if_pos rfl, List.map_append, hl]
              rfl
            · rw [List.getElem?_set_ne (Ne.symm hm), List.getElem?_map]
              cases hf : (firsts (s.cps.toList.take i))[m]? with
              | none => rfl
              | some c' =>
                have hne : c ≠ c' := fun z => hm (nd_ix (firsts_nodup _) hf (z ▸ hkx))
                show some (HO.lst _) = some (HO.lst _)
                rw [posOf_snoc, if_neg hne, List.append_nil]
          rw [hos]
          exact hset
      · have hcm : c ∉ firsts (s.cps.toList.take i) := fun z => by
          obtain ⟨kx, hkx⟩ := List.getElem?_of_mem z
          have hkl : kx < rs.length := by rw [P.len]; exact (List.getElem?_eq_some_iff.mp hkx).1
          rw [places_get P.len (firsts_nodup _) hkx (List.getElem?_eq_getElem hkl)] at hv
          cases hv
        have hqd : q ≠ d := fun z => by rw [z, hdT] at n2; cases n2
        have hqr : q ∉ rs := fun z => by
          obtain ⟨kx, hkx⟩ := List.getElem?_of_mem z
          have hk2 : kx < ((firsts (s.cps.toList.take i)).map fun c => HO.lst ((posOf c (s.cps.toList.take i)).map fun (j : Nat) => V.int j)).length := by
            rw [← P.rows.len]; exact (List.getElem?_eq_some_iff.mp hkx).1
          have := (P.rows.ex eT).at kx _ _ hkx (List.getElem?_eq_getElem hk2)
          rw [this] at n2
          cases n2
        have hq2 : upd G2 d (.dK (putK (((firsts (s.cps.toList.take i)).zip rs).map fun q => (Sum.inr (tx [q.1]), V.ref q.2)) (Sum.inr (tx [c])) (V.ref q))) q = some (.lst []) := by
          rw [upd_ne hqd]; exact v2
        walk_at "go"
        refine st_app hq2 (by simp) ?_
        have hc0 : posOf c (s.cps.toList.take i) = [] := by
          unfold posOf
          rw [List.filter_eq_nil_iff]
          intro j hj w
          exact hcm ((firsts_mem _ _).mpr (List.mem_of_getElem? (of_decide_eq_true w)))
        have hq0 : H q = none := Ex.free (e.trans eT) n2
        refine ⟨(((e.trans eT).trans ex3).mut hd0).mut hq0, ⟨rs ++ [q], hd0, ?_, ?_, ?_, ?_, ?_, ?_⟩, _, _, rfl⟩
        · rw [upd_ne (Ne.symm hqd), upd_same, putK_new hv, ht, firsts_snoc, if_neg hcm, List.zip_append P.len.symm, List.map_append]
          rfl
        · rw [ht, firsts_snoc, if_neg hcm, List.length_append, List.length_append, P.len]; rfl
        · rw [ht, firsts_snoc, if_neg hcm, List.map_append]
          refine ObjsAt.app (.up hqr (.up P.non ?_)) (.one ?_)
          · have hos : ((firsts (s.cps.toList.take i)).map fun c' => HO.lst ((posOf c' (s.cps.toList.take i ++ [c])).map fun (j : Nat) => V.int j)) = ((firsts (s.cps.toList.take i)).map fun c => HO.lst ((posOf c (s.cps.toList.take i)).map fun (j : Nat) => V.int j)) := by
              apply List.map_congr_left
              intro c' hc'
              have hne : c ≠ c' := fun z => hcm (z ▸ hc')
              rw [posOf_snoc, if_neg hne, List.append_nil]
            rw [hos]
            exact rows2
          · rw [upd_same]
            show some (HO.lst ([] ++ [V.int i])) = some (HO.lst ((posOf c (s.cps.toList.take i ++ [c])).map fun (j : Nat) => V.int j))
            rw [posOf_snoc, if_pos rfl, hc0, hl]
            rfl
        · rw [List.nodup_append]
          exact ⟨P.nd, by simp, fun b hb c hc => by rw [List.mem_singleton.mp hc]; exact fun z => hqr (z ▸ hb)⟩
        · rw [List.mem_append, List.mem_singleton]
          rintro (z | z)
          · exact P.non z
          · exact hqd z.symm
        · intro r hr
          rcases List.mem_append.mp hr with h | h
          · exact P.news r h
          · rw [List.mem_singleton.mp h]; exact hq0
    · rintro σ H' ⟨e, ⟨rs, P⟩, a, b, rfl⟩
      walk_at "go"
      rw [List.take_of_length_le (by omega)] at P
      exact k d rs H' e P
/-- an item, nought behind the end -/
def gT (e : List Nat) (i : Nat) : Nat := e.getD i 0
theorem gT_at {e : List Nat} {i : Nat} (h : i < e.length) : gT e i = e[i] := by
  unfold gT
  rw [List.getD_eq_getElem?_getD, List.getElem?_eq_getElem h]
  rfl
theorem gT_some {e : List Nat} {i : Nat} (h : i < e.length) : e[i]? = some (gT e i) := by rw [gT_at h]; exact List.getElem?_eq_getElem h
theorem gT_of {e : List Nat} {i v : Nat} (h : e[i]? = some v) : gT e i = v := by unfold gT; rw [List.getD_eq_getElem?_getD, h]; rfl
theorem gT_ext {a b : List Nat} (hl : a.length = b.length) (h : ∀ i, i < a.length → gT a i = gT b i) : a = b := by
  refine List.ext_getElem hl fun i h1 h2 => ?_
  have := h i h1
  rwa [gT_at h1, gT_at h2] at this
theorem gT_map {f : Nat → Nat} {n i : Nat} (h : i < n) : gT ((List.range n).map f) i = f i := by
  refine gT_of ?_
  rw [List.getElem?_map, List.getElem?_range h]
  rfl
/-- a turning -/
structure IsT (l : List Nat) : Prop where
  nd : l.Nodup
  lt : ∀ x ∈ l, x < l.length
theorem IsT.g_lt {l : List Nat} (h : IsT l) {i : Nat} (hi : i < l.length) : gT l i < l.length := h.lt _ (by rw [gT_at hi]; exact List.getElem_mem hi)
theorem IsT.mem {l : List Nat} (h : IsT l) {v : Nat} (hv : v < l.length) : v ∈ l := by
  refine Decidable.byContradiction fun hn => ?_
  have h1 : l ⊆ (List.range l.length).erase v := fun x hx => by
    refine (List.mem_erase_of_ne (fun e => hn (by rw [← e]; exact hx))).mpr ?_
    exact List.mem_range.mpr (h.lt x hx)
  have h2 := h.nd.length_le_of_subset h1
  rw [List.length_erase_of_mem (List.mem_range.mpr hv), List.length_range] at h2
  omega
theorem IsT.perm {l : List Nat} (h : IsT l) : l.Perm (List.range l.length) := by
  rw [List.perm_iff_count]
  intro a
  have one : ∀ {m : List Nat}, m.Nodup → a ∈ m → m.count a = 1 := fun {m} h1 h2 => by
    have h3 := List.nodup_iff_count.mp h1 a
    have h4 := List.count_pos_iff.mpr h2
    omega
  by_cases ha : a < l.length
  · rw [one h.nd (h.mem ha), one List.nodup_range (List.mem_range.mpr ha)]
  · rw [List.count_eq_zero_of_not_mem fun q => ha (h.lt a q), List.count_eq_zero_of_not_mem fun q => ha (List.mem_range.mp q)]
theorem isT_range (n : Nat) : IsT (List.range n) := ⟨List.nodup_range, fun x hx => by rw [List.length_range]; exact List.mem_range.mp hx⟩
theorem IsT.of_perm {l m : List Nat} (h : IsT m) (p : l.Perm m) : IsT l := ⟨p.nodup_iff.mpr h.nd, fun x hx => by rw [p.length_eq]; exact h.lt x (p.mem_iff.mp hx)⟩
theorem IsT.of_perm_range {l : List Nat} {n : Nat} (p : l.Perm (List.range n)) : IsT l := (isT_range n).of_perm p
theorem IsT.idx_lt {l : List Nat} (h : IsT l) {v : Nat} (hv : v < l.length) : l.idxOf v < l.length := List.idxOf_lt_length_iff.mpr (h.mem hv)
theorem IsT.g_idx {l : List Nat} (h : IsT l) {v : Nat} (hv : v < l.length) : gT l (l.idxOf v) = v := by
  rw [gT_at (h.idx_lt hv)]
  exact List.getElem_idxOf _
theorem IsT.idx_g {l : List Nat} (h : IsT l) {i : Nat} (hi : i < l.length) : l.idxOf (gT l i) = i := by
  rw [gT_at hi]
  exact h.nd.idxOf_getElem i hi
theorem IsT.inj {l : List Nat} (h : IsT l) {i j : Nat} (hi : i < l.length) (hj : j < l.length) (e : gT l i = gT l j) : i = j := by
  rw [← h.idx_g hi, ← h.idx_g hj, e]
/-- the opposite turning -/
def invT (l : List Nat) : List Nat := (List.range l.length).map fun v => l.idxOf v
theorem invT_len (l : List Nat) : (invT l).length = l.length := by rw [invT, List.length_map, List.length_range]
theorem invT_g {l : List Nat} {v : Nat} (h : v < l.length) : gT (invT l) v = l.idxOf v := gT_map h
theorem isT_of_g {l : List Nat} (h1 : ∀ i, i < l.length → gT l i < l.length) (h2 : ∀ i j, i < l.length → j < l.length → gT l i = gT l j → i = j) : IsT l := by
  refine ⟨?_, fun x hx => ?_⟩
  · rw [List.nodup_iff_pairwise_ne, List.pairwise_iff_getElem]
    intro i j hi hj hij e
    have := h2 i j hi hj (by rw [gT_at hi, gT_at hj]; exact e)
    omega
  · obtain ⟨i, hi, e⟩ := List.getElem_of_mem hx
    have := h1 i hi
    rwa [gT_at hi, e] at this
theorem IsT.inv {l : List Nat} (h : IsT l) : IsT (invT l) := by
  refine isT_of_g (fun i hi => ?_) fun i j hi hj e => ?_
  · rw [invT_len] at hi ⊢
    rw [invT_g hi]
    exact h.idx_lt hi
  · rw [invT_len] at hi hj
    rw [invT_g hi, invT_g hj] at e
    rw [← h.g_idx hi, ← h.g_idx hj, e]
theorem IsT.g_inv {l : List Nat} (h : IsT l) {v : Nat} (hv : v < l.length) : gT l (gT (invT l) v) = v := by rw [invT_g hv, h.g_idx hv]
theorem IsT.inv_g {l : List Nat} (h : IsT l) {i : Nat} (hi : i < l.length) : gT (invT l) (gT l i) = i := by rw [invT_g (h.g_lt hi), h.idx_g hi]
theorem IsT.inv_inv {l : List Nat} (h : IsT l) : invT (invT l) = l := by
  refine gT_ext (by rw [invT_len, invT_len]) fun i hi => ?_
  rw [invT_len, invT_len] at hi
  have hi' : i < (invT l).length := by rw [invT_len]; exact hi
  have h1 := h.inv.g_inv hi'
  have h2 := h.inv.inv.g_lt (i := i) (by rw [invT_len, invT_len]; exact hi)
  rw [invT_len, invT_len] at h2
  have h3 := h.g_inv (v := i) hi
  refine h.inv.inj ?_ ?_ ?_
  · rw [invT_len]; exact h2
  · rw [invT_len]; exact h.g_lt hi
  · rw [h1, h.inv_g hi]
/-- two neighbours exchanged -/
def swapAt (e : List Nat) (s : Nat) : List Nat := e.take s ++ [gT e (s + 1), gT e s] ++ e.drop (s + 2)
theorem swapAt_len {e : List Nat} {s : Nat} (h : s + 1 < e.length) : (swapAt e s).length = e.length := by
  unfold swapAt
  rw [List.length_append, List.length_append, List.length_take, List.length_drop]
  simp only [List.length_cons, List.length_nil]
  omega
theorem split_at {e : List Nat} {s : Nat} (h : s + 1 < e.length) : e = e.take s ++ [gT e s, gT e (s + 1)] ++ e.drop (s + 2) := by
  have h1 : e.drop s = gT e s :: e.drop (s + 1) := by rw [gT_at (by omega)]; exact List.drop_eq_getElem_cons (by omega)
  have h2 : e.drop (s + 1) = gT e (s + 1) :: e.drop (s + 2) := by rw [gT_at h]; exact List.drop_eq_getElem_cons h
  have := List.take_append_drop s e
  rw [h1, h2] at this
  rw [List.append_assoc]
  exact this.symm
theorem swapAt_perm {e : List Nat} {s : Nat} (h : s + 1 < e.length) : (swapAt e s).Perm e := by
  conv => rhs; rw [split_at h]
  unfold swapAt
  rw [List.append_assoc, List.append_assoc]
  exact (List.Perm.append_right _ (List.Perm.swap ..)).append_left _
theorem IsT.swap {e : List Nat} {s : Nat} (h : IsT e) (hs : s + 1 < e.length) : IsT (swapAt e s) := h.of_perm (swapAt_perm hs)
/-- words of swaps -/
def OkW (n : Nat) (w : List Nat) : Prop := ∀ s ∈ w, s + 1 < n
theorem OkW.cons {n s : Nat} {w : List Nat} (h : OkW n (s :: w)) : s + 1 < n ∧ OkW n w := ⟨h s List.mem_cons_self, fun t ht => h t (List.mem_cons_of_mem _ ht)⟩
def swapsT (e : List Nat) (w : List Nat) : List Nat := w.foldl swapAt e
def Down : List Nat → List Nat → Prop
  | _, [] => True
  | e, s :: w => s + 1 < e.length ∧ gT e (s + 1) < gT e s ∧ Down (swapAt e s) w
def Up : List Nat → List Nat → Prop
  | _, [] => True
  | e, s :: w => s + 1 < e.length ∧ gT e s < gT e (s + 1) ∧ Up (swapAt e s) w
theorem Down.ok : ∀ {w e : List Nat}, Down e w → OkW e.length w
  | [], _, _, s, hs => by cases hs
  | t :: w, e, ⟨h1, _, h3⟩, s, hs => by
    rcases List.mem_cons.mp hs with q | q
    · rw [q]; exact h1
    · have := h3.ok s q
      rwa [swapAt_len h1] at this
theorem Up.ok : ∀ {w e : List Nat}, Up e w → OkW e.length w
  | [], _, _, s, hs => by cases hs
  | t :: w, e, ⟨h1, _, h3⟩, s, hs => by
    rcases List.mem_cons.mp hs with q | q
    · rw [q]; exact h1
    · have := h3.ok s q
      rwa [swapAt_len h1] at this
theorem Down.app : ∀ {v w e : List Nat}, Down e v → Down (swapsT e v) w → Down e (v ++ w)
  | [], _, _, _, h => h
  | s :: v, w, e, ⟨h1, h2, h3⟩, h => ⟨h1, h2, h3.app h⟩
theorem Up.app : ∀ {v w e : List Nat}, Up e v → Up (swapsT e v) w → Up e (v ++ w)
  | [], _, _, _, h => h
  | s :: v, w, e, ⟨h1, h2, h3⟩, h => ⟨h1, h2, h3.app h⟩
def stepT (e : List Nat) (s : Nat) : List Nat := if gT e s < gT e (s + 1) then swapAt e s else e
theorem IsT.step {e : List Nat} {s : Nat} (h : IsT e) (hs : s + 1 < e.length) : IsT (stepT e s) := by
  unfold stepT
  split
  · exact h.swap hs
  · exact h
/-- how these stand -/
def nV (x : Nat) : V := .int (x : Nat)
def encN (x : Nat) : PyData := .int (x : Nat)
def TurnD (d : PyData) : Prop := ∃ l : List Nat, (d = .list (l.map encN) ∨ d = .tuple (l.map encN)) ∧ IsT l ∧ l.length ≤ 96
theorem encN_inj {a b : List Nat} (h : a.map encN = b.map encN) : a = b := by
  induction a generalizing b with
  | nil => cases b with
    | nil => rfl
    | cons y b => cases h
  | cons x a ih => cases b with
    | nil => cases h
    | cons y b =>
      rw [List.map_cons, List.map_cons] at h
      injection h with h1 h2
      injection h1 with h1
      rw [ih h2, Int.ofNat_inj.mp h1]
/-- lists that stand for functions on the first n places -/
theorem fn_at {f : Nat → V} {n p : Nat} (h : p < n) : atI ((List.range n).map f) (p : Nat) = some (f p) := at_mapN (List.getElem?_range h)
theorem fn_set {f : Nat → V} {n p : Nat} {v : V} : ((List.range n).map f).set p v = (List.range n).map fun e => if e = p then v else f e := by
  refine List.ext_getElem? fun i => ?_
  rw [List.getElem?_set, List.getElem?_map, List.getElem?_map, List.length_map, List.length_range]
  by_cases h : i < n
  · rw [List.getElem?_range h]
    by_cases e : p = i
    · subst e
      rw [if_pos rfl, if_pos h]
      simp
    · rw [if_neg e]
      simp [Ne.symm e]
  · rw [List.getElem?_eq_none (by rw [List.length_range]; omega)]
    by_cases e : p = i
    · subst e
      rw [if_pos rfl, if_neg h]
      rfl
    · rw [if_neg e]
      rfl
theorem fn_ix {f : Nat → V} {n p : Nat} (h : p < n) : ixN ((List.range n).map f).length (p : Nat) = some p := Evl.ixN_nat (by rw [List.length_map, List.length_range]; exact h)
theorem fn_congr {f g : Nat → V} {n : Nat} (h : ∀ e, e < n → f e = g e) : (List.range n).map f = (List.range n).map g := List.map_congr_left fun e he => h e (List.mem_range.mp he)
theorem wiN {H : Hp} {x : V} {d : PyData} (h : Rn H x d) (hi : Int) : withinV x 0 hi = true ↔ ∃ v : Nat, d = encN v ∧ (v : Int) ≤ hi := by
  cases h with
  | int i =>
    simp only [withinV, decide_eq_true_eq]
    constructor
    · intro ⟨h1, h2⟩
      exact ⟨i.toNat, by unfold encN; rw [show ((i.toNat : Nat) : Int) = i by omega], by omega⟩
    · rintro ⟨v, e, h⟩
      unfold encN at e
      injection e with e
      omega
  | _ => exact ⟨fun h => (by cases h), fun ⟨v, e, _⟩ => (by cases e)⟩
theorem TurnD.seq {H : Hp} {x : V} {d : PyData} {l : List Nat} (hx : Rn H x d) (hd : d = .list (l.map encN) ∨ d = .tuple (l.map encN)) : ∃ a, x = .ref a ∧ seqAt H a = some (l.map nV) := by
  have : ∀ (xs : List V) (l : List Nat), RnA H xs (l.map encN) → xs = l.map nV := by
    intro xs l
    induction l generalizing xs with
    | nil => intro h; cases h; rfl
    | cons v l ih =>
      intro h
      cases h with
      | cons h1 h2 =>
        rw [List.map_cons, ← ih _ h2]
        congr 1
        unfold encN at h1
        cases h1
        rfl
  rcases hd with rfl | rfl
  · obtain ⟨a, xs, rfl, h1, h2⟩ := hx.listAt
    exact ⟨a, rfl, by rw [seq_l h1, this _ _ h2]⟩
  · obtain ⟨a, xs, rfl, h1, h2⟩ := hx.tupAt
    exact ⟨a, rfl, by rw [seq_t h1, this _ _ h2]⟩
theorem nV_at {l : List Nat} {i : Nat} {v : V} (h : (l.map nV)[i]? = some v) : i < l.length ∧ v = nV (gT l i) := by
  rw [List.getElem?_map] at h
  cases q : l[i]? with
  | none => rw [q] at h; cases h
  | some x =>
    rw [q] at h
    refine ⟨(List.getElem?_eq_some_iff.mp q).1, ?_⟩
    rw [gT_of q]
    exact (Option.some.inj h).symm
theorem at_nV {l : List Nat} {i : Nat} (h : i < l.length) : atI (l.map nV) (i : Int) = some (nV (gT l i)) := at_mapN (gT_some h)
theorem gT_set {l : List Nat} {j v i : Nat} (hj : j < l.length) : gT (l.set j v) i = if i = j then v else gT l i := by
  unfold gT
  rw [List.getD_eq_getElem?_getD, List.getElem?_set, List.getD_eq_getElem?_getD]
  by_cases h : j = i
  · subst h
    rw [if_pos rfl, if_pos rfl, if_pos hj]
    rfl
  · rw [if_neg h, if_neg (fun e => h e.symm)]
/-- how many lines begin at b or behind it and end ahead of e -/
def cntT (l : List Nat) (b e : Nat) : Nat := (l.drop b).countP (· < e)
/-- the same by the lines that end at each place -/
def cE (E : List Nat) (b : Nat) : Nat → Nat
  | 0 => 0
  | e + 1 => cE E b e + (if b ≤ gT E e then 1 else 0)
theorem cE_succ (E : List Nat) (b e : Nat) : cE E b (e + 1) = cE E b e + (if b ≤ gT E e then 1 else 0) := rfl
theorem countP_lt_succ (e : Nat) : ∀ l : List Nat, l.countP (· < e + 1) = l.countP (· < e) + l.count e
  | [] => rfl
  | x :: l => by
    have ih := countP_lt_succ e l
    rw [List.countP_cons, List.countP_cons, List.count_cons, ih]
    simp only [decide_eq_true_eq, beq_iff_eq]
    by_cases h1 : x < e
    · rw [if_pos h1, if_pos (by omega), if_neg (by omega)]; omega
    · by_cases h2 : x = e
      · rw [if_neg h1, if_pos (by omega), if_pos h2]; omega
      · rw [if_neg h1, if_neg (by omega), if_neg h2]; omega
theorem count_drop {l : List Nat} (hl : IsT l) {b e : Nat} (he : e < l.length) : (l.drop b).count e = if b ≤ l.idxOf e then 1 else 0 := by
  have hi := hl.idx_lt he
  have hg := hl.g_idx he
  by_cases h : b ≤ l.idxOf e
  · rw [if_pos h]
    have hm : e ∈ l.drop b := by
      refine List.mem_drop_iff_getElem.mpr ⟨l.idxOf e - b, by omega, ?_⟩
      have : b + (l.idxOf e - b) = l.idxOf e := by omega
      simp only [this]
      rw [← gT_at hi]
      exact hg
    have h1 := List.count_pos_iff.mpr hm
    have h2 := List.nodup_iff_count.mp (hl.nd.sublist (List.drop_sublist b l)) e
    omega
  · rw [if_neg h, List.count_eq_zero]
    intro hm
    obtain ⟨j, hj, hje⟩ := List.mem_drop_iff_getElem.mp hm
    have h3 := hl.idx_g (i := b + j) (by omega)
    rw [gT_at (by omega), hje] at h3
    omega
theorem cE_cnt {l : List Nat} (hl : IsT l) (b : Nat) : ∀ {e : Nat}, e ≤ l.length → cE (invT l) b e = cntT l b e
  | 0, _ => by
    unfold cntT
    rw [List.countP_eq_zero.mpr fun x _ => by simp]
    rfl
  | e + 1, h => by
    rw [cE_succ, cE_cnt hl b (by omega), invT_g (by omega)]
    unfold cntT
    rw [countP_lt_succ, count_drop hl (by omega)]
/-- the least of so many -/
def IsMin (n : Nat) (f : Nat → Nat) (v : Nat) : Prop := (∃ k, k ≤ n ∧ f k = v) ∧ ∀ k, k ≤ n → v ≤ f k
theorem IsMin.two {n : Nat} {f g : Nat → Nat} {v w : Nat} (h : IsMin n f v) (k : IsMin n g w) : IsMin n (fun i => min (f i) (g i)) (min v w) := by
  obtain ⟨⟨a, ha, h1⟩, h2⟩ := h
  obtain ⟨⟨b, hb, k1⟩, k2⟩ := k
  refine ⟨?_, fun i hi => by have := h2 i hi; have := k2 i hi; show min v w ≤ min (f i) (g i); omega⟩
  by_cases q : v ≤ w
  · exact ⟨a, ha, by have := k2 a ha; show min (f a) (g a) = min v w; omega⟩
  · exact ⟨b, hb, by have := h2 b hb; show min (f b) (g b) = min v w; omega⟩
theorem rnL {H : Hp} {p : Addr} {xs : List Nat} (h : H p = some (.lst (xs.map nV))) : Rn H (.ref p) (.list (xs.map encN)) := .lst h (rnA_map fun _ _ => .int _)
/-- lines that are led over a board by a rule: the number that goes right, ahead of a column -/
def ledX (r : Nat → Nat → Nat → Nat → Bool) (D : Nat → Nat) (i x0 : Nat) : Nat → Nat
  | 0 => x0
  | j + 1 => if r i j (ledX r D i x0 j) (D j) = true then ledX r D i x0 j else D j
/-- the numbers that go down, ahead of a row -/
def ledD (r : Nat → Nat → Nat → Nat → Bool) (m : Nat) : Nat → Nat → Nat
  | 0, j => m + j
  | i + 1, j => if r i j (ledX r (ledD r m i) i (m - 1 - i) j) (ledD r m i j) = true then ledD r m i j else ledX r (ledD r m i) i (m - 1 - i) j
def ledA (r : Nat → Nat → Nat → Nat → Bool) (m i j : Nat) : Nat := ledX r (ledD r m i) i (m - 1 - i) j
def ledS (r : Nat → Nat → Nat → Nat → Bool) (m i j : Nat) : Bool := r i j (ledA r m i j) (ledD r m i j)
theorem ledA_0 (r : Nat → Nat → Nat → Nat → Bool) (m i : Nat) : ledA r m i 0 = m - 1 - i := rfl
theorem ledA_s (r : Nat → Nat → Nat → Nat → Bool) (m i j : Nat) : ledA r m i (j + 1) = if ledS r m i j = true then ledA r m i j else ledD r m i j := rfl
theorem ledD_0 (r : Nat → Nat → Nat → Nat → Bool) (m j : Nat) : ledD r m 0 j = m + j := rfl
theorem ledD_s (r : Nat → Nat → Nat → Nat → Bool) (m i j : Nat) : ledD r m (i + 1) j = if ledS r m i j = true then ledD r m i j else ledA r m i j := rfl
/-- which line comes to each end -/
def ledE (r : Nat → Nat → Nat → Nat → Bool) (m n : Nat) : List Nat := (List.range n).map (ledD r m m) ++ ((List.range m).map fun i => ledA r m i n).reverse
theorem ledE_len (r : Nat → Nat → Nat → Nat → Bool) (m n : Nat) : (ledE r m n).length = m + n := by simp [ledE]; omega
theorem led_row (r : Nat → Nat → Nat → Nat → Bool) (m i : Nat) : ∀ j : Nat, ((List.range j).map (ledD r m (i + 1)) ++ [ledA r m i j]).Perm ((m - 1 - i) :: (List.range j).map (ledD r m i))
  | 0 => .refl _
  | j + 1 => by
    have ih := led_row r m i j
    rw [List.range_succ, List.map_append, List.map_append, List.append_assoc, ledA_s]
    show ((List.range j).map (ledD r m (i + 1)) ++ ([ledD r m (i + 1) j] ++ [if ledS r m i j = true then ledA r m i j else ledD r m i j])).Perm ((m - 1 - i) :: ((List.range j).map (ledD r m i) ++ [ledD r m i j]))
    have sw : ([ledD r m (i + 1) j] ++ [if ledS r m i j = true then ledA r m i j else ledD r m i j]).Perm ([ledA r m i j] ++ [ledD r m i j]) := by
      rw [ledD_s]
      by_cases h : ledS r m i j = true
      · rw [if_pos h, if_pos h]
        exact List.perm_append_comm
      · rw [if_neg h, if_neg h]
    refine (sw.append_left _).trans ?_
    rw [← List.append_assoc, ← List.cons_append]
    exact ih.append_right _
theorem led_perm (r : Nat → Nat → Nat → Nat → Bool) (m n : Nat) : ∀ i : Nat, i ≤ m → ((List.range n).map (ledD r m i) ++ ((List.range i).map fun i => ledA r m i n) ++ List.range (m - i)).Perm (List.range (m + n))
  | 0, _ => by
    rw [List.range_zero, List.map_nil, List.append_nil, Nat.sub_zero, List.range_add]
    exact List.perm_append_comm
  | i + 1, hi => by
    refine List.Perm.trans ?_ (led_perm r m n i (by omega))
    have h1 := led_row r m i n
    rw [List.range_succ, List.map_append]
    have h2 : List.range (m - i) = List.range (m - (i + 1)) ++ [m - 1 - i] := by
      rw [show m - i = (m - (i + 1)) + 1 by omega, List.range_succ, show m - (i + 1) = m - 1 - i by omega]
    rw [h2]
    have e1 : ((List.range n).map (ledD r m (i + 1)) ++ ((List.range i).map (fun i => ledA r m i n) ++ [ledA r m i n]) ++ List.range (m - (i + 1))).Perm (((List.range n).map (ledD r m (i + 1)) ++ [ledA r m i n]) ++ ((List.range i).map (fun i => ledA r m i n) ++ List.range (m - (i + 1)))) := by
      rw [List.append_assoc, List.append_assoc, List.append_assoc]
      refine List.Perm.append_left _ ?_
      rw [← List.append_assoc, ← List.append_assoc]
      exact List.Perm.append_right _ List.perm_append_comm
    have e2 : ((List.range n).map (ledD r m i) ++ (List.range i).map (fun i => ledA r m i n) ++ (List.range (m - (i + 1)) ++ [m - 1 - i])).Perm (((m - 1 - i) :: (List.range n).map (ledD r m i)) ++ ((List.range i).map (fun i => ledA r m i n) ++ List.range (m - (i + 1)))) := by
      rw [← List.append_assoc, List.cons_append, List.append_assoc ((List.range n).map _)]
      exact List.perm_append_singleton _ _
    exact e1.trans ((h1.append_right _).trans e2.symm)
theorem ledE_T (r : Nat → Nat → Nat → Nat → Bool) (m n : Nat) : IsT (ledE r m n) := by
  have h := led_perm r m n m (Nat.le_refl _)
  rw [Nat.sub_self, List.range_zero, List.append_nil] at h
  refine IsT.of_perm_range (n := m + n) (List.Perm.trans ?_ h)
  unfold ledE
  exact List.Perm.append_left _ (List.reverse_perm _)
theorem ledE_lt {r : Nat → Nat → Nat → Nat → Bool} {m n i j : Nat} (hi : i ≤ m) (hj : j < n) : ledD r m i j < m + n := by
  have h := led_perm r m n i hi
  exact List.mem_range.mp (h.mem_iff.mp (List.mem_append_left _ (List.mem_append_left _ (List.mem_map.mpr ⟨j, List.mem_range.mpr hj, rfl⟩))))
/-- the signs of a row of cells -/
def sgT (r : Nat → Nat → Nat → Nat → Bool) (m n i : Nat) : Str := tx ((List.range n).map fun j => if ledS r m i j = true then 120 else 111)
structure LedAt (H : Hp) (me sg go : Addr) (r : Nat → Nat → Nat → Nat → Bool) (m n : Nat) : Prop where
  go : H go = some (.lst ((invT (ledE r m n)).map nV))
  sg : H sg = some (.lst ((List.range m).map fun i => V.str (sgT r m n i)))
  me : ∃ rs : List Addr, H me = some (.lst (rs.map V.ref)) ∧ rs.length = m ∧ ∀ i row, rs[i]? = some row → ∃ zs : List ZP, H row = some (.lst (zs.map zV)) ∧ TP H zs ∧ zs.map (·.2) = (List.range n).map fun j => (ledA r m i j, ledD r m i j)
theorem LedAt.ex {H H' : Hp} {me sg go : Addr} {r : Nat → Nat → Nat → Nat → Bool} {m n : Nat} (h : LedAt H me sg go r m n) (e : Ex H H') : LedAt H' me sg go r m n := by
  obtain ⟨rs, h1, h2, h3⟩ := h.me
  refine ⟨e.get h.go, e.get h.sg, rs, e.get h1, h2, fun i row hr => ?_⟩
  obtain ⟨zs, a, b, c⟩ := h3 i row hr
  exact ⟨zs, e.get a, b.ex e, c⟩
/-- what is told of the lambda that decides -/
def RuleOk (tl : List V → Hp → VK → Prop) (H : Hp) (r : Nat → Nat → Nat → Nat → Bool) (m n : Nat) : Prop := ∀ (i j a b : Nat) (H' : Hp) (Q : VK), i < m → j < n → a < m + n → b < m + n → Ex H H' → Q (.bl (r i j a b)) H' → tl [.int (i : Nat), .int (j : Nat), .int (a : Nat), .int (b : Nat)] H' Q
theorem ledA_lt {r : Nat → Nat → Nat → Nat → Bool} {m n i j : Nat} (hi : i < m) (hj : j ≤ n) : ledA r m i j < m + n := by
  have h := led_row r m i j
  have h1 : ledA r m i j ∈ (m - 1 - i) :: (List.range j).map (ledD r m i) := h.mem_iff.mp (List.mem_append_right _ (List.mem_singleton.mpr rfl))
  rcases List.mem_cons.mp h1 with e | e
  · omega
  · obtain ⟨c, hc, e⟩ := List.mem_map.mp e
    have := List.mem_range.mp hc
    have := ledE_lt (r := r) (m := m) (n := n) (i := i) (j := c) (by omega) (by omega)
    omega
/-- the rows of meetings, as far as they are led -/
def MeOk (H : Hp) (r : Nat → Nat → Nat → Nat → Bool) (m n i : Nat) (rs : List Addr) : Prop := rs.length = i ∧ ∀ k row, rs[k]? = some row → ∃ zs : List ZP, H row = some (.lst (zs.map zV)) ∧ TP H zs ∧ zs.map (·.2) = (List.range n).map fun j => (ledA r m k j, ledD r m k j)
theorem MeOk.fr {M : Addr → Prop} {H H' : Hp} {r : Nat → Nat → Nat → Nat → Bool} {m n i : Nat} {rs : List Addr} (h : MeOk H r m n i rs) (e : Fr M H H') (h1 : ∀ row ∈ rs, ¬ M row) (h2 : ∀ b q, H b = some (tupO q) → ¬ M b) : MeOk H' r m n i rs := ⟨h.1, fun k row hk => by
  obtain ⟨zs, a, b, c⟩ := h.2 k row hk
  exact ⟨zs, e.get (h1 _ (List.mem_of_getElem? hk)) a, fun z hz => e.get (h2 _ _ (b z hz)) (b z hz), c⟩⟩
theorem MeOk.snoc {H : Hp} {r : Nat → Nat → Nat → Nat → Bool} {m n i : Nat} {rs : List Addr} {row : Addr} {zs : List ZP} (h : MeOk H r m n i rs) (a : H row = some (.lst (zs.map zV))) (b : TP H zs) (c : zs.map (·.2) = (List.range n).map fun j => (ledA r m i j, ledD r m i j)) : MeOk H r m n (i + 1) (rs ++ [row]) := ⟨by rw [List.length_append, h.1]; rfl, fun k q hk => by
  by_cases hk1 : k < rs.length
  · rw [List.getElem?_append_left hk1] at hk
    exact h.2 k q hk
  · rw [List.getElem?_append_right (by omega)] at hk
    have : k = rs.length := by
      have := (List.getElem?_eq_some_iff.mp hk).1
      simp at this
      omega
    subst this
    rw [Nat.sub_self] at hk
    cases hk
    rw [h.1]
    exact ⟨zs, a, b, c⟩⟩
theorem tup_nlst {H : Hp} {a b : Addr} {q : Nat × Nat} {xs : List V} (h : H a = some (tupO q)) (k : H b = some (.lst xs)) : a ≠ b := fun e => by
  rw [e, k] at h
  cases h
theorem rgL_nVm (m n : Nat) : (rgL (m : Int) 1 n).map V.int = (List.range n).map fun j => nV (m + j) := by
  unfold rgL
  rw [List.map_map]
  refine List.map_congr_left fun j _ => ?_
  show V.int ((m : Int) + (j : Int) * 1) = V.int ((m + j : Nat) : Int)
  congr 1
  omega
theorem rep0 (n : Nat) : (List.replicate n [V.int 0]).flatten = (List.replicate n 0).map nV := by
  induction n with
  | zero => rfl
  | succ n ih => rw [List.replicate_succ, List.flatten_cons, ih, List.replicate_succ]; rfl
def sp_led (fl : Addr) (G : LF) (tl : List V → Hp → VK → Prop) : Sp := fun vs H Q _ => ∃ (m n : Nat), vs = [.int (m : Nat), .int (n : Nat), .ref fl] ∧ H fl = some (LamO fl G) ∧ H G.c = some (CodeO G.c G.qual) ∧ m ≤ 48 ∧ n ≤ 48 ∧ ∃ r, RuleOk tl H r m n ∧ ∀ t me sg go H', Ex H H' → H t = none → H' t = some (.tup [.ref me, .ref sg, .ref go]) → LedAt H' me sg go r m n → H go = none → Q (.ref t) H'
theorem ok_led (T : Tx K mg ad fd tk base tc w) : FnCb P w K mg base  2 1 (ad 11) (fd 11) ["many", "far", "crosses"] sp_led := by
  refine okCb T.d_led.F sc_led (by decide) (fun fl G tl vs H Q E h => ?_) (fun cdv A outer s H vs Q E fl G tl hr hcb h => ?_)
  · obtain ⟨m, n, rfl, _⟩ := h
    rfl
  · obtain ⟨m, n, rfl, hl, hc, hm, hn, r, hr2, k⟩ := h
    refine ⟨_, (pss_cons (ps_set (i := 3) sc_led.nd rfl (Or.inl rfl) (pe_listRgC rfl (by rfl) T.b_list (prgC (by rfl) T.b_range (pa_cons (pv 0) (pa_cons (pe_op o_add (pv 0) (pv 1)) pa_nil)))))
      (pss_cons (ps_set (i := 4) sc_led.nd rfl (Or.inl rfl) (pe_lst pa_nil))
      (pss_cons (ps_set (i := 5) sc_led.nd rfl (Or.inl rfl) (pe_lst pa_nil))
      (pss_cons (ps_set (i := 6) sc_led.nd rfl (Or.inl rfl) (pe_lst pa_nil))
      (pss_cons (ps_for PassesOwn.never rfl (pi_range1 rfl T.b_range (pa_cons (pv 0) pa_nil)) (pg_name (i := 7) sc_led.nd rfl (Or.inl rfl)) (pss_cons (ps_set (i := 8) sc_led.nd rfl (Or.inl rfl) (pe_op o_sub (pe_op o_sub (pv 0) pe_int) (pv 7)))
      (pss_cons (ps_set (i := 9) sc_led.nd rfl (Or.inl rfl) (pe_lst pa_nil))
      (pss_cons (ps_set (i := 10) sc_led.nd rfl (Or.inl rfl) pe_str)
      (pss_cons (ps_for PassesOwn.never rfl (pi_range1 rfl T.b_range (pa_cons (pv 1) pa_nil)) (pg_name (i := 11) sc_led.nd rfl (Or.inl rfl)) (pss_cons (ps_set (i := 12) sc_led.nd rfl (Or.inl rfl) (pe_ix (i_ix (K := K)) (pv 3) (pv 11) (fun _ _ => rfl)))
      (pss_cons (ps_expr (pe_bm PySem.F.plainAttrs_list PySem.F.slot_list_append PySem.F.type_list_append mt_append (pv 9) (pa_cons (pe_tup (pa_cons (pv 8) (pa_cons (pv 12) pa_nil))) pa_nil)))
      (pss_one (ps_if (pt_val (@hcb 2 _ _ _ _ _ _ rfl (Or.inl rfl) (pa_cons (pv 7) (pa_cons (pv 11) (pa_cons (pv 8) (pa_cons (pv 12) pa_nil)))) (by decide) (by decide) rfl rfl)) (pss_one (ps_aug (i := 10) sc_led.nd rfl (Or.inl rfl) pe_str ip_addS)) (pss_cons (ps_aug (i := 10) sc_led.nd rfl (Or.inl rfl) pe_str ip_addS)
      (pss_cons (ps_asg (pv 8) (pg_sub (pv 3) (pv 11) set_list))
      (pss_one (ps_set (i := 8) sc_led.nd rfl (Or.inl rfl) (pv 12))))))))))
      (pss_cons (ps_expr (pe_bm PySem.F.plainAttrs_list PySem.F.slot_list_append PySem.F.type_list_append mt_append (pv 5) (pa_cons (pv 9) pa_nil)))
      (pss_cons (ps_expr (pe_bm PySem.F.plainAttrs_list PySem.F.slot_list_append PySem.F.type_list_append mt_append (pv 6) (pa_cons (pv 10) pa_nil)))
      (pss_one (ps_expr (pe_bm PySem.F.plainAttrs_list PySem.F.slot_list_append PySem.F.type_list_append mt_append (pv 4) (pa_cons (pv 8) pa_nil)))))))))))
      (pss_cons (ps_set (i := 13) sc_led.nd rfl (Or.inl rfl) (pe_op o_mul (pe_lst (pa_cons pe_int pa_nil)) (pe_op o_add (pv 0) (pv 1))))
      (pss_cons (ps_for PassesOwn.never rfl (pi_enum rfl T.b_enumerate (pa_cons (pe_op o_add (pv 3) (pe_slice3 (pv 4) po_none po_none (pe_un un_neg pe_int) (K := K))) pa_nil)) (pg_tup rfl (pgs_cons (pg_name (i := 14) sc_led.nd rfl (Or.inl rfl)) (pgs_cons (pg_name (i := 15) sc_led.nd rfl (Or.inl rfl)) pgs_nil))) (pss_one (ps_asg (pv 14) (pg_sub (pv 13) (pv 15) set_list))))
      (pss_one (ps_ret (pe_tup (pa_cons (pv 5) (pa_cons (pv 6) (pa_cons (pv 13) pa_nil))))))))))))), ?_⟩
    walk_at "go"
    rename_i d G1 n1 e1 v1 ri G2 n2 e2 v2 me G3 n3 e3 v3 sg G4 n4 e4 v4
    rw [show ((m : Int) + (n : Int) - (m : Int)).toNat = n by omega, rgL_nVm] at v1
    have n02 := Ex.free e1 n2
    have n03 := Ex.free (e1.trans e2) n3
    have n04 := Ex.free ((e1.trans e2).trans e3) n4
    have d1 := (e2.trans (e3.trans e4)).get v1
    have d2 := (e3.trans e4).get v2
    have d3 := e4.get v3
    have e04 := (e1.trans e2).trans (e3.trans e4)
    have q12 : d ≠ ri := ne_of_none v1 n2
    have q13 : d ≠ me := ne_of_none (e2.get v1) n3
    have q14 : d ≠ sg := ne_of_none ((e2.trans e3).get v1) n4
    have q23 : ri ≠ me := ne_of_none v2 n3
    have q24 : ri ≠ sg := ne_of_none (e3.get v2) n4
    have q34 : me ≠ sg := ne_of_none v3 n4
    have q21 := q12.symm
    have q31 := q13.symm
    have q41 := q14.symm
    have q32 := q23.symm
    have q42 := q24.symm
    have q43 := q34.symm
    clear e1 e2 e3 e4 v1 v2 v3
    rw [Int.toNat_natCast]
    refine for_runs (runs_range 0 m) (fun i σ H' => Ex H H' ∧ H' d = some (.lst ((List.range n).map fun j => nV (ledD r m i j))) ∧ H' ri = some (.lst ((List.range i).map fun i => nV (ledA r m i n))) ∧ H' sg = some (.lst ((List.range i).map fun i => V.str (sgT r m n i))) ∧ (∃ rs : List Addr, H' me = some (.lst (rs.map V.ref)) ∧ MeOk H' r m n i rs ∧ ∀ row ∈ rs, row ≠ d ∧ row ≠ ri ∧ row ≠ me ∧ row ≠ sg) ∧ ∃ a7 a8 a9 a10 a11 a12 a13 a14 a15, σ = [some (.int (m : Nat)), some (.int (n : Nat)), some (.ref fl), some (.ref d), some (.ref ri), some (.ref me), some (.ref sg), a7, a8, a9, a10, a11, a12, a13, a14, a15]) ⟨e04, d1, d2, v4, ⟨[], d3, ⟨rfl, fun k row h => by cases h⟩, fun _ h => by cases h⟩, _, _, _, _, _, _, _, _, _, rfl⟩ (fun _ _ _ _ _ => trivial) ?_ ?_
    · rintro i x σ H5 H5' hi ⟨e5, b1, b2, b3, ⟨rs, b4, b5, b6⟩, a7, a8, a9, a10, a11, a12, a13, a14, a15, rfl⟩ ⟨rfl, rfl⟩
      walk_at "go"
      rename_i mt H6 n6 e6 v6
      have c1 := e6.get b1
      have c2 := e6.get b2
      have c3 := e6.get b3
      have c4 := e6.get b4
      have c5 : MeOk H6 r m n i rs := b5.fr (Fr.ex (M := fun _ => False) e6) (fun _ _ z => z) (fun _ _ _ z => z)
      have e06 := e5.trans e6
      have nm := Ex.free e5 n6
      have m1 : mt ≠ d := (ne_of_none b1 n6).symm
      have m2 : mt ≠ ri := (ne_of_none b2 n6).symm
      have m3 : mt ≠ me := (ne_of_none b4 n6).symm
      have m4 : mt ≠ sg := (ne_of_none b3 n6).symm
      have w1 := m1.symm
      have w2 := m2.symm
      have w3 := m3.symm
      have w4 := m4.symm
      have rm : ∀ row ∈ rs, row ≠ mt := fun row hr z => by
        obtain ⟨k, hk⟩ := List.getElem?_of_mem hr
        obtain ⟨zs, q, _⟩ := b5.2 k row hk
        exact ne_of_none q n6 z
      clear b1 b2 b3 b4 b5 e5 e6
      have ea : (m : Int) - 1 - (0 + (i : Int)) = ((ledA r m i 0 : Nat) : Int) := by rw [ledA_0]; omega
      rw [Int.toNat_natCast, ea, Int.zero_add, show (Str.ofString "") = tx [] from tx_nil]
      have c1' : H6 d = some (.lst ((List.range n).map fun c => nV (if c < 0 then ledD r m (i + 1) c else ledD r m i c))) := c1
      refine for_runs (runs_range 0 n) (fun j σ H' => Ex H H' ∧ H' d = some (.lst ((List.range n).map fun c => nV (if c < j then ledD r m (i + 1) c else ledD r m i c))) ∧ H' ri = some (.lst ((List.range i).map fun i => nV (ledA r m i n))) ∧ H' sg = some (.lst ((List.range i).map fun i => V.str (sgT r m n i))) ∧ H' me = some (.lst (rs.map V.ref)) ∧ MeOk H' r m n i rs ∧ (∃ zs : List ZP, H' mt = some (.lst (zs.map zV)) ∧ TP H' zs ∧ zs.map (·.2) = (List.range j).map fun j => (ledA r m i j, ledD r m i j)) ∧ ∃ a11 a12 a13 a14 a15, σ = [some (.int (m : Nat)), some (.int (n : Nat)), some (.ref fl), some (.ref d), some (.ref ri), some (.ref me), some (.ref sg), some (.int (i : Nat)), some (.int (ledA r m i j : Nat)), some (.ref mt), some (.str (tx ((List.range j).map fun j => if ledS r m i j = true then 120 else 111))), a11, a12, a13, a14, a15]) ⟨e06, c1', c2, c3, c4, c5, ⟨[], v6, (fun _ h => (by cases h)), rfl⟩, _, _, _, _, _, rfl⟩ (fun _ _ _ _ _ => trivial) ?_ ?_
      · rintro j x σ G G' hj ⟨e7, c1, c2, c3, c4, c5, ⟨zs, y1, y2, y3⟩, a11, a12, a13, a14, a15, rfl⟩ ⟨rfl, rfl⟩
        have g1 : atI ((List.range n).map fun c => nV (if c < j then ledD r m (i + 1) c else ledD r m i c)) (0 + (j : Int)) = some (nV (ledD r m i j)) := by
          rw [Int.zero_add, fn_at (f := fun c => nV (if c < j then ledD r m (i + 1) c else ledD r m i c)) hj, if_neg (Nat.lt_irrefl _)]
        walk_at "go"
        refine st_ixL c1 g1 ?_
        walk_at "go"
        rename_i T H7 n7 e8 v7
        have lz : zs.length = j := by have := congrArg List.length y3; simpa using this
        have k1 : (upd H7 mt (.lst (zs.map zV ++ [V.ref T]))) d = _ := (upd_ne w1).trans (e8.get c1)
        have k2 : (upd H7 mt (.lst (zs.map zV ++ [V.ref T]))) ri = _ := (upd_ne w2).trans (e8.get c2)
        have k3 : (upd H7 mt (.lst (zs.map zV ++ [V.ref T]))) sg = _ := (upd_ne w4).trans (e8.get c3)
        have k4 : (upd H7 mt (.lst (zs.map zV ++ [V.ref T]))) me = _ := (upd_ne w3).trans (e8.get c4)
        have y1' := e8.get y1
        have c5' : MeOk H7 r m n i rs := c5.fr (Fr.ex (M := fun _ => False) e8) (fun _ _ z => z) (fun _ _ _ z => z)
        have tp : TP H7 (zs ++ [(T, (ledA r m i j, ledD r m i j))]) := (y2.ex e8).app (TP.cons (z := (T, (ledA r m i j, ledD r m i j))) v7 fun _ h => (by cases h))
        refine st_app y1' (by rw [List.length_map, lz]; omega) ?_
        have k5 : MeOk (upd H7 mt (.lst (zs.map zV ++ [V.ref T]))) r m n i rs := c5'.fr (M := fun b => b = mt) FrP.at rm fun b q h => tup_nlst h y1'
        have tp2 : TP (upd H7 mt (.lst (zs.map zV ++ [V.ref T]))) _ := tp.up y1'
        have k6 : upd H7 mt (.lst (zs.map zV ++ [V.ref T])) mt = some (.lst ((zs ++ [(T, (ledA r m i j, ledD r m i j))]).map zV)) := by rw [upd_same, List.map_append]; rfl
        have k7 : Ex H (upd H7 mt (.lst (zs.map zV ++ [V.ref T]))) := (e7.trans e8).mut nm
        have k8 : (zs ++ [(T, (ledA r m i j, ledD r m i j))]).map (·.2) = (List.range (j + 1)).map fun j => (ledA r m i j, ledD r m i j) := by rw [List.map_append, y3, List.range_succ, List.map_append]; rfl
        generalize upd H7 mt (.lst (zs.map zV ++ [V.ref T])) = H8 at k1 k2 k3 k4 k5 k6 k7 tp2 ⊢
        clear c1 c2 c3 c4 c5 c5' y1 y1' y2 e7 e8 v7 tp e06 g1
        rw [Int.zero_add]
        walk_at "go"
        refine hr2 i j _ _ H8 _ hi hj (ledA_lt hi (by omega)) (ledE_lt (by omega) hj) k7 ?_
        rw [show r i j (ledA r m i j) (ledD r m i j) = ledS r m i j from rfl]
        have ew : (List.range n).map (fun c => nV (if c < j + 1 then ledD r m (i + 1) c else ledD r m i c)) = ((List.range n).map fun c => nV (if c < j then ledD r m (i + 1) c else ledD r m i c)).set j (nV (ledD r m (i + 1) j)) := by
          rw [fn_set]
          refine fn_congr fun c hc => ?_
          by_cases z : c = j
          · subst z
            rw [if_pos rfl, if_pos (by omega)]
          · rw [if_neg z]
            by_cases u : c < j
            · rw [if_pos u, if_pos (by omega)]
            · rw [if_neg u, if_neg (by omega)]
        have et : ∀ z : Nat, z = (if ledS r m i j = true then 120 else 111) → tx ((List.range j).map fun j => if ledS r m i j = true then 120 else 111) ++ tx [z] = tx ((List.range (j + 1)).map fun j => if ledS r m i j = true then 120 else 111) := fun z hz => by
          rw [tx_append, List.range_succ, List.map_append, hz]
          rfl
        cases hh : ledS r m i j with
        | true =>
          refine ⟨true, rfl, ?_⟩
          rw [if_pos rfl]
          walk_at "go"
          refine st_ipS (by rw [tx_length, List.length_map, List.length_range]; show j + 1 ≤ 16777216; omega) ?_
          have ea2 : ledA r m i (j + 1) = ledA r m i j := by rw [ledA_s, if_pos hh]
          rw [show Str.ofString "x" = tx [120] from by decide +kernel, et 120 (by rw [if_pos hh]), ea2]
          refine ⟨k7, ?_, k2, k3, k4, k5, ⟨_, k6, tp2, k8⟩, _, _, _, _, _, rfl⟩
          · rw [ew, k1, ledD_s, if_pos hh]
            congr 1
            rw [fn_set]
            exact congrArg HO.lst (fn_congr fun c hc => (by
              by_cases z : c = j
              · rw [if_pos z, if_neg (by omega), z]
              · rw [if_neg z]))
        | false =>
          have hx : ixN ((List.range n).map fun c => nV (if c < j then ledD r m (i + 1) c else ledD r m i c)).length (j : Nat) = some j := fn_ix hj
          refine ⟨false, rfl, ?_⟩
          rw [if_neg (by decide)]
          walk_at "go"
          refine st_ipS (by rw [tx_length, List.length_map, List.length_range]; show j + 1 ≤ 16777216; omega) ?_
          walk_at "go"
          refine st_setL k1 hx ?_
          walk_at "go"
          have ea2 : ledA r m i (j + 1) = ledD r m i j := by rw [ledA_s, if_neg (by rw [hh]; decide)]
          rw [show Str.ofString "o" = tx [111] from by decide +kernel, et 111 (by rw [if_neg (by rw [hh]; decide)]), ea2]
          have tf : ∀ b q, H8 b = some (tupO q) → ¬ b = d := fun b q h => tup_nlst h k1
          have fp : ∀ o, FrP d H8 (upd H8 d o) := fun _ => FrP.at
          refine ⟨k7.mut n1, ?_, (upd_ne q21).trans k2, (upd_ne q41).trans k3, (upd_ne q31).trans k4, k5.fr (fp _) (fun row hr => (b6 row hr).1) tf, ⟨_, (upd_ne m1).trans k6, fun z hz => (fp _).get (tf _ _ (tp2 z hz)) (tp2 z hz), k8⟩, _, _, _, _, _, rfl⟩
          · rw [upd_same, ew, ledD_s, if_neg (by rw [hh]; decide)]
            rfl
      · rintro σ G ⟨e7, c1, c2, c3, c4, c5, ⟨zs, y1, y2, y3⟩, a11, a12, a13, a14, a15, rfl⟩
        have c1'' : G d = some (.lst ((List.range n).map fun c => nV (ledD r m (i + 1) c))) := by
          rw [c1]
          congr 2
          exact fn_congr fun c hc => by rw [if_pos hc]
        clear c1 c1'
        walk_at "go"
        refine st_app c4 (by rw [List.length_map, c5.1]; omega) ?_
        have x3 : (upd G me (.lst (rs.map V.ref ++ [V.ref mt]))) sg = _ := (upd_ne q43).trans c3
        walk_at "go"
        refine st_app x3 (by rw [List.length_map, List.length_range]; omega) ?_
        have x2 : (upd (upd G me (.lst (rs.map V.ref ++ [V.ref mt]))) sg (.lst (((List.range i).map fun i => V.str (sgT r m n i)) ++ [V.str (tx ((List.range n).map fun j => if ledS r m i j = true then 120 else 111))]))) ri = _ := (upd_ne q24).trans ((upd_ne q23).trans c2)
        walk_at "go"
        refine st_app x2 (by rw [List.length_map, List.length_range]; omega) ?_
        have fr : Fr (fun b => b = me ∨ b = sg ∨ b = ri) G (upd (upd (upd G me (.lst (rs.map V.ref ++ [V.ref mt]))) sg (.lst (((List.range i).map fun i => V.str (sgT r m n i)) ++ [V.str (tx ((List.range n).map fun j => if ledS r m i j = true then 120 else 111))]))) ri (.lst (((List.range i).map fun i => nV (ledA r m i n)) ++ [V.int (ledA r m i n : Nat)]))) := ((Fr.at (.inl rfl)).trans (Fr.at (.inr (.inl rfl)))).trans (Fr.at (.inr (.inr rfl)))
        have nl : ∀ b q, G b = some (tupO q) → ¬ (b = me ∨ b = sg ∨ b = ri) := fun b q h z => by
          rcases z with z | z | z
          · exact tup_nlst h c4 z
          · exact tup_nlst h c3 z
          · exact tup_nlst h c2 z
        have nr : ∀ row ∈ rs, ¬ (row = me ∨ row = sg ∨ row = ri) := fun row hr z => by
          obtain ⟨h1, h2, h3, h4⟩ := b6 row hr
          rcases z with z | z | z
          · exact h3 z
          · exact h4 z
          · exact h2 z
        have nm' : ¬ (mt = me ∨ mt = sg ∨ mt = ri) := fun z => by
          rcases z with z | z | z
          · exact m3 z
          · exact m4 z
          · exact m2 z
        refine ⟨((e7.mut n03).mut n04).mut n02, (upd_ne q12).trans ((upd_ne q14).trans ((upd_ne q13).trans c1'')), ?_, ?_, ⟨rs ++ [mt], ?_, (c5.fr fr nr nl).snoc (fr.get nm' y1) (fun z hz => fr.get (nl _ _ (y2 z hz)) (y2 z hz)) y3, ?_⟩, _, _, _, _, _, _, _, _, _, rfl⟩
        · rw [upd_same, List.range_succ, List.map_append]; rfl
        · rw [upd_ne q42, upd_same, List.range_succ, List.map_append]; rfl
        · rw [upd_ne q32, upd_ne q34, upd_same, List.map_append]; rfl
        · intro row hr
          rcases List.mem_append.mp hr with z | z
          · exact b6 row z
          · rw [List.mem_singleton.mp z]
            exact ⟨m1, m2, m3, m4⟩
    · rintro σ G ⟨e7, b1, b2, b3, ⟨rs, b4, b5, b6⟩, a7, a8, a9, a10, a11, a12, a13, a14, a15, rfl⟩
      walk_at "go"
      rename_i p1 G5 n5 e5 v5 go G6 n6 e6 v6
      rw [show ((m : Int) + (n : Int)).toNat = m + n by omega, rep0] at v6
      have e56 := e5.trans e6
      refine st_revL (lstAt_sq (lst_of (e56.get b2))) fun q7 G7 n7 e7' v7 => ?_
      refine st_addL ((e56.trans e7').get b1) v7 (by rw [List.length_reverse, List.length_map, List.length_range, List.length_map, List.length_range]; omega) fun q8 G8 n8 e8 v8 => ?_
      have v8' : G8 q8 = some (.lst ((ledE r m n).map nV)) := by
        rw [v8]
        unfold ledE
        rw [List.map_append, List.map_map, List.map_reverse, List.map_map]
        rfl
      walk_at "go"
      have e0 : Ex H G8 := ((e7.trans e56).trans e7').trans e8
      have v6' := (e7'.trans e8).get v6
      have n0 : H go = none := Ex.free (e7.trans e5) n6
      have hq : q8 ≠ go := (ne_of_none (e7'.get v6) n8).symm
      have le := ledE_len r m n
      have hT := ledE_T r m n
      have B1 : G8 sg = _ := ((e56.trans e7').trans e8).get b3
      have B2 : G8 me = _ := ((e56.trans e7').trans e8).get b4
      have B3 : MeOk G8 r m n m rs := b5.fr (Fr.ex (M := fun _ => False) ((e56.trans e7').trans e8)) (fun _ _ z => z) (fun _ _ _ z => z)
      have B4 : go ≠ sg := (ne_of_none (e5.get b3) n6).symm
      have B5 : go ≠ me := (ne_of_none (e5.get b4) n6).symm
      have B6 : ∀ row ∈ rs, row ≠ go := fun row hr => (by
        obtain ⟨k, hk⟩ := List.getElem?_of_mem hr
        obtain ⟨zs, q, _⟩ := b5.2 k row hk
        exact ne_of_none (e5.get q) n6)
      clear e56 e7 e7' e8 e5 e6 b1 b2 b3 b4 b5 v5 v6 v7 v8
      refine for_runs (runs_enum _ q8 _) (fun i σ H' => FrP go G8 H' ∧ (∃ rs : List Nat, rs.length = m + n ∧ (∀ j, j < i → gT rs (gT (ledE r m n) j) = j) ∧ H' go = some (.lst (rs.map nV))) ∧ ∃ y z, σ = [some (.int (m : Nat)), some (.int (n : Nat)), some (.ref fl), some (.ref d), some (.ref ri), some (.ref me), some (.ref sg), a7, a8, a9, a10, a11, a12, some (.ref go), y, z]) ⟨Fr.refl _, ⟨_, List.length_replicate, fun j h => absurd h (Nat.not_lt_zero _), v6'⟩, _, _, rfl⟩ (fun i σ H' _ h => lst_of (h.1.get hq v8')) ?_ ?_
      · rintro i x σ H4 H5 hi ⟨f4, ⟨ws, h1, h2, h3⟩, y, z, rfl⟩ ⟨T, v, rfl, nT, eT, vT, hv⟩
        obtain ⟨hil, rfl⟩ := nV_at hv
        have h3' := eT.get h3
        walk_at "go"
        have hlt := hT.g_lt hil
        have hxl : ixN (List.map nV ws).length (((gT (ledE r m n) i : Nat) : Nat) : Int) = some (gT (ledE r m n) i) := by
          rw [List.length_map]
          exact Evl.ixN_nat (by omega)
        refine st_setL h3' hxl ?_
        refine ⟨(f4.trans (Fr.ex eT)).trans FrP.at, ⟨ws.set (gT (ledE r m n) i) i, by rw [List.length_set]; exact h1, fun j hj => ?_, ?_⟩, _, _, rfl⟩
        · rw [gT_set (by omega)]
          by_cases q : gT (ledE r m n) j = gT (ledE r m n) i
          · have : j = i := hT.inj (by omega) hil q
            subst this
            rw [if_pos rfl]
          · rw [if_neg q]
            refine h2 j ?_
            have : j ≠ i := fun e => q (by rw [e])
            omega
        · rw [upd_same, List.map_set]
          rfl
      · rintro σ H4 ⟨f4, ⟨ws, h1, h2, h3⟩, y, z, rfl⟩
        have this : ws = invT (ledE r m n) := gT_ext (by rw [invT_len, h1, le]) fun v hv => by
          rw [h1] at hv
          rw [invT_g (by omega)]
          have := h2 ((ledE r m n).idxOf v) (by rw [List.length_map]; exact hT.idx_lt (by omega))
          rwa [hT.g_idx (by omega)] at this
        subst this
        have eF := Ex.comp (M := fun b => b = go) e0 f4 fun b hb => by rw [hb]; exact n0
        walk_at "go"
        rename_i t G9 n9 e9 v9
        refine k t me sg go G9 (eF.trans e9) (Ex.free eF n9) v9 ?_ n0
        refine LedAt.ex ⟨h3, f4.get (fun z => B4 z.symm) B1, rs, f4.get (fun z => B5 z.symm) B2, B3.1, fun i row hr => ?_⟩ e9
        obtain ⟨zs, z1, z2, z3⟩ := B3.2 i row hr
        refine ⟨zs, f4.get (B6 _ (List.mem_of_getElem? hr)) z1, fun z hz => ?_, z3⟩
        exact f4.get (tup_nlst (z2 z hz) v6') (z2 z hz)
def sp_is_turning : Sp := fun vs H Q _ => ∃ (x : V) (d : PyData), vs = [x] ∧ Rn H x d ∧ ∀ b H', Ex H H' → (b = true ↔ TurnD d) → Q (.bl b) H'
theorem ok_is_turning (T : Tx K mg ad fd tk base tc w) : FnOk P w K mg base CX0 3 (ad 12) (fd 12) ["thing"] sp_is_turning := by
  refine T.d_is_turning.F.ok sc_is_turning (fun vs H Q E h => ?_) (fun cdv A outer s H vs Q E hr h => ?_)
  · obtain ⟨x, d, rfl, _⟩ := h
    rfl
  · obtain ⟨x, d, rfl, hx, k⟩ := h
    refine ⟨_, (pss_cons (ps_if (PW.pt (pw_or (pt_not (pt_val (pe_callB c_isT2 (by rfl) T.b_isinstance (by decide +kernel) (pa_cons (pv 0) (pa_cons (pe_tup (pa_cons (pe_bltn (v := .ty "list") rfl T.b_list (by decide +kernel) rfl) (pa_cons (pe_bltn (v := .ty "tuple") rfl T.b_tuple (by decide +kernel) rfl) pa_nil))) pa_nil))))) (pw_or1 (pt_cmpR o_gt (pe_callB (c_len (K := K)) (by rfl) T.b_len (by decide +kernel) (pa_cons (pv 0) pa_nil)) (pe_glob (v := .int 96) rfl T.c_MOST_LINES ⟨_, rfl⟩) (nomark _))))) (pss_one (ps_ret pe_bl)) pss_nil)
      (pss_cons (ps_set (i := 1) sc_is_turning.nd rfl (Or.inl rfl) (pe_op o_mul (pe_lst (pa_cons pe_bl pa_nil)) (pe_callB (c_len (K := K)) (by rfl) T.b_len (by decide +kernel) (pa_cons (pv 0) pa_nil))))
      (pss_cons (ps_for PassesOwn.never rfl (pi_seq (pv 0)) (pg_name (i := 2) sc_is_turning.nd rfl (Or.inl rfl)) (pss_cons (ps_if (PW.pt (pw_or (pt_not (pt_val (pe_call (ok_is_within T) (hr.mono (by decide)) rfl T.d_is_within.g T.d_is_within.F.kp T.d_is_within.b .nil pass0 (pa_cons (pv 2) (pa_cons pe_int (pa_cons (pe_op o_sub (pe_callB (c_len (K := K)) (by rfl) T.b_len (by decide +kernel) (pa_cons (pv 0) pa_nil)) pe_int) pa_nil)))))) (pw_or1 (pt_tru (pe_ix (i_ix (K := K)) (pv 1) (pv 2) (fun _ _ => rfl)) (by intro _; rfl) (K := K))))) (pss_one (ps_ret pe_bl)) pss_nil)
      (pss_one (ps_asg pe_bl (pg_sub (pv 1) (pv 2) set_list)))))
      (pss_one (ps_ret pe_bl))))), ?_⟩
    have no : ∀ H', Ex H H' → (¬ TurnD d) → Q (.bl false) H' := fun H' e n => k false H' e ⟨(fun z => nomatch z), (fun z => (n z).elim)⟩
    walk_at "go"
    rename_i t1 H1 n1 e1 v1
    refine st_isLT (hx.ex e1).rq (by walk_at "hp") ?_
    refine ⟨_, rfl, ?_⟩
    cases hd : (isListD d || isTupD d) with
    | false =>
      refine st_T rfl ?_
      walk_at "go"
      refine no _ e1 (fun h => ?_)
      obtain ⟨l, h, _⟩ := h
      rcases h with h | h
      · rw [h] at hd; cases hd
      · rw [h] at hd; cases hd
    | true =>
    obtain ⟨a, xs, ds, hv, hs, hr, hd2⟩ := (hx.ex e1).seq hd
    subst hv
    have hl := hr.len
    have td : TurnD d ↔ ∃ l : List Nat, ds = l.map encN ∧ IsT l ∧ l.length ≤ 96 := by
      constructor
      · rintro ⟨l, h, h1, h2⟩
        refine ⟨l, ?_, h1, h2⟩
        rcases hd2 with e | e <;> rcases h with q | q <;> rw [e] at q <;> first | (injection q) | cases q
      · rintro ⟨l, h, h1, h2⟩
        refine ⟨l, ?_, h1, h2⟩
        rw [← h]
        exact hd2
    refine st_F rfl ?_
    walk_at "go"
    refine st_lenQ hs ?_
    walk_at "go"
    refine st_br2 (fun c => ?_) (fun c => ?_)
    · walk_at "go"
      refine no _ e1 (fun h => ?_)
      obtain ⟨l, h, _, h2⟩ := td.mp h
      rw [hl, h, List.length_map] at c
      omega
    walk_at "go"
    rename_i t2 H2 n2 e2 v2
    refine st_lenQ (seqAt_ex e2 hs) ?_
    walk_at "go"
    rename_i q H3 n3 e3 v3
    have ea3 := seqAt_ex (e2.trans e3) hs
    obtain ⟨n, hn⟩ : ∃ n, n = xs.length := ⟨_, rfl⟩
    rw [← hn] at c
    have hqa : q ≠ a := fun e => by
      have := seqAt_ex e2 hs
      unfold seqAt at this
      rw [← e, n3] at this
      cases this
    refine st_isSeq ea3 fun J S hJ hS => ?_
    obtain ⟨zs, rfl, rfl, hz⟩ := hr.zipped
    rw [List.length_map] at hn
    have hv3 : H3 q = some (.lst (((List.range n).map fun v => decide (v ∈ ([] : List Nat))).map V.bl)) := by
      rw [v3]
      congr 2
      rw [List.map_map, List.length_map, ← hn, Int.toNat_natCast]
      refine List.ext_getElem? fun i => ?_
      rw [List.getElem?_map]
      by_cases hi : i < n
      · rw [List.getElem?_range hi, List.getElem?_eq_getElem (by simp; exact hi)]
        simp
      · rw [List.getElem?_eq_none (by simp; omega), List.getElem?_eq_none (by simp; omega)]
        rfl
    have hJ2 := hJ
    rw [List.length_map, ← hn] at hJ2
    refine for_runs hJ2 (fun i σ H' => FrP q H3 H' ∧ (∃ l : List Nat, (zs.map (·.2)).take i = l.map encN ∧ l.Nodup ∧ (∀ v ∈ l, v < n) ∧ H' q = some (.lst (((List.range n).map fun v => decide (v ∈ l)).map V.bl))) ∧ ∃ y, σ = [some (.ref a), some (.ref q), y]) ⟨Fr.refl _, ⟨[], rfl, List.nodup_nil, by simp, hv3⟩, _, rfl⟩ (fun i σ H' _ h => hS H' (seqAt_same' h.1 (fun z => hqa z.symm) ea3)) ?_ ?_
    · rintro i x σ H0 H4 hi ⟨f4, ⟨l, h1, h2, h3, h4⟩, y, rfl⟩ ⟨rfl, hxi⟩
      obtain ⟨z, hzi⟩ : ∃ z, zs[i]? = some z := ⟨zs[i]'(by omega), List.getElem?_eq_getElem _⟩
      rw [List.getElem?_map, hzi] at hxi
      have hxz : x = z.1 := (Option.some.inj hxi).symm
      subst hxz
      have ex4 : Ex H H4 := e1.trans (e2.trans (Ex.comp (M := fun b => b = q) e3 f4 fun b hb => by rw [hb]; exact n3))
      have rz := ((hz z (List.mem_of_getElem? hzi)).ex e2).ex (Ex.comp (M := fun b => b = q) e3 f4 fun b hb => by rw [hb]; exact n3)
      have sa4 := seqAt_eq ea3 (seqAt_same' f4 (fun z => hqa z.symm) ea3)
      have dz : (zs.map (·.2))[i]? = some z.2 := by rw [List.getElem?_map, hzi]; rfl
      walk_at "go"
      refine st_lenQ sa4 ?_
      walk_at "go"
      rw [List.length_map, ← hn]
      refine ⟨z.1, 0, _, rfl, rz.rq.ty, ?_⟩
      cases hb : withinV z.1 0 ((n : Nat) - 1) with
      | false =>
        walk_at "go"
        refine no _ ex4 fun h => ?_
        obtain ⟨m, e, hm, _⟩ := td.mp h
        have hml : m.length = n := by
          have := congrArg List.length e
          rw [List.length_map, List.length_map] at this
          omega
        rw [e, List.getElem?_map] at dz
        cases q : m[i]? with
        | none => rw [q] at dz; cases dz
        | some v =>
          rw [q] at dz
          have hv := hm.lt v (List.mem_of_getElem? q)
          have := (wiN rz ((n : Nat) - 1)).mpr ⟨v, (Option.some.inj dz).symm, by omega⟩
          rw [hb] at this
          cases this
      | true =>
      obtain ⟨v, hv, hvn⟩ := (wiN rz _).mp hb
      have zv : z.1 = .int (v : Nat) := by
        rw [hv] at rz
        unfold encN at rz
        cases hz1 : z.1 <;> rw [hz1] at rz <;> cases rz
        rfl
      walk_at "go"
      rw [zv]
      refine st_ixL h4 (at_mapN (by rw [List.getElem?_map, List.getElem?_range (by omega)]; rfl)) ?_
      walk_at "go"
      by_cases hm : v ∈ l
      · refine st_T (decide_eq_true hm) ?_
        walk_at "go"
        refine no _ ex4 fun h => ?_
        obtain ⟨m, e, hmT, _⟩ := td.mp h
        rw [e, List.getElem?_map] at dz
        have h5 : m.take i = l := encN_inj (by rw [List.map_take, ← e, h1])
        cases q : m[i]? with
        | none => rw [q] at dz; cases dz
        | some u =>
          rw [q, hv] at dz
          have huv : u = v := by
            have := Option.some.inj dz
            unfold encN at this
            injection this with this
            omega
          subst huv
          have hmi := (List.getElem?_eq_some_iff.mp q)
          obtain ⟨hlt, hget⟩ := hmi
          rw [← h5] at hm
          obtain ⟨j, hj, hj2⟩ := List.getElem_of_mem hm
          rw [List.length_take] at hj
          rw [List.getElem_take] at hj2
          have h6 := hmT.nd
          rw [List.nodup_iff_pairwise_ne, List.pairwise_iff_getElem] at h6
          exact h6 j i (by omega) hlt (by omega) (by rw [hj2, hget])
      · refine st_F (decide_eq_false hm) ?_
        walk_at "go"
        refine st_setL h4 (by rw [List.length_map, List.length_map, List.length_range]; exact Evl.ixN_nat (by omega)) ?_
        refine ⟨f4.trans FrP.at, ⟨l ++ [v], ?_, ?_, ?_, ?_⟩, _, rfl⟩
        · rw [List.take_add_one, h1, dz, hv, List.map_append]
          rfl
        · rw [List.nodup_append]
          exact ⟨h2, by simp, fun b hb c hc => by rw [List.mem_singleton.mp hc]; exact fun z => hm (z ▸ hb)⟩
        · intro u hu
          rcases List.mem_append.mp hu with h | h
          · exact h3 u h
          · rw [List.mem_singleton.mp h]; omega
        · rw [upd_same]
          congr 2
          refine List.ext_getElem? fun j => ?_
          rw [List.getElem?_set, List.getElem?_map, List.getElem?_map, List.getElem?_map, List.getElem?_map]
          by_cases hj : j < n
          · rw [List.getElem?_range hj]
            by_cases q : v = j
            · subst q
              rw [if_pos rfl, if_pos (by simp; omega)]
              simp
            · rw [if_neg q]
              simp
              exact fun e => absurd e.symm q
          · rw [List.getElem?_eq_none (by simp; omega), if_neg (by omega)]
            rfl
    · rintro σ H4 ⟨f4, ⟨l, h1, h2, h3, h4⟩, y, rfl⟩
      have ex4 : Ex H H4 := e1.trans (e2.trans (Ex.comp (M := fun b => b = q) e3 f4 fun b hb => by rw [hb]; exact n3))
      walk_at "go"
      refine k true _ ex4 ⟨fun _ => td.mpr ⟨l, ?_, ⟨h2, ?_⟩, ?_⟩, fun _ => rfl⟩
      · rw [← h1, List.take_of_length_le (by rw [List.length_map]; omega)]
      all_goals
        have hll : l.length = n := by
          have := congrArg List.length h1
          rw [List.take_of_length_le (by rw [List.length_map]; omega), List.length_map, List.length_map] at this
          omega
      · rw [hll]; exact h3
      · rw [hll]; omega
def sp_need_turning (K : PySem.W.Frag) : Sp := fun vs H Q E => ∃ (x : V) (d : PyData), vs = [x] ∧ Rn H x d ∧ (¬ TurnD d → RaF K E H "NoTurning" [("found", x)]) ∧ (TurnD d → ∀ H', Ex H H' → Q .non H')
theorem ok_need_turning (T : Tx K mg ad fd tk base tc w) : FnOk P w K mg base (L2.CX P w) 4 (ad 13) (fd 13) ["turning"] (sp_need_turning K) := by
  refine T.d_need_turning.F.okX sc_need_turning (fun vs H Q E h => ?_) (fun cdv A outer s H vs Q E hr h => ?_)
  · obtain ⟨x, d, rfl, _⟩ := h
    rfl
  · obtain ⟨x, d, rfl, hx, k0, k1⟩ := h
    refine ⟨_, (pss_one (ps_if (pt_not (pt_val (pe_call (ok_is_turning T) (hr.mono (by decide)) rfl T.d_is_turning.g T.d_is_turning.F.kp T.d_is_turning.b .nil pass0 (pa_cons (pv 0) pa_nil)))) (pss_one (ps_raiseG rfl (ex_NoTurning T) (hr.mono (by decide)) (takes_of rfl rfl rfl rfl) rfl (pa_cons (pv 0) pa_nil))) pss_nil)), ?_⟩
    walk_at "go"
    refine ⟨x, d, rfl, hx, fun b H1 e1 hb => ?_⟩
    cases b with
    | true =>
      walk_at "go"
      exact k1 (hb.mp rfl) _ e1
    | false =>
      have k2 := k0 (fun h => Bool.false_ne_true (hb.mpr h))
      walk_at "go"
      rename_i d2 H2 hd2 e2 hv2
      exact k2 d2 H2 (Ex.free e1 hd2) (e1.trans e2) hv2
theorem within_nat {x : V} {m : Nat} (h : withinV x 0 m = true) : ∃ i : Nat, x = .int (i : Nat) ∧ i ≤ m := by
  cases x with
  | int z =>
    have : 0 ≤ z ∧ z ≤ (m : Int) := by simpa [withinV] using h
    exact ⟨z.toNat, by rw [show ((z.toNat : Nat) : Int) = z by omega], by omega⟩
  | _ => cases h
theorem nat_within {i m : Nat} (h : i ≤ m) : withinV (.int (i : Nat)) 0 m = true := by
  unfold withinV
  exact decide_eq_true (by omega)
theorem nat_no {i m : Nat} (h : i ≤ m) {C : Prop} (k : withinV (.int (i : Nat)) 0 m = false) : C := by rw [nat_within h] at k; cases k
def sp_need_place (K : PySem.W.Frag) : Sp := fun vs H Q E => ∃ (x : V) (m : Int), vs = [x, .int m] ∧ Ty H x ∧ (withinV x 0 m = false → RaF K E H "NoPlace" [("found", x)]) ∧ (withinV x 0 m = true → Q .non H)
theorem ok_need_place (T : Tx K mg ad fd tk base tc w) : FnOk P w K mg base (L2.CX P w) 3 (ad 14) (fd 14) ["place", "most"] (sp_need_place K) := by
  refine T.d_need_place.F.okX sc_need_place (fun vs H Q E h => ?_) (fun cdv A outer s H vs Q E hr h => ?_)
  · obtain ⟨x, m, rfl, _⟩ := h
    rfl
  · obtain ⟨x, m, rfl, hx, k0, k1⟩ := h
    refine ⟨_, (pss_one (ps_if (pt_not (pt_val (pe_call (ok_is_within T) (hr.mono (by decide)) rfl T.d_is_within.g T.d_is_within.F.kp T.d_is_within.b .nil pass0 (pa_cons (pv 0) (pa_cons pe_int (pa_cons (pv 1) pa_nil)))))) (pss_one (ps_raiseG rfl (ex_NoPlace T) (hr.mono (by decide)) (takes_of rfl rfl rfl rfl) rfl (pa_cons (pv 0) pa_nil))) pss_nil)), ?_⟩
    walk_at "go"
    refine ⟨x, 0, m, rfl, hx, ?_⟩
    cases hb : withinV x 0 m with
    | true =>
      walk_at "go"
      exact k1 hb
    | false =>
      have k2 := k0 hb
      walk_at "go"
      rename_i d2 H2 hd2 e2 hv2
      exact k2 d2 H2 hd2 e2 hv2
def sp_opposite (K : PySem.W.Frag) : Sp := fun vs H Q E => ∃ (x : V) (d : PyData), vs = [x] ∧ Rn H x d ∧ (¬ TurnD d → RaF K E H "NoTurning" [("found", x)]) ∧ (∀ l : List Nat, (d = .list (l.map encN) ∨ d = .tuple (l.map encN)) → IsT l → l.length ≤ 96 → ∀ q H', Ex H H' → H q = none → H' q = some (.lst ((invT l).map nV)) → Q (.ref q) H')
theorem ok_opposite (T : Tx K mg ad fd tk base tc w) : FnOk P w K mg base (L2.CX P w) 5 (ad 15) (fd 15) ["turning"] (sp_opposite K) := by
  refine T.d_opposite.F.okX sc_opposite (fun vs H Q E h => ?_) (fun cdv A outer s H vs Q E hr h => ?_)
  · obtain ⟨x, d, rfl, _⟩ := h
    rfl
  · obtain ⟨x, d, rfl, hx, k0, k1⟩ := h
    refine ⟨_, (pss_cons (ps_expr (pe_call (ok_need_turning T) (hr.mono (by decide)) rfl T.d_need_turning.g T.d_need_turning.F.kp T.d_need_turning.b .nil (passes_call (takes_of rfl rfl rfl rfl) (fun _ _ _ _ h => h)) (pa_cons (pv 0) pa_nil)))
      (pss_cons (ps_set (i := 1) sc_opposite.nd rfl (Or.inl rfl) (pe_op o_mul (pe_lst (pa_cons pe_int pa_nil)) (pe_callB (c_len (K := K)) (by rfl) T.b_len (by decide +kernel) (pa_cons (pv 0) pa_nil))))
      (pss_cons (ps_for (passes_of rfl) rfl (pi_enumQ rfl T.b_enumerate (pa_cons (pv 0) pa_nil)) (pg_tup rfl (pgs_cons (pg_name (i := 2) sc_opposite.nd rfl (Or.inl rfl)) (pgs_cons (pg_name (i := 3) sc_opposite.nd rfl (Or.inl rfl)) pgs_nil))) (pss_one (ps_asg (pv 2) (pg_sub (pv 1) (pv 3) set_list))))
      (pss_one (ps_ret (pv 1)))))), ?_⟩
    walk_at "go"
    refine ⟨x, d, rfl, hx, k0, fun hT H1 e1 => ?_⟩
    obtain ⟨l, hd, hl, hl2⟩ := hT
    have k2 := k1 l hd hl hl2
    obtain ⟨a, rfl, hs⟩ := TurnD.seq hx hd
    have hs1 := seqAt_ex e1 hs
    clear k0 k1
    walk_at "go"
    rename_i t2 H2 n2 e2 v2
    refine st_lenQ (seqAt_ex e2 hs1) ?_
    rw [List.length_map]
    walk_at "go"
    rename_i q H3 n3 e3 v3
    have hs3 := seqAt_ex (e2.trans e3) hs1
    have hqa : q ≠ a := fun e => by
      have := seqAt_ex e2 hs1
      unfold seqAt at this
      rw [← e, n3] at this
      cases this
    refine st_isEnQ hs3 fun J S hJ hS => ?_
    rw [List.length_map] at hJ
    have v3' : H3 q = some (.lst ((List.replicate l.length 0).map nV)) := by
      rw [v3, Int.toNat_natCast]
      congr 2
      rw [List.map_replicate]
      clear k2 hd hl hl2 hx hs hs1 v3 hs3 hJ
      induction l.length with
      | zero => rfl
      | succ n ih => rw [List.replicate_succ, List.flatten_cons, ih, List.replicate_succ]; rfl
    have e13 := e1.trans (e2.trans e3)
    have n03 : H q = none := Ex.free (e1.trans e2) n3
    refine for_runs hJ (fun i σ H' => FrP q H3 H' ∧ (∃ rs : List Nat, rs.length = l.length ∧ (∀ j, j < i → gT rs (gT l j) = j) ∧ H' q = some (.lst (rs.map nV))) ∧ ∃ y z, σ = [some (.ref a), some (.ref q), y, z]) ⟨Fr.refl _, ⟨_, List.length_replicate, fun j h => absurd h (Nat.not_lt_zero _), v3'⟩, _, _, rfl⟩ (fun i σ H' _ h => hS H' (seqAt_same' h.1 (fun z => hqa z.symm) hs3)) ?_ ?_
    · rintro i x σ H4 H5 hi ⟨f4, ⟨rs, h1, h2, h3⟩, y, z, rfl⟩ ⟨T, v, rfl, nT, eT, vT, hv⟩
      obtain ⟨hil, rfl⟩ := nV_at hv
      have h3' := eT.get h3
      walk_at "go"
      have hlt := hl.g_lt hil
      have hxl : ixN (List.map nV rs).length (((gT l i : Nat) : Nat) : Int) = some (gT l i) := by
        rw [List.length_map]
        exact Evl.ixN_nat (by omega)
      refine st_setL h3' hxl ?_
      refine ⟨(f4.trans (Fr.ex eT)).trans FrP.at, ⟨rs.set (gT l i) i, by rw [List.length_set]; exact h1, fun j hj => ?_, ?_⟩, _, _, rfl⟩
      · rw [gT_set (by omega)]
        by_cases q : gT l j = gT l i
        · have : j = i := hl.inj (by omega) hil q
          subst this
          rw [if_pos rfl]
        · rw [if_neg q]
          refine h2 j ?_
          have : j ≠ i := fun e => q (by rw [e])
          omega
      · rw [upd_same, List.map_set]
        rfl
    · rintro σ H4 ⟨f4, ⟨rs, h1, h2, h3⟩, y, z, rfl⟩
      walk_at "go"
      have : rs = invT l := gT_ext (by rw [invT_len, h1]) fun v hv => by
        rw [h1] at hv
        rw [invT_g hv]
        have := h2 (l.idxOf v) (hl.idx_lt hv)
        rwa [hl.g_idx hv] at this
      subst this
      exact k2 q _ (Ex.comp (M := fun b => b = q) e13 f4 fun b hb => by rw [hb]; exact n03) n03 h3
theorem eqv_encN (a b : Nat) : PyData.eqv (encN a) (encN b) = decide (a = b) := by
  unfold encN
  rw [eqv_int]
  rw [Bool.eq_iff_iff, decide_eq_true_eq, decide_eq_true_eq]
  omega
/-- rising, not strictly -/
def Up0 (l : List Nat) : Prop := l.Pairwise (· ≤ ·)
theorem up_drop {l : List Nat} (h : Up0 l) {i : Nat} (hi : i < l.length) : ∀ y ∈ l.drop i, gT l i ≤ y := by
  intro y hy
  rw [List.drop_eq_getElem_cons hi] at hy
  rw [gT_at hi]
  rcases List.mem_cons.mp hy with q | q
  · rw [q]; exact Nat.le_refl _
  · have h2 : (l.drop i).Pairwise (· ≤ ·) := List.Pairwise.sublist (List.drop_sublist i l) h
    rw [List.drop_eq_getElem_cons hi] at h2
    exact (List.pairwise_cons.mp h2).1 y q
theorem drop_mem {l : List Nat} {i y : Nat} (h : y ∈ l.drop (i + 1)) : y ∈ l.drop i := by
  by_cases hi : i < l.length
  · rw [List.drop_eq_getElem_cons hi]; exact List.mem_cons_of_mem _ h
  · rw [List.drop_eq_nil_of_le (by omega)] at h; cases h
theorem up_app1 {c : List Nat} {x : Nat} (h : Up0 c) (k : ∀ y ∈ c, y ≤ x) : Up0 (c ++ [x]) := by
  unfold Up0
  rw [List.pairwise_append]
  exact ⟨h, List.pairwise_singleton _ _, fun a ha b hb => by rw [List.mem_singleton.mp hb]; exact k a ha⟩
/-- what is found so far -/
def MixG (a b : List Nat) (i t : Nat) (c : List Nat) : Prop := t ≤ b.length ∧ c.Perm (a.take i ++ b.take t) ∧ (Up0 a → Up0 b → Up0 c ∧ ∀ x ∈ c, (∀ y ∈ a.drop i, x ≤ y) ∧ ∀ y ∈ b.drop t, x ≤ y)
theorem MixG.right {a b c : List Nat} {i t : Nat} (h : MixG a b i t c) (hi : i < a.length) (ht : t < b.length) (hlt : gT b t < gT a i) : MixG a b i (t + 1) (c ++ [gT b t]) := by
  obtain ⟨h1, h2, h3⟩ := h
  refine ⟨ht, ?_, fun ua ub => ?_⟩
  · rw [List.take_add_one, gT_some ht, ← List.append_assoc]
    exact h2.append_right _
  · obtain ⟨h4, h5⟩ := h3 ua ub
    refine ⟨up_app1 h4 fun y hy => (h5 y hy).2 _ (by rw [List.drop_eq_getElem_cons ht, gT_at ht]; exact List.mem_cons_self), fun x hx => ?_⟩
    rcases List.mem_append.mp hx with q | q
    · exact ⟨(h5 x q).1, fun y hy => (h5 x q).2 y (drop_mem hy)⟩
    · rw [List.mem_singleton.mp q]
      refine ⟨fun y hy => ?_, fun y hy => up_drop ub ht y (drop_mem hy)⟩
      have := up_drop ua hi y hy
      omega
theorem MixG.left {a b c : List Nat} {i t : Nat} (h : MixG a b i t c) (hi : i < a.length) (ht : t < b.length → gT a i ≤ gT b t) : MixG a b (i + 1) t (c ++ [gT a i]) := by
  obtain ⟨h1, h2, h3⟩ := h
  refine ⟨h1, ?_, fun ua ub => ?_⟩
  · rw [List.take_add_one, gT_some hi]
    show (c ++ [gT a i]).Perm (a.take i ++ [gT a i] ++ b.take t)
    refine (h2.append_right _).trans ?_
    rw [List.append_assoc, List.append_assoc]
    exact (List.perm_append_comm).append_left _
  · obtain ⟨h4, h5⟩ := h3 ua ub
    refine ⟨up_app1 h4 fun y hy => (h5 y hy).1 _ (by rw [List.drop_eq_getElem_cons hi, gT_at hi]; exact List.mem_cons_self), fun x hx => ?_⟩
    rcases List.mem_append.mp hx with q | q
    · exact ⟨fun y hy => (h5 x q).1 y (drop_mem hy), (h5 x q).2⟩
    · rw [List.mem_singleton.mp q]
      refine ⟨fun y hy => up_drop ua hi y (drop_mem hy), fun y hy => ?_⟩
      by_cases q2 : t < b.length
      · have := up_drop ub q2 y hy
        have := ht q2
        omega
      · rw [List.drop_eq_nil_of_le (by omega)] at hy
        cases hy
theorem MixG.done {a b c : List Nat} {t : Nat} (h : MixG a b a.length t c) : (c ++ b.drop t).Perm (a ++ b) ∧ (Up0 a → Up0 b → Up0 (c ++ b.drop t)) := by
  obtain ⟨h1, h2, h3⟩ := h
  rw [List.take_length] at h2
  refine ⟨?_, fun ua ub => ?_⟩
  · have := h2.append_right (b.drop t)
    rwa [List.append_assoc, List.take_append_drop] at this
  · obtain ⟨h4, h5⟩ := h3 ua ub
    unfold Up0
    rw [List.pairwise_append]
    exact ⟨h4, List.Pairwise.sublist (List.drop_sublist t b) ub, fun x hx y hy => (h5 x hx).2 y hy⟩
theorem MixG.len {a b c : List Nat} {i t : Nat} (h : MixG a b i t c) : c.length ≤ a.length + b.length := by
  have := h.2.1.length_eq
  rw [List.length_append, List.length_take, List.length_take] at this
  omega
def sp_mixed : Sp := fun vs H Q _ => ∃ (p q : Addr) (a b : List Nat), vs = [.ref p, .ref q] ∧ H p = some (.lst (a.map nV)) ∧ H q = some (.lst (b.map nV)) ∧ a.length ≤ 1000 ∧ b.length ≤ 1000 ∧ ∀ (c : List Nat) r H', Ex H H' → H r = none → H' r = some (.lst (c.map nV)) → c.Perm (a ++ b) → (Up0 a → Up0 b → Up0 c) → Q (.ref r) H'
theorem ok_mixed (T : Tx K mg ad fd tk base tc w) : FnOk P w K mg base CX0 1 (ad 16) (fd 16) ["one", "other"] sp_mixed := by
  refine T.d_mixed.F.ok sc_mixed (fun vs H Q E h => ?_) (fun cdv A outer s H vs Q E hr h => ?_)
  · obtain ⟨p, q, a, b, rfl, _⟩ := h
    rfl
  · obtain ⟨p, q, a, b, rfl, hp, hq, hla, hlb, k⟩ := h
    refine ⟨_, (pss_cons (ps_set (i := 2) sc_mixed.nd rfl (Or.inl rfl) (pe_lst pa_nil))
      (pss_cons (ps_set (i := 3) sc_mixed.nd rfl (Or.inl rfl) pe_int)
      (pss_cons (ps_for PassesOwn.never rfl (pi_list (pv 0)) (pg_name (i := 4) sc_mixed.nd rfl (Or.inl rfl)) (pss_cons (ps_while PassesOwn.never (PW.pt (pw_and (pt_cmpR o_lt (pv 3) (pe_callB (c_len (K := K)) (by rfl) T.b_len (by decide +kernel) (pa_cons (pv 1) pa_nil)) (nomark _)) (pw_and1 (pt_cmpR o_lt (pe_ix (i_ix (K := K)) (pv 1) (pv 3) (fun _ _ => rfl)) (pv 4) (nomark _))))) (pss_cons (ps_expr (pe_bm PySem.F.plainAttrs_list PySem.F.slot_list_append PySem.F.type_list_append mt_append (pv 2) (pa_cons (pe_ix (i_ix (K := K)) (pv 1) (pv 3) (fun _ _ => rfl)) pa_nil)))
      (pss_one (ps_aug (i := 3) sc_mixed.nd rfl (Or.inl rfl) pe_int ip_add))))
      (pss_one (ps_expr (pe_bm PySem.F.plainAttrs_list PySem.F.slot_list_append PySem.F.type_list_append mt_append (pv 2) (pa_cons (pv 4) pa_nil))))))
      (pss_one (ps_ret (pe_op o_add (pv 2) (pe_slice (s_sl (K := K)) (pv 1) (po_some (pv 3)) po_none))))))), ?_⟩
    walk_at "go"
    rename_i F H1 n1 e1 v1
    have hp1 := e1.get hp
    have hq1 := e1.get hq
    have hFp : p ≠ F := fun z => by rw [← z, hp] at n1; cases n1
    have hFq : q ≠ F := fun z => by rw [← z, hq] at n1; cases n1
    have ex : ∀ {H'}, FrP F H1 H' → Ex H H' := fun f => Ex.comp (M := fun x => x = F) e1 f fun x hx => by rw [hx]; exact n1
    refine for_runs (runs_list K p _) (fun i σ H' => (∃ (c : List Nat) (t : Nat), FrP F H1 H' ∧ H' F = some (.lst (c.map nV)) ∧ MixG a b i t c ∧ ∃ y, σ = [some (.ref p), some (.ref q), some (.ref F), some (.int (t : Nat)), y])) ⟨[], 0, Fr.refl _, v1, ⟨Nat.zero_le _, by simp, fun _ _ => ⟨List.Pairwise.nil, fun x hx => (List.not_mem_nil hx).elim⟩⟩, _, rfl⟩ (fun i σ H' _ h => by obtain ⟨_, _, f, _⟩ := h; exact lst_of (f.get hFp hp1)) ?_ ?_
    · rintro i x σ H0 H3 hi ⟨c, t, f3, v3, g3, y, rfl⟩ ⟨rfl, hx⟩
      obtain ⟨hia, rfl⟩ := nV_at hx
      unfold nV
      walk_at "go"
      refine while_inv (fun m σ H' => ∃ (c : List Nat) (t : Nat), m = b.length - t ∧ FrP F H1 H' ∧ H' F = some (.lst (c.map nV)) ∧ MixG a b i t c ∧ σ = [some (.ref p), some (.ref q), some (.ref F), some (.int (t : Nat)), some (.int (gT a i : Nat))]) ⟨_, c, t, rfl, f3, v3, g3, rfl⟩ ?_
      rintro m σ H4 ⟨c, t, rfl, f4, v4, g4, rfl⟩
      have hq4 := f4.get hFq hq1
      have hcl := g4.len
      walk_at "go"
      rw [List.length_map]
      have fin : (t < b.length → gT a i ≤ gT b t) → FrP F H1 (upd H4 F (.lst (c.map nV ++ [V.int (gT a i : Nat)]))) ∧ upd H4 F (.lst (c.map nV ++ [V.int (gT a i : Nat)])) F = some (.lst ((c ++ [gT a i]).map nV)) ∧ MixG a b (i + 1) t (c ++ [gT a i]) := fun h => ⟨f4.trans FrP.at, by rw [upd_same, List.map_append]; rfl, g4.left hia h⟩
      refine st_br2 (fun c1 => ?_) (fun c1 => ?_)
      rotate_left
      · obtain ⟨z1, z2, z3⟩ := fin fun h => by omega
        refine wh_F rfl ?_
        walk_at "go"
        refine st_app v4 (by rw [List.length_map]; omega) ?_
        exact ⟨_, t, z1, z2, z3, _, rfl⟩
      have htb : t < b.length := by omega
      walk_at "go"
      refine st_ixL hq4 (at_nV htb) ?_
      unfold nV
      walk_at "go"
      by_cases q1 : gT b t < gT a i
      rotate_left
      · obtain ⟨z1, z2, z3⟩ := fin fun h => by omega
        rw [decide_eq_false (by omega)]
        refine wh_F rfl ?_
        walk_at "go"
        refine st_app v4 (by rw [List.length_map]; omega) ?_
        exact ⟨_, t, z1, z2, z3, _, rfl⟩
      rw [decide_eq_true (by omega)]
      refine wh_T rfl ?_
      have v4' : H4 F = some (.lst (c.map nV)) := v4
      have hq4' : H4 q = some (.lst (b.map nV)) := hq4
      walk_at "go"
      refine st_ixL hq4' (at_nV htb) ?_
      walk_at "go"
      refine st_app v4' (by rw [List.length_map]; omega) ?_
      walk_at "go"
      refine ⟨b.length - (t + 1), by omega, c ++ [gT b t], t + 1, rfl, f4.trans FrP.at, ?_, g4.right hia htb q1, ?_⟩
      · rw [upd_same, List.map_append]; rfl
      · rw [show ((t + 1 : Nat) : Int) = ((t : Nat) : Int) + 1 by omega]
        rfl
    · rintro σ H3 ⟨c, t, f3, v3, g3, y, rfl⟩
      rw [List.length_map] at g3
      have hq3 := f3.get hFq hq1
      have hcl := g3.len
      obtain ⟨g4, g5⟩ := g3.done
      have e03 := ex f3
      walk_at "go"
      rename_i D4 H4 n4 e4 v4
      rw [cutV_from, ← List.map_drop] at v4
      have v34 := e4.get v3
      refine st_addL v34 v4 (by rw [List.length_map, List.length_map, List.length_drop]; omega) ?_
      intro r H5 n5 e5 v5
      refine k (c ++ b.drop t) r H5 (e03.trans (e4.trans e5)) (Ex.free (e03.trans e4) n5) ?_ g4 g5
      rw [v5, List.map_append]
def rowO (r : List Nat) : HO := .lst (r.map nV)
/-- a table of numbers -/
structure Tbl (H : Hp) (p : Addr) (rs : List Addr) (tb : List (List Nat)) : Prop where
  at_ : H p = some (.lst (rs.map V.ref))
  rows : ObjsAt H rs (tb.map rowO)
theorem Tbl.ex {H H' : Hp} {p : Addr} {rs : List Addr} {tb : List (List Nat)} (T : Tbl H p rs tb) (e : Ex H H') : Tbl H' p rs tb := ⟨e.get T.at_, T.rows.ex e⟩
theorem Tbl.len {H : Hp} {p : Addr} {rs : List Addr} {tb : List (List Nat)} (T : Tbl H p rs tb) : rs.length = tb.length := by rw [T.rows.len, List.length_map]
theorem Tbl.row {H : Hp} {p : Addr} {rs : List Addr} {tb : List (List Nat)} (T : Tbl H p rs tb) {i : Nat} (h : i < tb.length) : ∃ r, rs[i]? = some r ∧ H r = some (.lst ((tb[i]).map nV)) := by
  have hl := T.len
  refine ⟨rs[i]'(by omega), List.getElem?_eq_getElem _, T.rows.at i _ _ (List.getElem?_eq_getElem _) ?_⟩
  rw [List.getElem?_map, List.getElem?_eq_getElem h]
  rfl
def encR (r : List Nat) : PyData := .list (r.map encN)
theorem rows_rn {H : Hp} : ∀ {rs : List Addr} {tb : List (List Nat)}, ObjsAt H rs (tb.map rowO) → RnA H (rs.map V.ref) (tb.map encR)
  | [], [], _ => .nil
  | [], _ :: _, h => by cases h
  | _ :: _, [], h => by cases h
  | r :: rs, t :: tb, h => by
    cases h with
    | cons h1 h2 => exact .cons (.lst h1 (rnA_map fun _ _ => .int _)) (rows_rn h2)
theorem Tbl.rn {H : Hp} {p : Addr} {rs : List Addr} {tb : List (List Nat)} (T : Tbl H p rs tb) : Rn H (.ref p) (.list (tb.map encR)) := .lst T.at_ (rows_rn T.rows)
theorem tbl_nd (tb : List (List Nat)) : (PyData.list (tb.map encR)).hasDict = false := by
  simp only [PyData.hasDict]
  refine hasDictA_of fun d hd => ?_
  obtain ⟨r, _, rfl⟩ := List.mem_map.mp hd
  unfold encR
  simp only [PyData.hasDict]
  refine hasDictA_of fun d hd => ?_
  obtain ⟨_, _, rfl⟩ := List.mem_map.mp hd
  rfl
theorem Tbl.rp {H : Hp} {p : Addr} {rs : List Addr} {tb : List (List Nat)} (T : Tbl H p rs tb) : Rp H (.ref p) (.list (tb.map encR)) := T.rn.rp (tbl_nd tb)
theorem up_le {b : List Nat} (h : Up0 b) {i j : Nat} (hij : i ≤ j) (hj : j < b.length) : gT b i ≤ gT b j := by
  by_cases q : i = j
  · rw [q]; exact Nat.le_refl _
  · rw [gT_at (by omega), gT_at hj]
    exact List.pairwise_iff_getElem.mp h i j (by omega) hj (by omega)
theorem count_cut {b : List Nat} {e m : Nat} (hm : m ≤ b.length) (h1 : ∀ i, i < m → gT b i < e) (h2 : ∀ i, m ≤ i → i < b.length → e ≤ gT b i) : b.countP (· < e) = m := by
  have h3 : (b.take m).countP (· < e) = (b.take m).length := List.countP_eq_length.mpr fun x hx => by
    obtain ⟨i, hi, rfl⟩ := List.getElem_of_mem hx
    rw [List.length_take] at hi
    rw [List.getElem_take, ← gT_at (by omega)]
    simpa using h1 i (by omega)
  have h4 : (b.drop m).countP (· < e) = 0 := List.countP_eq_zero.mpr fun x hx => by
    obtain ⟨i, hi, rfl⟩ := List.getElem_of_mem hx
    rw [List.length_drop] at hi
    rw [List.getElem_drop, ← gT_at (by omega)]
    have := h2 (m + i) (by omega) (by omega)
    simp
    omega
  rw [← List.take_append_drop m b, List.countP_append, h3, h4, List.length_take]
  omega
/-- how many of all blocks from i on fulfil p -/
def restP (p : Nat → Bool) (bs : List (List Nat)) (i : Nat) : Nat := ((bs.drop i).map (fun b => b.countP p)).sum
theorem restP_end {p : Nat → Bool} {bs : List (List Nat)} {i : Nat} (h : bs.length ≤ i) : restP p bs i = 0 := by
  unfold restP
  rw [List.drop_eq_nil_of_le h]
  rfl
theorem restP_at {p : Nat → Bool} {bs : List (List Nat)} {i : Nat} (h : i < bs.length) : restP p bs i = (bs[i]).countP p + restP p bs (i + 1) := by
  unfold restP
  rw [List.drop_eq_getElem_cons h, List.map_cons, List.sum_cons]
structure NextF (bs cs : List (List Nat)) : Prop where
  len : cs.length = (bs.length + 1) / 2
  two : ∀ i c, cs[i]? = some c → ∀ (h : 2 * i < bs.length), (∀ (h2 : 2 * i + 1 < bs.length), c.Perm (bs[2 * i] ++ bs[2 * i + 1]) ∧ (Up0 bs[2 * i] → Up0 bs[2 * i + 1] → Up0 c)) ∧ (¬ 2 * i + 1 < bs.length → c = bs[2 * i])
theorem NextF.rest {bs cs : List (List Nat)} (h : NextF bs cs) (p : Nat → Bool) : ∀ (d i : Nat), d = cs.length - i → restP p cs i = restP p bs (2 * i)
  | 0, i, hd => by
    have := h.len
    rw [restP_end (by omega), restP_end (by omega)]
  | d + 1, i, hd => by
    have hl := h.len
    have hi : i < cs.length := by omega
    have h0 : 2 * i < bs.length := by omega
    obtain ⟨h1, h2⟩ := h.two i cs[i] (List.getElem?_eq_getElem hi) h0
    rw [restP_at hi, h.rest p d (i + 1) (by omega), restP_at h0]
    by_cases q : 2 * i + 1 < bs.length
    · obtain ⟨h3, _⟩ := h1 q
      rw [restP_at q, h3.countP_eq, List.countP_append, show 2 * (i + 1) = 2 * i + 1 + 1 by omega]
      omega
    · rw [h2 q, restP_end (i := 2 * i + 1) (by omega), restP_end (by omega)]
theorem NextF.up {bs cs : List (List Nat)} (h : NextF bs cs) (hu : ∀ b ∈ bs, Up0 b) : ∀ c ∈ cs, Up0 c := by
  intro c hc
  obtain ⟨i, hi⟩ := List.getElem?_of_mem hc
  have hl := h.len
  have hic := (List.getElem?_eq_some_iff.mp hi).1
  have h0 : 2 * i < bs.length := by omega
  obtain ⟨h1, h2⟩ := h.two i c hi h0
  by_cases q : 2 * i + 1 < bs.length
  · exact (h1 q).2 (hu _ (List.getElem_mem _)) (hu _ (List.getElem_mem _))
  · rw [h2 q]; exact hu _ (List.getElem_mem _)
theorem le_sum_mem : ∀ {l : List Nat} {x : Nat}, x ∈ l → x ≤ l.sum
  | a :: l, x, h => by
    rw [List.sum_cons]
    rcases List.mem_cons.mp h with q | q
    · omega
    · have := le_sum_mem q; omega
theorem block_le {bs : List (List Nat)} {b : List Nat} (h : b ∈ bs) : b.length ≤ restP (fun _ => true) bs 0 := by
  unfold restP
  rw [List.drop_zero]
  have h1 : b.countP (fun _ => true) = b.length := by simp
  rw [← h1]
  exact le_sum_mem (List.mem_map.mpr ⟨b, h, rfl⟩)
def ones (l : List Nat) : List (List Nat) := l.map fun x => [x]
theorem rest_ones (p : Nat → Bool) (l : List Nat) : ∀ (d i : Nat), d = l.length - i → restP p (ones l) i = (l.drop i).countP p
  | 0, i, hd => by
    rw [restP_end (by unfold ones; rw [List.length_map]; omega), List.drop_eq_nil_of_le (by omega)]
    rfl
  | d + 1, i, hd => by
    have hi : i < l.length := by omega
    have ho : i < (ones l).length := by unfold ones; rw [List.length_map]; exact hi
    rw [restP_at ho, rest_ones p l d (i + 1) (by omega), List.drop_eq_getElem_cons hi]
    have e : (ones l)[i]'ho = [l[i]] := by simp [ones]
    rw [e, List.countP_cons, List.countP_cons, List.countP_nil]
    omega
/-- floors, the last one so far on top -/
structure FlO (l : List Nat) (fs : List (List (List Nat))) : Prop where
  ne : 0 < fs.length
  fst : fs[0]? = some (ones l)
  nxt : ∀ j bs cs, fs[j]? = some bs → fs[j + 1]? = some cs → 2 ≤ bs.length ∧ NextF bs cs
theorem FlO.all {l : List Nat} {fs : List (List (List Nat))} (h : FlO l fs) : ∀ (j : Nat) bs, fs[j]? = some bs → (∀ b ∈ bs, Up0 b) ∧ restP (fun _ => true) bs 0 = l.length
  | 0, bs, hb => by
    rw [h.fst] at hb
    cases hb
    refine ⟨fun b hb => ?_, ?_⟩
    · obtain ⟨x, _, rfl⟩ := List.mem_map.mp hb
      exact List.pairwise_singleton _ _
    · rw [rest_ones _ l _ 0 rfl, List.drop_zero]
      simp
  | j + 1, cs, hc => by
    have hj : j < fs.length := by have := (List.getElem?_eq_some_iff.mp hc).1; omega
    obtain ⟨h1, h2⟩ := h.all j _ (List.getElem?_eq_getElem hj)
    obtain ⟨_, n⟩ := h.nxt j _ cs (List.getElem?_eq_getElem hj) hc
    exact ⟨n.up h1, by rw [n.rest _ _ 0 rfl]; exact h2⟩
theorem FlO.blk {l : List Nat} {fs : List (List (List Nat))} (h : FlO l fs) {j : Nat} {bs : List (List Nat)} (hb : fs[j]? = some bs) {b : List Nat} (hm : b ∈ bs) : Up0 b ∧ b.length ≤ l.length := by
  obtain ⟨h1, h2⟩ := h.all j bs hb
  have := block_le hm
  exact ⟨h1 b hm, by omega⟩
theorem FlO.len {l : List Nat} {fs : List (List (List Nat))} (h : FlO l fs) : ∀ (j : Nat) bs, fs[j]? = some bs → bs.length + j ≤ l.length
  | 0, bs, hb => by
    rw [h.fst] at hb
    cases hb
    unfold ones
    rw [List.length_map]
    omega
  | j + 1, cs, hc => by
    have hj : j < fs.length := by have := (List.getElem?_eq_some_iff.mp hc).1; omega
    have h1 := h.len j _ (List.getElem?_eq_getElem hj)
    obtain ⟨h2, n⟩ := h.nxt j _ cs (List.getElem?_eq_getElem hj) hc
    have := n.len
    omega
/-- the floors as they stand -/
structure FlG (H : Hp) (qs : List Addr) (fs : List (List (List Nat))) : Prop where
  len : qs.length = fs.length
  tb : ∀ (j : Nat) q, qs[j]? = some q → ∃ rs bs, fs[j]? = some bs ∧ Tbl H q rs bs
theorem FlG.ex {H H' : Hp} {qs : List Addr} {fs : List (List (List Nat))} (h : FlG H qs fs) (e : Ex H H') : FlG H' qs fs := ⟨h.len, fun j q hq => by obtain ⟨rs, bs, h1, h2⟩ := h.tb j q hq; exact ⟨rs, bs, h1, h2.ex e⟩⟩
theorem ObjsAt.ex' {H : Hp} {F : Addr} : ∀ {ts : List Addr} {os : List HO}, (∀ x ∈ ts, x ≠ F) → ObjsAt H ts os → ObjsAt (hid F H) ts os
  | _, _, _, .nil => .nil
  | _, _, hm, .cons h r => .cons (hid_get h (hm _ List.mem_cons_self)) (ObjsAt.ex' (fun a ha => hm a (List.mem_cons_of_mem _ ha)) r)
def sp_floors_of : Sp := fun vs H Q _ => ∃ (a : Addr) (l : List Nat), vs = [.ref a] ∧ seqAt H a = some (l.map nV) ∧ l.length ≤ 96 ∧ ∀ fa qs fs H', Ex H H' → H fa = none → H' fa = some (.lst (qs.map V.ref)) → FlG (newO H H') qs fs → FlO l fs → (∀ bs, fs[fs.length - 1]? = some bs → bs.length ≤ 1) → Q (.ref fa) H'
theorem ok_floors_of (T : Tx K mg ad fd tk base tc w) : FnOk P w K mg base CX0 2 (ad 17) (fd 17) ["ends"] sp_floors_of := by
  refine T.d_floors_of.F.ok sc_floors_of (fun vs H Q E h => ?_) (fun cdv A outer s H vs Q E hr h => ?_)
  · obtain ⟨a, l, rfl, _⟩ := h
    rfl
  · obtain ⟨a, l, rfl, ha, hl, k⟩ := h
    refine ⟨_, (pss_cons (ps_set (i := 1) sc_floors_of.nd rfl (Or.inl rfl) (pe_lst (pa_cons (pe_lc (own := [("end", 4)]) (g := gName 4) rfl sc_floors_of.nd (pi_seq (pv 0)) (blkOk_by (own := [("end", 4)]) (N := N_floors_of) (sc := defScope s_floors_of) (by decide +kernel)) (fun _ _ _ _ _ => pg_name (i := 4) sc_floors_of.nd rfl (Or.inl rfl)) (fun _ _ _ _ _ => pts_nil) (fun _ _ _ _ _ => (pe_lst (pa_cons (pv 4) pa_nil)))) pa_nil)))
      (pss_cons (ps_while PassesOwn.never (pt_cmpR o_gt (pe_callB (c_len (K := K)) (by rfl) T.b_len (by decide +kernel) (pa_cons (pe_ix (i_ix (K := K)) (pv 1) (pe_un un_neg pe_int) (fun _ _ => rfl)) pa_nil)) pe_int (nomark _)) (pss_cons (ps_set (i := 2) sc_floors_of.nd rfl (Or.inl rfl) (pe_ix (i_ix (K := K)) (pv 1) (pe_un un_neg pe_int) (fun _ _ => rfl)))
      (pss_cons (ps_setLc (i := 3) (own := [("left", 5), ("right", 6)]) (g := gTup K 2 (gCons (gName 5) (gCons (gName 6) gNil))) rfl sc_floors_of.nd rfl rfl (sw_true rfl rfl rfl (by decide +kernel)) (pi_zip rfl T.b_zip (pa_cons (pe_slice3 (pv 2) po_none po_none pe_int (K := K)) (pa_cons (pe_slice3 (pv 2) (po_some pe_int) po_none pe_int (K := K)) pa_nil))) (blkOk_by (own := [("left", 5), ("right", 6)]) (N := N_floors_of) (sc := defScope s_floors_of) (by decide +kernel)) (fun _ _ _ _ _ => (pg_tup rfl (pgs_cons (pg_name (i := 5) sc_floors_of.nd rfl (Or.inl rfl)) (pgs_cons (pg_name (i := 6) sc_floors_of.nd rfl (Or.inl rfl)) pgs_nil)))) (fun _ _ _ _ _ => pts_nil) (fun _ _ _ _ _ => (pe_call (ok_mixed T) (hr.mono (by decide)) rfl T.d_mixed.g T.d_mixed.F.kp T.d_mixed.b .nil pass0 (pa_cons (pv 5) (pa_cons (pv 6) pa_nil)))))
      (pss_cut (ps_if (pt_cmpR (o_eq hr.units) (pe_op o_mod (pe_callB (c_len (K := K)) (by rfl) T.b_len (by decide +kernel) (pa_cons (pv 2) pa_nil)) pe_int) pe_int (nomark _)) (pss_one (ps_expr (pe_bm PySem.F.plainAttrs_list PySem.F.slot_list_append PySem.F.type_list_append mt_append (pv 3) (pa_cons (pe_callTy (c_list rfl (K := K)) (by rfl) T.b_list (by decide +kernel) (pa_cons (pe_ix (i_ix (K := K)) (pv 2) (pe_un un_neg pe_int) (fun _ _ => rfl)) pa_nil)) pa_nil)))) pss_nil)
      (pss_one (ps_expr (pe_bm PySem.F.plainAttrs_list PySem.F.slot_list_append PySem.F.type_list_append mt_append (pv 1) (pa_cons (pv 3) pa_nil))))))))
      (pss_one (ps_ret (pv 1))))), ?_⟩
    walk_at "go"
    refine st_isSeq ha fun J S hJ hS => ?_
    refine lc_objs0 (rv_of hJ) (fun H' e => hS H' (seqAt_same e ha)) (by omega) (fun x => rowO [x]) ?_ ?_
    · intro x H' hx e B h2
      refine ⟨rfl, ?_⟩
      walk_at "go"
      rename_i q H2 n2 e2 v2
      exact h2 q H2 n2 e2 v2
    intro D H1 ts nD e1 vD oD ndD hDn fD
    walk_at "go"
    rename_i F H2 nF e2 vF
    have e12 := e1.trans e2
    have v12 := e2.get vD
    have nF0 : H F = none := Ex.free e1 nF
    have hDF : D ≠ F := fun z => by rw [← z, vD] at nF; cases nF
    have hid0 : Ex H2 (hid F H2) → True := fun _ => trivial
    have eH1 : Ex H1 (hid F H2) := fun b o _ h => hid_get (e2.get h) (fun z => by rw [z, nF] at h; cases h)
    have oD' : ObjsAt H1 ts ((ones l).map rowO) := by
      have : (ones l).map rowO = l.map fun x => rowO [x] := by rw [ones, List.map_map]; rfl
      rw [this]
      exact oD
    have nD0 : H D = none := nD
    have eN : ∀ {G : Hp} {a : Addr} {o : HO}, G a = some o → H a = none → newO H G a = some o := fun h n => newO_get h n
    have G0 : FlG (newO H (hid F H2)) [D] [ones l] := ⟨rfl, fun j q hq => by
      cases j with
      | zero =>
        have : D = q := by simpa using hq
        subst this
        exact ⟨ts, ones l, rfl, newO_get (eH1.get vD) nD0, objs_in (fun b hb o h => newO_get h (fD b hb)) (oD'.ex eH1)⟩
      | succ j => simp at hq⟩
    have O0 : FlO l [ones l] := ⟨by simp, rfl, fun j bs cs _ h => by simp at h⟩
    refine while_inv (fun m σ H' => ∃ (qs : List Addr) (fs : List (List (List Nat))) (bs : List (List Nat)), H' F = some (.lst (qs.map V.ref)) ∧ Ex H (hid F H') ∧ FlG (newO H (hid F H')) qs fs ∧ FlO l fs ∧ fs[fs.length - 1]? = some bs ∧ m = bs.length ∧ ∃ y2 y3, σ = [some (.ref a), some (.ref F), y2, y3, none, none, none]) ⟨_, [D], [ones l], ones l, vF, e1.trans eH1, G0, O0, rfl, rfl, _, _, rfl⟩ ?_
    rintro m σ H3 ⟨qs, fs, bs, hF, eH, hG, hO, hbs, rfl, y2, y3, rfl⟩
    have hne := hO.ne
    have hql := hG.len
    obtain ⟨q, hq⟩ : ∃ q, qs[fs.length - 1]? = some q := ⟨qs[fs.length - 1]'(by omega), List.getElem?_eq_getElem _⟩
    obtain ⟨rs, bs', hb', hT0⟩ := hG.tb _ q hq
    have hT := hT0.ex (newO_ex H (hid F H3))
    have : bs' = bs := by rw [hb'] at hbs; exact Option.some.inj hbs
    subst this
    have hlst : atI (qs.map V.ref) (-1) = some (.ref q) := at_last (n := fs.length - 1) (by rw [List.length_map]; omega) (by rw [List.getElem?_map, hq]; rfl)
    have hqF : q ≠ F := fun z => by
      have := hT.at_
      rw [z] at this
      unfold hid at this
      rw [if_pos rfl] at this
      cases this
    have hq3 := (hid_ex F H3).get hT.at_
    have hrl := hT.len
    have hlen := hO.len _ _ hbs
    walk_at "go"
    refine st_ixL hF hlst ?_
    walk_at "go"
    rw [List.length_map, hrl]
    by_cases c1 : 1 < bs'.length
    rotate_left
    · rw [decide_eq_false (by omega)]
      refine wh_F rfl ?_
      walk_at "go"
      exact k F qs fs H3 (eH.trans (hid_ex F H3)) nF0 hF (hG.ex (newO_mono (hid_ex F H3))) hO fun bs2 h => by rw [hbs] at h; cases h; omega
    rw [decide_eq_true (by omega)]
    refine wh_T rfl ?_
    walk_at "go"
    refine st_ixL hF hlst ?_
    walk_at "go"
    refine st_evL (lstAt_sq (lst_of hq3)) ?_
    intro ev H4 n4 e4 v4
    walk_at "go"
    refine st_odL (lstAt_sq (lst_of (e4.get hq3))) ?_
    intro od H5 n5 e5 v5
    have v45 := e5.get v4
    walk_at "go"
    have hT5 := ((hT.ex (hid_ex F H3)).ex e4).ex e5
    have len1 : (evL (rs.map V.ref)).length = (bs'.length + 1) / 2 := by rw [evL_len, List.length_map, hrl]
    have len2 : (odL (rs.map V.ref)).length = bs'.length / 2 := by rw [odL_len, List.length_map, hrl]
    refine lc_mk (runs_zip K ev od _ _) (fun i x H H' h => by obtain ⟨_, _, _, _, _, h, _⟩ := h; exact h) (fun H' e => ⟨lst_of (e.get v45), lst_of (e.get v5)⟩) (by omega) (fun i o => ∃ c, o = rowO c ∧ ∀ (h2 : 2 * i + 1 < bs'.length), c.Perm (bs'[2 * i] ++ bs'[2 * i + 1]) ∧ (Up0 bs'[2 * i] → Up0 bs'[2 * i + 1] → Up0 c)) ?_ ?_ gTup_mono
    · rintro i x H6 H7 hi e6 ⟨T, v, u, rfl, nT, eT, vT, hv, hu⟩ B hB
      rw [len1, len2] at hi
      have hi2 : 2 * i + 1 < bs'.length := by omega
      obtain ⟨r1, hr1, hv1⟩ := (hT5.ex (e6.trans eT)).row (i := 2 * i) (by omega)
      obtain ⟨r2, hr2, hv2⟩ := (hT5.ex (e6.trans eT)).row (i := 2 * i + 1) hi2
      rw [evL_get, List.getElem?_map, hr1] at hv
      rw [odL_get, List.getElem?_map, hr2] at hu
      cases hv
      cases hu
      have q1 := (hO.blk hbs (List.getElem_mem (l := bs') (n := 2 * i) (by omega))).2
      have q2 := (hO.blk hbs (List.getElem_mem (l := bs') (n := 2 * i + 1) hi2)).2
      walk_at "go"
      refine ⟨rfl, ?_⟩
      walk_at "go"
      refine ⟨r1, r2, _, _, rfl, hv1, hv2, by omega, by omega, fun c r H8 e8 n8 v8 p8 u8 => ?_⟩
      exact hB r H8 _ n8 e8 v8 ⟨c, rfl, fun _ => ⟨p8, u8⟩⟩
    intro A H6 as os nA e6 vA oA hol hor hAn fA
    obtain ⟨cs, rfl, hcs⟩ := objs_choose hor
    rw [List.length_map, len1, len2] at hol
    have e36 : Ex H3 H6 := e4.trans (e5.trans e6)
    have nA3 : H3 A = none := Ex.free (e4.trans e5) nA
    have hFA : A ≠ F := fun z => by rw [z, hF] at nA3; cases nA3
    have e03 : Ex H H3 := eH.trans (hid_ex F H3)
    have nA0 : H A = none := Ex.free e03 nA3
    have asF : ∀ x ∈ as, x ≠ F ∧ H x = none := fun x hx => by
      have h1 := Ex.free (e4.trans e5) (fA x hx)
      refine ⟨fun z => ?_, Ex.free e03 h1⟩
      rw [z, hF] at h1
      cases h1
    have hal : as.length = cs.length := by rw [oA.len, List.length_map]
    walk_at "go"
    refine ⟨fun σ' H' => ∃ (as' : List Addr) (ds : List (List Nat)), Ex H3 H' ∧ H' A = some (.lst (as'.map V.ref)) ∧ ObjsAt H' as' (ds.map rowO) ∧ A ∉ as' ∧ (∀ x ∈ as', x ≠ F ∧ H x = none) ∧ NextF bs' ds ∧ σ' = [some (.ref a), some (.ref F), some (.ref q), some (.ref A), none, none, none], ?_, ?_⟩
    · have hq6 := e36.get hq3
      have twoI : ∀ i c, cs[i]? = some c → ∀ (h : 2 * i < bs'.length), (∀ (h2 : 2 * i + 1 < bs'.length), c.Perm (bs'[2 * i] ++ bs'[2 * i + 1]) ∧ (Up0 bs'[2 * i] → Up0 bs'[2 * i + 1] → Up0 c)) ∧ (¬ 2 * i + 1 < bs'.length → c = bs'[2 * i]) := fun i c hc h => ⟨fun h2 => hcs i c hc h2, fun h2 => by have := (List.getElem?_eq_some_iff.mp hc).1; omega⟩
      refine st_ifS ?_
      walk_at "go"
      rw [List.length_map, hrl]
      refine st_br2 (fun c2 => ?_) (fun c2 => ?_)
      · have hlast : bs'.length - 1 < bs'.length := by omega
        obtain ⟨r1, hr1, hv1⟩ := (hT5.ex e6).row hlast
        walk_at "go"
        refine st_ixL hq6 (at_last (n := bs'.length - 1) (by rw [List.length_map, hrl]; omega) (v := .ref r1) (by rw [List.getElem?_map, hr1]; rfl)) ?_
        walk_at "go"
        rename_i r2 H7 n7 e7 v7
        have vA7 := e7.get vA
        refine st_app vA7 (by rw [List.length_map]; omega) ?_
        have hrA : r2 ≠ A := fun z => by rw [z, vA] at n7; cases n7
        refine ⟨as ++ [r2], cs ++ [bs'[bs'.length - 1]], (e36.trans e7).mut nA3, by rw [upd_same, List.map_append]; rfl, ?_, ?_, ?_, ⟨?_, ?_⟩, rfl⟩
        · rw [List.map_append]
          refine ObjsAt.app ((oA.ex e7).up hAn) (.one ?_)
          rw [upd_ne hrA]
          exact v7
        · rw [List.mem_append, List.mem_singleton]
          rintro (z | z)
          · exact hAn z
          · exact hrA z.symm
        · intro x hx
          rcases List.mem_append.mp hx with z | z
          · exact asF x z
          · rw [List.mem_singleton.mp z]
            refine ⟨fun z2 => ?_, Ex.free (e03.trans e36) n7⟩
            rw [z2, e36.get hF] at n7
            cases n7
        · rw [List.length_append, List.length_singleton]; omega
        · intro i c hc h
          by_cases hi : i < cs.length
          · rw [List.getElem?_append_left hi] at hc
            exact twoI i c hc h
          · rw [List.getElem?_append_right (by omega)] at hc
            have hi0 : i - cs.length = 0 := by
              have := (List.getElem?_eq_some_iff.mp hc).1
              rw [List.length_singleton] at this
              omega
            rw [hi0] at hc
            cases hc
            have hb : bs'.length - 1 = 2 * i := by omega
            exact ⟨fun h2 => by omega, fun _ => by simp only [hb]⟩
      · walk_at "go"
        exact ⟨as, cs, e36, vA, oA, hAn, asF, ⟨by omega, twoI⟩, rfl⟩
    rintro σ' H7 ⟨as', ds, e37, vA7, oA7, hAn7, asF7, hN, rfl⟩
    have hF7 := e37.get hF
    walk_at "go"
    refine st_app hF7 (by rw [List.length_map]; omega) ?_
    have hh : hid F (upd H7 F (.lst (qs.map V.ref ++ [V.ref A]))) = hid F H7 := by
      funext b
      unfold hid
      by_cases h : b = F
      · rw [if_pos h, if_pos h]
      · rw [if_neg h, if_neg h, upd_ne h]
    have eh : Ex (hid F H3) (hid F H7) := hid_frp (Fr.ex e37)
    have hTA : Tbl (newO H (hid F H7)) A as' ds := ⟨newO_get (hid_get vA7 hFA) nA0, objs_in (fun b hb o h => newO_get h (asF7 b hb).2) (ObjsAt.ex' (fun x hx => (asF7 x hx).1) oA7)⟩
    refine ⟨ds.length, by have := hN.len; omega, qs ++ [A], fs ++ [ds], ds, by rw [upd_same, List.map_append]; rfl, by rw [hh]; exact eH.trans eh, ?_, ⟨?_, ?_, ?_⟩, ?_, rfl, _, _, rfl⟩
    · rw [hh]
      refine ⟨by rw [List.length_append, List.length_append, hql]; rfl, fun j q' hq' => ?_⟩
      by_cases hj : j < qs.length
      · rw [List.getElem?_append_left hj] at hq'
        obtain ⟨rs2, bs2, g1, g2⟩ := hG.tb j q' hq'
        exact ⟨rs2, bs2, by rw [List.getElem?_append_left (by omega)]; exact g1, g2.ex (newO_mono eh)⟩
      · rw [List.getElem?_append_right (by omega)] at hq'
        have hj0 : j - qs.length = 0 := by
          have := (List.getElem?_eq_some_iff.mp hq').1
          rw [List.length_singleton] at this
          omega
        rw [hj0] at hq'
        cases hq'
        exact ⟨as', ds, by rw [List.getElem?_append_right (by omega), show j - fs.length = 0 by omega]; rfl, hTA⟩
    · rw [List.length_append]; omega
    · rw [List.getElem?_append_left hne]; exact hO.fst
    · intro j b1 c1' h1 h2
      by_cases hj : j + 1 < fs.length
      · rw [List.getElem?_append_left (by omega)] at h1
        rw [List.getElem?_append_left hj] at h2
        exact hO.nxt j b1 c1' h1 h2
      · have hj2 : j + 1 = fs.length := by
          have := (List.getElem?_eq_some_iff.mp h2).1
          rw [List.length_append, List.length_singleton] at this
          omega
        rw [List.getElem?_append_left (by omega), show j = fs.length - 1 by omega, hbs] at h1
        rw [List.getElem?_append_right (by omega), show j + 1 - fs.length = 0 by omega] at h2
        cases h1
        cases h2
        exact ⟨by omega, hN⟩
    · rw [List.length_append, List.length_singleton, Nat.add_sub_cancel, List.getElem?_append_right (Nat.le_refl _), Nat.sub_self]
      rfl
def sp_lesser : Sp := fun vs H Q _ => ∃ (p : Addr) (b : List Nat) (e : Nat), vs = [.ref p, .int (e : Nat)] ∧ H p = some (.lst (b.map nV)) ∧ Up0 b ∧ b.length ≤ 1000 ∧ Q (.int (b.countP (· < e) : Nat)) H
theorem ok_lesser (T : Tx K mg ad fd tk base tc w) : FnOk P w K mg base CX0 1 (ad 18) (fd 18) ["block", "end"] sp_lesser := by
  refine T.d_lesser.F.ok sc_lesser (fun vs H Q E h => ?_) (fun cdv A outer s H vs Q E hr h => ?_)
  · obtain ⟨p, b, e, rfl, _⟩ := h
    rfl
  · obtain ⟨p, b, e, rfl, hp, hu, hl, k⟩ := h
    refine ⟨_, (pss_cons (ps_set (i := 2) sc_lesser.nd rfl (Or.inl rfl) pe_int)
      (pss_cons (ps_set (i := 3) sc_lesser.nd rfl (Or.inl rfl) (pe_callB (c_len (K := K)) (by rfl) T.b_len (by decide +kernel) (pa_cons (pv 0) pa_nil)))
      (pss_cons (ps_while PassesOwn.never (pt_cmpR o_lt (pv 2) (pv 3) (nomark _)) (pss_cons (ps_set (i := 4) sc_lesser.nd rfl (Or.inl rfl) (pe_op o_div (pe_op o_add (pv 2) (pv 3)) pe_int))
      (pss_one (ps_if (pt_cmpR o_lt (pe_ix (i_ix (K := K)) (pv 0) (pv 4) (fun _ _ => rfl)) (pv 1) (nomark _)) (pss_one (ps_set (i := 2) sc_lesser.nd rfl (Or.inl rfl) (pe_op o_add (pv 4) pe_int))) (pss_one (ps_set (i := 3) sc_lesser.nd rfl (Or.inl rfl) (pv 4)))))))
      (pss_one (ps_ret (pv 2)))))), ?_⟩
    walk_at "go"
    rw [List.length_map]
    refine while_inv (fun m σ H' => H' = H ∧ ∃ (lo hi : Nat), m = hi - lo ∧ lo ≤ hi ∧ hi ≤ b.length ∧ (∀ i, i < lo → gT b i < e) ∧ (∀ i, hi ≤ i → i < b.length → e ≤ gT b i) ∧ ∃ y, σ = [some (.ref p), some (.int (e : Nat)), some (.int (lo : Nat)), some (.int (hi : Nat)), y]) ⟨b.length, rfl, 0, b.length, rfl, Nat.zero_le _, Nat.le_refl _, fun i h => absurd h (Nat.not_lt_zero _), fun i h1 h2 => by omega, _, rfl⟩ ?_
    rintro m σ H1 ⟨rfl, lo, hi, rfl, h1, h2, h3, h4, y, rfl⟩
    walk_at "go"
    by_cases q : lo < hi
    rotate_left
    · rw [decide_eq_false (by omega)]
      refine wh_F rfl ?_
      have : lo = hi := by omega
      subst this
      rw [count_cut h2 h3 h4] at k
      walk_at "go"
      exact k
    rw [decide_eq_true (by omega)]
    refine wh_T rfl ?_
    walk_at "go"
    obtain ⟨a, ha⟩ : ∃ a : Nat, (((lo : Nat) : Int) + (hi : Nat)) / 2 = (a : Nat) := ⟨(lo + hi) / 2, by omega⟩
    rw [ha]
    have ha2 : lo ≤ a ∧ a < hi := by omega
    refine st_ixL hp (at_nV (by omega)) ?_
    unfold nV
    walk_at "go"
    refine st_br2 (fun c => ?_) (fun c => ?_)
    · walk_at "go"
      refine ⟨hi - (a + 1), by omega, rfl, a + 1, hi, rfl, by omega, h2, fun i hi2 => ?_, h4, some (.int (a : Nat)), ?_⟩
      · have := up_le hu (i := i) (j := a) (by omega) (by omega)
        omega
      · rw [show ((a + 1 : Nat) : Int) = ((a : Nat) : Int) + 1 by omega]
        rfl
    · walk_at "go"
      refine ⟨a - lo, by omega, rfl, lo, a, rfl, ha2.1, by omega, h3, fun i h5 h6 => ?_, _, rfl⟩
      have := up_le hu (i := a) (j := i) h5 h6
      omega
def TalAt (K : PySem.W.Frag) (H : Hp) (p : Addr) (l : List Nat) : Prop := ∃ (dx fa : Addr) (qs : List Addr) (fs : List (List (List Nat))), H p = some (.ins (clsA K "Tally") dx [("many", .int (l.length : Nat)), ("floors", .ref fa)]) ∧ H fa = some (.lst (qs.map V.ref)) ∧ FlG H qs fs ∧ FlO l fs ∧ (∀ bs, fs[fs.length - 1]? = some bs → bs.length ≤ 1) ∧ IsT l ∧ l.length ≤ 96
theorem TalAt.ex {K : PySem.W.Frag} {H H' : Hp} {p : Addr} {l : List Nat} (h : TalAt K H p l) (e : Ex H H') : TalAt K H' p l := by
  obtain ⟨dx, fa, qs, fs, h1, h2, h3, h4, h5⟩ := h
  exact ⟨dx, fa, qs, fs, e.get h1, e.get h2, h3.ex e, h4, h5⟩
def AsksAt (K : PySem.W.Frag) (H : Hp) (p : Addr) (l : List Nat) (m : Nat) : Prop := ∃ (dx tp ga sa : Addr), H p = some (.ins (clsA K "Asks") dx [("tall", .int (m : Nat)), ("wide", .int ((l.length - m : Nat) : Nat)), ("tally", .ref tp), ("goals", .ref ga), ("starts", .ref sa)]) ∧ TalAt K H tp l ∧ H ga = some (.lst (l.map nV)) ∧ H sa = some (.lst ((invT l).map nV)) ∧ IsT l ∧ l.length ≤ 96 ∧ m ≤ l.length
theorem AsksAt.ex {K : PySem.W.Frag} {H H' : Hp} {p : Addr} {l : List Nat} {m : Nat} (h : AsksAt K H p l m) (e : Ex H H') : AsksAt K H' p l m := by
  obtain ⟨dx, tp, ga, sa, h1, h2, h3, h4, h5⟩ := h
  exact ⟨dx, tp, ga, sa, e.get h1, h2.ex e, e.get h3, e.get h4, h5⟩
/-- how long a window is -/
def winV (l : List Nat) (m f la b e : Nat) : Int := ((e : Nat) : Int) - (b : Nat) - (cntT l (m - f + b) (m - la + e) : Nat)
structure WinOk (m w f la b e : Nat) : Prop where
  h1 : f ≤ la
  h2 : la ≤ m
  h3 : b ≤ e
  h4 : e ≤ w
  h5 : f = 0 ∨ b = 0
  h6 : la = m ∨ e = w
def sp_need_window (K : PySem.W.Frag) : Sp := fun vs H Q E => ∃ (t : Addr) (m w f la b e : Nat), vs = [.int (m : Nat), .int (w : Nat), .ref t] ∧ H t = some (.tup [.int (f : Nat), .int (la : Nat), .int (b : Nat), .int (e : Nat)]) ∧ WinOk m w f la b e ∧ Q .non H
theorem use_span {K : PySem.W.Frag} {G : Hp} {i j m : Nat} {Q : VK} {E : XK} (h1 : i ≤ j) (h2 : j ≤ m) (kk : Q .non G) : sp_need_span K [.int (i : Nat), .int (j : Nat), .int (m : Nat)] G Q E :=
  ⟨_, _, _, rfl, ⟨_, rfl⟩, ⟨_, rfl⟩, (fun h => by rw [nat_span h1 h2] at h; cases h), fun _ => kk⟩
theorem ok_need_window (T : Tx K mg ad fd tk base tc w) : FnOk P w K mg base CX0 4 (ad 19) (fd 19) ["tall", "wide", "spans"] (sp_need_window K) := by
  refine T.d_need_window.F.ok sc_need_window (fun vs H Q E h => ?_) (fun cdv A outer s H vs Q E hr h => ?_)
  · obtain ⟨t, m, w, f, la, b, e, rfl, _⟩ := h
    rfl
  · obtain ⟨t, m, w, f, la, b, e, rfl, ht, hk, k⟩ := h
    refine ⟨_, (pss_cons (ps_asg (pv 2) (pg_tup rfl (pgs_cons (pg_name (i := 3) sc_need_window.nd rfl (Or.inl rfl)) (pgs_cons (pg_name (i := 4) sc_need_window.nd rfl (Or.inl rfl)) (pgs_cons (pg_name (i := 5) sc_need_window.nd rfl (Or.inl rfl)) (pgs_cons (pg_name (i := 6) sc_need_window.nd rfl (Or.inl rfl)) pgs_nil))))))
      (pss_cons (ps_expr (pe_call (ok_need_span T) (hr.mono (by decide)) rfl T.d_need_span.g T.d_need_span.F.kp T.d_need_span.b .nil passL (pa_cons (pv 3) (pa_cons (pv 4) (pa_cons (pv 0) pa_nil)))))
      (pss_cons (ps_expr (pe_call (ok_need_span T) (hr.mono (by decide)) rfl T.d_need_span.g T.d_need_span.F.kp T.d_need_span.b .nil passL (pa_cons (pv 5) (pa_cons (pv 6) (pa_cons (pv 1) pa_nil)))))
      (pss_cons (ps_set (i := 7) sc_need_window.nd rfl (Or.inl rfl) (pe_or (pe_cmpR (o_eq hr.units) (pv 3) pe_int (nomark _)) (pe_one (pe_cmpR (o_eq hr.units) (pv 5) pe_int (nomark _)))))
      (pss_cons (ps_set (i := 8) sc_need_window.nd rfl (Or.inl rfl) (pe_or (pe_cmpR (o_eq hr.units) (pv 4) (pv 0) (nomark _)) (pe_one (pe_cmpR (o_eq hr.units) (pv 6) (pv 1) (nomark _)))))
      (pss_one (ps_if (PW.pt (pw_or (pt_not (pt_tru (pv 7) (by intro _; rfl) (K := K))) (pw_or1 (pt_not (pt_tru (pv 8) (by intro _; rfl) (K := K)))))) (pss_one ps_never) pss_nil))))))), ?_⟩
    obtain ⟨h1, h2, h3, h4, h5, h6⟩ := hk
    walk_at "go"
    refine use_span h1 h2 ?_
    walk_at "go"
    refine use_span h3 h4 ?_
    walk_at "go"
    by_cases q1 : f = 0
    · rw [decide_eq_true (by omega)]
      walk_at "go"
      by_cases q2 : la = m
      · rw [decide_eq_true (by omega)]
        walk_at "go"
        exact k
      · rw [decide_eq_false (by omega)]
        walk_at "go"
        rw [decide_eq_true (by omega)]
        walk_at "go"
        exact k
    · rw [decide_eq_false (by omega)]
      walk_at "go"
      by_cases q2 : la = m
      · rw [decide_eq_true (p := ((la : Nat) : Int) = (m : Nat)) (by omega)]
        walk_at "go"
        rw [decide_eq_true (p := ((b : Nat) : Int) = 0) (by omega)]
        walk_at "go"
        exact k
      · rw [decide_eq_false (p := ((la : Nat) : Int) = (m : Nat)) (by omega)]
        walk_at "go"
        rw [decide_eq_true (p := ((b : Nat) : Int) = 0) (by omega)]
        walk_at "go"
        rw [decide_eq_true (p := ((e : Nat) : Int) = (w : Nat)) (by omega)]
        walk_at "go"
        exact k
def sp_Tally_init (K : PySem.W.Frag) : Sp := fun vs H Q E => ∃ (p dx : Addr) (x : V) (d : PyData), vs = [.ref p, x] ∧ H p = some (.ins (clsA K "Tally") dx []) ∧ Rn H x d ∧ (¬ TurnD d → RaF K E H "NoTurning" [("found", x)]) ∧ (∀ l : List Nat, (d = .list (l.map encN) ∨ d = .tuple (l.map encN)) → IsT l → l.length ≤ 96 → ∀ H', Fr (fun b => b = p) H H' → (∀ G, (∀ b o, (H b = none ∨ b = p) → H' b = some o → G b = some o) → TalAt K G p l) → Q .non H')
theorem use_tally {K : PySem.W.Frag} {G : Hp} {p dx : Addr} {x : V} {d : PyData} {l : List Nat} {Q : VK} {E : XK} (hp : G p = some (.ins (clsA K "Tally") dx [])) (hx : Rn G x d) (hd : d = .list (l.map encN) ∨ d = .tuple (l.map encN)) (hl : IsT l) (hl2 : l.length ≤ 96)
    (kk : ∀ G', Fr (fun b => b = p) G G' → (∀ G2, (∀ b o, (G b = none ∨ b = p) → G' b = some o → G2 b = some o) → TalAt K G2 p l) → Q .non G') : sp_Tally_init K [.ref p, x] G Q E :=
  ⟨p, dx, x, d, rfl, hp, hx, fun h => absurd ⟨l, hd, hl, hl2⟩ h, fun m hm _ _ => by
    have : m = l := by
      rcases hd with e | e <;> rcases hm with q | q <;> rw [e] at q
      · injection q with q; exact (encN_inj q).symm
      · cases q
      · cases q
      · injection q with q; exact (encN_inj q).symm
    subst this
    exact kk⟩
theorem ok_Tally_init (T : Tx K mg ad fd tk base tc w) : FnOk P w K mg base (L2.CX P w) 5 (ad 20) (fd 20) ["self", "turning"] (sp_Tally_init K) := by
  refine T.d_Tally_init.F.okX sc_Tally_init (fun vs H Q E h => ?_) (fun cdv A outer s H vs Q E hr h => ?_)
  · obtain ⟨p, dx, x, d, rfl, _⟩ := h
    rfl
  · obtain ⟨p, dx, x, d, rfl, hp, hx, k0, k1⟩ := h
    refine ⟨_, (pss_cons (ps_expr (pe_call (ok_need_turning T) (hr.mono (by decide)) rfl T.d_need_turning.g T.d_need_turning.F.kp T.d_need_turning.b .nil (passes_call (takes_of rfl rfl rfl rfl) (fun _ _ _ _ h => h)) (pa_cons (pv 1) pa_nil)))
      (pss_cons (ps_fldK (K := K) (pv 0) (pe_callB (c_len (K := K)) (by rfl) T.b_len (by decide +kernel) (pa_cons (pv 1) pa_nil)) rfl)
      (pss_one (ps_fldK (K := K) (pv 0) (pe_call (ok_floors_of T) (hr.mono (by decide)) rfl T.d_floors_of.g T.d_floors_of.F.kp T.d_floors_of.b .nil pass0 (pa_cons (pv 1) pa_nil)) rfl)))), ?_⟩
    walk_at "go"
    refine ⟨x, d, rfl, hx, k0, fun hT H1 e1 => ?_⟩
    obtain ⟨l, hd, hl, hl2⟩ := hT
    have k2 := k1 l hd hl hl2
    obtain ⟨a, rfl, hs⟩ := TurnD.seq hx hd
    have hs1 := seqAt_ex e1 hs
    have hp1 := e1.get hp
    clear k0 k1
    have hpa : a ≠ p := fun z => by
      unfold seqAt at hs
      rw [z, hp] at hs
      cases hs
    walk_at "go"
    refine st_lenQ hs1 ?_
    rw [List.length_map]
    walk_at "go"
    rw [putF_nil]
    have v2 : upd H1 p (.ins (clsA K "Tally") dx [("many", .int (l.length : Nat))]) p = some (.ins (clsA K "Tally") dx [("many", .int (l.length : Nat))]) := upd_same
    have f2 : Fr (fun b => b = p) H (upd H1 p (.ins (clsA K "Tally") dx [("many", .int (l.length : Nat))])) := (Fr.ex e1).trans FrP.at
    have hs2 : seqAt (upd H1 p (.ins (clsA K "Tally") dx [("many", .int (l.length : Nat))])) a = some (l.map nV) := by
      unfold seqAt
      rw [upd_ne hpa]
      exact hs1
    generalize upd H1 p (.ins (clsA K "Tally") dx [("many", .int (l.length : Nat))]) = H2 at v2 f2 hs2 ⊢
    walk_at "go"
    refine ⟨a, l, rfl, hs2, hl2, fun fa qs fs H3 e3 n3 v3 g3 o3 z3 => ?_⟩
    have v23 := e3.get v2
    walk_at "go"
    rw [putF_ne (by decide +kernel), putF_nil]
    have nq : fa ≠ p := fun z => by rw [z, v2] at n3; cases n3
    have old : ∀ {c b : Addr}, (H c ≠ none ∨ c = p) → H2 b = none → b ≠ c := fun {c b} h nb z => by
      subst z
      rcases h with h | h
      · by_cases q : b = p
        · rw [q, v2] at nb; cases nb
        · cases hc : H b with
          | none => exact h hc
          | some o => rw [f2.get q hc] at nb; cases nb
      · rw [h, v2] at nb; cases nb
    have vfa : upd H3 p (.ins (clsA K "Tally") dx [("many", .int (l.length : Nat)), ("floors", .ref fa)]) fa = some (.lst (qs.map V.ref)) := by rw [upd_ne nq]; exact v3
    have nfa : H fa = none := by
      cases hc : H fa with
      | none => rfl
      | some o => exact absurd rfl (old (c := fa) (.inl (by rw [hc]; simp)) n3)
    refine k2 _ (f2.trans ((Fr.ex e3).trans FrP.at)) fun G hG => ?_
    refine ⟨dx, fa, qs, fs, hG p _ (.inr rfl) upd_same, hG fa _ (.inl nfa) vfa, g3.ex (newO_fr fun b o nb h => ?_), o3, z3, hl, hl2⟩
    have hbp := old (c := p) (.inr rfl) nb
    refine hG b o (.inl ?_) (by rw [upd_ne hbp]; exact h)
    cases hc : H b with
    | none => rfl
    | some o => exact absurd rfl (old (c := b) (.inl (by rw [hc]; simp)) nb)
def sp_Asks_init (K : PySem.W.Frag) : Sp := fun vs H Q E => ∃ (p dx : Addr) (x : V) (d : PyData) (l : List Nat) (m : Nat), vs = [.ref p, x, .int (m : Nat)] ∧ H p = some (.ins (clsA K "Asks") dx []) ∧ Rn H x d ∧ (d = .list (l.map encN) ∨ d = .tuple (l.map encN)) ∧ (IsT l ∧ l.length ≤ 96) ∧ m ≤ l.length ∧ ∀ H', Fr (fun b => b = p) H H' → (∀ G, (∀ b o, (H b = none ∨ b = p) → H' b = some o → G b = some o) → AsksAt K G p l m) → Q .non H'
theorem ok_Asks_init (T : Tx K mg ad fd tk base tc w) : FnOk P w K mg base CX0 7 (ad 21) (fd 21) ["self", "lines", "many"] (sp_Asks_init K) := by
  refine T.d_Asks_init.F.ok sc_Asks_init (fun vs H Q E h => ?_) (fun cdv A outer s H vs Q E hr h => ?_)
  · obtain ⟨p, dx, x, d, l, m, rfl, _⟩ := h
    rfl
  · obtain ⟨p, dx, x, d, l, m, rfl, hp, hx, hd, hl, hm, k⟩ := h
    refine ⟨_, (pss_cons (ps_expr (pe_call (ok_need_turning T) (hr.mono (by decide)) rfl T.d_need_turning.g T.d_need_turning.F.kp T.d_need_turning.b .nil passL (pa_cons (pv 1) pa_nil)))
      (pss_cons (ps_expr (pe_call (ok_need_place T) (hr.mono (by decide)) rfl T.d_need_place.g T.d_need_place.F.kp T.d_need_place.b .nil passL (pa_cons (pv 2) (pa_cons (pe_callB (c_len (K := K)) (by rfl) T.b_len (by decide +kernel) (pa_cons (pv 1) pa_nil)) pa_nil))))
      (pss_cons (ps_fldK (K := K) (pv 0) (pv 2) rfl)
      (pss_cons (ps_fldK (K := K) (pv 0) (pe_op o_sub (pe_callB (c_len (K := K)) (by rfl) T.b_len (by decide +kernel) (pa_cons (pv 1) pa_nil)) (pv 2)) rfl)
      (pss_cons (ps_fldK (K := K) (pv 0) (pe_make T.m_Tally (ok_Tally_init T) (hr.mono (by decide)) rfl T.mg_Tally T.d_Tally_init.b .nil passL (pa_cons (pv 1) pa_nil)) rfl)
      (pss_cons (ps_fldK (K := K) (pv 0) (pe_callTy (c_list rfl (K := K)) (by rfl) T.b_list (by decide +kernel) (pa_cons (pv 1) pa_nil)) rfl)
      (pss_one (ps_fldK (K := K) (pv 0) (pe_call (ok_opposite T) (hr.mono (by decide)) rfl T.d_opposite.g T.d_opposite.F.kp T.d_opposite.b .nil passL (pa_cons (pv 1) pa_nil)) rfl)))))))), ?_⟩
    obtain ⟨hl, hl2⟩ := hl
    have hTD : TurnD d := ⟨l, hd, hl, hl2⟩
    obtain ⟨a, rfl, hs⟩ := TurnD.seq hx hd
    have hpa : a ≠ p := fun z => by
      unfold seqAt at hs
      rw [z, hp] at hs
      cases hs
    walk_at "go"
    refine ⟨_, d, rfl, hx, fun h => absurd hTD h, fun _ H1 e1 => ?_⟩
    have hs1 := seqAt_ex e1 hs
    have hp1 := e1.get hp
    have hx1 := hx.ex e1
    walk_at "go"
    refine st_lenQ hs1 ?_
    rw [List.length_map]
    walk_at "go"
    refine ⟨_, _, rfl, ⟨_, rfl⟩, fun h => nat_no hm h, fun _ => ?_⟩
    walk_at "go"
    rw [putF_nil]
    -- from here on all but p stands; what is new is told by newO
    have hpx : ∀ {G : Hp}, Fr (fun b => b = p) H1 G → seqAt G a = some (l.map nV) := fun f => seqAt_eq hs1 (seqAt_same' f hpa hs1)
    have v2 : upd H1 p (.ins (clsA K "Asks") dx [("tall", .int (m : Nat))]) p = some (.ins (clsA K "Asks") dx [("tall", .int (m : Nat))]) := upd_same
    have f2 : Fr (fun b => b = p) H1 (upd H1 p (.ins (clsA K "Asks") dx [("tall", .int (m : Nat))])) := FrP.at
    generalize upd H1 p (.ins (clsA K "Asks") dx [("tall", .int (m : Nat))]) = H2 at v2 f2 ⊢
    walk_at "go"
    refine st_lenQ (hpx f2) ?_
    rw [List.length_map]
    walk_at "go"
    rw [putF_ne (by decide +kernel), putF_nil, show ((l.length : Nat) : Int) - (m : Nat) = ((l.length - m : Nat) : Int) by omega]
    have v3 : upd H2 p (.ins (clsA K "Asks") dx [("tall", .int (m : Nat)), ("wide", .int ((l.length - m : Nat) : Nat))]) p = some (.ins (clsA K "Asks") dx [("tall", .int (m : Nat)), ("wide", .int ((l.length - m : Nat) : Nat))]) := upd_same
    have f3 : Fr (fun b => b = p) H1 (upd H2 p (.ins (clsA K "Asks") dx [("tall", .int (m : Nat)), ("wide", .int ((l.length - m : Nat) : Nat))])) := f2.trans FrP.at
    generalize upd H2 p (.ins (clsA K "Asks") dx [("tall", .int (m : Nat)), ("wide", .int ((l.length - m : Nat) : Nat))]) = H3 at v3 f3 ⊢
    have hx3 : ∀ {G : Hp}, Fr (fun b => b = p) H1 G → Rn G (.ref a) d := fun {G} f => by
      rcases hd with rfl | rfl
      · obtain ⟨s, xs, e, h1, h2⟩ := hx1.listAt
        cases e
        rw [seq_l h1] at hs1
        rw [Option.some.inj hs1] at h1
        exact .lst (f.get hpa h1) (rnA_map (val := nV) (enc := encN) fun _ _ => .int _)
      · obtain ⟨s, xs, e, h1, h2⟩ := hx1.tupAt
        cases e
        rw [seq_t h1] at hs1
        rw [Option.some.inj hs1] at h1
        exact .tup (f.get hpa h1) (rnA_map (val := nV) (enc := encN) fun _ _ => .int _)
    walk_at "go"
    refine st_makeP fun tp dxt H4 ntp e4 v4 => ?_
    have f4 := f3.trans (Fr.ex e4)
    have v34 := e4.get v3
    have hpt : p ≠ tp := fun z => by rw [← z, v3] at ntp; cases ntp
    refine use_tally v4 (hx3 f4) hd hl hl2 fun H5 f5 tal => ?_
    refine ⟨rfl, ?_⟩
    have e35 : Ex H3 H5 := Ex.comp (M := fun b => b = tp) e4 f5 fun b hb => by rw [hb]; exact ntp
    have v5 := e35.get v3
    have f15 := f3.trans (Fr.ex e35)
    walk_at "go"
    rw [putF_ne (by decide +kernel), putF_ne (by decide +kernel), putF_nil]
    obtain ⟨o6, ho6⟩ : ∃ o6, o6 = HO.ins (clsA K "Asks") dx [("tall", .int (m : Nat)), ("wide", .int ((l.length - m : Nat) : Nat)), ("tally", .ref tp)] := ⟨_, rfl⟩
    rw [← ho6]
    have v6 : upd H5 p o6 p = some o6 := upd_same
    have f56 : Fr (fun b => b = p) H5 (upd H5 p o6) := FrP.at
    generalize upd H5 p o6 = H6 at v6 f56 ⊢
    subst ho6
    have f16 := f15.trans f56
    walk_at "go"
    refine st_listQ (hpx f16) ?_
    intro ga H7 nga e7 v7
    have v67 := e7.get v6
    have hpg : ga ≠ p := fun z => by rw [z, v6] at nga; cases nga
    walk_at "go"
    rw [putF_ne (by decide +kernel), putF_ne (by decide +kernel), putF_ne (by decide +kernel), putF_nil]
    obtain ⟨o8, ho8⟩ : ∃ o8, o8 = HO.ins (clsA K "Asks") dx [("tall", .int (m : Nat)), ("wide", .int ((l.length - m : Nat) : Nat)), ("tally", .ref tp), ("goals", .ref ga)] := ⟨_, rfl⟩
    rw [← ho8]
    have v8 : upd H7 p o8 p = some o8 := upd_same
    have f78 : Fr (fun b => b = p) H7 (upd H7 p o8) := FrP.at
    generalize upd H7 p o8 = H8 at v8 f78 ⊢
    subst ho8
    have f18 := (f16.trans (Fr.ex e7)).trans f78
    walk_at "go"
    refine ⟨_, d, rfl, hx3 f18, fun h => absurd hTD h, fun l' hl' _ _ sa H9 e9 n9 v9 => ?_⟩
    have hll : l' = l := by
      rcases hd with e | e <;> rcases hl' with q | q <;> rw [e] at q
      · injection q with q; exact (encN_inj q).symm
      · cases q
      · cases q
      · injection q with q; exact (encN_inj q).symm
    subst hll
    have v89 := e9.get v8
    have hps : sa ≠ p := fun z => by rw [z, v8] at n9; cases n9
    walk_at "go"
    rw [putF_ne (by decide +kernel), putF_ne (by decide +kernel), putF_ne (by decide +kernel), putF_ne (by decide +kernel), putF_nil]
    have fH1 : Fr (fun b => b = p) H H1 := Fr.ex e1
    refine k _ (((fH1.trans f18).trans (Fr.ex e9)).trans FrP.at) fun G hG => ?_
    -- what was free behind the start was free at the start
    have fr : ∀ {G' : Hp} {b : Addr}, Fr (fun b => b = p) H G' → G' p ≠ none → G' b = none → H b = none := fun {G' b} f hp' hb => by
      by_cases q : b = p
      · exact absurd (by rw [← q]; exact hb) hp'
      · exact f.free q hb
    have last : ∀ {b : Addr} {o : HO}, b ≠ p → H9 b = some o → H b = none → G b = some o := fun {b o} hb h n => hG b o (.inl n) (by rw [upd_ne hb]; exact h)
    have f59 : Fr (fun b => b = p) H5 H9 := ((f56.trans (Fr.ex e7)).trans f78).trans (Fr.ex e9)
    refine ⟨dx, tp, ga, sa, hG p _ (.inr rfl) upd_same, tal G fun b o hb h => ?_, last hpg ((f78.trans (Fr.ex e9)).get hpg v7) (fr (fH1.trans f16) (by rw [v6]; simp) nga), last hps v9 (fr (fH1.trans f18) (by rw [v8]; simp) n9), hl, hl2, hm⟩
    have hbp : b ≠ p := fun z => by
      rcases hb with q | q
      · rw [z, v34] at q; cases q
      · exact hpt (z.symm.trans q)
    refine last hbp (f59.get hbp h) ?_
    rcases hb with q | q
    · exact fr (fH1.trans f4) (by rw [v34]; simp) q
    · rw [q]
      exact fr (fH1.trans f3) (by rw [v3]; simp) ntp
def bR (s t : List Nat) (i j a b : Nat) : Bool := decide (s[i]? ≠ t[j]?) && decide (a < b)
/-- a board that is made -/
structure BrdAt (K : PySem.W.Frag) (H : Hp) (p : Addr) (s t : Str) : Prop where
  ex : ∃ dx me sg go, H p = some (.ins (clsA K "Board") dx [("left_row", .str s), ("upper_row", .str t), ("meetings", .ref me), ("signs", .ref sg), ("goals", .ref go)]) ∧ LedAt H me sg go (bR s.cps.toList t.cps.toList) s.length t.length
theorem tabs_fr {T : List (Addr × Str)} {H H' : Hp} {p C dx : Addr} {fs : List (Str × V)} (t : LamX.Tabs T H) (e : FrP p H H') (hp : H p = some (.ins C dx fs)) : LamX.Tabs T H' := fun q hq => by
  obtain ⟨ps, h1, h2, h3⟩ := t q hq
  refine ⟨ps, e.get (fun z => by rw [z, hp] at h1; cases h1) h1, h2, fun pos cv hc => ?_⟩
  obtain ⟨c, e1, e2⟩ := h3 pos cv hc
  exact ⟨c, e1, e.get (fun z => by rw [z, hp] at e2; unfold CodeO at e2; cases e2) e2⟩
theorem LedAt.frp {H H' : Hp} {p C dx : Addr} {fs : List (Str × V)} {me sg go : Addr} {r : Nat → Nat → Nat → Nat → Bool} {m n : Nat} (h : LedAt H me sg go r m n) (e : FrP p H H') (hp : H p = some (.ins C dx fs)) : LedAt H' me sg go r m n := by
  have nl : ∀ {b : Addr} {xs : List V}, H b = some (.lst xs) → ¬ b = p := fun h z => by rw [z, hp] at h; cases h
  have nt : ∀ {b : Addr} {xs : List V}, H b = some (.tup xs) → ¬ b = p := fun h z => by rw [z, hp] at h; cases h
  obtain ⟨rs, h1, h2, h3⟩ := h.me
  refine ⟨e.get (nl h.go) h.go, e.get (nl h.sg) h.sg, rs, e.get (nl h1) h1, h2, fun i row hr => ?_⟩
  obtain ⟨zs, a, b, c⟩ := h3 i row hr
  exact ⟨zs, e.get (nl a) a, fun z hz => e.get (nt (b z hz)) (b z hz), c⟩
def sp_Board_init (K : PySem.W.Frag) (TL : List (Addr × Str)) : Sp := fun vs H Q E => ∃ (p dx : Addr) (x y : V), vs = [.ref p, x, y] ∧ H p = some (.ins (clsA K "Board") dx []) ∧ LamX.Tabs TL H ∧ Rows2 K E H x y fun s t => ∀ H', Fr (fun b => b = p) (noT H) H' → LamX.Tabs TL H' → BrdAt K H' p s t → Q .non H'
theorem ok_Board_init (T : Tx K mg ad fd tk base tc w) : FnOk P w K mg base (L2.CX P w) 5 (ad 22) (fd 22) ["self", "side", "top"] (sp_Board_init K (tabsL tc)) := by
  refine T.fc_Board_init.okX sc_Board_init (fun vs H Q E h => ?_) (fun A outer s H vs Q E hr h => ?_)
  · obtain ⟨p, dx, x, y, rfl, _⟩ := h
    rfl
  · obtain ⟨p, dx, x, y, rfl, hp, hT, hR⟩ := h
    refine ⟨_, (pss_cons (ps_expr (pe_call (ok_need_rows T) (hr.mono (by decide)) rfl T.d_need_rows.g T.d_need_rows.F.kp T.d_need_rows.b .nil (passes_call (takes_of rfl rfl rfl rfl) (fun _ _ _ _ h => h)) (pa_cons (pv 1) (pa_cons (pv 2) pa_nil))))
      (pss_cons (ps_fldK (K := K) (pv 0) (pv 1) rfl)
      (pss_cons (ps_fldK (K := K) (pv 0) (pv 2) rfl)
      (pss_cons (ps_set (i := 3) sc_Board_init.nd rfl (Or.inl rfl) (pe_lamb (T := tabsL tc) (params := lamA L_Board_init) (body := lamB L_Board_init) (scope := lamSc L_Board_init) T.tb_Board_init rfl tabs_m_Board_init (tabs_u_Board_init T) rfl (ndef_free (fr := ["side", "top"]) ndf_Board_init)))
      (pss_cons (ps_asg (pe_callCb (mk := fun c => ⟨q_Board_init, lamA L_Board_init, lamB L_Board_init, lamSc L_Board_init, cloFrom _ (lamSc L_Board_init).names [], c⟩) (js := [1, 2]) (ok_led T) (fun _ _ => lok_t (k := 0) (N := ["row", "column", "across", "above", "side", "top"]) (ps := ["row", "column", "across", "above"]) (fr := ["side", "top"]) (nscope_by nsc_Board_init) (fun _ _ us hl => match us, hl with | [_, _, _, _], _ => rfl) (fun _ _ _ _ hr => (pe_and (pe_cmpR (o_ne hr.units) (pe_ix (i_ix (K := K)) (pv 4) (pv 0) (fun _ _ => rfl)) (pe_ix (i_ix (K := K)) (pv 5) (pv 1) (fun _ _ => rfl)) (nomark _)) (pe_one (pe_cmpR o_lt (pv 2) (pv 3) (nomark _)))))) (fun _ => rfl) (fun ok => Caps.made (scope := lamSc L_Board_init) ok (ndef_free (fr := ["side", "top"]) ndf_Board_init) (ndef_fr (fr := ["side", "top"]) ndf_Board_init) rfl) (hr.mono (by decide)) rfl T.d_led.g T.d_led.F.kp T.d_led.b (pa_cons (pe_callB (c_len (K := K)) (by rfl) T.b_len (by decide +kernel) (pa_cons (pv 1) pa_nil)) (pa_cons (pe_callB (c_len (K := K)) (by rfl) T.b_len (by decide +kernel) (pa_cons (pv 2) pa_nil)) (pa_cons (pv 3) pa_nil)))) (pg_tup rfl (pgs_cons (pg_name (i := 4) sc_Board_init.nd rfl (Or.inl rfl)) (pgs_cons (pg_name (i := 5) sc_Board_init.nd rfl (Or.inl rfl)) (pgs_cons (pg_name (i := 6) sc_Board_init.nd rfl (Or.inl rfl)) pgs_nil)))))
      (pss_cons (ps_fldK (K := K) (pv 0) (pv 4) rfl)
      (pss_cons (ps_fldK (K := K) (pv 0) (pv 5) rfl)
      (pss_one (ps_fldK (K := K) (pv 0) (pv 6) rfl))))))))), ?_⟩
    walk_at "go"
    refine ⟨x, y, rfl, hR.imp fun s t ex ey hs ht k H1 e1 => ?_⟩
    subst ex ey
    have hs1 := hs.len
    have ht1 := ht.len
    have hsl : s.cps.toList.length = s.length := Array.length_toList
    have htl : t.cps.toList.length = t.length := Array.length_toList
    have hp1 := e1.get hp
    have hT1 : LamX.Tabs (tabsL tc) H1 := hT.ext fun b o h => e1.get h
    walk_at "go"
    rw [putF_nil, putF_ne (by decide +kernel), putF_nil]
    have v2 : upd (upd H1 p (.ins (clsA K "Board") dx [("left_row", .str s)])) p (.ins (clsA K "Board") dx [("left_row", .str s), ("upper_row", .str t)]) p = some (.ins (clsA K "Board") dx [("left_row", .str s), ("upper_row", .str t)]) := upd_same
    have f2 : FrP p H1 (upd (upd H1 p (.ins (clsA K "Board") dx [("left_row", .str s)])) p (.ins (clsA K "Board") dx [("left_row", .str s), ("upper_row", .str t)])) := FrP.at.trans FrP.at
    generalize upd (upd H1 p (.ins (clsA K "Board") dx [("left_row", .str s)])) p (.ins (clsA K "Board") dx [("left_row", .str s), ("upper_row", .str t)]) = H2 at v2 f2 ⊢
    have hT2 := tabs_fr hT1 f2 hp1
    refine st_lamb hT2 fun fl c' H3 e3 nn3 hT3 n3 l3 c3 => ?_
    have v3 := e3.get v2
    walk_at "go"
    have hc3 := hT3
    refine ⟨fl, c', s.length, t.length, rfl, l3, c3, by omega, by omega, bR s.cps.toList t.cps.toList, ?_, ?_⟩
    · intro i j a b H' Q' hi hj ha hb e q
      refine ⟨rfl, ?_⟩
      have g1 := List.getElem?_eq_getElem (l := s.cps.toList) (i := i) (by omega)
      have g2 := List.getElem?_eq_getElem (l := t.cps.toList) (i := j) (by omega)
      walk_at "go"
      refine st_sign (by omega) (at_nat g1) ?_
      walk_at "go"
      refine st_sign (by omega) (at_nat g2) ?_
      walk_at "go"
      by_cases hq : s.cps.toList[i]'(by omega) = t.cps.toList[j]'(by omega)
      · rw [if_neg (by rw [hq]; simp)]
        have : bR s.cps.toList t.cps.toList i j a b = false := by
          unfold bR
          rw [g1, g2, hq]
          simp
        rw [← this]
        exact q
      · rw [if_pos (by simp only [tx_inj, List.cons.injEq, and_true, hq, decide_false, Bool.not_false])]
        walk_at "go"
        have : bR s.cps.toList t.cps.toList i j a b = decide ((a : Int) < (b : Int)) := by
          unfold bR
          have z : ¬ (some (s.cps.toList[i]'(by omega)) = some (t.cps.toList[j]'(by omega))) := fun e => hq (Option.some.inj e)
          rw [g1, g2, decide_eq_true (p := _ ≠ _) z, Bool.true_and]
          simp
        rw [← this]
        exact q
    intro t4 me sg go H4 e4 n4 v4 hL _
    walk_at "go"
    rw [putF_ne (by decide +kernel), putF_ne (by decide +kernel), putF_nil, putF_ne (by decide +kernel), putF_ne (by decide +kernel), putF_ne (by decide +kernel), putF_nil, putF_ne (by decide +kernel), putF_ne (by decide +kernel), putF_ne (by decide +kernel), putF_ne (by decide +kernel), putF_nil]
    have v5 : H4 p = _ := e4.get v3
    have f3 : Fr (fun b => b = p) (noT H) H3 := fun b o n h => e3 b o (f2 b o n (e1 b o (fun z => z) (noT_of h).1)) (noT_of h).2
    refine k _ ((f3.trans (Fr.ex e4)).trans ((FrP.at.trans FrP.at).trans FrP.at)) (tabs_fr (hT3.ext fun b o h => e4.get h) ((FrP.at.trans FrP.at).trans FrP.at) v5) ⟨dx, me, sg, go, upd_same, hL.frp ((FrP.at.trans FrP.at).trans FrP.at) v5⟩
theorem invT_one {m n : Nat} {r : Nat → Nat → Nat → Nat → Bool} : IsT (invT (ledE r m n)) := (ledE_T r m n).inv
/-- where each line ends -/
def brdL (s t : Str) : List Nat := invT (ledE (bR s.cps.toList t.cps.toList) s.length t.length)
theorem brdL_len (s t : Str) : (brdL s t).length = s.length + t.length := by unfold brdL; rw [invT_len, ledE_len]
theorem brdL_T (s t : Str) : IsT (brdL s t) := invT_one
def sp_Board_lines (K : PySem.W.Frag) : Sp := fun vs H Q E => ∃ (p : Addr) (s t : Str), vs = [.ref p] ∧ BrdAt K H p s t ∧ ∀ D H', Ex H H' → H D = none → H' D = some (.lst ((brdL s t).map nV)) → Q (.ref D) H'
theorem ok_Board_lines (T : Tx K mg ad fd tk base tc w) : FnOk P w K mg base CX0 1 (ad 23) (fd 23) ["self"] (sp_Board_lines K) := by
  refine T.d_Board_lines.F.ok sc_Board_lines (fun vs H Q E h => ?_) (fun cdv A outer s H vs Q E hr h => ?_)
  · obtain ⟨p, s, t, rfl, _⟩ := h
    rfl
  · obtain ⟨p, s, t, rfl, hp, k⟩ := h
    refine ⟨_, (pss_one (ps_ret (pe_callTy (c_list rfl (K := K)) (by rfl) T.b_list (by decide +kernel) (pa_cons (pe_fldK (K := K) (pv 0) rfl) pa_nil)))), ?_⟩
    obtain ⟨dx, me, sg, go, g1, g2⟩ := hp.ex
    have g3 := g2.go
    walk_at "go"
    rename_i D H1 n1 e1 v1
    exact k D H1 e1 n1 v1
/-- the length of the longest thread of the first i signs of s and the first j of t -/
def Lc (s t : List Nat) : Nat → Nat → Nat
  | 0, _ => 0
  | _ + 1, 0 => 0
  | i + 1, j + 1 => if s[i]? = t[j]? then Lc s t i j + 1 else max (Lc s t i (j + 1)) (Lc s t (i + 1) j)
termination_by i j => i + j
theorem Lc_i0 (s t : List Nat) (j : Nat) : Lc s t 0 j = 0 := by unfold Lc; rfl
theorem Lc_j0 (s t : List Nat) (i : Nat) : Lc s t i 0 = 0 := by cases i <;> (unfold Lc; rfl)
theorem Lc_ss (s t : List Nat) (i j : Nat) : Lc s t (i + 1) (j + 1) = if s[i]? = t[j]? then Lc s t i j + 1 else max (Lc s t i (j + 1)) (Lc s t (i + 1) j) := by
  rw [Lc]
theorem Lc_near (s t : List Nat) : ∀ n i j : Nat, i + j ≤ n → (Lc s t i j ≤ Lc s t (i + 1) j ∧ Lc s t (i + 1) j ≤ Lc s t i j + 1) ∧ Lc s t i j ≤ Lc s t i (j + 1) ∧ Lc s t i (j + 1) ≤ Lc s t i j + 1
  | 0, i, j, h => by
    obtain ⟨rfl, rfl⟩ : i = 0 ∧ j = 0 := by omega
    simp [Lc_i0, Lc_j0]
  | n + 1, i, j, h => by
    have hv : Lc s t i j ≤ Lc s t (i + 1) j ∧ Lc s t (i + 1) j ≤ Lc s t i j + 1 := by
      cases j with
      | zero => simp [Lc_j0]
      | succ j =>
        have ih := Lc_near s t n i j (by omega)
        rw [Lc_ss]
        split <;> omega
    have hh : Lc s t i j ≤ Lc s t i (j + 1) ∧ Lc s t i (j + 1) ≤ Lc s t i j + 1 := by
      cases i with
      | zero => simp [Lc_i0]
      | succ i =>
        have ih := Lc_near s t n i j (by omega)
        rw [Lc_ss]
        split <;> omega
    exact ⟨hv, hh⟩
theorem Lc_up (s t : List Nat) (i j : Nat) : Lc s t i j ≤ Lc s t (i + 1) j := (Lc_near s t _ i j (Nat.le_refl _)).1.1
theorem Lc_up1 (s t : List Nat) (i j : Nat) : Lc s t (i + 1) j ≤ Lc s t i j + 1 := (Lc_near s t _ i j (Nat.le_refl _)).1.2
theorem Lc_ri (s t : List Nat) (i j : Nat) : Lc s t i j ≤ Lc s t i (j + 1) := (Lc_near s t _ i j (Nat.le_refl _)).2.1
theorem Lc_ri1 (s t : List Nat) (i j : Nat) : Lc s t i (j + 1) ≤ Lc s t i j + 1 := (Lc_near s t _ i j (Nat.le_refl _)).2.2
theorem Lc_le (s t : List Nat) : ∀ i j : Nat, Lc s t i j ≤ i ∧ Lc s t i j ≤ j := fun i j => by
  constructor
  · induction i with
    | zero => rw [Lc_i0]; exact Nat.le_refl _
    | succ i ih => have := Lc_up1 s t i j; omega
  · induction j with
    | zero => rw [Lc_j0]; exact Nat.le_refl _
    | succ j ih => have := Lc_ri1 s t i j; omega
/-- the first m numbers of the row i of the lengths -/
def lcRow (s t : List Nat) (m i : Nat) : List V := (List.range m).map fun j => V.int (Lc s t i j : Nat)
theorem lcRow_len (s t : List Nat) (m i : Nat) : (lcRow s t m i).length = m := by simp [lcRow]
theorem lcRow_at {s t : List Nat} {m i j : Nat} (h : j < m) : (lcRow s t m i)[j]? = some (V.int (Lc s t i j : Nat)) := by
  unfold lcRow
  rw [List.getElem?_map, List.getElem?_range h]
  rfl
theorem lcRow_atI {s t : List Nat} {m i j : Nat} (h : j < m) : atI (lcRow s t m i) (j : Int) = some (V.int (Lc s t i j : Nat)) := by
  unfold atI
  rw [Evl.ixN_nat (by rw [lcRow_len]; exact h)]
  exact lcRow_at h
theorem lcRow_more (s t : List Nat) (m i : Nat) : lcRow s t (m + 1) i = lcRow s t m i ++ [V.int (Lc s t i m : Nat)] := by
  unfold lcRow
  rw [List.range_succ, List.map_append]
  rfl
theorem lcRow_zero (s t : List Nat) (m : Nat) : lcRow s t m 0 = (List.replicate m [V.int 0]).flatten := by
  induction m with
  | zero => rfl
  | succ m ih =>
    rw [lcRow_more, ih, Lc_i0, List.replicate_succ', List.flatten_append]
    rfl
/-- a new list of new lists, all of them apart -/
structure TabAt (H0 H : Hp) (p : Addr) (rs : List Addr) (row : Nat → List V) : Prop where
  new : H0 p = none
  at_ : H p = some (.lst (rs.map V.ref))
  non : p ∉ rs
  nd : rs.Nodup
  news : ∀ r ∈ rs, H0 r = none
  rows : ∀ k r, rs[k]? = some r → H r = some (.lst (row k))
theorem TabAt.ex {H0 H H' : Hp} {p : Addr} {rs : List Addr} {row : Nat → List V} (T : TabAt H0 H p rs row) (e : Ex H H') : TabAt H0 H' p rs row :=
  ⟨T.new, e.get T.at_, T.non, T.nd, T.news, fun k r h => e.get (T.rows k r h)⟩
theorem Lc_mono (s t : List Nat) {i i' j j' : Nat} (hi : i ≤ i') (hj : j ≤ j') : Lc s t i j ≤ Lc s t i' j' := by
  have h1 : ∀ d i, Lc s t i j ≤ Lc s t (i + d) j := by
    intro d
    induction d with
    | zero => intro i; exact Nat.le_refl _
    | succ d ih => intro i; exact Nat.le_trans (ih i) (Lc_up s t (i + d) j)
  have h2 : ∀ d j, Lc s t i' j ≤ Lc s t i' (j + d) := by
    intro d
    induction d with
    | zero => intro j; exact Nat.le_refl _
    | succ d ih => intro j; exact Nat.le_trans (ih j) (Lc_ri s t i' (j + d))
  have a := h1 (i' - i) i
  have b := h2 (j' - j) j
  rw [show i + (i' - i) = i' by omega] at a
  rw [show j + (j' - j) = j' by omega] at b
  exact Nat.le_trans a b
theorem bR_same {s t : List Nat} {i j a b : Nat} (h : s[i]? = t[j]?) : bR s t i j a b = false := by
  unfold bR
  rw [decide_eq_false (fun z => z h)]
  rfl
theorem bR_else {s t : List Nat} {i j a b : Nat} (h : ¬ s[i]? = t[j]?) : bR s t i j a b = decide (a < b) := by
  unfold bR
  rw [decide_eq_true (p := s[i]? ≠ t[j]?) h, Bool.true_and]
theorem brd_row {r : Nat → Nat → Nat → Nat → Bool} {m b i : Nat} (hi : i < m) (h1 : ∀ c, c < b → ledD r m i c < m + b) : ∀ c, c ≤ b → ledA r m i c < m + b := by
  intro c
  induction c with
  | zero => intro _; rw [ledA_0]; omega
  | succ c ih =>
    intro hc
    rw [ledA_s]
    split
    · exact ih (by omega)
    · exact h1 c (by omega)
/-- ahead of the stretch no line is that comes in behind its begin -/
theorem brd_low {r : Nat → Nat → Nat → Nat → Bool} {m b : Nat} : ∀ i : Nat, i ≤ m → (∀ c, c < b → ledD r m i c < m + b) ∧ (i < m → ∀ c, c ≤ b → ledA r m i c < m + b)
  | 0, _ => by
    have h1 : ∀ c, c < b → ledD r m 0 c < m + b := fun c hc => by rw [ledD_0]; omega
    exact ⟨h1, fun hi => brd_row hi h1⟩
  | i + 1, hi => by
    obtain ⟨h1, h2⟩ := brd_low (r := r) (m := m) (b := b) i (by omega)
    have h3 : ∀ c, c < b → ledD r m (i + 1) c < m + b := fun c hc => by
      rw [ledD_s]
      split
      · exact h1 c hc
      · exact h2 (by omega) c (by omega)
    exact ⟨h3, fun hi => brd_row hi h3⟩
theorem num_same {x y z w d a t : Nat} (h1 : w = x + 1) (h2 : y + (if t ≤ d then 1 else 0) = x + 1) (h3 : z = x + (if t ≤ a then 1 else 0)) : w + (if t ≤ a then 1 else 0) = z + 1 ∧ w = y + (if t ≤ d then 1 else 0) := by
  generalize (if t ≤ d then 1 else 0) = p at h2 ⊢
  generalize (if t ≤ a then 1 else 0) = q at h3 ⊢
  omega
theorem num_else {x y z w d a t : Nat} (h1 : w = max y z) (h2 : y + (if t ≤ d then 1 else 0) = x + 1) (h3 : z = x + (if t ≤ a then 1 else 0)) : w + (if t ≤ (if a < d then d else a) then 1 else 0) = z + 1 ∧ w = y + (if t ≤ (if a < d then a else d) then 1 else 0) := by
  by_cases k3 : a < d <;> simp only [k3, if_true, if_false] <;> by_cases k1 : t ≤ d <;> by_cases k2 : t ≤ a <;> simp only [k1, k2, if_true, if_false] at h2 h3 ⊢ <;> omega
/-- one cell -/
theorem brd_cell (s t : List Nat) {m b i c : Nat} (h2 : Lc s (t.drop b) i (c + 1) + (if m + b ≤ ledD (bR s t) m i (b + c) then 1 else 0) = Lc s (t.drop b) i c + 1) (h3 : Lc s (t.drop b) (i + 1) c = Lc s (t.drop b) i c + (if m + b ≤ ledA (bR s t) m i (b + c) then 1 else 0)) :
    Lc s (t.drop b) (i + 1) (c + 1) + (if m + b ≤ ledD (bR s t) m (i + 1) (b + c) then 1 else 0) = Lc s (t.drop b) (i + 1) c + 1 ∧ Lc s (t.drop b) (i + 1) (c + 1) = Lc s (t.drop b) i (c + 1) + (if m + b ≤ ledA (bR s t) m i (b + (c + 1)) then 1 else 0) := by
  have q4 := Lc_ss s (t.drop b) i c
  have q5 : (t.drop b)[c]? = t[b + c]? := List.getElem?_drop
  rw [show b + (c + 1) = (b + c) + 1 by omega, ledA_s, ledD_s, ledS]
  by_cases e : s[i]? = t[b + c]?
  · rw [if_pos (by rw [q5]; exact e)] at q4
    rw [bR_same e, if_neg (c := false = true) (by decide), if_neg (c := false = true) (by decide)]
    exact num_same q4 h2 h3
  · rw [if_neg (by rw [q5]; exact e)] at q4
    rw [bR_else e]
    simp only [decide_eq_true_eq]
    exact num_else q4 h2 h3
theorem brd_acr {s t : List Nat} {m b i : Nat} (hi : i < m) (h1 : ∀ c, Lc s (t.drop b) i (c + 1) + (if m + b ≤ ledD (bR s t) m i (b + c) then 1 else 0) = Lc s (t.drop b) i c + 1) : ∀ c, Lc s (t.drop b) (i + 1) c = Lc s (t.drop b) i c + (if m + b ≤ ledA (bR s t) m i (b + c) then 1 else 0) := by
  intro c
  induction c with
  | zero =>
    have := (brd_low (r := bR s t) (m := m) (b := b) i (by omega)).2 hi b (Nat.le_refl _)
    rw [Lc_j0, Lc_j0, if_neg (by rw [Nat.add_zero]; omega)]
  | succ c ih => exact (brd_cell s t (h1 c) ih).2
/-- within: by the lengths of the stretch's threads -/
theorem brd_in (s t : List Nat) {m b : Nat} : ∀ i : Nat, i ≤ m → ∀ c, Lc s (t.drop b) i (c + 1) + (if m + b ≤ ledD (bR s t) m i (b + c) then 1 else 0) = Lc s (t.drop b) i c + 1
  | 0, _ => fun c => by rw [Lc_i0, Lc_i0, ledD_0, if_pos (by omega)]
  | i + 1, hi => fun c => (brd_cell s t (brd_in s t i (by omega) c) (brd_acr (by omega) (brd_in s t i (by omega)) c)).1
theorem ledE_dn {r : Nat → Nat → Nat → Nat → Bool} {m n e : Nat} (h : e < n) : gT (ledE r m n) e = ledD r m m e := by
  unfold ledE gT
  rw [List.getD_eq_getElem?_getD, List.getElem?_append_left (by rw [List.length_map, List.length_range]; exact h), List.getElem?_map, List.getElem?_range h]
  rfl
/-- how many lines from behind a begin come out ahead of an end -/
theorem brd_lost (s t : List Nat) {m n b : Nat} (hb : b ≤ n) : ∀ k : Nat, b + k ≤ n → cE (ledE (bR s t) m n) (m + b) (b + k) + Lc s (t.drop b) m k = k
  | 0, _ => by
    have : ∀ e, e ≤ b → cE (ledE (bR s t) m n) (m + b) e = 0 := by
      intro e
      induction e with
      | zero => intro _; rfl
      | succ e ih =>
        intro he
        have h1 : gT (ledE (bR s t) m n) e = ledD (bR s t) m m e := ledE_dn (by omega)
        have := (brd_low (r := bR s t) (m := m) (b := b) m (Nat.le_refl _)).1 e (by omega)
        rw [cE_succ, ih (by omega), h1, if_neg (by omega)]
    rw [Lc_j0, Nat.add_zero, Nat.add_zero]
    exact this b (Nat.le_refl _)
  | k + 1, hk => by
    have ih := brd_lost s t (m := m) (n := n) hb k (by omega)
    have h1 : gT (ledE (bR s t) m n) (b + k) = ledD (bR s t) m m (b + k) := ledE_dn (by omega)
    have h2 := brd_in s t (m := m) (b := b) m (Nat.le_refl _) k
    rw [show b + (k + 1) = (b + k) + 1 by omega, cE_succ, h1]
    omega
theorem cutS_from (z : Str) (b : Nat) (h : b ≤ z.length) : (cutS z (some (b : Int)) none).cps.toList = z.cps.toList.drop b := by
  have e : (cutS z (some (b : Int)) none).cps.toList = ((z.cps.toList.drop (HT.sIx z.length 0 (some (b : Int)))).take (HT.sIx z.length z.length none - HT.sIx z.length 0 (some (b : Int)))) := by simp [cutS]
  have e1 : HT.sIx z.length 0 (some (b : Int)) = b := by
    show (if (b : Int) < 0 then ((b : Int) + (z.length : Int)).toNat else min (b : Int).toNat z.length) = b
    rw [if_neg (by omega), Int.toNat_natCast]
    omega
  have e2 : HT.sIx z.length z.length none = z.length := rfl
  rw [e, e1, e2, List.take_of_length_le]
  rw [List.length_drop, Array.length_toList]
  exact Nat.le_refl _
/-- a pair of two like signs -/
def PairOk (s t : List Nat) (q : Nat × Nat) : Prop := q.1 < s.length ∧ ∃ c, s[q.1]? = some c ∧ t[q.2]? = some c
def PairD (s t : List Nat) (d : PyData) : Prop := ∃ q, d = encQ q ∧ PairOk s t q
/-- whole numbers within bounds -/
def withinD (d : PyData) (lo hi : Int) : Bool := match d with
  | .int i => decide (lo ≤ i ∧ i ≤ hi)
  | _ => false
theorem within_rp {H : Hp} {x : V} {d : PyData} (h : Rp H x d) (lo hi : Int) : withinV x lo hi = withinD d lo hi := by cases h <;> rfl
theorem withinD_T {d : PyData} {lo hi : Int} (h : withinD d lo hi = true) : ∃ i, d = .int i ∧ lo ≤ i ∧ i ≤ hi := by
  unfold withinD at h
  split at h
  · rename_i i
    have h := of_decide_eq_true h
    exact ⟨i, rfl, h.1, h.2⟩
  · cases h
theorem rp_int {H : Hp} {x : V} {i : Int} (h : Rp H x (.int i)) : x = .int i := by cases h; rfl
def ahP (a b : Nat × Nat) : Prop := a.1 < b.1 ∧ a.2 < b.2
instance (a b : Nat × Nat) : Decidable (ahP a b) := by unfold ahP; infer_instance
def cmP (a b : Nat × Nat) : Prop := ahP a b ∨ ahP b a
instance (a b : Nat × Nat) : Decidable (cmP a b) := by unfold cmP; infer_instance
theorem cmP_sym {a b : Nat × Nat} (h : cmP a b) : cmP b a := Or.symm h
def enN (q : Nat × Nat) : Int × Int := ((q.1 : Int), -(q.2 : Int))
def AntiQ (l : List (Nat × Nat)) : Prop := l.Pairwise fun a b => ¬ cmP a b
/-- a heap: pairs, each once, no two one ahead of the other -/
def GoodHeap (s t : List Nat) (d : PyData) : Prop := ∃ l : List (Nat × Nat), d = .list (l.map encQ) ∧ l ≠ [] ∧ (∀ q ∈ l, PairOk s t q) ∧ l.Nodup ∧ AntiQ l
def fallQ (l : List (Nat × Nat)) : Prop := l.Pairwise fun a b => b.2 ≤ a.2 ∧ a ≠ b
theorem fall_of {l m : List (Nat × Nat)} (hp : m.Perm l) (hs : (m.map enN).Pairwise lexI) (hnd : l.Nodup) (han : AntiQ l) : fallQ m := by
  have hnd2 : m.Nodup := hp.nodup_iff.mpr hnd
  have han2 : m.Pairwise fun a b => ¬ cmP a b := (hp.pairwise_iff (R := fun a b => ¬ cmP a b) (fun h c => h (cmP_sym c))).mpr han
  rw [List.pairwise_map] at hs
  refine ((hs.and han2).and hnd2).imp fun {a b} h => ?_
  obtain ⟨⟨h1, h2⟩, h3⟩ := h
  refine ⟨?_, h3⟩
  unfold lexI enN at h1
  dsimp only at h1
  by_cases hc : b.2 ≤ a.2
  · exact hc
  · exact absurd (.inl ⟨by omega, by omega⟩) h2
theorem of_fall {l m : List (Nat × Nat)} (hp : m.Perm l) (hs : (m.map enN).Pairwise lexI) (hf : fallQ m) : l.Nodup ∧ AntiQ l := by
  refine ⟨hp.nodup_iff.mp (hf.imp fun h => h.2), ?_⟩
  refine (hp.pairwise_iff (R := fun a b => ¬ cmP a b) (fun h c => h (cmP_sym c))).mp ?_
  rw [List.pairwise_map] at hs
  refine (hs.and hf).imp fun {a b} h => ?_
  obtain ⟨h1, h2, _⟩ := h
  unfold lexI enN at h1
  dsimp only at h1
  unfold cmP ahP
  omega
theorem encQ_inj {a b : Nat × Nat} (h : encQ a = encQ b) : a = b := by
  have h1 := eqv_encQ a b
  rw [h, show PyData.eqv (encQ b) (encQ b) = true from (eqv_encQ b b).trans (decide_eq_true rfl)] at h1
  exact of_decide_eq_true h1.symm
theorem map_encQ_inj {l m : List (Nat × Nat)} (h : l.map encQ = m.map encQ) : l = m := (List.map_inj_right fun _ _ => encQ_inj).mp h
theorem RpA.zipped {H : Hp} : ∀ {xs : List V} {ds : List PyData}, RpA H xs ds → ∃ zs : List (V × PyData), xs = zs.map (·.1) ∧ ds = zs.map (·.2) ∧ ∀ z ∈ zs, Rp H z.1 z.2
  | _, _, .nil => ⟨[], rfl, rfl, fun _ h => nomatch h⟩
  | _, _, .cons (v := v) (d := d) a k => by
    obtain ⟨zs, rfl, rfl, h⟩ := RpA.zipped k
    refine ⟨(v, d) :: zs, rfl, rfl, fun z hz => ?_⟩
    rcases List.mem_cons.mp hz with e | e
    · rw [e]; exact a
    · exact h z e
theorem pairs_in (s t : List Nat) : ∀ zs : List (V × PyData), (∀ z ∈ zs, PairD s t z.2) → ∃ gs : List (V × (Nat × Nat)), zs = gs.map (fun g => (g.1, encQ g.2)) ∧ ∀ g ∈ gs, PairOk s t g.2
  | [], _ => ⟨[], rfl, fun _ h => nomatch h⟩
  | z :: zs, h => by
    obtain ⟨gs, e, k⟩ := pairs_in s t zs fun z hz => h z (List.mem_cons_of_mem _ hz)
    obtain ⟨q, e1, e2⟩ := h z List.mem_cons_self
    refine ⟨(z.1, q) :: gs, ?_, fun g hg => ?_⟩
    · rw [e, List.map_cons, ← e1]
    · rcases List.mem_cons.mp hg with e | e
      · rw [e]; exact e2
      · exact k g e
theorem rp_encQ {H : Hp} {x : V} {q : Nat × Nat} (h : Rp H x (encQ q)) : ∃ a, x = .ref a ∧ tupAt H a = some [.int (q.1 : Nat), .int (q.2 : Nat)] := by
  obtain ⟨a, xs, rfl, h1, h2⟩ := h.tupAt'
  refine ⟨a, rfl, ?_⟩
  cases h2 with
  | cons r0 r =>
    cases r with
    | cons r1 r2 =>
      cases r2
      cases rp_int r0
      cases rp_int r1
      exact h1
/-- what stands when i of the pairs are seen -/
def HeapSeen (m : List (Nat × Nat)) (n i L : Nat) (b1 b2 : Int) : Prop := fallQ (m.take i) ∧ (∀ y ∈ m.take i, L ≤ y.2) ∧ (L = n ∨ ∃ y ∈ m.take i, y.2 = L) ∧ ((i = 0 ∧ b1 = -1) ∨ ∃ y, m[i - 1]? = some y ∧ 0 < i ∧ b1 = (y.1 : Nat) ∧ b2 = -((y.2 : Nat) : Int))
theorem heapSeen_0 (m : List (Nat × Nat)) (n : Nat) : HeapSeen m n 0 n (-1) (-1) := ⟨by rw [List.take_zero]; exact .nil, (fun y h => by rw [List.take_zero] at h; cases h), .inl rfl, .inl ⟨rfl, rfl⟩⟩
section
variable {m : List (Nat × Nat)} {n i L : Nat} {b1 b2 : Int} {z : Nat × Nat}
theorem HeapSeen.same (h : HeapSeen m n i L b1 b2) (hz : m[i]? = some z) (h1 : b1 = (z.1 : Nat)) (h2 : b2 = -((z.2 : Nat) : Int)) : ¬ fallQ m := fun hf => by
  obtain ⟨_, _, _, g⟩ := h
  rcases g with ⟨_, g⟩ | ⟨y, g1, g2, g3, g4⟩
  · omega
  · have e : y = z := Prod.ext (by omega) (by omega)
    obtain ⟨q1, r1⟩ := List.getElem?_eq_some_iff.mp g1
    obtain ⟨q2, r2⟩ := List.getElem?_eq_some_iff.mp hz
    have := (List.pairwise_iff_getElem.mp hf (i - 1) i q1 q2 (by omega)).2
    rw [r1, r2] at this
    exact this e
theorem HeapSeen.high (h : HeapSeen m n i L b1 b2) (hz : m[i]? = some z) (hn : z.2 < n) (hl : L < z.2) : ¬ fallQ m := fun hf => by
  obtain ⟨_, _, g, _⟩ := h
  rcases g with g | ⟨y, g1, g2⟩
  · omega
  · obtain ⟨j, hj⟩ := List.getElem?_of_mem g1
    rw [List.getElem?_take] at hj
    split at hj
    · rename_i hji
      obtain ⟨q1, r1⟩ := List.getElem?_eq_some_iff.mp hj
      obtain ⟨q2, r2⟩ := List.getElem?_eq_some_iff.mp hz
      have := (List.pairwise_iff_getElem.mp hf j i q1 q2 hji).1
      rw [r1, r2] at this
      omega
    · cases hj
theorem HeapSeen.step (h : HeapSeen m n i L b1 b2) (hs : (m.map enN).Pairwise lexI) (hz : m[i]? = some z) (hn : ¬ (b1 = (z.1 : Nat) ∧ b2 = -((z.2 : Nat) : Int))) (hl : z.2 ≤ L) : HeapSeen m n (i + 1) z.2 (z.1 : Nat) (-((z.2 : Nat) : Int)) := by
  obtain ⟨g1, g2, g3, g4⟩ := h
  have tk : m.take (i + 1) = m.take i ++ [z] := by rw [List.take_add_one, hz]; rfl
  refine ⟨?_, ?_, .inr ⟨z, by rw [tk]; simp, rfl⟩, .inr ⟨z, hz, by omega, rfl, rfl⟩⟩
  · rw [tk]
    unfold fallQ
    rw [List.pairwise_append]
    refine ⟨g1, List.pairwise_singleton _ _, fun a ha b hb => ?_⟩
    have : b = z := by simpa using hb
    subst this
    have := g2 a ha
    refine ⟨by omega, fun e => hn ?_⟩
    subst e
    rcases g4 with ⟨g, _⟩ | ⟨y, q1, q2, q3, q4⟩
    · subst g; rw [List.take_zero] at ha; cases ha
    · obtain ⟨j, hj⟩ := List.getElem?_of_mem ha
      rw [List.getElem?_take] at hj
      split at hj
      · rename_i hji
        rw [List.pairwise_map] at hs
        obtain ⟨p1, r1⟩ := List.getElem?_eq_some_iff.mp hj
        obtain ⟨p2, r2⟩ := List.getElem?_eq_some_iff.mp q1
        obtain ⟨p3, r3⟩ := List.getElem?_eq_some_iff.mp hz
        by_cases hjj : j = i - 1
        · subst hjj
          rw [hj] at q1
          cases q1
          exact ⟨q3, q4⟩
        · have w1 := List.pairwise_iff_getElem.mp hs j (i - 1) p1 p2 (by omega)
          have w2 := List.pairwise_iff_getElem.mp hs (i - 1) i p2 p3 (by omega)
          rw [r1, r2] at w1
          rw [r2, r3] at w2
          unfold lexI enN at w1 w2
          dsimp only at w1 w2
          omega
      · cases hj
  · intro y hy
    rw [tk] at hy
    rcases List.mem_append.mp hy with h | h
    · have := g2 y h; omega
    · have : y = z := by simpa using h
      subst this
      exact Nat.le_refl _
end
theorem brd_hi {r : Nat → Nat → Nat → Nat → Bool} {m : Nat} : ∀ i : Nat, i ≤ m → (∀ c, m - i ≤ ledD r m i c) ∧ (i < m → ∀ c, m - 1 - i ≤ ledA r m i c)
  | 0, _ => by
    have h1 : ∀ c, m - 0 ≤ ledD r m 0 c := fun c => by rw [ledD_0]; omega
    refine ⟨h1, fun hi c => ?_⟩
    induction c with
    | zero => rw [ledA_0]; exact Nat.le_refl _
    | succ c ih =>
      rw [ledA_s]
      split
      · exact ih
      · have := h1 c; omega
  | i + 1, hi => by
    obtain ⟨h1, h2⟩ := brd_hi (r := r) (m := m) i (by omega)
    have h3 : ∀ c, m - (i + 1) ≤ ledD r m (i + 1) c := fun c => by
      rw [ledD_s]
      split
      · have := h1 c; omega
      · have := h2 (by omega) c; omega
    refine ⟨h3, fun hi c => ?_⟩
    induction c with
    | zero => rw [ledA_0]; exact Nat.le_refl _
    | succ c ih =>
      rw [ledA_s]
      split
      · exact ih
      · have := h3 c; omega
theorem brd_cellW (s t : List Nat) {m f b p c : Nat} (h2 : Lc (s.drop f) (t.drop b) p (c + 1) + (if m - f + b ≤ ledD (bR s t) m (f + p) (b + c) then 1 else 0) = Lc (s.drop f) (t.drop b) p c + 1) (h3 : Lc (s.drop f) (t.drop b) (p + 1) c = Lc (s.drop f) (t.drop b) p c + (if m - f + b ≤ ledA (bR s t) m (f + p) (b + c) then 1 else 0)) :
    Lc (s.drop f) (t.drop b) (p + 1) (c + 1) + (if m - f + b ≤ ledD (bR s t) m (f + (p + 1)) (b + c) then 1 else 0) = Lc (s.drop f) (t.drop b) (p + 1) c + 1 ∧ Lc (s.drop f) (t.drop b) (p + 1) (c + 1) = Lc (s.drop f) (t.drop b) p (c + 1) + (if m - f + b ≤ ledA (bR s t) m (f + p) (b + (c + 1)) then 1 else 0) := by
  have q4 := Lc_ss (s.drop f) (t.drop b) p c
  have q5 : (t.drop b)[c]? = t[b + c]? := List.getElem?_drop
  have q6 : (s.drop f)[p]? = s[f + p]? := List.getElem?_drop
  rw [show b + (c + 1) = (b + c) + 1 by omega, show f + (p + 1) = (f + p) + 1 by omega, ledA_s, ledD_s, ledS]
  by_cases e : s[f + p]? = t[b + c]?
  · rw [if_pos (by rw [q5, q6]; exact e)] at q4
    rw [bR_same e, if_neg (c := false = true) (by decide), if_neg (c := false = true) (by decide)]
    exact num_same q4 h2 h3
  · rw [if_neg (by rw [q5, q6]; exact e)] at q4
    rw [bR_else e]
    simp only [decide_eq_true_eq]
    exact num_else q4 h2 h3
theorem brd_acrW {s t : List Nat} {m f b p : Nat} (hb : f = 0 ∨ b = 0) (hi : f + p < m) (h1 : ∀ c, Lc (s.drop f) (t.drop b) p (c + 1) + (if m - f + b ≤ ledD (bR s t) m (f + p) (b + c) then 1 else 0) = Lc (s.drop f) (t.drop b) p c + 1) : ∀ c, Lc (s.drop f) (t.drop b) (p + 1) c = Lc (s.drop f) (t.drop b) p c + (if m - f + b ≤ ledA (bR s t) m (f + p) (b + c) then 1 else 0) := by
  intro c
  induction c with
  | zero =>
    have : ledA (bR s t) m (f + p) (b + 0) < m - f + b := by
      rcases hb with rfl | rfl
      · have := (brd_low (r := bR s t) (m := m) (b := b) (0 + p) (by omega)).2 hi b (Nat.le_refl _)
        rw [Nat.add_zero]
        omega
      · rw [show 0 + 0 = 0 from rfl, ledA_0]
        omega
    rw [Lc_j0, Lc_j0, if_neg (by omega)]
  | succ c ih => exact (brd_cellW s t (h1 c) ih).2
theorem brd_inW (s t : List Nat) {m f b : Nat} (hb : f = 0 ∨ b = 0) (hf : f ≤ m) : ∀ p : Nat, f + p ≤ m → ∀ c, Lc (s.drop f) (t.drop b) p (c + 1) + (if m - f + b ≤ ledD (bR s t) m (f + p) (b + c) then 1 else 0) = Lc (s.drop f) (t.drop b) p c + 1
  | 0, _ => fun c => by
    have : m - f + b ≤ ledD (bR s t) m (f + 0) (b + c) := by
      rcases hb with rfl | rfl
      · rw [show 0 + 0 = 0 from rfl, ledD_0]
        omega
      · have := (brd_hi (r := bR s t) (m := m) f hf).1 (0 + c)
        rw [Nat.add_zero]
        omega
    rw [Lc_i0, Lc_i0, if_pos this]
  | p + 1, hi => fun c => (brd_cellW s t (brd_inW s t hb hf p (by omega) c) (brd_acrW hb (by omega) (brd_inW s t hb hf p (by omega)) c)).1
theorem brd_lostW (s t : List Nat) {m n f b : Nat} (hb : f = 0 ∨ b = 0) (hf : f ≤ m) (hbn : b ≤ n) : ∀ k : Nat, b + k ≤ n → cE (ledE (bR s t) m n) (m - f + b) (b + k) + Lc (s.drop f) (t.drop b) (m - f) k = k
  | 0, _ => by
    have : cE (ledE (bR s t) m n) (m - f + b) b = 0 := by
      rcases hb with rfl | rfl
      · have := brd_lost s t (m := m) (n := n) hbn 0 (by omega)
        rw [Nat.sub_zero]
        rw [Nat.add_zero] at this
        omega
      · rfl
    rw [Lc_j0, Nat.add_zero, Nat.add_zero]
    exact this
  | k + 1, hk => by
    have ih := brd_lostW s t (m := m) (n := n) hb hf hbn k (by omega)
    have h1 : gT (ledE (bR s t) m n) (b + k) = ledD (bR s t) m m (b + k) := ledE_dn (by omega)
    have h2 := brd_inW s t (m := m) hb hf (m - f) (by omega) k
    rw [show f + (m - f) = m by omega] at h2
    rw [show b + (k + 1) = (b + k) + 1 by omega, cE_succ, h1]
    omega
theorem ledE_ri {r : Nat → Nat → Nat → Nat → Bool} {m n j : Nat} (h : j < m) : gT (ledE r m n) (n + j) = ledA r m (m - 1 - j) n := by
  unfold ledE gT
  rw [List.getD_eq_getElem?_getD, List.getElem?_append_right (by rw [List.length_map, List.length_range]; omega), List.length_map, List.length_range, Nat.add_sub_cancel_left, List.getElem?_reverse (by rw [List.length_map, List.length_range]; exact h), List.getElem?_map, List.length_map, List.length_range, List.getElem?_range (by omega)]
  rfl
theorem brd_rightW (s t : List Nat) {m n f b : Nat} (hb : f = 0 ∨ b = 0) (hf : f ≤ m) (hbn : b ≤ n) : ∀ k : Nat, k ≤ m - f → cE (ledE (bR s t) m n) (m - f + b) (n + k) + Lc (s.drop f) (t.drop b) (m - f - k) (n - b) = n - b
  | 0, _ => by
    have := brd_lostW s t (m := m) (n := n) hb hf hbn (n - b) (by omega)
    rw [show b + (n - b) = n by omega] at this
    exact this
  | k + 1, hk => by
    have ih := brd_rightW s t (m := m) (n := n) hb hf hbn k (by omega)
    have h1 : gT (ledE (bR s t) m n) (n + k) = ledA (bR s t) m (m - 1 - k) n := ledE_ri (by omega)
    have h2 := brd_acrW (s := s) (t := t) (m := m) (f := f) (b := b) (p := m - f - (k + 1)) hb (by omega) (brd_inW s t hb hf _ (by omega)) (n - b)
    rw [show f + (m - f - (k + 1)) = m - 1 - k by omega, show b + (n - b) = n by omega, show m - f - (k + 1) + 1 = m - f - k by omega] at h2
    rw [show n + (k + 1) = (n + k) + 1 by omega, cE_succ, h1]
    omega
/-- the counts tell the windows -/
theorem brd_win (s t : Str) {f la b e : Nat} (hfb : f = 0 ∨ b = 0) (hle : la = s.length ∨ e = t.length) (h1 : f ≤ la) (h2 : la ≤ s.length) (h3 : b ≤ e) (h4 : e ≤ t.length) :
    cntT (brdL s t) (s.length - f + b) (s.length - la + e) + Lc (s.cps.toList.drop f) (t.cps.toList.drop b) (la - f) (e - b) = e - b := by
  have hc : cE (ledE (bR s.cps.toList t.cps.toList) s.length t.length) (s.length - f + b) (s.length - la + e) = cntT (brdL s t) (s.length - f + b) (s.length - la + e) := by
    have := cE_cnt (brdL_T s t) (s.length - f + b) (e := s.length - la + e) (by rw [brdL_len]; omega)
    rw [← this]
    unfold brdL
    rw [(ledE_T _ _ _).inv_inv]
  rw [← hc]
  rcases hle with rfl | rfl
  · have := brd_lostW s.cps.toList t.cps.toList (m := s.length) (n := t.length) hfb h1 (by omega) (e - b) (by omega)
    rw [show b + (e - b) = e by omega] at this
    rw [Nat.sub_self, Nat.zero_add]
    exact this
  · have := brd_rightW s.cps.toList t.cps.toList (m := s.length) (n := t.length) hfb (by omega) h3 (s.length - la) (by omega)
    rw [show s.length - f - (s.length - la) = la - f by omega] at this
    rw [show s.length - la + t.length = t.length + (s.length - la) by omega]
    exact this
theorem winV_Lc (s t : Str) {f la b e : Nat} (hfb : f = 0 ∨ b = 0) (hle : la = s.length ∨ e = t.length) (h1 : f ≤ la) (h2 : la ≤ s.length) (h3 : b ≤ e) (h4 : e ≤ t.length) :
    ((e : Nat) : Int) - (b : Nat) - (cntT (brdL s t) (s.length - f + b) (s.length - la + e) : Nat) = (Lc (s.cps.toList.drop f) (t.cps.toList.drop b) (la - f) (e - b) : Nat) := by
  have := brd_win s t hfb hle h1 h2 h3 h4
  omega
/-- a board is made -/
theorem mk_brd {K : PySem.W.Frag} {TL : List (Addr × Str)} {H : Hp} {Q : VK} {E : XK} {s t : Str} (hs : RowS s) (ht : RowS t) (hT : LamX.Tabs TL H) (k : ∀ p H', Ex (noT H) H' → H p = none → LamX.Tabs TL H' → BrdAt K H' p s t → Q (.ref p) H') : MakeP (clsA K "Board") (sp_Board_init K TL) [] E Q [.str s, .str t] H := by
  refine st_makeP fun p dx H1 np e1 v1 => ?_
  refine ⟨p, dx, _, _, rfl, v1, hT.ext fun b o h => e1.get h, .inl ⟨s, t, rfl, rfl, hs, ht, fun H2 f2 hT2 hB => ?_⟩⟩
  refine ⟨rfl, k p H2 ?_ np hT2 hB⟩
  exact Ex.comp (M := fun b => b = p) (noT_mono e1) f2 fun b hb => by
    rw [hb]
    unfold Zb.noT
    rw [np]
def sp_asks_of (K : PySem.W.Frag) (TL : List (Addr × Str)) : Sp := fun vs H Q E => ∃ s t, vs = [.str s, .str t] ∧ RowS s ∧ RowS t ∧ LamX.Tabs TL H ∧ ∀ p H', Ex (noT H) H' → LamX.Tabs TL H' → AsksAt K H' p (brdL s t) s.length → Q (.ref p) H'
theorem ok_asks_of (T : Tx K mg ad fd tk base tc w) : FnOk P w K mg base (L2.CX P w) 9 (ad 24) (fd 24) ["side", "top"] (sp_asks_of K (tabsL tc)) := by
  refine T.d_asks_of.F.okX sc_asks_of (fun vs H Q E h => ?_) (fun cdv A outer s H vs Q E hr h => ?_)
  · obtain ⟨s, t, rfl, _⟩ := h
    rfl
  · obtain ⟨s, t, rfl, hs, ht, hT, k⟩ := h
    refine ⟨_, (pss_one (ps_ret (pe_make T.m_Asks (ok_Asks_init T) (hr.mono (by decide)) rfl T.mg_Asks T.d_Asks_init.b .nil pass0 (pa_cons (pe_meth0 (pe_make T.m_Board (ok_Board_init T) (hr.mono (by decide)) rfl T.mg_Board T.d_Board_init.b .nil (passes_call (takes_of rfl rfl rfl rfl) (fun _ _ _ _ h => h)) (pa_cons (pv 0) (pa_cons (pv 1) pa_nil))) T.cl_Board T.d_Board_lines.g (ok_Board_lines T) (hr.mono (by decide)) T.d_Board_lines.b .nil pass0) (pa_cons (pe_callB (c_len (K := K)) (by rfl) T.b_len (by decide +kernel) (pa_cons (pv 0) pa_nil)) pa_nil))))), ?_⟩
    have hs1 := hs.len
    have ht1 := ht.len
    have hl := brdL_len s t
    walk_at "go"
    refine mk_brd hs ht hT fun p H1 e1 np hT1 hB => ?_
    obtain ⟨dx2, me, sg, go, gB, _⟩ := id hB.ex
    walk_at "go"
    refine ⟨p, s, t, rfl, hB, fun D H2 e2 nD v2 => ?_⟩
    walk_at "go"
    refine st_makeP fun p3 dx3 H3 np3 e3 v3 => ?_
    refine ⟨p3, dx3, .ref D, _, brdL s t, s.length, rfl, v3, rnL (e3.get v2), .inl rfl, ⟨brdL_T s t, by omega⟩, by omega, fun H4 f4 hA => ⟨rfl, ?_⟩⟩
    have e24 : Ex H2 H4 := Ex.comp (M := fun b => b = p3) e3 f4 fun b hb => by rw [hb]; exact np3
    have e4 := (e1.trans e2).trans e24
    refine k p3 H4 e4 (hT1.ext fun b o h => (e2.trans e24).get h) (hA H4 fun b o _ h => h)
/-- a stretch with its worth, begin, end -/
structure S3 where
  w : Int
  b : Nat
  e : Nat
deriving DecidableEq
def encS (z : S3) : PyData := .tuple [.int z.w, .int (z.b : Nat), .int (z.e : Nat)]
def sO (z : S3) : HO := .tup [.int z.w, .int (z.b : Nat), .int (z.e : Nat)]
abbrev TZ := Addr × S3
abbrev tV (z : TZ) : V := .ref z.1
/-- each of these stands as its tuple -/
def TT (H : Hp) (zs : List TZ) : Prop := ∀ z ∈ zs, H z.1 = some (sO z.2)
theorem TT.ex {H H' : Hp} {zs : List TZ} (h : TT H zs) (e : Ex H H') : TT H' zs := fun z hz => e.get (h z hz)
theorem TT.up {H : Hp} {zs : List TZ} {D : Addr} {xs : List V} {u : HO} (h : TT H zs) (hD : H D = some (.lst xs)) : TT (upd H D u) zs := fun z hz => by
  rw [upd_ne fun e => ?_]
  · exact h z hz
  · have := h z hz
    rw [e, hD] at this
    cases this
theorem TT.sub {H : Hp} {zs ys : List TZ} (h : TT H zs) (e : ∀ z ∈ ys, z ∈ zs) : TT H ys := fun z hz => h z (e z hz)
theorem TT.app {H : Hp} {zs ys : List TZ} (h : TT H zs) (k : TT H ys) : TT H (zs ++ ys) := fun z hz => by
  rcases List.mem_append.mp hz with q | q
  · exact h z q
  · exact k z q
theorem TT.rn1 {H : Hp} {z : TZ} (h : H z.1 = some (sO z.2)) : Rn H (tV z) (encS z.2) := .tup h (.cons (.int _) (.cons (.int _) (.cons (.int _) .nil)))
theorem TT.rn {H : Hp} {zs : List TZ} (h : TT H zs) : RnA H (zs.map tV) (zs.map fun z => encS z.2) := rnA_map fun z hz => TT.rn1 (h z hz)
theorem TT.rnL {H : Hp} {zs : List TZ} {a : Addr} (h : TT H zs) (ha : H a = some (.lst (zs.map tV))) : Rn H (.ref a) (.list (zs.map fun z => encS z.2)) := .lst ha h.rn
theorem encS_noDict (zs : List TZ) : (PyData.list (zs.map fun z => encS z.2)).hasDict = false := by
  simp only [PyData.hasDict]
  exact hasDictA_of fun d hd => by
    obtain ⟨z, _, rfl⟩ := List.mem_map.mp hd
    rfl
theorem TT.rpL {H : Hp} {zs : List TZ} {a : Addr} (h : TT H zs) (ha : H a = some (.lst (zs.map tV))) : Rp H (.ref a) (.list (zs.map fun z => encS z.2)) := (h.rnL ha).rp (encS_noDict zs)
def apartS (a b : S3) : Prop := a.e ≤ b.b ∨ b.e ≤ a.b
/-- a choice apart: places in the list, no two of one another's places -/
structure Choice (zs : List S3) (cs : List Nat) : Prop where
  lt : ∀ c ∈ cs, c < zs.length
  ap : cs.Pairwise fun a b => ∀ x y, zs[a]? = some x → zs[b]? = some y → apartS x y
theorem apartS_sym {a b : S3} (h : apartS a b) : apartS b a := Or.symm h
theorem Choice.perm {zs : List S3} {cs ds : List Nat} (h : Choice zs cs) (p : ds.Perm cs) : Choice zs ds := ⟨fun c hc => h.lt c (p.mem_iff.mp hc), (p.pairwise_iff (fun {x y} h a b h1 h2 => apartS_sym (h b a h2 h1))).mpr h.ap⟩
/-- chosen ones are different places -/
theorem Choice.nodup {zs : List S3} {cs : List Nat} {M : Nat} (h : Choice zs cs) (hok : ∀ z ∈ zs, z.b < z.e ∧ z.e ≤ M) : cs.Nodup := by
  have : cs.Pairwise fun a b => (∀ x y, zs[a]? = some x → zs[b]? = some y → apartS x y) ∧ a < zs.length := List.Pairwise.imp_of_mem (fun {a b} ha hb h' => ⟨h', h.lt a ha⟩) h.ap
  refine this.imp fun {a b} hab e => ?_
  subst e
  obtain ⟨z, hz⟩ : ∃ z, zs[a]? = some z := ⟨zs[a]'hab.2, List.getElem?_eq_getElem _⟩
  have := hok z (List.mem_of_getElem? hz)
  have h2 := hab.1 z z hz hz
  unfold apartS at h2
  omega
inductive Chg where
  | keep (a : Nat) : Chg
  | change (a b : Nat) : Chg
  | out (a : Nat) : Chg
  | inn (a : Nat) : Chg
deriving DecidableEq
def isL (a : Nat) : Prop := 97 ≤ a ∧ a ≤ 122
def ChgOk : Chg → Prop
  | .keep a => isL a
  | .change a b => isL a ∧ isL b ∧ a ≠ b
  | .out a => isL a
  | .inn a => isL a
def encC : Chg → PyData
  | .keep a => .tuple [.str "keep", .str (tx [a])]
  | .change a b => .tuple [.str "change", .str (tx [a]), .str (tx [b])]
  | .out a => .tuple [.str "out", .str (tx [a])]
  | .inn a => .tuple [.str "in", .str (tx [a])]
def ChgD (d : PyData) : Prop := ∃ c, d = encC c ∧ ChgOk c
/-- no text in it is too long to be looked at -/
def tB : PyData → Prop
  | .tuple ds => ∀ z, PyData.str z ∈ ds → z.length ≤ 16777216
  | _ => True
def szOf (k : Str) : Int := if k = "keep" then 2 else if k = "change" then 3 else if k = "out" then 2 else if k = "in" then 2 else 0
theorem sz_val (k : Str) : (valS [("keep", .int 2), ("change", .int 3), ("out", .int 2), ("in", .int 2)] k).getD (.int 0) = .int (szOf k) := by
  unfold valS szOf
  by_cases h1 : k = "keep"
  · subst h1; rfl
  by_cases h2 : k = "change"
  · subst h2; rfl
  by_cases h3 : k = "out"
  · subst h3; rfl
  by_cases h4 : k = "in"
  · subst h4; rfl
  rw [if_neg h1, if_neg h2, if_neg h3, if_neg h4]
  rw [List.find?_cons, List.find?_cons, List.find?_cons, List.find?_cons, List.find?_nil]
  rw [beq_eq_false_iff_ne.mpr (fun z => h1 z.symm), beq_eq_false_iff_ne.mpr (fun z => h2 z.symm), beq_eq_false_iff_ne.mpr (fun z => h3 z.symm), beq_eq_false_iff_ne.mpr (fun z => h4 z.symm)]
  rfl
def isLetD : PyData → Bool
  | .str z => decide (z.length = 1) && z.cps.toList.all fun c => decide (97 ≤ c ∧ c ≤ 122)
  | _ => false
theorem isLet_rn {H : Hp} {x : V} {d : PyData} (h : Rn H x d) : isLetter x = isLetD d := by cases h <;> rfl
theorem isLetD_T {d : PyData} (h : isLetD d = true) : ∃ a, d = .str (tx [a]) ∧ isL a := by
  cases d with
  | str z =>
    unfold isLetD at h
    rw [Bool.and_eq_true, decide_eq_true_eq] at h
    have hl : z.cps.toList.length = 1 := by rw [Array.length_toList]; exact h.1
    obtain ⟨a, ha⟩ := List.length_eq_one_iff.mp hl
    rw [ha] at h
    exact ⟨a, by rw [← tx_eta z, ha], by unfold isL; simpa using h.2⟩
  | _ => cases h
theorem isLetD_of {a : Nat} (h : isL a) : isLetD (.str (tx [a])) = true := by
  show (decide ((tx [a]).length = 1) && (tx [a]).cps.toList.all fun c => decide (97 ≤ c ∧ c ≤ 122)) = true
  rw [tx_length, tx_toList]
  unfold isL at h
  simp [h]
theorem szOf_chg {k : Str} (h : szOf k ≠ 0) : k = "keep" ∨ k = "change" ∨ k = "out" ∨ k = "in" := by
  unfold szOf at h
  by_cases h1 : k = "keep"
  · exact .inl h1
  by_cases h2 : k = "change"
  · exact .inr (.inl h2)
  by_cases h3 : k = "out"
  · exact .inr (.inr (.inl h3))
  by_cases h4 : k = "in"
  · exact .inr (.inr (.inr h4))
  rw [if_neg h1, if_neg h2, if_neg h3, if_neg h4] at h
  exact absurd rfl h
theorem enc_shape (c : Chg) : ∃ k ds, encC c = .tuple (.str k :: ds) ∧ szOf k = ((ds.length + 1 : Nat) : Int) ∧ 1 ≤ ds.length := by
  cases c with
  | keep a => exact ⟨"keep", [_], rfl, (by show szOf "keep" = 2; decide +kernel), Nat.le_refl _⟩
  | change a b => exact ⟨"change", [_, _], rfl, (by show szOf "change" = 3; decide +kernel), Nat.le_succ _⟩
  | out a => exact ⟨"out", [_], rfl, (by show szOf "out" = 2; decide +kernel), Nat.le_refl _⟩
  | inn a => exact ⟨"in", [_], rfl, (by show szOf "in" = 2; decide +kernel), Nat.le_refl _⟩
theorem enc_lets {c : Chg} (h : ChgOk c) {k : Str} {ds : List PyData} (e : encC c = .tuple (.str k :: ds)) : ∀ d ∈ ds, isLetD d = true := by
  cases c <;> (unfold encC at e; injection e with e; injection e with e1 e2; subst e2; intro d hd; simp only [List.mem_cons, List.not_mem_nil, or_false] at hd)
  · subst hd; exact isLetD_of h
  · rcases hd with rfl | rfl
    · exact isLetD_of h.1
    · exact isLetD_of h.2.1
  · subst hd; exact isLetD_of h
  · subst hd; exact isLetD_of h
theorem szOf_le (k : Str) : szOf k ≤ 3 := by
  unfold szOf
  by_cases h1 : k = "keep"
  · rw [if_pos h1]; decide
  by_cases h2 : k = "change"
  · rw [if_neg h1, if_pos h2]; decide
  by_cases h3 : k = "out"
  · rw [if_neg h1, if_neg h2, if_pos h3]; decide
  by_cases h4 : k = "in"
  · rw [if_neg h1, if_neg h2, if_neg h3, if_pos h4]; decide
  rw [if_neg h1, if_neg h2, if_neg h3, if_neg h4]; decide
theorem at_c0 {x : V} {r : List V} : atI (x :: r) 0 = some x := by
  unfold atI ixN
  rw [List.length_cons, if_pos (by omega), if_pos (by omega)]
  rfl
theorem enc_k {c : Chg} {k : Str} {ds : List PyData} (e : encC c = .tuple (.str k :: ds)) : szOf k = ((ds.length + 1 : Nat) : Int) := by
  obtain ⟨k2, ds2, e2, h, _⟩ := enc_shape c
  rw [e2] at e
  injection e with e
  injection e with e1 e3
  injection e1 with e1
  subst e1 e3
  exact h
def sp_is_change : Sp := fun vs H Q _ => ∃ (x : V) (d : PyData), vs = [x] ∧ Rn H x d ∧ tB d ∧ ∀ b H', Ex H H' → (b = true ↔ ChgD d) → Q (.bl b) H'
theorem ok_is_change (T : Tx K mg ad fd tk base tc w) : FnOk P w K mg base CX0 2 (ad 25) (fd 25) ["thing"] sp_is_change := by
  refine T.d_is_change.F.ok sc_is_change (fun vs H Q E h => ?_) (fun cdv A outer s H vs Q E hr h => ?_)
  · obtain ⟨x, d, rfl, _⟩ := h
    rfl
  · obtain ⟨x, d, rfl, hx, hz, k⟩ := h
    refine ⟨_, (pss_cons (ps_if (PW.pt (pw_or (pt_not (pt_val (pe_callB c_is (by rfl) T.b_isinstance (by decide +kernel) (pa_cons (pv 0) (pa_cons (pe_bltn (v := .ty "tuple") rfl T.b_tuple (by decide +kernel) rfl) pa_nil))))) (pw_or (pt_cmpR o_lt (pe_callB (c_len (K := K)) (by rfl) T.b_len (by decide +kernel) (pa_cons (pv 0) pa_nil)) pe_int (nomark _)) (pw_or1 (pt_not (pt_val (pe_callB c_is (by rfl) T.b_isinstance (by decide +kernel) (pa_cons (pe_ix (i_ix (K := K)) (pv 0) pe_int (fun _ _ => rfl)) (pa_cons (pe_bltn (v := .ty "str") rfl T.b_str (by decide +kernel) rfl) pa_nil))))))))) (pss_one (ps_ret pe_bl)) pss_nil)
      (pss_cons (ps_if (PW.pt (pw_or (pt_cmpR (o_ne hr.units) (pe_gget2 (pe_glob (v := .ref (clsA K "SIZES")) rfl T.c_SIZES rfl) (pe_ix (i_ix (K := K)) (pv 0) pe_int (fun _ _ => rfl)) pe_int ⟨rfl, rfl, rfl, rfl⟩) (pe_callB (c_len (K := K)) (by rfl) T.b_len (by decide +kernel) (pa_cons (pv 0) pa_nil)) (nomark _)) (pw_or1 (pt_not (pt_val (pe_callB (c_all rfl) (by rfl) T.b_all (by decide +kernel) (pa_cons (pe_lc (own := [("letter", 1)]) (g := gName 1) rfl sc_is_change.nd (pi_tup (pe_slice (s_slA (K := K)) (pv 0) (po_some pe_int) po_none)) (blkOk_by (own := [("letter", 1)]) (N := N_is_change) (sc := defScope s_is_change) (by decide +kernel)) (fun _ _ _ _ _ => pg_name (i := 1) sc_is_change.nd rfl (Or.inl rfl)) (fun _ _ _ _ _ => pts_nil) (fun _ _ _ _ _ => (pe_call (ok_is_letter T) (hr.mono (by decide)) rfl T.d_is_letter.g T.d_is_letter.F.kp T.d_is_letter.b .nil pass0 (pa_cons (pv 1) pa_nil)))) pa_nil))))))) (pss_one (ps_ret pe_bl)) pss_nil)
      (pss_one (ps_ret (pe_or (pe_cmpR (o_ne hr.units) (pe_ix (i_ix (K := K)) (pv 0) pe_int (fun _ _ => rfl)) pe_str (nomark _)) (pe_one (pe_cmpR (o_ne hr.units) (pe_ix (i_ix (K := K)) (pv 0) pe_int (fun _ _ => rfl)) (pe_ix (i_ix (K := K)) (pv 0) pe_int (fun _ _ => rfl)) (nomark _)))))))), ?_⟩
    have no : ∀ H', Ex H H' → (¬ ChgD d) → Q (.bl false) H' := fun H' e n => k false H' e ⟨(fun z => nomatch z), (fun z => (n z).elim)⟩
    walk_at "go"
    refine st_isTupD hx.rq ?_
    refine ⟨_, rfl, ?_⟩
    by_cases hd : ∃ ds, d = .tuple ds
    rotate_left
    · refine st_T ?_ ?_
      · cases d <;> first | rfl | exact absurd ⟨_, rfl⟩ hd
      walk_at "go"
      refine no H (Fr.refl _) (fun h => ?_)
      obtain ⟨c, e, _⟩ := h
      obtain ⟨k, ds, e2, _⟩ := enc_shape c
      exact hd ⟨_, e.trans e2⟩
    obtain ⟨ds, rfl⟩ := hd
    obtain ⟨a, xs, hv, h1, h2⟩ := hx.tupAt
    subst hv
    have hl := h2.len
    refine st_F rfl ?_
    walk_at "go"
    refine st_br2 (fun c => ?_) (fun c => ?_)
    · walk_at "go"
      refine no H (Fr.refl _) (fun h => ?_)
      obtain ⟨c', e, _⟩ := h
      obtain ⟨k, es, e2, _, e3⟩ := enc_shape c'
      rw [e2] at e
      injection e with e
      have := congrArg List.length e
      rw [List.length_cons] at this
      omega
    obtain ⟨x0, x1, xr, rfl⟩ : ∃ x0 x1 xr, xs = x0 :: x1 :: xr := by
      match xs, c with
      | [], c => simp at c
      | [_], c => simp at c
      | x0 :: x1 :: xr, _ => exact ⟨x0, x1, xr, rfl⟩
    obtain ⟨d0, ds, rfl, r0, r1⟩ : ∃ d0 es, ds = d0 :: es ∧ Rn H x0 d0 ∧ RnA H (x1 :: xr) es := by
      match ds, h2 with
      | d0 :: es, .cons r0 r1 => exact ⟨d0, es, rfl, r0, r1⟩
    walk_at "go"
    refine st_ixT h1 at_c0 ?_
    walk_at "go"
    refine st_isStrT r0.rq.ty ?_
    by_cases hk : ∃ k, d0 = .str k
    rotate_left
    · rw [show isStrV x0 = false by cases r0 <;> first | rfl | exact absurd ⟨_, rfl⟩ hk]
      walk_at "go"
      refine no H (Fr.refl _) (fun h => ?_)
      obtain ⟨c', e, _⟩ := h
      obtain ⟨k, es, e2, _⟩ := enc_shape c'
      rw [e2] at e
      injection e with e
      injection e with e _
      exact hk ⟨_, e⟩
    obtain ⟨kk, rfl⟩ := hk
    obtain rfl : x0 = .str kk := by cases r0; rfl
    rw [show isStrV (.str kk) = true from rfl]
    walk_at "go"
    refine st_ixT h1 at_c0 ?_
    walk_at "go"
    rw [sz_val]
    walk_at "go"
    rw [show (V.str kk :: x1 :: xr).length = ds.length + 1 by rw [List.length_cons]; have := r1.len; omega]
    refine st_brn (fun c2 => ?_) (fun c2 => ?_)
    · walk_at "go"
      refine no H (Fr.refl _) (fun h => ?_)
      obtain ⟨c', e, _⟩ := h
      exact c2 (enc_k e.symm)
    walk_at "go"
    refine st_slA (tup_of h1) ?_ fun q H1 n1 e1 v1 => ?_
    · intro h
      have := h.1
      revert this
      show ¬ (min 1 (x1 :: xr).length.succ = 0)
      rw [List.length_cons]
      omega
    rw [show cutV (V.str kk :: x1 :: xr) (some 1) none = x1 :: xr from cutV_from _ 1] at v1
    obtain ⟨zs, hz1, rfl, hzs⟩ := r1.zipped
    rw [hz1] at v1
    have hzl : zs.length ≤ 2 := by
      have := szOf_le kk
      rw [List.length_map] at c2
      omega
    walk_at "go"
    refine lc_map (rv_tup K q zs fun z => z.1) (fun H' e => tup_of (e.get v1)) (by omega) (fun z => V.bl (isLetD z.2)) ?_ ?_
    · intro y H' hy e B h2
      refine ⟨rfl, ?_⟩
      have h2' := h2 _ (Fr.refl _)
      have ry := (hzs y hy).ex (e1.trans e)
      walk_at "go"
      refine ⟨_, rfl, ry.rq.ty, fun z hz2 => ?_, ?_⟩
      · have e3 := (hzs y hy)
        rw [hz2] at e3
        obtain ⟨y1, y2⟩ := y
        dsimp only at hz2 e3
        cases e3
        exact hz z (List.mem_cons_of_mem _ (List.mem_map.mpr ⟨_, hy, rfl⟩))
      · rw [isLet_rn ry]
        exact h2'
    intro C H2 n2 e2 v2
    have v2' : H2 C = some (.lst ((zs.map fun z => isLetD z.2).map V.bl)) := by rw [v2, List.map_map]; rfl
    walk_at "go"
    refine st_all v2' rfl ?_
    have e02 := e1.trans e2
    cases hall : (zs.map fun z => isLetD z.2).all id with
    | false =>
      walk_at "go"
      refine no H2 e02 (fun h => ?_)
      obtain ⟨c', e, ok⟩ := h
      have := enc_lets ok e.symm
      rw [List.all_eq_false] at hall
      obtain ⟨b, hb, hb2⟩ := hall
      obtain ⟨z, hz, rfl⟩ := List.mem_map.mp hb
      exact hb2 (this z.2 (List.mem_map.mpr ⟨z, hz, rfl⟩))
    | true =>
      have hlets : ∀ d ∈ zs.map (·.2), ∃ a, d = .str (tx [a]) ∧ isL a := fun d hd => by
        obtain ⟨z, hz, rfl⟩ := List.mem_map.mp hd
        exact isLetD_T (List.all_eq_true.mp hall _ (List.mem_map.mpr ⟨z, hz, rfl⟩))
      have h12 := e02.get h1
      have hkk := szOf_chg (k := kk) (by rw [c2]; omega)
      walk_at "go"
      refine st_ixT h12 at_c0 ?_
      walk_at "go"
      by_cases hc : kk = "change"
      · subst hc
        have c3 : szOf "change" = 3 := by decide +kernel
        rw [c3, List.length_map] at c2
        obtain ⟨y1, y2, rfl⟩ : ∃ y1 y2, zs = [y1, y2] := by
          match zs, (show zs.length = 2 by omega) with
          | [y1, y2], _ => exact ⟨y1, y2, rfl⟩
        obtain ⟨a1, ha1, la1⟩ := hlets y1.2 (by simp)
        obtain ⟨a2, ha2, la2⟩ := hlets y2.2 (by simp)
        obtain ⟨u1, f1⟩ := y1
        obtain ⟨u2, f2⟩ := y2
        dsimp only at ha1 ha2
        subst ha1 ha2
        have g1 := hzs _ List.mem_cons_self
        have g2 := hzs _ (List.mem_cons_of_mem _ List.mem_cons_self)
        dsimp only at g1 g2
        cases g1
        cases g2
        rw [hz1] at h12
        have h12 : H2 a = some (.tup [.str "change", .str (tx [a1]), .str (tx [a2])]) := h12
        rw [decide_eq_true rfl]
        walk_at "go"
        refine k _ H2 e02 ⟨fun hb => ?_, fun hd => ?_⟩
        · refine ⟨.change a1 a2, rfl, la1, la2, fun z => ?_⟩
          subst z
          simp at hb
        · obtain ⟨c', e, ok⟩ := hd
          cases c' with
          | change b1 b2 =>
            unfold encC at e
            injection e with e
            injection e with _ e
            injection e with e1 e
            injection e with e2 _
            injection e1 with e1
            injection e2 with e2
            rw [e1, e2]
            have := ok.2.2
            rw [decide_eq_false (fun z => this (by rw [tx_inj] at z; simpa using z))]
            rfl
          | _ =>
            unfold encC at e
            injection e with e
            have := congrArg List.length e
            simp at this
      · rw [decide_eq_false hc]
        walk_at "go"
        refine k true H2 e02 ⟨fun _ => ?_, fun _ => rfl⟩
        have one : szOf kk = 2 → ∃ a, zs.map (·.2) = [.str (tx [a])] ∧ isL a := fun h => by
          rw [h, List.length_map] at c2
          obtain ⟨y1, rfl⟩ : ∃ y1, zs = [y1] := by
            match zs, (show zs.length = 1 by omega) with
            | [y1], _ => exact ⟨y1, rfl⟩
          obtain ⟨a1, ha1, la1⟩ := hlets y1.2 (by simp)
          exact ⟨a1, by rw [List.map_cons, ha1]; rfl, la1⟩
        rcases hkk with rfl | rfl | rfl | rfl
        · obtain ⟨a1, h1, h2⟩ := one (by decide +kernel)
          exact ⟨.keep a1, by rw [h1]; rfl, h2⟩
        · exact absurd rfl hc
        · obtain ⟨a1, h1, h2⟩ := one (by decide +kernel)
          exact ⟨.out a1, by rw [h1]; rfl, h2⟩
        · obtain ⟨a1, h1, h2⟩ := one (by decide +kernel)
          exact ⟨.inn a1, by rw [h1]; rfl, h2⟩
def ChgsD (d : PyData) : Prop := ∃ l : List Chg, d = .list (l.map encC) ∧ l.length ≤ 48 ∧ ∀ c ∈ l, ChgOk c
def lB : PyData → Prop
  | .list es => es.length ≤ 100000 ∧ ∀ e ∈ es, tB e
  | _ => True
theorem chgs_all : ∀ zs : List PyData, (∀ z ∈ zs, ChgD z) → ∃ l : List Chg, zs = l.map encC ∧ ∀ c ∈ l, ChgOk c
  | [], _ => ⟨[], rfl, fun _ h => nomatch h⟩
  | z :: zs, h => by
    obtain ⟨l, e, k⟩ := chgs_all zs fun y hy => h y (List.mem_cons_of_mem _ hy)
    obtain ⟨s, e1, e2⟩ := h z List.mem_cons_self
    refine ⟨s :: l, by rw [List.map_cons, e1, e], fun y hy => ?_⟩
    rcases List.mem_cons.mp hy with e | e
    · rw [e]; exact e2
    · exact k y e
def sp_is_changes : Sp := fun vs H Q _ => ∃ (x : V) (d : PyData), vs = [x] ∧ Rq H x d ∧ (isListD d = true → Rn H x d) ∧ lB d ∧ ∀ b H', Ex H H' → (b = true ↔ ChgsD d) → Q (.bl b) H'
theorem bls_pick {zs : List (V × PyData)} {acc : List V} (hl : acc.length = zs.length) (h : ∀ (i : Nat) v, acc[i]? = some v → ∃ (y : V × PyData) (b : Bool), zs[i]? = some y ∧ v = .bl b ∧ (b = true ↔ ChgD y.2)) : ∃ bs : List Bool, acc = bs.map V.bl ∧ ∀ (i : Nat) y, zs[i]? = some y → ∃ b, bs[i]? = some b ∧ (b = true ↔ ChgD y.2) := by
  induction acc generalizing zs with
  | nil =>
    refine ⟨[], rfl, fun i y hy => ?_⟩
    have := List.length_eq_zero_iff.mp hl.symm
    rw [this] at hy
    simp at hy
  | cons a r ih =>
    cases zs with
    | nil => cases hl
    | cons z zs =>
      obtain ⟨bs, e1, e2⟩ := ih (zs := zs) (by simpa using hl) fun i v hv => h (i + 1) v hv
      obtain ⟨y, b, h1, rfl, h2⟩ := h 0 a rfl
      cases h1
      refine ⟨b :: bs, by rw [e1]; rfl, fun i y hy => ?_⟩
      cases i with
      | zero => cases hy; exact ⟨b, rfl, h2⟩
      | succ i => exact e2 i y hy
theorem ok_is_changes (T : Tx K mg ad fd tk base tc w) : FnOk P w K mg base CX0 3 (ad 26) (fd 26) ["thing"] sp_is_changes := by
  refine T.d_is_changes.F.ok sc_is_changes (fun vs H Q E h => ?_) (fun cdv A outer s H vs Q E hr h => ?_)
  · obtain ⟨x, d, rfl, _⟩ := h
    rfl
  · obtain ⟨x, d, rfl, hq, hx, hb, k⟩ := h
    refine ⟨_, (pss_cons (ps_if (PW.pt (pw_or (pt_not (pt_val (pe_callB c_is (by rfl) T.b_isinstance (by decide +kernel) (pa_cons (pv 0) (pa_cons (pe_bltn (v := .ty "list") rfl T.b_list (by decide +kernel) rfl) pa_nil))))) (pw_or1 (pt_cmpR o_gt (pe_callB (c_len (K := K)) (by rfl) T.b_len (by decide +kernel) (pa_cons (pv 0) pa_nil)) (pe_glob (v := .int 48) rfl T.c_MOST_CHANGES ⟨_, rfl⟩) (nomark _))))) (pss_one (ps_ret pe_bl)) pss_nil)
      (pss_one (ps_ret (pe_callB (c_all rfl) (by rfl) T.b_all (by decide +kernel) (pa_cons (pe_lc (own := [("change", 1)]) (g := gName 1) rfl sc_is_changes.nd (pi_list (pv 0)) (blkOk_by (own := [("change", 1)]) (N := N_is_changes) (sc := defScope s_is_changes) (by decide +kernel)) (fun _ _ _ _ _ => pg_name (i := 1) sc_is_changes.nd rfl (Or.inl rfl)) (fun _ _ _ _ _ => pts_nil) (fun _ _ _ _ _ => (pe_call (ok_is_change T) (hr.mono (by decide)) rfl T.d_is_change.g T.d_is_change.F.kp T.d_is_change.b .nil pass0 (pa_cons (pv 1) pa_nil)))) pa_nil))))), ?_⟩
    have no : ∀ H', Ex H H' → (¬ ChgsD d) → Q (.bl false) H' := fun H' e n => k false H' e ⟨(fun z => nomatch z), (fun z => (n z).elim)⟩
    walk_at "go"
    refine st_isListD hq ?_
    refine ⟨_, rfl, ?_⟩
    by_cases hd : ∃ ds, d = .list ds
    rotate_left
    · refine st_T ?_ ?_
      · cases d <;> first | rfl | exact absurd ⟨_, rfl⟩ hd
      walk_at "go"
      refine no H (Fr.refl _) (fun h => ?_)
      obtain ⟨l, e, _⟩ := h
      exact hd ⟨_, e⟩
    obtain ⟨ds, rfl⟩ := hd
    have hx := hx rfl
    obtain ⟨a, xs, hv, h1, h2⟩ := hx.listAt
    subst hv
    obtain ⟨zs, rfl, rfl, hzs⟩ := h2.zipped
    refine st_F rfl ?_
    walk_at "go"
    refine st_br2 (fun c => ?_) (fun c => ?_)
    · walk_at "go"
      rw [List.length_map] at c
      refine no H (Fr.refl _) (fun h => ?_)
      obtain ⟨l, e, hl, _⟩ := h
      injection e with e
      have := congrArg List.length e
      rw [List.length_map, List.length_map] at this
      omega
    rw [List.length_map] at c
    walk_at "go"
    obtain ⟨hb1, hb2⟩ := hb
    refine lc_rel (runs_list K a (zs.map (·.1))) (fun i x H H' h => by rw [h.1]; exact Fr.refl _) (fun H' e => lst_of (e.get h1)) (by rw [List.length_map]; omega) (fun i v => ∃ (y : V × PyData) (b : Bool), zs[i]? = some y ∧ v = .bl b ∧ (b = true ↔ ChgD y.2)) ?_ ?_
    · rintro i x H1 H2 hi e1 ⟨rfl, hx2⟩ B hB
      rw [List.getElem?_map] at hx2
      obtain ⟨y, hy, rfl⟩ := Option.map_eq_some_iff.mp hx2
      have hm := List.mem_of_getElem? hy
      refine ⟨rfl, ?_⟩
      walk_at "go"
      refine ⟨y.1, y.2, rfl, (hzs y hm).ex e1, hb2 y.2 (List.mem_map.mpr ⟨y, hm, rfl⟩), fun b H3 e3 hb3 => ?_⟩
      exact hB _ _ ⟨y, b, hy, rfl, hb3⟩ e3
    · intro C H1 acc nC e1 vC hlen hacc
      rw [List.length_map] at hlen
      obtain ⟨bs, rfl, hbs⟩ : ∃ bs : List Bool, acc = bs.map V.bl ∧ ∀ (i : Nat) y, zs[i]? = some y → ∃ b, bs[i]? = some b ∧ (b = true ↔ ChgD y.2) := bls_pick hlen hacc
      walk_at "go"
      refine st_all vC rfl ?_
      refine k _ H1 e1 ⟨fun h => ?_, fun h => ?_⟩
      · obtain ⟨l, e, hok⟩ := chgs_all (zs.map (·.2)) fun z hz => by
          obtain ⟨y, hy, rfl⟩ := List.mem_map.mp hz
          obtain ⟨i, hi⟩ := List.getElem?_of_mem hy
          obtain ⟨b, q1, q2⟩ := hbs i y hi
          exact q2.mp (List.all_eq_true.mp h b (List.mem_of_getElem? q1))
        refine ⟨l, by rw [e], ?_, hok⟩
        have := congrArg List.length e
        rw [List.length_map, List.length_map] at this
        omega
      · obtain ⟨l, e, hl, hok⟩ := h
        injection e with e
        rw [List.all_eq_true]
        intro b hb
        obtain ⟨i, hi⟩ := List.getElem?_of_mem hb
        have hi2 : i < zs.length := by
          have := (List.getElem?_eq_some_iff.mp hi).1
          rw [List.length_map] at hlen
          omega
        obtain ⟨b', q1, q2⟩ := hbs i _ (List.getElem?_eq_getElem hi2)
        rw [hi] at q1
        cases q1
        refine q2.mpr ?_
        have : zs[i].2 ∈ l.map encC := by rw [← e]; exact List.mem_map.mpr ⟨_, List.getElem_mem _, rfl⟩
        obtain ⟨c, hc, he⟩ := List.mem_map.mp this
        exact ⟨c, he.symm, hok c hc⟩
/-- changes, or refused -/
def Chgs1 (K : PySem.W.Frag) (E : XK) (H : Hp) (x : V) (d : PyData) (k : Prop) : Prop := (ChgsD d → k) ∧ (¬ ChgsD d → RaR K E H "NoChanges" "found" x)
def sp_need_changes (K : PySem.W.Frag) : Sp := fun vs H Q E => ∃ (x : V) (d : PyData), vs = [x] ∧ Rq H x d ∧ (isListD d = true → Rn H x d) ∧ lB d ∧ Chgs1 K E H x d (∀ H', Ex H H' → Q .non H')
theorem ok_need_changes (T : Tx K mg ad fd tk base tc w) : FnOk P w K mg base (L2.CX P w) 4 (ad 27) (fd 27) ["thing"] (sp_need_changes K) := by
  refine T.d_need_changes.F.okX sc_need_changes (fun vs H Q E h => ?_) (fun cdv A outer s H vs Q E hr h => ?_)
  · obtain ⟨x, d, rfl, _⟩ := h
    rfl
  · obtain ⟨x, d, rfl, hq, hx, hb, k⟩ := h
    refine ⟨_, (pss_one (ps_if (pt_not (pt_val (pe_call (ok_is_changes T) (hr.mono (by decide)) rfl T.d_is_changes.g T.d_is_changes.F.kp T.d_is_changes.b .nil pass0 (pa_cons (pv 0) pa_nil)))) (pss_one (ps_raiseG rfl (ex_NoChanges T) (hr.mono (by decide)) (takes_of rfl rfl rfl rfl) rfl (pa_cons (pv 0) pa_nil))) pss_nil)), ?_⟩
    walk_at "go"
    refine ⟨x, d, rfl, hq, hx, hb, fun b H1 e1 hb2 => ?_⟩
    cases b with
    | true =>
      have k2 := k.1 (hb2.mp rfl)
      walk_at "go"
      exact k2 H1 e1
    | false =>
      have k2 := k.2 fun h => by have := hb2.mpr h; cases this
      walk_at "go"
      rename_i dd H2 hd2 e2 hv2
      exact k2 dd H2 (Ex.free e1 hd2) (e1.trans e2) hv2
def Chg.pays : Chg → Bool
  | .keep _ => false
  | _ => true
def payD : PyData → Bool
  | .tuple (.str k :: _) => !decide (k = "keep")
  | _ => false
theorem pay_enc (c : Chg) : payD (encC c) = c.pays := by
  cases c <;> rfl
theorem enc_at {H : Hp} {x : V} {c : Chg} (h : Rn H x (encC c)) : ∃ b k xs, x = .ref b ∧ H b = some (.tup (.str k :: xs)) ∧ c.pays = !decide (k = "keep") := by
  cases c <;> (obtain ⟨b, xs, rfl, h1, h2⟩ := h.tupAt; cases h2 with | cons r0 r1 => cases r0; exact ⟨b, _, _, rfl, h1, rfl⟩)
theorem pay_count {zs : List (V × PyData)} {l : List Chg} (h : l.map encC = zs.map (·.2)) : (zs.filter fun z => payD z.2).length = l.countP Chg.pays := by
  rw [← List.countP_eq_length_filter]
  have e1 : zs.countP (fun z => payD z.2) = (zs.map (·.2)).countP payD := by rw [List.countP_map]; rfl
  rw [e1, ← h, List.countP_map]
  congr 1
  funext c
  exact pay_enc c
def chVs : Chg → List V
  | .keep a => [.str "keep", .str (tx [a])]
  | .change a b => [.str "change", .str (tx [a]), .str (tx [b])]
  | .out a => [.str "out", .str (tx [a])]
  | .inn a => [.str "in", .str (tx [a])]
abbrev CZ := Addr × Chg
def cV (z : CZ) : V := .ref z.1
def CT (H : Hp) (zs : List CZ) : Prop := ∀ z ∈ zs, H z.1 = some (.tup (chVs z.2))
theorem CT.ex {H H' : Hp} {zs : List CZ} (h : CT H zs) (e : Ex H H') : CT H' zs := fun z hz => e.get (h z hz)
theorem CT.app {H : Hp} {zs ys : List CZ} (h : CT H zs) (k : CT H ys) : CT H (zs ++ ys) := fun z hz => (List.mem_append.mp hz).elim (h z) (k z)
theorem CT.sub {H : Hp} {zs ys : List CZ} (h : CT H zs) (k : ∀ z ∈ ys, z ∈ zs) : CT H ys := fun z hz => h z (k z hz)
theorem ch_rn {H : Hp} {a : Addr} {c : Chg} (h : H a = some (.tup (chVs c))) : Rn H (.ref a) (encC c) := by
  cases c with
  | change a b => exact .tup h (.cons (.str _) (.cons (.str _) (.cons (.str _) .nil)))
  | _ => exact .tup h (.cons (.str _) (.cons (.str _) .nil))
theorem cz_rnA {H : Hp} : ∀ {zs : List CZ}, CT H zs → RnA H (zs.map cV) ((zs.map (·.2)).map encC)
  | [], _ => .nil
  | z :: zs, h => .cons (ch_rn (h z List.mem_cons_self)) (cz_rnA (h.sub fun y hy => List.mem_cons_of_mem _ hy))
theorem cz_rn {H : Hp} {p : Addr} {zs : List CZ} (hp : H p = some (.lst (zs.map cV))) (h : CT H zs) : Rn H (.ref p) (.list ((zs.map (·.2)).map encC)) := .lst hp (cz_rnA h)
theorem encC_tB {c : Chg} : tB (encC c) := by
  cases c <;> (intro z hz; simp only [List.mem_cons, List.not_mem_nil, or_false] at hz)
  · rcases hz with h | h <;> (injection h with h; subst h) <;> first | decide +kernel | (rw [tx_length]; exact (by decide : 1 ≤ 16777216))
  · rcases hz with h | h | h <;> (injection h with h; subst h) <;> first | decide +kernel | (rw [tx_length]; exact (by decide : 1 ≤ 16777216))
  · rcases hz with h | h <;> (injection h with h; subst h) <;> first | decide +kernel | (rw [tx_length]; exact (by decide : 1 ≤ 16777216))
  · rcases hz with h | h <;> (injection h with h; subst h) <;> first | decide +kernel | (rw [tx_length]; exact (by decide : 1 ≤ 16777216))
theorem cz_lB {zs : List CZ} (hl : zs.length ≤ 100000) : lB (.list ((zs.map (·.2)).map encC)) := ⟨by rw [List.length_map, List.length_map]; exact hl, fun e he => by
  obtain ⟨c, _, rfl⟩ := List.mem_map.mp he
  exact encC_tB⟩
theorem chV_0 (c : Chg) : ∃ k, (∃ r, chVs c = .str k :: r) ∧ c.pays = !decide (k = "keep") := by
  cases c <;> exact ⟨_, ⟨_, rfl⟩, rfl⟩
theorem enc_nd (l : List Chg) : (PyData.list (l.map encC)).hasDict = false ∧ (PyData.list (l.map encC)).depth ≤ 4 := by
  have h1 : ∀ c : Chg, (encC c).hasDict = false ∧ (encC c).depth ≤ 3 := fun c => by cases c <;> exact ⟨rfl, by simp [encC, PyData.depth, PyData.depthAll]⟩
  have h2 : ∀ l : List Chg, PyData.hasDictAll (l.map encC) = false ∧ PyData.depthAll (l.map encC) ≤ 3 := fun l => by
    induction l with
    | nil => exact ⟨rfl, by simp [PyData.depthAll]⟩
    | cons c l ih =>
      have := h1 c
      rw [List.map_cons]
      simp only [PyData.hasDictAll, PyData.depthAll, this.1, ih.1]
      exact ⟨rfl, by omega⟩
  have := h2 l
  exact ⟨this.1, by simp only [PyData.depth]; omega⟩
/-- things that are no changes -/
def NoCh (H : Hp) (v : V) : Prop := ∃ d, Rn H v d ∧ tB d ∧ d.hasDict = false ∧ d.depth ≤ 5 ∧ ¬ ChgD d
theorem NoCh.mk {H : Hp} {v : V} {d : PyData} (h1 : Rn H v d) (h2 : tB d) (h3 : d.hasDict = false) (h4 : d.depth ≤ 5) (h5 : ¬ ChgD d) : NoCh H v := ⟨d, h1, h2, h3, h4, h5⟩
theorem NoCh.ex {H H' : Hp} {v : V} (h : NoCh H v) (e : Ex H H') : NoCh H' v := by
  obtain ⟨d, h1, h2⟩ := h
  exact ⟨d, h1.ex e, h2⟩
theorem zip_cz {H : Hp} : ∀ {ts : List Addr} {cs : List Chg}, ObjsAt H ts (cs.map fun c => HO.tup (chVs c)) → CT H (ts.zip cs) ∧ (ts.zip cs).map cV = ts.map V.ref ∧ (ts.zip cs).length = ts.length ∧ ∀ z ∈ ts.zip cs, z.2 ∈ cs
  | [], [], _ => ⟨fun _ h => (by cases h), rfl, rfl, fun _ h => (by cases h)⟩
  | [], _ :: _, h => by cases h
  | _ :: _, [], h => by cases h
  | t :: ts, c :: cs, h => by
    cases h with
    | cons h1 h2 =>
      obtain ⟨a, b, d, e⟩ := zip_cz h2
      refine ⟨fun z hz => ?_, by rw [List.zip_cons_cons, List.map_cons, List.map_cons, b]; rfl, by rw [List.zip_cons_cons, List.length_cons, List.length_cons, d], fun z hz => ?_⟩
      · rcases List.mem_cons.mp hz with rfl | hz
        · exact h1
        · exact a z hz
      · rcases List.mem_cons.mp hz with rfl | hz
        · exact List.mem_cons_self
        · exact List.mem_cons_of_mem _ (e z hz)
def Chg.o : Chg → List Nat
  | .keep a => [a]
  | .change a _ => [a]
  | .out a => [a]
  | .inn _ => []
def Chg.n : Chg → List Nat
  | .keep a => [a]
  | .change _ b => [b]
  | .out _ => []
  | .inn a => [a]
def Chg.rv : Chg → Chg
  | .keep a => .keep a
  | .change a b => .change b a
  | .out a => .inn a
  | .inn a => .out a
def oldR (l : List Chg) : Str := tx (l.flatMap Chg.o)
def newR (l : List Chg) : Str := tx (l.flatMap Chg.n)
theorem rv_o (c : Chg) : c.rv.o = c.n := by cases c <;> rfl
theorem rv_n (c : Chg) : c.rv.n = c.o := by cases c <;> rfl
theorem rv_ok {c : Chg} (h : ChgOk c) : ChgOk c.rv := by
  cases c with
  | change a b => exact ⟨h.2.1, h.1, fun z => h.2.2 z.symm⟩
  | _ => exact h
theorem cho_le (c : Chg) : c.o.length ≤ 1 ∧ ∀ a ∈ c.o, ChgOk c → isL a := by
  cases c <;> exact ⟨by simp [Chg.o], fun a ha ok => by first | (cases ha; done) | (rw [List.mem_singleton.mp ha]; first | exact ok | exact ok.1)⟩
theorem chn_le (c : Chg) : c.n.length ≤ 1 ∧ ∀ a ∈ c.n, ChgOk c → isL a := by
  cases c <;> exact ⟨by simp [Chg.n], fun a ha ok => by first | (cases ha; done) | (rw [List.mem_singleton.mp ha]; first | exact ok | exact ok.2.1)⟩
theorem newR_let {l : List Chg} (h : ∀ c ∈ l, ChgOk c) : ∀ a ∈ (newR l).cps.toList, isL a := fun a ha => by
  unfold newR at ha
  rw [tx_toList] at ha
  obtain ⟨c, hc, h2⟩ := List.mem_flatMap.mp ha
  exact (chn_le c).2 a h2 (h c hc)
theorem let_plain {z : Str} (h : ∀ a ∈ z.cps.toList, isL a) (hl : z.length ≤ 24) : PlainS z := by
  show (isRow (.str z) && (decide (z.length ≤ 24) && !decide (46 ∈ z.cps.toList))) = true
  rw [decide_eq_true hl, decide_eq_false (fun m => by have := h 46 m; unfold isL at this; omega), Bool.not_false, Bool.true_and, Bool.and_true]
  show (decide (z.length ≤ 48) && z.cps.toList.all rowSign) = true
  rw [decide_eq_true (by omega), Bool.true_and, List.all_eq_true]
  intro a ha
  have := h a ha
  unfold isL at this
  unfold rowSign
  simp [this]
theorem join_flat {f : Chg → List Nat} (l : List Chg) : Txt.join "" (l.map fun c => tx (f c)) = tx (l.flatMap f) := by
  have h := join_txs (l.map f)
  rw [List.map_map] at h
  rw [List.flatMap_def]
  exact h
theorem sum_flat {f : Chg → List Nat} (h : ∀ c, (f c).length ≤ 1) : ∀ l : List Chg, ((l.map fun c => tx (f c)).map (·.length)).sum ≤ l.length
  | [] => Nat.le_refl _
  | c :: l => by
    have := h c
    have := sum_flat h l
    rw [List.map_cons, List.map_cons, List.sum_cons, tx_length, List.length_cons]
    omega
/-- a list of changes, by its data -/
theorem ch_of {H : Hp} {x : V} {c : Chg} (h : Rn H x (encC c)) : ∃ a, x = .ref a ∧ H a = some (.tup (chVs c)) := by
  cases c with
  | change a b =>
    obtain ⟨p, xs, rfl, h1, h2⟩ := h.tupAt
    cases h2 with | cons r0 h2 => cases h2 with | cons r1 h2 => cases h2 with | cons r2 h2 => cases h2; cases r0; cases r1; cases r2; exact ⟨p, rfl, h1⟩
  | keep a =>
    obtain ⟨p, xs, rfl, h1, h2⟩ := h.tupAt
    cases h2 with | cons r0 h2 => cases h2 with | cons r1 h2 => cases h2; cases r0; cases r1; exact ⟨p, rfl, h1⟩
  | out a =>
    obtain ⟨p, xs, rfl, h1, h2⟩ := h.tupAt
    cases h2 with | cons r0 h2 => cases h2 with | cons r1 h2 => cases h2; cases r0; cases r1; exact ⟨p, rfl, h1⟩
  | inn a =>
    obtain ⟨p, xs, rfl, h1, h2⟩ := h.tupAt
    cases h2 with | cons r0 h2 => cases h2 with | cons r1 h2 => cases h2; cases r0; cases r1; exact ⟨p, rfl, h1⟩
theorem cz_ofA {H : Hp} : ∀ {xs : List V} {l : List Chg}, RnA H xs (l.map encC) → ∃ zs : List CZ, xs = zs.map cV ∧ CT H zs ∧ zs.map (fun z => z.2) = l
  | [], [], _ => ⟨[], rfl, (fun _ h => by cases h), rfl⟩
  | [], _ :: _, h => by cases h
  | _ :: _, [], h => by cases h
  | x :: xs, c :: l, h => by
    cases h with
    | cons h1 h2 =>
      obtain ⟨a, rfl, ha⟩ := ch_of h1
      obtain ⟨zs, rfl, hz, rfl⟩ := cz_ofA h2
      refine ⟨(a, c) :: zs, rfl, fun z hz2 => ?_, rfl⟩
      rcases List.mem_cons.mp hz2 with rfl | hz2
      · exact ha
      · exact hz z hz2
theorem cz_of {H : Hp} {x : V} {l : List Chg} (h : Rn H x (.list (l.map encC))) : ∃ (p : Addr) (zs : List CZ), x = .ref p ∧ H p = some (.lst (zs.map cV)) ∧ CT H zs ∧ zs.map (fun z => z.2) = l := by
  obtain ⟨p, xs, rfl, h1, h2⟩ := h.listAt
  obtain ⟨zs, rfl, h3, h4⟩ := cz_ofA h2
  exact ⟨p, zs, rfl, h1, h3, h4⟩
def sp_old_of : Sp := fun vs H Q _ => ∃ (p : Addr) (c : Chg), vs = [.ref p] ∧ H p = some (.tup (chVs c)) ∧ Q (.str (tx c.o)) H
theorem ok_old_of (T : Tx K mg ad fd tk base tc w) : FnOk P w K mg base CX0 1 (ad 28) (fd 28) ["change"] sp_old_of := by
  refine T.d_old_of.F.ok sc_old_of (fun vs H Q E h => ?_) (fun cdv A outer s H vs Q E hr h => ?_)
  · obtain ⟨p, c, rfl, _⟩ := h
    rfl
  · obtain ⟨p, c, rfl, hp, k⟩ := h
    refine ⟨_, (pss_cons (ps_if (pt_cmpR (o_eq hr.units) (pe_ix (i_ix (K := K)) (pv 0) pe_int (fun _ _ => rfl)) pe_str (nomark _)) (pss_one (ps_ret pe_str)) pss_nil)
      (pss_one (ps_ret (pe_ix (i_ix (K := K)) (pv 0) pe_int (fun _ _ => rfl))))), ?_⟩
    cases c with
    | inn a =>
      have hp : H p = some (.tup [.str "in", .str (tx [a])]) := hp
      walk_at "go"
      rw [show (Str.ofString "") = tx [] from tx_nil]
      exact k
    | keep a =>
      have hp : H p = some (.tup [.str "keep", .str (tx [a])]) := hp
      walk_at "go"
      exact k
    | change a b =>
      have hp : H p = some (.tup [.str "change", .str (tx [a]), .str (tx [b])]) := hp
      walk_at "go"
      exact k
    | out a =>
      have hp : H p = some (.tup [.str "out", .str (tx [a])]) := hp
      walk_at "go"
      exact k
def sp_new_of : Sp := fun vs H Q _ => ∃ (p : Addr) (c : Chg), vs = [.ref p] ∧ H p = some (.tup (chVs c)) ∧ Q (.str (tx c.n)) H
theorem ok_new_of (T : Tx K mg ad fd tk base tc w) : FnOk P w K mg base CX0 1 (ad 29) (fd 29) ["change"] sp_new_of := by
  refine T.d_new_of.F.ok sc_new_of (fun vs H Q E h => ?_) (fun cdv A outer s H vs Q E hr h => ?_)
  · obtain ⟨p, c, rfl, _⟩ := h
    rfl
  · obtain ⟨p, c, rfl, hp, k⟩ := h
    refine ⟨_, (pss_cons (ps_if (pt_cmpR (o_eq hr.units) (pe_ix (i_ix (K := K)) (pv 0) pe_int (fun _ _ => rfl)) pe_str (nomark _)) (pss_one (ps_ret pe_str)) pss_nil)
      (pss_one (ps_ret (pe_ix (i_ix (K := K)) (pv 0) (pe_un un_neg pe_int) (fun _ _ => rfl))))), ?_⟩
    cases c with
    | inn a =>
      have hp : H p = some (.tup [.str "in", .str (tx [a])]) := hp
      walk_at "go"
      exact k
    | keep a =>
      have hp : H p = some (.tup [.str "keep", .str (tx [a])]) := hp
      walk_at "go"
      exact k
    | change a b =>
      have hp : H p = some (.tup [.str "change", .str (tx [a]), .str (tx [b])]) := hp
      walk_at "go"
      exact k
    | out a =>
      have hp : H p = some (.tup [.str "out", .str (tx [a])]) := hp
      walk_at "go"
      rw [show (Str.ofString "") = tx [] from tx_nil]
      exact k
def sp_old_row : Sp := fun vs H Q _ => ∃ (p : Addr) (zs : List CZ), vs = [.ref p] ∧ H p = some (.lst (zs.map cV)) ∧ CT H zs ∧ zs.length ≤ 1000 ∧ ∀ H', Ex H H' → Q (.str (oldR (zs.map fun z => z.2))) H'
theorem ok_old_row (T : Tx K mg ad fd tk base tc w) : FnOk P w K mg base CX0 2 (ad 30) (fd 30) ["changes"] sp_old_row := by
  refine T.d_old_row.F.ok sc_old_row (fun vs H Q E h => ?_) (fun cdv A outer s H vs Q E hr h => ?_)
  · obtain ⟨p, zs, rfl, _⟩ := h
    rfl
  · obtain ⟨p, zs, rfl, hp, hz, hl, k⟩ := h
    refine ⟨_, (pss_one (ps_ret (pe_join pe_str (pe_lc (own := [("change", 1)]) (g := gName 1) rfl sc_old_row.nd (pi_list (pv 0)) (blkOk_by (own := [("change", 1)]) (N := N_old_row) (sc := defScope s_old_row) (by decide +kernel)) (fun _ _ _ _ _ => pg_name (i := 1) sc_old_row.nd rfl (Or.inl rfl)) (fun _ _ _ _ _ => pts_nil) (fun _ _ _ _ _ => (pe_call (ok_old_of T) (hr.mono (by decide)) rfl T.d_old_of.g T.d_old_of.F.kp T.d_old_of.b .nil pass0 (pa_cons (pv 1) pa_nil))))))), ?_⟩
    walk_at "go"
    refine lc_map (rv_list K p zs cV) (fun H' e => lst_of (e.get hp)) (by omega) (fun z => V.str (tx (Chg.o z.2))) ?_ ?_
    · intro y H' hy e B h1
      refine ⟨rfl, ?_⟩
      have h1' := h1 _ (Fr.refl _)
      walk_at "go"
      exact ⟨y.1, y.2, rfl, e.get (hz y hy), h1'⟩
    · intro C H1 nC e1 vC
      have vC' : H1 C = some (.lst (((zs.map fun z => z.2).map fun c => tx (Chg.o c)).map V.str)) := by
        rw [vC, List.map_map, List.map_map]
        rfl
      walk_at "go"
      refine ⟨"", C, _, rfl, rfl, .inl (lstAt_sq (lst_of vC')), by
        have := sum_flat (f := Chg.o) (fun c => (cho_le c).1) (zs.map fun z => z.2)
        rw [List.length_map] at this
        rw [List.length_map, List.length_map]
        show _ + zs.length * 0 ≤ _
        omega, ?_⟩
      rw [join_flat]
      exact k H1 e1
def sp_new_row : Sp := fun vs H Q _ => ∃ (p : Addr) (zs : List CZ), vs = [.ref p] ∧ H p = some (.lst (zs.map cV)) ∧ CT H zs ∧ zs.length ≤ 1000 ∧ ∀ H', Ex H H' → Q (.str (newR (zs.map fun z => z.2))) H'
theorem ok_new_row (T : Tx K mg ad fd tk base tc w) : FnOk P w K mg base CX0 2 (ad 31) (fd 31) ["changes"] sp_new_row := by
  refine T.d_new_row.F.ok sc_new_row (fun vs H Q E h => ?_) (fun cdv A outer s H vs Q E hr h => ?_)
  · obtain ⟨p, zs, rfl, _⟩ := h
    rfl
  · obtain ⟨p, zs, rfl, hp, hz, hl, k⟩ := h
    refine ⟨_, (pss_one (ps_ret (pe_join pe_str (pe_lc (own := [("change", 1)]) (g := gName 1) rfl sc_new_row.nd (pi_list (pv 0)) (blkOk_by (own := [("change", 1)]) (N := N_new_row) (sc := defScope s_new_row) (by decide +kernel)) (fun _ _ _ _ _ => pg_name (i := 1) sc_new_row.nd rfl (Or.inl rfl)) (fun _ _ _ _ _ => pts_nil) (fun _ _ _ _ _ => (pe_call (ok_new_of T) (hr.mono (by decide)) rfl T.d_new_of.g T.d_new_of.F.kp T.d_new_of.b .nil pass0 (pa_cons (pv 1) pa_nil))))))), ?_⟩
    walk_at "go"
    refine lc_map (rv_list K p zs cV) (fun H' e => lst_of (e.get hp)) (by omega) (fun z => V.str (tx (Chg.n z.2))) ?_ ?_
    · intro y H' hy e B h1
      refine ⟨rfl, ?_⟩
      have h1' := h1 _ (Fr.refl _)
      walk_at "go"
      exact ⟨y.1, y.2, rfl, e.get (hz y hy), h1'⟩
    · intro C H1 nC e1 vC
      have vC' : H1 C = some (.lst (((zs.map fun z => z.2).map fun c => tx (Chg.n c)).map V.str)) := by
        rw [vC, List.map_map, List.map_map]
        rfl
      walk_at "go"
      refine ⟨"", C, _, rfl, rfl, .inl (lstAt_sq (lst_of vC')), by
        have := sum_flat (f := Chg.n) (fun c => (chn_le c).1) (zs.map fun z => z.2)
        rw [List.length_map] at this
        rw [List.length_map, List.length_map]
        show _ + zs.length * 0 ≤ _
        omega, ?_⟩
      rw [join_flat]
      exact k H1 e1
def cmT : List Nat → List Nat → List Chg
  | [a], [b] => if a = b then [.keep a] else [.change a b]
  | [], [b] => [.inn b]
  | [a], [] => [.out a]
  | _, _ => []
theorem cm_rv {c : Chg} (h : ChgOk c) : cmT c.n c.o = [c.rv] := by
  cases c with
  | change a b => exact if_neg fun z => h.2.2 z.symm
  | keep a => exact if_pos rfl
  | out a => rfl
  | inn a => rfl
def sp_come_to : Sp := fun vs H Q _ => ∃ (o n : List Nat), vs = [.str (tx o), .str (tx n)] ∧ o.length ≤ 1 ∧ n.length ≤ 1 ∧ ∀ q (zs : List CZ) H', Ex H H' → H q = none → H' q = some (.lst (zs.map cV)) → CT H' zs → zs.map (fun z => z.2) = cmT o n → Q (.ref q) H'
theorem ok_come_to (T : Tx K mg ad fd tk base tc w) : FnOk P w K mg base CX0 1 (ad 32) (fd 32) ["old", "new"] sp_come_to := by
  refine T.d_come_to.F.ok sc_come_to (fun vs H Q E h => ?_) (fun cdv A outer s H vs Q E hr h => ?_)
  · obtain ⟨o, n, rfl, _⟩ := h
    rfl
  · obtain ⟨o, n, rfl, ho, hn, k⟩ := h
    refine ⟨_, (pss_cons (ps_if (pt_cmpR (o_eq hr.units) (pv 0) (pv 1) (nomark _)) (pss_one (ps_ret (pe_op o_mul (pe_lst (pa_cons (pe_tup (pa_cons pe_str (pa_cons (pv 0) pa_nil))) pa_nil)) (pe_callB (c_len (K := K)) (by rfl) T.b_len (by decide +kernel) (pa_cons (pv 0) pa_nil))))) pss_nil)
      (pss_cons (ps_if (pt_cmpR (o_eq hr.units) (pv 0) pe_str (nomark _)) (pss_one (ps_ret (pe_lst (pa_cons (pe_tup (pa_cons pe_str (pa_cons (pv 1) pa_nil))) pa_nil)))) pss_nil)
      (pss_cons (ps_if (pt_cmpR (o_eq hr.units) (pv 1) pe_str (nomark _)) (pss_one (ps_ret (pe_lst (pa_cons (pe_tup (pa_cons pe_str (pa_cons (pv 0) pa_nil))) pa_nil)))) pss_nil)
      (pss_one (ps_ret (pe_lst (pa_cons (pe_tup (pa_cons pe_str (pa_cons (pv 0) (pa_cons (pv 1) pa_nil)))) pa_nil))))))), ?_⟩
    have one : ∀ l : List Nat, l.length ≤ 1 → l = [] ∨ ∃ a, l = [a] := fun l h => by
      match l, h with
      | [], _ => exact .inl rfl
      | [a], _ => exact .inr ⟨a, rfl⟩
    have ct1 : ∀ {G : Hp} {t : Addr} {c : Chg}, G t = some (.tup (chVs c)) → CT G [(t, c)] := fun h z hz => by rw [List.mem_singleton.mp hz]; exact h
    walk_at "go"
    rcases one o ho with rfl | ⟨a, rfl⟩
    · rcases one n hn with rfl | ⟨b, rfl⟩
      · rw [decide_eq_true rfl]
        walk_at "go"
        rename_i t H1 n1 e1 v1 L H2 n2 e2 v2 q H3 n3 e3 v3
        exact k q [] H3 (e1.trans (e2.trans e3)) (Ex.free (e1.trans e2) n3) (by rw [v3, tx_length]; rfl) (fun _ h => by cases h) rfl
      · rw [decide_eq_false (fun z => by rw [tx_inj] at z; cases z), show (Str.ofString "") = tx [] from tx_nil]
        walk_at "go"
        rename_i t H1 n1 e1 v1 L H2 n2 e2 v2
        exact k L [(t, .inn b)] H2 (e1.trans e2) (Ex.free e1 n2) v2 (ct1 (e2.get v1)) rfl
    · rcases one n hn with rfl | ⟨b, rfl⟩
      · rw [decide_eq_false (fun z => by rw [tx_inj] at z; cases z), show (Str.ofString "") = tx [] from tx_nil]
        walk_at "go"
        rename_i t H1 n1 e1 v1 L H2 n2 e2 v2
        exact k L [(t, .out a)] H2 (e1.trans e2) (Ex.free e1 n2) v2 (ct1 (e2.get v1)) rfl
      · by_cases c : a = b
        · subst c
          rw [decide_eq_true rfl]
          walk_at "go"
          rename_i t H1 n1 e1 v1 L H2 n2 e2 v2 q H3 n3 e3 v3
          exact k q [(t, .keep a)] H3 (e1.trans (e2.trans e3)) (Ex.free (e1.trans e2) n3) (by rw [v3, tx_length]; rfl) (ct1 ((e2.trans e3).get v1)) (if_pos rfl).symm
        · rw [decide_eq_false (fun z => by rw [tx_inj] at z; exact c (by simpa using z)), show (Str.ofString "") = tx [] from tx_nil]
          walk_at "go"
          rename_i t H1 n1 e1 v1 L H2 n2 e2 v2
          exact k L [(t, .change a b)] H2 (e1.trans e2) (Ex.free e1 n2) v2 (ct1 (e2.get v1)) (if_neg c).symm
def sp_paid (K : PySem.W.Frag) : Sp := fun vs H Q E => ∃ (x : V) (d : PyData), vs = [x] ∧ Rq H x d ∧ (isListD d = true → Rn H x d) ∧ lB d ∧ (∀ l : List Chg, d = .list (l.map encC) → l.length ≤ 48 → (∀ c ∈ l, ChgOk c) → ∀ H', Ex H H' → Q (.int (l.countP Chg.pays : Nat)) H') ∧ (¬ ChgsD d → RaR K E H "NoChanges" "found" x)
theorem ok_paid (T : Tx K mg ad fd tk base tc w) : FnOk P w K mg base (L2.CX P w) 5 (ad 33) (fd 33) ["changes"] (sp_paid K) := by
  refine T.d_paid.F.okX sc_paid (fun vs H Q E h => ?_) (fun cdv A outer s H vs Q E hr h => ?_)
  · obtain ⟨x, d, rfl, _⟩ := h
    rfl
  · obtain ⟨x, d, rfl, hq, hx, hb, k⟩ := h
    refine ⟨_, (pss_cons (ps_expr (pe_call (ok_need_changes T) (hr.mono (by decide)) rfl T.d_need_changes.g T.d_need_changes.F.kp T.d_need_changes.b .nil (passes_call (takes_of rfl rfl rfl rfl) (fun _ _ _ _ h => h)) (pa_cons (pv 0) pa_nil)))
      (pss_one (ps_ret (pe_callB (c_len (K := K)) (by rfl) T.b_len (by decide +kernel) (pa_cons (pe_lc (own := [("change", 1)]) (g := gName 1) rfl sc_paid.nd (pi_list (pv 0)) (blkOk_by (own := [("change", 1)]) (N := N_paid) (sc := defScope s_paid) (by decide +kernel)) (fun _ _ _ _ _ => pg_name (i := 1) sc_paid.nd rfl (Or.inl rfl)) (fun _ _ _ _ _ => pts_one (pt_cmpR (o_ne hr.units) (pe_ix (i_ix (K := K)) (pv 1) pe_int (fun _ _ => rfl)) pe_str (nomark _))) (fun _ _ _ _ _ => (pv 1))) pa_nil))))), ?_⟩
    walk_at "go"
    refine ⟨x, d, rfl, hq, hx, hb, fun hd H1 e1 => ?_, k.2⟩
    obtain ⟨l, rfl, hl, hok⟩ := hd
    obtain ⟨a, xs, rfl, h1, h2⟩ := (hx rfl).listAt
    obtain ⟨zs, rfl, hz2, hzs⟩ := h2.zipped
    have hzl : zs.length = l.length := by have := congrArg List.length hz2; rw [List.length_map, List.length_map] at this; exact this.symm
    have h11 := e1.get h1
    walk_at "go"
    have hit : ∀ z ∈ zs, ∃ c ∈ l, z.2 = encC c := fun z hz => by
      have : z.2 ∈ l.map encC := by rw [hz2]; exact List.mem_map.mpr ⟨z, hz, rfl⟩
      obtain ⟨c, hc, he⟩ := List.mem_map.mp this
      exact ⟨c, hc, he.symm⟩
    refine lc_pure (rv_list K a zs fun z => z.1) (fun H' e => lst_of (e.get h11)) (by omega) (fun z => payD z.2) (fun z => z.1) ?_ ?_
    · intro y H' hy e B A' h3 h4
      refine ⟨rfl, ?_⟩
      have ry := (hzs y hy).ex (e1.trans e)
      obtain ⟨c, hc, he⟩ := hit y hy
      rw [he] at ry
      obtain ⟨b, k2, ds, hb, hbt, hk2⟩ := enc_at ry
      have hpp : payD y.2 = !decide (k2 = "keep") := by rw [he, pay_enc, hk2]
      walk_at "go"
      rw [hb]
      refine st_ixT hbt at_c0 ?_
      walk_at "go"
      rw [← hpp]
      cases hq2 : payD y.2 with
      | true =>
        walk_at "go"
        have := h3 hq2 H' (Fr.refl _)
        rw [hb] at this
        exact this
      | false => exact h4 hq2 H' (Fr.refl _)
    · intro D H2 nD e2 vD
      walk_at "go"
      rw [List.length_map, pay_count hz2]
      exact k.1 l rfl hl hok H2 (e1.trans e2)
theorem enc_inj {a b : Chg} (h : encC a = encC b) : a = b := by
  cases a <;> cases b <;> (unfold encC at h; injection h with h; injection h with h1 h2; injection h1 with h1) <;> first
    | (exfalso; revert h1; decide +kernel)
    | (injection h2 with h2 h3; injection h2 with h2; rw [tx_inj] at h2; injection h2 with h2; subst h2; first | rfl | (injection h3 with h3; injection h3 with h3; rw [tx_inj] at h3; injection h3 with h3; subst h3; rfl))
theorem encs_inj {a b : List Chg} (h : PyData.list (a.map encC) = .list (b.map encC)) : a = b := by
  injection h with h
  induction a generalizing b with
  | nil => cases b with
    | nil => rfl
    | cons y b => cases h
  | cons x a ih => cases b with
    | nil => cases h
    | cons y b =>
      rw [List.map_cons, List.map_cons] at h
      injection h with h1 h2
      rw [enc_inj h1, ih h2]
/-- what is asked of a row and changes: a plain row, changes, that row; or the first refusal due -/
def sp_done (K : PySem.W.Frag) : Sp := fun vs H Q E => ∃ (r x : V) (d : PyData), vs = [r, x] ∧ (∀ z, r = .str z → z.length ≤ 16777216) ∧ Rq H x d ∧ (isListD d = true → Rn H x d) ∧ lB d ∧
  ((Thg H r ∧ isPlain r = false ∧ RaR K E H "NoPlain" "found" r) ∨ ∃ s, r = .str s ∧ PlainS s ∧ (∀ l : List Chg, d = .list (l.map encC) → l.length ≤ 48 → (∀ c ∈ l, ChgOk c) → oldR l = s → ∀ H', Ex H H' → Q (.str (newR l)) H') ∧ ((¬ ∃ l : List Chg, d = .list (l.map encC) ∧ l.length ≤ 48 ∧ (∀ c ∈ l, ChgOk c) ∧ oldR l = s) → RaR K E H "NoChanges" "found" x))
theorem ok_done (T : Tx K mg ad fd tk base tc w) : FnOk P w K mg base (L2.CX P w) 5 (ad 34) (fd 34) ["row", "changes"] (sp_done K) := by
  refine T.d_done.F.okX sc_done (fun vs H Q E h => ?_) (fun cdv A outer s H vs Q E hr h => ?_)
  · obtain ⟨r, x, d, rfl, _⟩ := h
    rfl
  · obtain ⟨r, x, d, rfl, hr0, hq, hx, hb, k⟩ := h
    refine ⟨_, (pss_cons (ps_expr (pe_call (ok_need_plain T) (hr.mono (by decide)) rfl T.d_need_plain.g T.d_need_plain.F.kp T.d_need_plain.b .nil (passes_call (takes_of rfl rfl rfl rfl) (fun _ _ _ _ h => h)) (pa_cons (pv 0) pa_nil)))
      (pss_cons (ps_expr (pe_call (ok_need_changes T) (hr.mono (by decide)) rfl T.d_need_changes.g T.d_need_changes.F.kp T.d_need_changes.b .nil (passes_call (takes_of rfl rfl rfl rfl) (fun _ _ _ _ h => h)) (pa_cons (pv 1) pa_nil)))
      (pss_cons (ps_if (pt_cmpR (o_ne hr.units) (pe_call (ok_old_row T) (hr.mono (by decide)) rfl T.d_old_row.g T.d_old_row.F.kp T.d_old_row.b .nil pass0 (pa_cons (pv 1) pa_nil)) (pv 0) (nomark _)) (pss_one (ps_raiseG rfl (ex_NoChanges T) (hr.mono (by decide)) (takes_of rfl rfl rfl rfl) rfl (pa_cons (pv 1) pa_nil))) pss_nil)
      (pss_one (ps_ret (pe_call (ok_new_row T) (hr.mono (by decide)) rfl T.d_new_row.g T.d_new_row.F.kp T.d_new_row.b .nil pass0 (pa_cons (pv 1) pa_nil))))))), ?_⟩
    walk_at "go"
    rcases k with ⟨ht, hb0, hr⟩ | ⟨s, rfl, hps, k, kn⟩
    · exact ⟨r, rfl, .inr ⟨ht, hb0, hr⟩⟩
    · refine ⟨.str s, rfl, .inl ⟨s, rfl, hps, fun H1 e1 => ?_⟩⟩
      walk_at "go"
      refine ⟨x, d, rfl, hq.ex e1, fun h => (hx h).ex e1, hb, fun hd H2 e2 => ?_, fun hn => RaF.ex (kn fun ⟨l, h1, h2, h3, _⟩ => hn ⟨l, h1, h2, h3⟩) e1⟩
      obtain ⟨l, rfl, hl, hok⟩ := hd
      obtain ⟨p, ys, rfl, hp, hy, rfl⟩ := cz_of (hx rfl)
      rw [List.length_map] at hl
      have e02 := e1.trans e2
      walk_at "go"
      refine ⟨p, ys, rfl, e02.get hp, hy.ex e02, by omega, fun H3 e3 => ?_⟩
      have e03 := e02.trans e3
      walk_at "go"
      by_cases c : oldR (ys.map fun z => z.2) = s
      · rw [decide_eq_true c]
        walk_at "go"
        refine ⟨p, ys, rfl, e03.get hp, hy.ex e03, by omega, fun H4 e4 => ?_⟩
        exact k _ rfl (by rw [List.length_map]; exact hl) hok c H4 (e03.trans e4)
      · rw [decide_eq_false c]
        have k2 := kn fun ⟨m, h1, _, _, h4⟩ => c (by rw [← h4]; exact congrArg oldR (encs_inj h1))
        walk_at "go"
        rename_i dd H4 hd4 e4 hv4
        exact k2 dd H4 (Ex.free e03 hd4) (e03.trans e4) hv4
def sp_back (K : PySem.W.Frag) : Sp := fun vs H Q E => ∃ (x : V) (d : PyData), vs = [x] ∧ Rq H x d ∧ (isListD d = true → Rn H x d) ∧ lB d ∧ (∀ l : List Chg, d = .list (l.map encC) → l.length ≤ 48 → (∀ c ∈ l, ChgOk c) → ∀ q (zs : List CZ) H', Ex H H' → H q = none → H' q = some (.lst (zs.map cV)) → CT H' zs → zs.map (fun z => z.2) = l.map Chg.rv → Q (.ref q) H') ∧ (¬ ChgsD d → RaR K E H "NoChanges" "found" x)
theorem ok_back (T : Tx K mg ad fd tk base tc w) : FnOk P w K mg base (L2.CX P w) 5 (ad 35) (fd 35) ["changes"] (sp_back K) := by
  refine T.d_back.F.okX sc_back (fun vs H Q E h => ?_) (fun cdv A outer s H vs Q E hr h => ?_)
  · obtain ⟨x, d, rfl, _⟩ := h
    rfl
  · obtain ⟨x, d, rfl, hq, hx, hb, k, k2⟩ := h
    refine ⟨_, (pss_cons (ps_expr (pe_call (ok_need_changes T) (hr.mono (by decide)) rfl T.d_need_changes.g T.d_need_changes.F.kp T.d_need_changes.b .nil (passes_call (takes_of rfl rfl rfl rfl) (fun _ _ _ _ h => h)) (pa_cons (pv 0) pa_nil)))
      (pss_cons (ps_set (i := 1) sc_back.nd rfl (Or.inl rfl) (pe_lst pa_nil))
      (pss_cons (ps_for (passes_of rfl) rfl (pi_list (pv 0)) (pg_name (i := 2) sc_back.nd rfl (Or.inl rfl)) (pss_one (ps_expr (pe_bm PySem.F.plainAttrs_list PySem.F.slot_list_extend PySem.F.type_list_extend mt_extend (pv 1) (pa_cons (pe_call (ok_come_to T) (hr.mono (by decide)) rfl T.d_come_to.g T.d_come_to.F.kp T.d_come_to.b .nil pass0 (pa_cons (pe_call (ok_new_of T) (hr.mono (by decide)) rfl T.d_new_of.g T.d_new_of.F.kp T.d_new_of.b .nil pass0 (pa_cons (pv 2) pa_nil)) (pa_cons (pe_call (ok_old_of T) (hr.mono (by decide)) rfl T.d_old_of.g T.d_old_of.F.kp T.d_old_of.b .nil pass0 (pa_cons (pv 2) pa_nil)) pa_nil))) pa_nil)))))
      (pss_one (ps_ret (pv 1)))))), ?_⟩
    walk_at "go"
    refine ⟨x, d, rfl, hq, hx, hb, fun hd H1 e1 => ?_, k2⟩
    obtain ⟨l, rfl, hl, hok⟩ := hd
    obtain ⟨p, ys, rfl, hp, hy, rfl⟩ := cz_of (hx rfl)
    rw [List.length_map] at hl
    have hp1 := e1.get hp
    have hy1 := hy.ex e1
    walk_at "go"
    rename_i q H2 n2 e2 v2
    have hp2 := e2.get hp1
    have hy2 := hy1.ex e2
    have hpq : p ≠ q := ne_of_none hp1 n2
    have ctf : ∀ {G G' : Hp} {zs : List CZ} {xs : List V}, G q = some (.lst xs) → CT G zs → FrP q G G' → CT G' zs := fun hG hC f z hz => f.get (fun w => by have := hC z hz; rw [w, hG] at this; cases this) (hC z hz)
    refine for_runs (rv_list K p ys cV) (fun i σ H' => FrP q H2 H' ∧ (∃ zs : List CZ, H' q = some (.lst (zs.map cV)) ∧ CT H' zs ∧ zs.map (fun z => z.2) = ((ys.take i).map fun z => z.2).map Chg.rv) ∧ ∃ y2, σ = [some (.ref p), some (.ref q), y2]) ⟨Fr.refl _, ⟨[], v2, (fun _ h => by cases h), by rw [List.take_zero]; rfl⟩, _, rfl⟩ (fun i σ H' _ h => lst_of (h.1.get hpq hp2)) ?_ ?_
    · rintro i x σ H3 H4 hi ⟨f3, ⟨zs, g1, g2, g3⟩, y2, rfl⟩ ⟨rfl, y, hy3, rfl⟩
      have hm := List.mem_of_getElem? hy3
      have hyy := ctf v2 hy2 f3 y hm
      have hzl : zs.length ≤ 48 := by
        have := congrArg List.length g3
        rw [List.length_map, List.length_map, List.length_map, List.length_take] at this
        omega
      walk_at "go"
      refine ⟨y.1, y.2, rfl, hyy, ?_⟩
      walk_at "go"
      refine ⟨y.1, y.2, rfl, hyy, ?_⟩
      walk_at "go"
      refine ⟨y.2.n, y.2.o, rfl, (chn_le y.2).1, (cho_le y.2).1, fun q2 zs2 H5 e5 n5 v5 ct5 m5 => ?_⟩
      rw [cm_rv (hok y.2 (List.mem_map.mpr ⟨y, hm, rfl⟩))] at m5
      have hz2 : zs2.length = 1 := by
        have := congrArg List.length m5
        rw [List.length_map] at this
        exact this
      walk_at "go"
      refine st_ext (e5.get g1) v5 (by rw [List.length_map, List.length_map]; omega) ?_
      walk_at "go"
      refine ⟨(f3.trans (Fr.ex e5)).trans FrP.at, ⟨zs ++ zs2, by rw [upd_same, List.map_append], ?_, ?_⟩, _, rfl⟩
      · exact ctf (e5.get g1) ((g2.ex e5).app ct5) FrP.at
      · rw [List.map_append, g3, m5, List.take_succ, hy3, List.map_append, List.map_append]
        rfl
    · rintro σ H3 ⟨f3, ⟨zs, g1, g2, g3⟩, y2, rfl⟩
      walk_at "go"
      rw [List.take_length] at g3
      exact k _ rfl (by rw [List.length_map]; exact hl) hok q zs H3 (Ex.comp (M := fun b => b = q) (e1.trans e2) f3 fun b hb => by rw [hb]; exact Ex.free e1 n2) (Ex.free e1 n2) g1 g2 g3
def OO (l : List Chg) : List Nat := l.flatMap Chg.o
def NN (l : List Chg) : List Nat := l.flatMap Chg.n
def aft : List Chg → List Chg → List Chg
  | [], [] => []
  | [], b :: bs => b :: aft [] bs
  | a :: as, [] => a :: aft as []
  | a :: as, b :: bs => if a.n = [] then a :: aft as (b :: bs) else if b.o = [] then b :: aft (a :: as) bs else cmT a.o b.n ++ aft as bs
termination_by l m => l.length + m.length
theorem aft_out {a : Chg} {as m : List Chg} (h : a.n = []) : aft (a :: as) m = a :: aft as m := by
  cases m with
  | nil => rw [aft]
  | cons b bs => rw [aft, if_pos h]
theorem aft_in {b : Chg} {l bs : List Chg} (h : b.o = []) (hl : ∀ a as, l = a :: as → a.n ≠ []) : aft l (b :: bs) = b :: aft l bs := by
  cases l with
  | nil => rw [aft]
  | cons a as => rw [aft, if_neg (hl a as rfl), if_pos h]
theorem aft_met {a b : Chg} {as bs : List Chg} (ha : a.n ≠ []) (hb : b.o ≠ []) : aft (a :: as) (b :: bs) = cmT a.o b.n ++ aft as bs := by
  rw [aft, if_neg ha, if_neg hb]
theorem OO_cons (a : Chg) (l : List Chg) : OO (a :: l) = a.o ++ OO l := List.flatMap_cons
theorem NN_cons (a : Chg) (l : List Chg) : NN (a :: l) = a.n ++ NN l := List.flatMap_cons
theorem OO_app (l m : List Chg) : OO (l ++ m) = OO l ++ OO m := List.flatMap_append
theorem NN_app (l m : List Chg) : NN (l ++ m) = NN l ++ NN m := List.flatMap_append
theorem n_one {a : Chg} (h : a.n ≠ []) : ∃ c, a.n = [c] := by cases a <;> first | exact ⟨_, rfl⟩ | exact absurd rfl h
theorem o_one {a : Chg} (h : a.o ≠ []) : ∃ c, a.o = [c] := by cases a <;> first | exact ⟨_, rfl⟩ | exact absurd rfl h
theorem cmT_o {a b : Chg} : OO (cmT a.o b.n) = a.o := by
  cases a <;> cases b <;> simp only [Chg.o, Chg.n, cmT] <;> first | rfl | (split <;> rfl)
theorem cmT_n {a b : Chg} : NN (cmT a.o b.n) = b.n := by
  cases a <;> cases b <;> simp only [Chg.o, Chg.n, cmT] <;> first | rfl | (split <;> rename_i h <;> simp [NN, Chg.n, h])
/-- by cases along two lists whose rows fit -/
theorem aft_ind {P : List Chg → List Chg → Prop} (h0 : P [] [])
    (h1 : ∀ a as m, a.n = [] → NN as = OO m → P as m → P (a :: as) m)
    (h2 : ∀ b l bs, b.o = [] → (∀ a as, l = a :: as → a.n ≠ []) → NN l = OO bs → P l bs → P l (b :: bs))
    (h3 : ∀ a b as bs, a.n ≠ [] → b.o ≠ [] → a.n = b.o → NN as = OO bs → P as bs → P (a :: as) (b :: bs)) : ∀ l m, NN l = OO m → P l m := by
  suffices H : ∀ n l m, l.length + m.length = n → NN l = OO m → P l m from fun l m h => H _ l m rfl h
  intro n
  induction n using Nat.strongRecOn with
  | ind n ih =>
    intro l m hn h
    cases l with
    | nil =>
      cases m with
      | nil => exact h0
      | cons b bs =>
        rw [OO_cons] at h
        have hb : b.o = [] ∧ OO bs = [] := List.append_eq_nil_iff.mp h.symm
        exact h2 b [] bs hb.1 (fun _ _ e => by cases e) hb.2.symm (ih _ (by rw [← hn]; simp) [] bs rfl hb.2.symm)
    | cons a as =>
      by_cases ca : a.n = []
      · rw [NN_cons, ca, List.nil_append] at h
        exact h1 a as m ca h (ih _ (by rw [← hn]; simp <;> omega) as m rfl h)
      · cases m with
        | nil =>
          rw [NN_cons] at h
          exact absurd (List.append_eq_nil_iff.mp h).1 ca
        | cons b bs =>
          by_cases cb : b.o = []
          · rw [OO_cons, cb, List.nil_append] at h
            exact h2 b _ bs cb (fun a' as' e => by cases e; exact ca) h (ih _ (by rw [← hn]; simp) _ bs rfl h)
          · obtain ⟨x, hx⟩ := n_one ca
            obtain ⟨y, hy⟩ := o_one cb
            rw [NN_cons, OO_cons, hx, hy] at h
            injection h with e1 e2
            exact h3 a b as bs ca cb (by rw [hx, hy, e1]) e2 (ih _ (by rw [← hn]; simp <;> omega) as bs rfl e2)
theorem aft_o {l m : List Chg} (h : NN l = OO m) : OO (aft l m) = OO l := by
  refine aft_ind (P := fun l m => OO (aft l m) = OO l) (by rw [aft]) ?_ ?_ ?_ l m h
  · intro a as m ha _ ih; rw [aft_out ha, OO_cons, ih, OO_cons]
  · intro b l bs hb hl _ ih; rw [aft_in hb hl, OO_cons, ih, hb, List.nil_append]
  · intro a b as bs ha hb _ _ ih; rw [aft_met ha hb, OO_app, cmT_o, ih, OO_cons]
theorem aft_n {l m : List Chg} (h : NN l = OO m) : NN (aft l m) = NN m := by
  refine aft_ind (P := fun l m => NN (aft l m) = NN m) (by rw [aft]) ?_ ?_ ?_ l m h
  · intro a as m ha _ ih; rw [aft_out ha, NN_cons, ih, ha, List.nil_append]
  · intro b l bs hb hl _ ih; rw [aft_in hb hl, NN_cons, ih, NN_cons]
  · intro a b as bs ha hb _ _ ih; rw [aft_met ha hb, NN_app, cmT_n, ih, NN_cons]
theorem cmT_pays {a b : Chg} (h : a.n = b.o) (ha : a.n ≠ []) : (cmT a.o b.n).countP Chg.pays ≤ [a].countP Chg.pays + [b].countP Chg.pays := by
  cases a <;> cases b <;> simp only [Chg.o, Chg.n, List.cons.injEq, and_true, reduceCtorEq, ne_eq, not_true_eq_false, not_false_eq_true] at h ha <;> first | (exact absurd rfl ha) | skip
  all_goals (try subst h)
  all_goals simp [cmT, Chg.o, Chg.n, Chg.pays, List.countP_cons]
  all_goals (try (split <;> simp [Chg.pays, List.countP_cons]))
theorem aft_pays {l m : List Chg} (h : NN l = OO m) : (aft l m).countP Chg.pays ≤ l.countP Chg.pays + m.countP Chg.pays := by
  refine aft_ind (P := fun l m => (aft l m).countP Chg.pays ≤ l.countP Chg.pays + m.countP Chg.pays) (by rw [aft]; simp) ?_ ?_ ?_ l m h
  · intro a as m ha _ ih
    rw [aft_out ha, List.countP_cons, List.countP_cons]
    omega
  · intro b l bs hb hl _ ih
    rw [aft_in hb hl, List.countP_cons, List.countP_cons]
    omega
  · intro a b as bs ha hb e _ ih
    have := cmT_pays e ha
    rw [aft_met ha hb, List.countP_append]
    rw [← List.singleton_append (x := a), ← List.singleton_append (x := b), List.countP_append, List.countP_append]
    omega
/-- what is asked of changes and others after them -/
def sp_after (K : PySem.W.Frag) : Sp := fun vs H Q E => ∃ (x y : V) (d f : PyData), vs = [x, y] ∧ Rq H x d ∧ (isListD d = true → Rn H x d) ∧ lB d ∧ Rq H y f ∧ (isListD f = true → Rn H y f) ∧ lB f ∧
  ((¬ ChgsD d ∧ RaR K E H "NoChanges" "found" x) ∨ (ChgsD d ∧ ¬ ChgsD f ∧ RaR K E H "NoChanges" "found" y) ∨
   ∃ l m : List Chg, d = .list (l.map encC) ∧ f = .list (m.map encC) ∧ l.length ≤ 48 ∧ m.length ≤ 48 ∧ (∀ c ∈ l, ChgOk c) ∧ (∀ c ∈ m, ChgOk c) ∧
    ((NN l ≠ OO m ∧ RaF K E H "Unlike" [("other", .str (oldR m)), ("one", .str (newR l))]) ∨
     (NN l = OO m ∧ 48 < (aft l m).length ∧ RaR K E H "TooLong" "found" (.int ((aft l m).length : Nat))) ∨
     (NN l = OO m ∧ (aft l m).length ≤ 48 ∧ ∀ q (zs : List CZ) H', Ex H H' → H q = none → H' q = some (.lst (zs.map cV)) → CT H' zs → zs.map (fun z => z.2) = aft l m → Q (.ref q) H')))
theorem ct_upd {H : Hp} {F : Addr} {xs : List V} {zs : List CZ} {o : HO} (h : CT H zs) (hF : H F = some (.lst xs)) : CT (upd H F o) zs := fun z hz => by
  have hz2 := h z hz
  rw [upd_ne (fun e => by rw [e, hF] at hz2; cases hz2)]
  exact hz2
theorem drop_z {zs : List CZ} {i : Nat} {z : CZ} (h : zs[i]? = some z) : (zs.map fun z => z.2).drop i = z.2 :: (zs.map fun z => z.2).drop (i + 1) := by
  have hi := (List.getElem?_eq_some_iff.mp h).1
  rw [List.drop_eq_getElem_cons (by rw [List.length_map]; exact hi)]
  congr 1
  rw [List.getElem_map, (List.getElem?_eq_some_iff.mp h).2]
theorem at_z {zs : List CZ} {i : Nat} {z : CZ} (h : zs[i]? = some z) : atI (zs.map cV) (i : Int) = some (.ref z.1) := at_nat (by rw [List.getElem?_map, h]; rfl)
theorem tx_nil_iff {l : List Nat} : tx l = "" ↔ l = [] := by rw [show ("" : Str) = tx [] from tx_nil.symm]; exact tx_inj
theorem ok_after (T : Tx K mg ad fd tk base tc w) : FnOk P w K mg base (L2.CX P w) 5 (ad 36) (fd 36) ["one", "other"] (sp_after K) := by
  refine T.d_after.F.okX sc_after (fun vs H Q E h => ?_) (fun cdv A outer s H vs Q E hr h => ?_)
  · obtain ⟨x, y, d, f, rfl, _⟩ := h
    rfl
  · obtain ⟨x, y, d, f, rfl, hx1, hx2, hx3, hy1, hy2, hy3, k⟩ := h
    refine ⟨_, (pss_cons (ps_expr (pe_call (ok_need_changes T) (hr.mono (by decide)) rfl T.d_need_changes.g T.d_need_changes.F.kp T.d_need_changes.b .nil (passes_call (takes_of rfl rfl rfl rfl) (fun _ _ _ _ h => h)) (pa_cons (pv 0) pa_nil)))
      (pss_cons (ps_expr (pe_call (ok_need_changes T) (hr.mono (by decide)) rfl T.d_need_changes.g T.d_need_changes.F.kp T.d_need_changes.b .nil (passes_call (takes_of rfl rfl rfl rfl) (fun _ _ _ _ h => h)) (pa_cons (pv 1) pa_nil)))
      (pss_cons (ps_if (pt_cmpR (o_ne hr.units) (pe_call (ok_new_row T) (hr.mono (by decide)) rfl T.d_new_row.g T.d_new_row.F.kp T.d_new_row.b .nil pass0 (pa_cons (pv 0) pa_nil)) (pe_call (ok_old_row T) (hr.mono (by decide)) rfl T.d_old_row.g T.d_old_row.F.kp T.d_old_row.b .nil pass0 (pa_cons (pv 1) pa_nil)) (nomark _)) (pss_one (ps_raiseG rfl (ex_Unlike T) (hr.mono (by decide)) (takes_of rfl rfl rfl rfl) rfl (pa_cons (pe_call (ok_new_row T) (hr.mono (by decide)) rfl T.d_new_row.g T.d_new_row.F.kp T.d_new_row.b .nil pass0 (pa_cons (pv 0) pa_nil)) (pa_cons (pe_call (ok_old_row T) (hr.mono (by decide)) rfl T.d_old_row.g T.d_old_row.F.kp T.d_old_row.b .nil pass0 (pa_cons (pv 1) pa_nil)) pa_nil)))) pss_nil)
      (pss_cons (ps_set (i := 2) sc_after.nd rfl (Or.inl rfl) (pe_lst pa_nil))
      (pss_cons (ps_set (i := 3) sc_after.nd rfl (Or.inl rfl) pe_int)
      (pss_cons (ps_set (i := 4) sc_after.nd rfl (Or.inl rfl) pe_int)
      (pss_cons (ps_while (passes_of rfl) (PW.pt (pw_or (pt_cmpR o_lt (pv 3) (pe_callB (c_len (K := K)) (by rfl) T.b_len (by decide +kernel) (pa_cons (pv 0) pa_nil)) (nomark _)) (pw_or1 (pt_cmpR o_lt (pv 4) (pe_callB (c_len (K := K)) (by rfl) T.b_len (by decide +kernel) (pa_cons (pv 1) pa_nil)) (nomark _))))) (pss_one (ps_if (PW.pt (pw_and (pt_cmpR o_lt (pv 3) (pe_callB (c_len (K := K)) (by rfl) T.b_len (by decide +kernel) (pa_cons (pv 0) pa_nil)) (nomark _)) (pw_and1 (pt_cmpR (o_eq hr.units) (pe_call (ok_new_of T) (hr.mono (by decide)) rfl T.d_new_of.g T.d_new_of.F.kp T.d_new_of.b .nil pass0 (pa_cons (pe_ix (i_ix (K := K)) (pv 0) (pv 3) (fun _ _ => rfl)) pa_nil)) pe_str (nomark _))))) (pss_cons (ps_expr (pe_bm PySem.F.plainAttrs_list PySem.F.slot_list_append PySem.F.type_list_append mt_append (pv 2) (pa_cons (pe_ix (i_ix (K := K)) (pv 0) (pv 3) (fun _ _ => rfl)) pa_nil)))
      (pss_one (ps_aug (i := 3) sc_after.nd rfl (Or.inl rfl) pe_int ip_add))) (pss_one (ps_if (PW.pt (pw_and (pt_cmpR o_lt (pv 4) (pe_callB (c_len (K := K)) (by rfl) T.b_len (by decide +kernel) (pa_cons (pv 1) pa_nil)) (nomark _)) (pw_and1 (pt_cmpR (o_eq hr.units) (pe_call (ok_old_of T) (hr.mono (by decide)) rfl T.d_old_of.g T.d_old_of.F.kp T.d_old_of.b .nil pass0 (pa_cons (pe_ix (i_ix (K := K)) (pv 1) (pv 4) (fun _ _ => rfl)) pa_nil)) pe_str (nomark _))))) (pss_cons (ps_expr (pe_bm PySem.F.plainAttrs_list PySem.F.slot_list_append PySem.F.type_list_append mt_append (pv 2) (pa_cons (pe_ix (i_ix (K := K)) (pv 1) (pv 4) (fun _ _ => rfl)) pa_nil)))
      (pss_one (ps_aug (i := 4) sc_after.nd rfl (Or.inl rfl) pe_int ip_add))) (pss_cons (ps_expr (pe_bm PySem.F.plainAttrs_list PySem.F.slot_list_extend PySem.F.type_list_extend mt_extend (pv 2) (pa_cons (pe_call (ok_come_to T) (hr.mono (by decide)) rfl T.d_come_to.g T.d_come_to.F.kp T.d_come_to.b .nil pass0 (pa_cons (pe_call (ok_old_of T) (hr.mono (by decide)) rfl T.d_old_of.g T.d_old_of.F.kp T.d_old_of.b .nil pass0 (pa_cons (pe_ix (i_ix (K := K)) (pv 0) (pv 3) (fun _ _ => rfl)) pa_nil)) (pa_cons (pe_call (ok_new_of T) (hr.mono (by decide)) rfl T.d_new_of.g T.d_new_of.F.kp T.d_new_of.b .nil pass0 (pa_cons (pe_ix (i_ix (K := K)) (pv 1) (pv 4) (fun _ _ => rfl)) pa_nil)) pa_nil))) pa_nil)))
      (pss_cons (ps_aug (i := 3) sc_after.nd rfl (Or.inl rfl) pe_int ip_add)
      (pss_one (ps_aug (i := 4) sc_after.nd rfl (Or.inl rfl) pe_int ip_add)))))))))
      (pss_cons (ps_if (pt_cmpR o_gt (pe_callB (c_len (K := K)) (by rfl) T.b_len (by decide +kernel) (pa_cons (pv 2) pa_nil)) (pe_glob (v := .int 48) rfl T.c_MOST_CHANGES ⟨_, rfl⟩) (nomark _)) (pss_one (ps_raiseG rfl (ex_TooLong T) (hr.mono (by decide)) (takes_of rfl rfl rfl rfl) rfl (pa_cons (pe_callB (c_len (K := K)) (by rfl) T.b_len (by decide +kernel) (pa_cons (pv 2) pa_nil)) pa_nil))) pss_nil)
      (pss_one (ps_ret (pv 2))))))))))), ?_⟩
    walk_at "go"
    have hd : (¬ ChgsD d ∧ RaR K E H "NoChanges" "found" x) ∨ ChgsD d := by
      rcases k with k | k | ⟨l, m, h1, _, h3, _, h5, _⟩
      · exact .inl k
      · exact .inr k.1
      · exact .inr ⟨l, h1, h3, h5⟩
    refine ⟨x, d, rfl, hx1, hx2, hx3, fun hdd H1 e1 => ?_, fun hn => (hd.resolve_right hn).2⟩
    walk_at "go"
    refine ⟨y, f, rfl, hy1.ex e1, fun h => (hy2 h).ex e1, hy3, fun hf H2 e2 => ?_, fun hn => ?_⟩
    rotate_left
    · rcases k with k | k | ⟨l, m, _, h2, _, h4, _, h6, _⟩
      · exact absurd hdd k.1
      · exact RaF.ex k.2.2 e1
      · exact absurd ⟨m, h2, h4, h6⟩ hn
    rcases k with k | k | ⟨l, m, rfl, rfl, hl, hm, okl, okm, k⟩
    · exact absurd hdd k.1
    · exact absurd hf k.2.1
    obtain ⟨p, zs, rfl, hp, hz, rfl⟩ := cz_of (hx2 rfl)
    obtain ⟨q, ys, rfl, hq, hy, rfl⟩ := cz_of (hy2 rfl)
    rw [List.length_map] at hl hm
    have e02 := e1.trans e2
    walk_at "go"
    refine ⟨p, zs, rfl, e02.get hp, hz.ex e02, by omega, fun H3 e3 => ?_⟩
    have e03 := e02.trans e3
    walk_at "go"
    refine ⟨q, ys, rfl, e03.get hq, hy.ex e03, by omega, fun H4 e4 => ?_⟩
    have e04 := e03.trans e4
    have tin : newR (zs.map fun z => z.2) = oldR (ys.map fun z => z.2) ↔ NN (zs.map fun z => z.2) = OO (ys.map fun z => z.2) := tx_inj
    walk_at "go"
    refine st_brn (fun c1 => ?_) (fun c1 => ?_)
    · have k := (k.resolve_right fun h => h.elim (fun h => c1 (tin.mpr h.1)) fun h => c1 (tin.mpr h.1)).2
      walk_at "go"
      refine ⟨p, zs, rfl, e04.get hp, hz.ex e04, by omega, fun H5 e5 => ?_⟩
      have e05 := e04.trans e5
      walk_at "go"
      refine ⟨q, ys, rfl, e05.get hq, hy.ex e05, by omega, fun H6 e6 => ?_⟩
      have e06 := e05.trans e6
      walk_at "go"
      rename_i dd H7 hd7 e7 hv7
      exact k dd H7 (Ex.free e06 hd7) (e06.trans e7) hv7
    have hr := tin.mp c1
    have k := k.resolve_left fun h => h.1 hr
    obtain ⟨A, hA⟩ : ∃ A, A = zs.map fun z => z.2 := ⟨_, rfl⟩
    obtain ⟨B, hB⟩ : ∃ B, B = ys.map fun z => z.2 := ⟨_, rfl⟩
    rw [← hA, ← hB] at hr k
    have hp4 := e04.get hp
    have hq4 := e04.get hq
    have z4 := hz.ex e04
    have y4 := hy.ex e04
    walk_at "go"
    rename_i F H5 n5 e5 v5
    have hAl : A.length = zs.length := by rw [hA, List.length_map]
    have hBl : B.length = ys.length := by rw [hB, List.length_map]
    refine while_inv (fun m σ H' => ∃ (i j : Nat) (fz : List CZ), m = (zs.length - i) + (ys.length - j) ∧ i ≤ zs.length ∧ j ≤ ys.length ∧ fz.length ≤ i + j ∧ Ex H4 H' ∧ H' F = some (.lst (fz.map cV)) ∧ CT H' fz ∧ (fz.map fun z => z.2) ++ aft (A.drop i) (B.drop j) = aft A B ∧ NN (A.drop i) = OO (B.drop j) ∧ σ = [some (.ref p), some (.ref q), some (.ref F), some (.int (i : Nat)), some (.int (j : Nat))]) ⟨_, 0, 0, [], rfl, Nat.zero_le _, Nat.zero_le _, by simp, e5, v5, (fun z hz => by cases hz), rfl, hr, rfl⟩ ?_
    rintro m σ H6 ⟨i, j, fz, rfl, hi, hj, hfl, e6, vF, zF, hcat, hrow, rfl⟩
    have hp6 := e6.get hp4
    have hq6 := e6.get hq4
    have z6 := z4.ex e6
    have y6 := y4.ex e6
    walk_at "go"
    rw [List.length_map]
    refine st_br2 (fun d1 => ?_) (fun d1 => ?_)
    · refine wh_T rfl ?_
      obtain ⟨a, ha⟩ : ∃ a, zs[i]? = some a := ⟨_, List.getElem?_eq_getElem (by omega)⟩
      have hdA := drop_z ha
      rw [← hA] at hdA
      have va := z6 a (List.mem_of_getElem? ha)
      walk_at "go"
      rw [List.length_map]
      rw [decide_eq_true d1]
      walk_at "go"
      refine st_ixL hp6 (at_z ha) ?_
      walk_at "go"
      refine ⟨a.1, a.2, rfl, va, ?_⟩
      walk_at "go"
      by_cases ca : a.2.n = []
      · rw [decide_eq_true (tx_nil_iff.mpr ca)]
        walk_at "go"
        refine st_ixL hp6 (at_z ha) ?_
        walk_at "go"
        refine st_app vF (by rw [List.length_map]; omega) ?_
        walk_at "go"
        refine ⟨_, ?_, i + 1, j, fz ++ [a], rfl, by omega, hj, by simp; omega, e6.mut n5, by rw [upd_same, List.map_append]; rfl, (ct_upd zF vF).app (fun z hz => ?_), ?_, ?_, rfl⟩
        · omega
        · rw [List.mem_singleton.mp hz]
          exact ct_upd z6 vF a (List.mem_of_getElem? ha)
        · rw [List.map_append, List.append_assoc, ← hcat, hdA, aft_out ca]
          rfl
        · rw [hdA, NN_cons, ca, List.nil_append] at hrow
          exact hrow
      · rw [decide_eq_false (fun h => ca (tx_nil_iff.mp h))]
        have hj2 : j < ys.length := by
          refine Nat.lt_of_not_le fun h => ca ?_
          rw [hdA, NN_cons, List.drop_eq_nil_of_le (by omega : B.length ≤ j)] at hrow
          exact (List.append_eq_nil_iff.mp hrow).1
        obtain ⟨b, hb⟩ : ∃ b, ys[j]? = some b := ⟨_, List.getElem?_eq_getElem hj2⟩
        have hdB := drop_z hb
        rw [← hB] at hdB
        have vb := y6 b (List.mem_of_getElem? hb)
        walk_at "go"
        rw [List.length_map, decide_eq_true (by omega : ((j : Nat) : Int) < ((ys.length : Nat) : Int))]
        walk_at "go"
        refine st_ixL hq6 (at_z hb) ?_
        walk_at "go"
        refine ⟨b.1, b.2, rfl, vb, ?_⟩
        walk_at "go"
        by_cases cb : b.2.o = []
        · rw [decide_eq_true (tx_nil_iff.mpr cb)]
          walk_at "go"
          refine st_ixL hq6 (at_z hb) ?_
          walk_at "go"
          refine st_app vF (by rw [List.length_map]; omega) ?_
          walk_at "go"
          refine ⟨_, ?_, i, j + 1, fz ++ [b], rfl, hi, by omega, by simp; omega, e6.mut n5, by rw [upd_same, List.map_append]; rfl, (ct_upd zF vF).app (fun z hz => ?_), ?_, ?_, rfl⟩
          · omega
          · rw [List.mem_singleton.mp hz]
            exact ct_upd y6 vF b (List.mem_of_getElem? hb)
          · rw [List.map_append, List.append_assoc, ← hcat, hdB, aft_in cb (fun a' as' e => by rw [hdA] at e; cases e; exact ca)]
            rfl
          · rw [hdB, OO_cons, cb, List.nil_append] at hrow
            exact hrow
        · rw [decide_eq_false (fun h => cb (tx_nil_iff.mp h))]
          walk_at "go"
          refine st_ixL hp6 (at_z ha) ?_
          walk_at "go"
          refine ⟨a.1, a.2, rfl, va, ?_⟩
          walk_at "go"
          refine st_ixL hq6 (at_z hb) ?_
          walk_at "go"
          refine ⟨b.1, b.2, rfl, vb, ?_⟩
          walk_at "go"
          refine ⟨a.2.o, b.2.n, rfl, (cho_le _).1, (chn_le _).1, fun q2 gz H7 e7 n7 v7 gT gm => ?_⟩
          walk_at "go"
          have hgl : gz.length ≤ 1 := by
            have := congrArg List.length gm
            rw [List.length_map] at this
            rw [this]
            generalize a.2.o = o1
            generalize b.2.n = o2
            unfold cmT
            split <;> first | (split <;> simp) | simp
          have vF7 := e7.get vF
          refine st_ext vF7 v7 (by rw [List.length_map, List.length_map]; omega) ?_
          walk_at "go"
          refine ⟨_, ?_, i + 1, j + 1, fz ++ gz, rfl, by omega, by omega, by simp; omega, (e6.trans e7).mut n5, by rw [upd_same, List.map_append], (ct_upd (zF.ex e7) vF7).app (ct_upd gT vF7), ?_, ?_, rfl⟩
          · omega
          · rw [List.map_append, List.append_assoc, ← hcat, hdA, hdB, aft_met ca cb, gm]
          · obtain ⟨u, hu⟩ := n_one ca
            obtain ⟨v, hv⟩ := o_one cb
            rw [hdA, hdB, NN_cons, OO_cons, hu, hv] at hrow
            injection hrow
    · walk_at "go"
      rw [List.length_map]
      refine st_br2 (fun d2 => ?_) (fun d2 => ?_)
      · refine wh_T rfl ?_
        obtain ⟨b, hb⟩ : ∃ b, ys[j]? = some b := ⟨_, List.getElem?_eq_getElem (by omega)⟩
        have hdB := drop_z hb
        rw [← hB] at hdB
        have vb := y6 b (List.mem_of_getElem? hb)
        have hdA : A.drop i = [] := List.drop_eq_nil_of_le (by omega)
        have cb : b.2.o = [] := by
          rw [hdA, hdB, OO_cons] at hrow
          exact (List.append_eq_nil_iff.mp hrow.symm).1
        walk_at "go"
        rw [List.length_map, decide_eq_false d1]
        walk_at "go"
        rw [List.length_map, decide_eq_true d2]
        walk_at "go"
        refine st_ixL hq6 (at_z hb) ?_
        walk_at "go"
        refine ⟨b.1, b.2, rfl, vb, ?_⟩
        walk_at "go"
        rw [decide_eq_true (tx_nil_iff.mpr cb)]
        walk_at "go"
        refine st_ixL hq6 (at_z hb) ?_
        walk_at "go"
        refine st_app vF (by rw [List.length_map]; omega) ?_
        walk_at "go"
        refine ⟨_, ?_, i, j + 1, fz ++ [b], rfl, hi, by omega, by simp; omega, e6.mut n5, by rw [upd_same, List.map_append]; rfl, (ct_upd zF vF).app (fun z hz => ?_), ?_, ?_, rfl⟩
        · omega
        · rw [List.mem_singleton.mp hz]
          exact ct_upd y6 vF b (List.mem_of_getElem? hb)
        · rw [List.map_append, List.append_assoc, ← hcat, hdB, aft_in cb (fun a' as' e => by rw [hdA] at e; cases e)]
          rfl
        · rw [hdB, OO_cons, cb, List.nil_append] at hrow
          exact hrow
      · have h1 : A.drop i = [] := List.drop_eq_nil_of_le (by omega)
        have h2 : B.drop j = [] := List.drop_eq_nil_of_le (by omega)
        rw [h1, h2, show aft [] [] = [] by rw [aft], List.append_nil] at hcat
        have hfl2 : fz.length = (aft A B).length := by rw [← hcat, List.length_map]
        have e06 := e04.trans e6
        walk_at "go"
        rw [List.length_map]
        refine st_br2 (fun d3 => ?_) (fun d3 => ?_)
        · have k := (k.resolve_right fun h => by omega).2.2
          walk_at "go"
          rename_i dd H7 hd7 e7 hv7
          refine k dd H7 (Ex.free e06 hd7) (e06.trans e7) ?_
          rw [hv7, List.length_map, hfl2]
        · have k := (k.resolve_left fun h => by omega).2.2
          walk_at "go"
          exact k F fz H6 e06 (Ex.free e04 n5) vF zF hcat
def sp_lengths (K : PySem.W.Frag) : Sp := fun vs H Q E => ∃ x y, vs = [x, y] ∧ Rows2 K E H x y fun s t => ∀ p rs H', Ex H H' → rs.length = s.length + 1 → TabAt H H' p rs (lcRow s.cps.toList t.cps.toList (t.length + 1)) → Q (.ref p) H'
theorem ok_lengths (T : Tx K mg ad fd tk base tc w) : FnOk P w K mg base (L2.CX P w) 5 (ad 37) (fd 37) ["side", "top"] (sp_lengths K) := by
  refine T.d_lengths.F.okX sc_lengths (fun vs H Q E h => ?_) (fun cdv A outer s H vs Q E hr h => ?_)
  · obtain ⟨x, y, rfl, _⟩ := h
    rfl
  · obtain ⟨x, y, rfl, hR⟩ := h
    refine ⟨_, (pss_cons (ps_expr (pe_call (ok_need_rows T) (hr.mono (by decide)) rfl T.d_need_rows.g T.d_need_rows.F.kp T.d_need_rows.b .nil (passes_call (takes_of rfl rfl rfl rfl) (fun _ _ _ _ h => h)) (pa_cons (pv 0) (pa_cons (pv 1) pa_nil))))
      (pss_cons (ps_set (i := 2) sc_lengths.nd rfl (Or.inl rfl) (pe_lst (pa_cons (pe_op o_mul (pe_lst (pa_cons pe_int pa_nil)) (pe_op o_add (pe_callB (c_len (K := K)) (by rfl) T.b_len (by decide +kernel) (pa_cons (pv 1) pa_nil)) pe_int)) pa_nil)))
      (pss_cons (ps_for (passes_of rfl) rfl (pi_str (pv 0)) (pg_name (i := 3) sc_lengths.nd rfl (Or.inl rfl)) (pss_cons (ps_set (i := 4) sc_lengths.nd rfl (Or.inl rfl) (pe_ix (i_ix (K := K)) (pv 2) (pe_un un_neg pe_int) (fun _ _ => rfl)))
      (pss_cons (ps_set (i := 5) sc_lengths.nd rfl (Or.inl rfl) (pe_lst (pa_cons pe_int pa_nil)))
      (pss_cons (ps_for (passes_of rfl) rfl (pi_enumS rfl T.b_enumerate (pa_cons (pv 1) pa_nil)) (pg_tup rfl (pgs_cons (pg_name (i := 6) sc_lengths.nd rfl (Or.inl rfl)) (pgs_cons (pg_name (i := 7) sc_lengths.nd rfl (Or.inl rfl)) pgs_nil))) (pss_cons (ps_set (i := 8) sc_lengths.nd rfl (Or.inl rfl) (pe_callB (c_max rfl) (by rfl) T.b_max (by decide +kernel) (pa_cons (pe_ix (i_ix (K := K)) (pv 4) (pe_op o_add (pv 6) pe_int) (fun _ _ => rfl)) (pa_cons (pe_ix (i_ix (K := K)) (pv 5) (pv 6) (fun _ _ => rfl)) pa_nil))))
      (pss_cut (ps_if (pt_cmpR (o_eq hr.units) (pv 3) (pv 7) (nomark _)) (pss_one (ps_set (i := 8) sc_lengths.nd rfl (Or.inl rfl) (pe_op o_add (pe_ix (i_ix (K := K)) (pv 4) (pv 6) (fun _ _ => rfl)) pe_int))) pss_nil)
      (pss_one (ps_expr (pe_bm PySem.F.plainAttrs_list PySem.F.slot_list_append PySem.F.type_list_append mt_append (pv 5) (pa_cons (pv 8) pa_nil)))))))
      (pss_one (ps_expr (pe_bm PySem.F.plainAttrs_list PySem.F.slot_list_append PySem.F.type_list_append mt_append (pv 2) (pa_cons (pv 5) pa_nil))))))))
      (pss_one (ps_ret (pv 2)))))), ?_⟩
    walk_at "go"
    refine ⟨x, y, rfl, hR.imp fun s t ex ey hs ht k H1 e1 => ?_⟩
    subst ex ey
    have hs1 := hs.len
    have ht1 := ht.len
    have hsl : s.cps.toList.length = s.length := Array.length_toList
    have htl : t.cps.toList.length = t.length := Array.length_toList
    walk_at "go"
    rename_i q1 G1 n1 ex1 v1 q2 G2 n2 ex2 v2 p G3 n3 ex3 v3
    have e3 : Ex H G3 := ((e1.trans ex1).trans ex2).trans ex3
    have hp0 : H p = none := Ex.free ((e1.trans ex1).trans ex2) n3
    have hq20 : H q2 = none := Ex.free (e1.trans ex1) n2
    have hv2 : G3 q2 = some (.lst (lcRow s.cps.toList t.cps.toList (t.length + 1) 0)) := by
      rw [lcRow_zero]
      have := ex3.get v2
      rw [this]
      have e : ((t.length : Int) + 1).toNat = t.length + 1 := by omega
      rw [e]
    refine for_runs (rv_str s) (fun i σ H' => Ex H H' ∧ (∃ rs, rs.length = i + 1 ∧ TabAt H H' p rs (lcRow s.cps.toList t.cps.toList (t.length + 1))) ∧ ∃ a b c d e f, σ = [some (.str s), some (.str t), some (.ref p), a, b, c, d, e, f]) ⟨e3, ⟨[q2], rfl, hp0, v3, ?_, by simp, ?_, ?_⟩, _, _, _, _, _, _, rfl⟩ (fun _ _ _ _ _ => trivial) ?_ ?_
    · intro h
      rw [List.mem_singleton] at h
      rw [h, v2] at n3
      cases n3
    · intro r h
      rw [List.mem_singleton.mp h]
      exact hq20
    · intro k' r h
      cases k' with
      | zero => cases h; exact hv2
      | succ k' => simp at h
    · rintro i x σ H2 H2' hi ⟨e2, ⟨rs, hrs, T2⟩, a, b, c, d, e', f, rfl⟩ ⟨rfl, y, hy, rfl⟩
      have hlast : ∃ r, rs[i]? = some r := ⟨rs[i]'(by omega), List.getElem?_eq_getElem _⟩
      obtain ⟨r, hr0⟩ := hlast
      have hat : atI (rs.map V.ref) (-1) = some (V.ref r) := by
        unfold atI ixN
        rw [if_neg (by decide), List.length_map, hrs, if_pos (by omega)]
        show (rs.map V.ref)[(-1 + ((i + 1 : Nat) : Int)).toNat]? = _
        have e : (-1 + ((i + 1 : Nat) : Int)).toNat = i := by omega
        rw [e, List.getElem?_map, hr0]
        rfl
      walk_at "go"
      refine st_ixL T2.at_ hat ?_
      walk_at "go"
      rename_i q G4 nq e4 vq
      have habove : H2' r = some (.lst (lcRow s.cps.toList t.cps.toList (t.length + 1) i)) := T2.rows i r hr0
      refine for_runs (runs_enumS t) (fun j σ H' => Ex H2' H' ∧ H' q = some (.lst (lcRow s.cps.toList t.cps.toList (j + 1) (i + 1))) ∧ ∃ d e f, σ = [some (.str s), some (.str t), some (.ref p), some (.str (tx [y])), some (.ref r), some (.ref q), d, e, f]) ⟨e4, ?_, _, _, _, rfl⟩ (fun _ _ _ _ _ => trivial) ?_ ?_
      · rw [vq]
        show _ = some (HO.lst [V.int ((Lc _ _ (i + 1) 0 : Nat) : Int)])
        rw [Lc_j0]
        rfl
      · rintro j x σ H5 H6 hj ⟨e5, hq5, d', e'', f', rfl⟩ ⟨T, c', rfl, hT, e6, vT, hc'⟩
        have hab6 : H6 r = some (.lst (lcRow s.cps.toList t.cps.toList (t.length + 1) i)) := e6.get (e5.get habove)
        have hq6 := e6.get hq5
        walk_at "go"
        refine st_ixL hab6 (lcRow_atI (j := j + 1) (by omega)) ?_
        walk_at "go"
        refine st_ixL hq6 (lcRow_atI (j := j) (by omega)) ?_
        walk_at "go"
        have fin : ∀ m : Nat, m = Lc s.cps.toList t.cps.toList (i + 1) (j + 1) → ∃ d e f : Option V, True ∧ Ex H2' (upd H6 q (.lst (lcRow s.cps.toList t.cps.toList (j + 1) (i + 1) ++ [V.int (m : Int)]))) ∧ (upd H6 q (.lst (lcRow s.cps.toList t.cps.toList (j + 1) (i + 1) ++ [V.int (m : Int)]))) q = some (.lst (lcRow s.cps.toList t.cps.toList (j + 1 + 1) (i + 1))) := fun m hm =>
          ⟨none, none, none, trivial, (e5.trans e6).mut nq, by rw [upd_same, lcRow_more s.cps.toList t.cps.toList (j + 1), hm]⟩
        have hsij : s.cps.toList[i]? = some y := hy
        refine ⟨fun σ' H' => H' = H6 ∧ ∃ m : Nat, m = Lc s.cps.toList t.cps.toList (i + 1) (j + 1) ∧ σ' = [some (.str s), some (.str t), some (.ref p), some (.str (tx [y])), some (.ref r), some (.ref q), some (.int (j : Nat)), some (.str (tx [c'])), some (.int (m : Int))], ?_, ?_⟩
        · refine st_ifS ?_
          walk_at "go"
          have m1 := Lc_ri1 s.cps.toList t.cps.toList i j
          have m2 := Lc_up1 s.cps.toList t.cps.toList i j
          refine st_br2 (fun cc => ?_) (fun cc => ?_)
          · rw [tx_inj] at cc
            have hyc : y = c' := by simpa using cc
            walk_at "go"
            refine st_ixL hab6 (lcRow_atI (j := j) (by omega)) ?_
            walk_at "go"
            refine ⟨rfl, Lc s.cps.toList t.cps.toList i j + 1, ?_, by simp⟩
            rw [Lc_ss, if_pos (by rw [hsij, hc', hyc])]
          · have hyc : y ≠ c' := fun e => cc (by rw [e])
            walk_at "go"
            refine ⟨rfl, Lc s.cps.toList t.cps.toList (i + 1) (j + 1), rfl, ?_⟩
            have e1 : ((Lc s.cps.toList t.cps.toList (i + 1) (j + 1) : Nat) : Int) = if ((Lc s.cps.toList t.cps.toList (i + 1) j : Nat) : Int) > ((Lc s.cps.toList t.cps.toList i (j + 1) : Nat) : Int) then ((Lc s.cps.toList t.cps.toList (i + 1) j : Nat) : Int) else ((Lc s.cps.toList t.cps.toList i (j + 1) : Nat) : Int) := by
              rw [Lc_ss, if_neg (by rw [hsij, hc']; simpa using hyc)]
              split <;> omega
            rw [e1]
            rfl
        · rintro σ' H' ⟨rfl, m, hm, rfl⟩
          walk_at "go"
          refine st_app hq6 (by rw [lcRow_len]; omega) ?_
          obtain ⟨_, _, _, _, f1, f2⟩ := fin m hm
          exact ⟨f1, f2, _, _, _, rfl⟩
      · rintro σ H5 ⟨e5, hq5, d', e'', f', rfl⟩
        have T5 := T2.ex e5
        have h5at := T5.at_
        walk_at "go"
        refine st_app T5.at_ (by rw [List.length_map]; omega) ?_
        have hqp : q ≠ p := fun z => by rw [z, T2.at_] at nq; cases nq
        have hqr : q ∉ rs := fun z => by
          obtain ⟨k', hk'⟩ := List.getElem?_of_mem z
          rw [T2.rows k' q hk'] at nq
          cases nq
        refine ⟨(e2.trans e5).mut T2.new, ⟨rs ++ [q], by simp [hrs], T2.new, by rw [upd_same]; simp, ?_, ?_, ?_, ?_⟩, _, _, _, _, _, _, rfl⟩
        · rw [List.mem_append, List.mem_singleton]
          rintro (h | h)
          · exact T2.non h
          · exact hqp h.symm
        · rw [List.nodup_append]
          exact ⟨T2.nd, by simp, fun a ha b hb => by rw [List.mem_singleton.mp hb]; exact fun z => hqr (z ▸ ha)⟩
        · intro r' h
          rcases List.mem_append.mp h with h | h
          · exact T2.news r' h
          · rw [List.mem_singleton.mp h]; exact Ex.free e2 nq
        · intro k' r' h
          have hne : r' ≠ p := by
            intro z
            rw [List.getElem?_append] at h
            split at h
            · exact T2.non (z ▸ List.mem_of_getElem? h)
            · have := List.mem_of_getElem? h
              rw [List.mem_singleton] at this
              exact hqp (this ▸ z)
          rw [upd_ne hne]
          by_cases hk : k' < rs.length
          · rw [List.getElem?_append_left hk] at h
            exact T5.rows k' r' h
          · rw [List.getElem?_append_right (by omega)] at h
            have hk2 : k' - rs.length = 0 := by
              by_cases z : k' - rs.length = 0
              · exact z
              · rw [List.getElem?_eq_none (by simp; omega)] at h; cases h
            rw [hk2] at h
            cases h
            have : k' = i + 1 := by omega
            rw [this]
            exact hq5
    · rintro σ H2 ⟨e2, ⟨rs, hrs, T2⟩, a, b, c, d, e', f, rfl⟩
      walk_at "go"
      exact k p rs H2 e2 (by omega) T2
def sp_longest (K : PySem.W.Frag) : Sp := fun vs H Q E => ∃ x y, vs = [x, y] ∧ Rows2 K E H x y fun s t => ∀ H', Ex H H' → Q (.int (Lc s.cps.toList t.cps.toList s.length t.length : Nat)) H'
theorem ok_longest (T : Tx K mg ad fd tk base tc w) : FnOk P w K mg base (L2.CX P w) 6 (ad 38) (fd 38) ["side", "top"] (sp_longest K) := by
  refine T.d_longest.F.okX sc_longest (fun vs H Q E h => ?_) (fun cdv A outer s H vs Q E hr h => ?_)
  · obtain ⟨x, y, rfl, _⟩ := h
    rfl
  · obtain ⟨x, y, rfl, hR⟩ := h
    refine ⟨_, (pss_one (ps_ret (pe_ix (i_ix (K := K)) (pe_ix (i_ix (K := K)) (pe_call (ok_lengths T) (hr.mono (by decide)) rfl T.d_lengths.g T.d_lengths.F.kp T.d_lengths.b .nil (passes_call (takes_of rfl rfl rfl rfl) (fun _ _ _ _ h => h)) (pa_cons (pv 0) (pa_cons (pv 1) pa_nil))) (pe_un un_neg pe_int) (fun _ _ => rfl)) (pe_un un_neg pe_int) (fun _ _ => rfl)))), ?_⟩
    walk_at "go"
    refine ⟨x, y, rfl, hR.imp fun s t ex ey hs ht k p rs H1 e1 hrs T1 => ?_⟩
    subst ex ey
    have hsl : s.cps.toList.length = s.length := Array.length_toList
    obtain ⟨r, hr0⟩ : ∃ r, rs[s.length]? = some r := ⟨rs[s.length]'(by omega), List.getElem?_eq_getElem _⟩
    walk_at "go"
    refine st_ixL T1.at_ (at_last (n := s.length) (v := .ref r) (by rw [List.length_map]; exact hrs) (by rw [List.getElem?_map, hr0]; rfl)) ?_
    walk_at "go"
    refine st_ixL (T1.rows _ _ hr0) (at_last (n := t.length) (by rw [lcRow_len]) (lcRow_at (by omega))) ?_
    exact k _ e1
def sp_is_pair : Sp := fun vs H Q _ => ∃ (s t : Str) (x : V) (d : PyData), vs = [.str s, .str t, x] ∧ RowS s ∧ RowS t ∧ Rp H x d ∧ ∀ b, (b = true ↔ PairD s.cps.toList t.cps.toList d) → Q (.bl b) H
theorem ok_is_pair (T : Tx K mg ad fd tk base tc w) : FnOk P w K mg base CX0 3 (ad 39) (fd 39) ["side", "top", "thing"] sp_is_pair := by
  refine T.d_is_pair.F.ok sc_is_pair (fun vs H Q E h => ?_) (fun cdv A outer s H vs Q E hr h => ?_)
  · obtain ⟨s, t, x, d, rfl, _⟩ := h
    rfl
  · obtain ⟨s, t, x, d, rfl, hs, ht, hx, k⟩ := h
    refine ⟨_, (pss_cons (ps_if (PW.pt (pw_or (pt_not (pt_val (pe_callB c_is (by rfl) T.b_isinstance (by decide +kernel) (pa_cons (pv 2) (pa_cons (pe_bltn (v := .ty "tuple") rfl T.b_tuple (by decide +kernel) rfl) pa_nil))))) (pw_or1 (pt_cmpR (o_ne hr.units) (pe_callB (c_len (K := K)) (by rfl) T.b_len (by decide +kernel) (pa_cons (pv 2) pa_nil)) pe_int (nomark _))))) (pss_one (ps_ret pe_bl)) pss_nil)
      (pss_cons (ps_asg (pv 2) (pg_tup rfl (pgs_cons (pg_name (i := 3) sc_is_pair.nd rfl (Or.inl rfl)) (pgs_cons (pg_name (i := 4) sc_is_pair.nd rfl (Or.inl rfl)) pgs_nil))))
      (pss_cons (ps_if (PW.pt (pw_or (pt_not (pt_val (pe_call (ok_is_within T) (hr.mono (by decide)) rfl T.d_is_within.g T.d_is_within.F.kp T.d_is_within.b .nil pass0 (pa_cons (pv 3) (pa_cons pe_int (pa_cons (pe_op o_sub (pe_callB (c_len (K := K)) (by rfl) T.b_len (by decide +kernel) (pa_cons (pv 0) pa_nil)) pe_int) pa_nil)))))) (pw_or1 (pt_not (pt_val (pe_call (ok_is_within T) (hr.mono (by decide)) rfl T.d_is_within.g T.d_is_within.F.kp T.d_is_within.b .nil pass0 (pa_cons (pv 4) (pa_cons pe_int (pa_cons (pe_op o_sub (pe_callB (c_len (K := K)) (by rfl) T.b_len (by decide +kernel) (pa_cons (pv 1) pa_nil)) pe_int) pa_nil))))))))) (pss_one (ps_ret pe_bl)) pss_nil)
      (pss_one (ps_ret (pe_cmpR (o_eq hr.units) (pe_ix (i_ix (K := K)) (pv 0) (pv 3) (fun _ _ => rfl)) (pe_ix (i_ix (K := K)) (pv 1) (pv 4) (fun _ _ => rfl)) (nomark _))))))), ?_⟩
    have hs1 := hs.len
    have ht1 := ht.len
    have hsl : s.cps.toList.length = s.length := Array.length_toList
    have htl : t.cps.toList.length = t.length := Array.length_toList
    walk_at "go"
    refine st_isTupD hx.rq ?_
    refine ⟨_, rfl, ?_⟩
    have no : (¬ PairD s.cps.toList t.cps.toList d) → Q (.bl false) H := fun n => k false ⟨(fun z => nomatch z), (fun z => (n z).elim)⟩
    by_cases hd : ∃ ds, d = .tuple ds
    · obtain ⟨ds, rfl⟩ := hd
      obtain ⟨a, xs, rfl, h1, h2⟩ := hx.tupAt'
      have hl := h2.len
      refine st_F rfl ?_
      walk_at "go"
      refine st_lenA h1 ?_
      walk_at "go"
      refine st_brn (fun c => ?_) (fun c => ?_)
      · walk_at "go"
        refine no (fun h => ?_)
        obtain ⟨q, e, _⟩ := h
        cases e
        apply c
        rw [hl]
        rfl
      · have c2 : xs.length = 2 := by omega
        obtain ⟨x0, x1, rfl⟩ : ∃ x0 x1, xs = [x0, x1] := by
          match xs, c2 with
          | [x0, x1], _ => exact ⟨x0, x1, rfl⟩
        obtain ⟨d0, d1, rfl, r0, r1⟩ : ∃ d0 d1, ds = [d0, d1] ∧ Rp H x0 d0 ∧ Rp H x1 d1 := by
          match ds, h2 with
          | [d0, d1], .cons r0 (.cons r1 .nil) => exact ⟨d0, d1, rfl, r0, r1⟩
        walk_at "go"
        refine st_gtupA h1 rfl ?_
        walk_at "go"
        refine ⟨x0, 0, (s.length : Int) - 1, rfl, r0.ty, ?_⟩
        rw [within_rp r0]
        walk_at "go"
        refine st_br (fun c0 => ?_) (fun c0 => ?_)
        · walk_at "go"
          refine no (fun h => ?_)
          obtain ⟨q, e, g1, _⟩ := h
          cases e
          simp [withinD] at c0
          omega
        · walk_at "go"
          refine ⟨x1, 0, (t.length : Int) - 1, rfl, r1.ty, ?_⟩
          rw [within_rp r1]
          walk_at "go"
          refine st_br (fun c1 => ?_) (fun c1 => ?_)
          · walk_at "go"
            refine no (fun h => ?_)
            obtain ⟨q, e, _, c, g1, g2⟩ := h
            cases e
            have := (List.getElem?_eq_some_iff.mp g2).1
            simp [withinD] at c1
            omega
          · obtain ⟨i, rfl, i1, i2⟩ := withinD_T (d := d0) (by simpa using c0)
            obtain ⟨j, rfl, j1, j2⟩ := withinD_T (d := d1) (by simpa using c1)
            cases rp_int r0
            cases rp_int r1
            obtain ⟨m, rfl⟩ : ∃ m : Nat, i = m := ⟨i.toNat, by omega⟩
            obtain ⟨n, rfl⟩ : ∃ n : Nat, j = n := ⟨j.toNat, by omega⟩
            have hm : m < s.cps.toList.length := by omega
            have hn : n < t.cps.toList.length := by omega
            walk_at "go"
            refine st_sign (by omega) (at_nat (List.getElem?_eq_getElem hm)) ?_
            walk_at "go"
            refine st_sign (by omega) (at_nat (List.getElem?_eq_getElem hn)) ?_
            walk_at "go"
            refine k _ ⟨fun e => ?_, fun e => ?_⟩
            · have e := of_decide_eq_true e
              refine ⟨(m, n), rfl, hm, _, List.getElem?_eq_getElem hm, ?_⟩
              rw [List.getElem?_eq_getElem hn]
              exact congrArg some (Eq.symm (by simpa [tx_inj] using e))
            · obtain ⟨q, e, _, c, g1, g2⟩ := e
              have e1 : m = q.1 := by injection e with e; injection e with a b; injection a with a; omega
              have e2 : n = q.2 := by injection e with e; injection e with a b; injection b with b d; injection b with b; omega
              rw [← e1, List.getElem?_eq_getElem hm] at g1
              rw [← e2, List.getElem?_eq_getElem hn] at g2
              have g := g1.trans g2.symm
              simpa [tx_inj] using g
    · refine st_T ?_ ?_
      · cases d <;> first | rfl | exact absurd ⟨_, rfl⟩ hd
      walk_at "go"
      refine no (fun h => ?_)
      obtain ⟨q, e, _⟩ := h
      exact hd ⟨_, e⟩
theorem objs_ntup {H : Hp} {p : Addr} {ts : List Addr} {qs : List (Nat × Nat)} {xs : List V} (h : ObjsAt H ts (qs.map tupO)) (hp : H p = some (.lst xs)) : p ∉ ts := fun z => by
  obtain ⟨k, hk⟩ := List.getElem?_of_mem z
  have hk2 : k < (qs.map tupO).length := by rw [← h.len]; exact (List.getElem?_eq_some_iff.mp hk).1
  have := h.at k _ _ hk (List.getElem?_eq_getElem hk2)
  rw [hp, List.getElem_map] at this
  cases this
/-- the pairs of sign i, of the signs ahead of n -/
def prRow (s t : List Nat) (i : Nat) : List (Nat × Nat) := match s[i]? with
  | some c => (posOf c t).map fun j => (i, j)
  | none => []
def prs (s t : List Nat) (n : Nat) : List (Nat × Nat) := (List.range n).flatMap (prRow s t)
theorem prs_zero (s t : List Nat) : prs s t 0 = [] := rfl
theorem prs_succ (s t : List Nat) (n : Nat) : prs s t (n + 1) = prs s t n ++ prRow s t n := by
  unfold prs
  rw [List.range_succ, List.flatMap_append]
  simp
theorem posOf_len (c : Nat) (l : List Nat) : (posOf c l).length ≤ l.length := by
  have := List.length_filter_le (fun j => decide (l[j]? = some c)) (List.range l.length)
  rw [List.length_range] at this
  exact this
theorem prRow_len (s t : List Nat) (i : Nat) : (prRow s t i).length ≤ t.length := by
  unfold prRow
  split
  · rw [List.length_map]; exact posOf_len _ _
  · exact Nat.zero_le _
theorem prs_len (s t : List Nat) (n : Nat) : (prs s t n).length ≤ n * t.length := by
  induction n with
  | zero => simp [prs_zero]
  | succ n ih =>
    rw [prs_succ, List.length_append, Nat.succ_mul]
    have := prRow_len s t n
    omega
theorem posOf_mem {c j : Nat} {l : List Nat} : j ∈ posOf c l ↔ l[j]? = some c := by
  unfold posOf
  rw [List.mem_filter, List.mem_range, decide_eq_true_eq]
  constructor
  · exact fun h => h.2
  · exact fun h => ⟨(List.getElem?_eq_some_iff.mp h).1, h⟩
theorem prRow_mem {s t : List Nat} {i : Nat} {q : Nat × Nat} : q ∈ prRow s t i ↔ q.1 = i ∧ ∃ c, s[i]? = some c ∧ t[q.2]? = some c := by
  obtain ⟨a, b⟩ := q
  unfold prRow
  cases h : s[i]? with
  | none => simp
  | some c =>
    simp only [List.mem_map, posOf_mem, Prod.mk.injEq, Option.some.injEq]
    constructor
    · rintro ⟨j, h1, h2, h3⟩
      exact ⟨h2.symm, c, rfl, by rw [← h3]; exact h1⟩
    · rintro ⟨h1, c', h2, h3⟩
      exact ⟨b, by rw [h2]; exact h3, h1.symm, rfl⟩
theorem prs_mem {s t : List Nat} {n : Nat} {q : Nat × Nat} : q ∈ prs s t n ↔ q.1 < n ∧ ∃ c, s[q.1]? = some c ∧ t[q.2]? = some c := by
  unfold prs
  rw [List.mem_flatMap]
  constructor
  · rintro ⟨i, hi, h⟩
    rw [List.mem_range] at hi
    obtain ⟨h1, h2⟩ := prRow_mem.mp h
    rw [h1]
    exact ⟨hi, h2⟩
  · rintro ⟨h1, h2⟩
    exact ⟨q.1, List.mem_range.mpr h1, prRow_mem.mpr ⟨rfl, h2⟩⟩
/-- the list at p of tuples at ts: these pairs -/
structure PairsAt (H0 H : Hp) (p : Addr) (ts : List Addr) (qs : List (Nat × Nat)) : Prop where
  new : H0 p = none
  at_ : H p = some (.lst (ts.map V.ref))
  tups : ObjsAt H ts (qs.map tupO)
def sp_pairs_of (K : PySem.W.Frag) : Sp := fun vs H Q E => ∃ x y, vs = [x, y] ∧ Rows2 K E H x y fun s t => ∀ p ts H', Ex H H' → PairsAt H H' p ts (prs s.cps.toList t.cps.toList s.length) → Q (.ref p) H'
theorem ok_pairs_of (T : Tx K mg ad fd tk base tc w) : FnOk P w K mg base (L2.CX P w) 5 (ad 40) (fd 40) ["side", "top"] (sp_pairs_of K) := by
  refine T.d_pairs_of.F.okX sc_pairs_of (fun vs H Q E h => ?_) (fun cdv A outer s H vs Q E hr h => ?_)
  · obtain ⟨x, y, rfl, _⟩ := h
    rfl
  · obtain ⟨x, y, rfl, hR⟩ := h
    refine ⟨_, (pss_cons (ps_expr (pe_call (ok_need_rows T) (hr.mono (by decide)) rfl T.d_need_rows.g T.d_need_rows.F.kp T.d_need_rows.b .nil (passes_call (takes_of rfl rfl rfl rfl) (fun _ _ _ _ h => h)) (pa_cons (pv 0) (pa_cons (pv 1) pa_nil))))
      (pss_cons (ps_set (i := 2) sc_pairs_of.nd rfl (Or.inl rfl) (pe_call (ok_places_of T) (hr.mono (by decide)) rfl T.d_places_of.g T.d_places_of.F.kp T.d_places_of.b .nil (passes_call (takes_of rfl rfl rfl rfl) (fun _ _ _ _ h => h)) (pa_cons (pv 1) pa_nil)))
      (pss_cons (ps_set (i := 3) sc_pairs_of.nd rfl (Or.inl rfl) (pe_lst pa_nil))
      (pss_cons (ps_for (passes_of rfl) rfl (pi_enumS rfl T.b_enumerate (pa_cons (pv 0) pa_nil)) (pg_tup rfl (pgs_cons (pg_name (i := 4) sc_pairs_of.nd rfl (Or.inr rfl)) (pgs_cons (pg_name (i := 5) sc_pairs_of.nd rfl (Or.inl rfl)) pgs_nil))) (pss_one (ps_expr (pe_bm PySem.F.plainAttrs_list PySem.F.slot_list_extend PySem.F.type_list_extend mt_extend (pv 3) (pa_cons (pe_lc (own := [("j", 6)]) (g := gName 6) rfl sc_pairs_of.nd (pi_list (pe_dget2 (hu_of hr) (pv 2) (pv 5) (pe_lst pa_nil) ⟨rfl, rfl, rfl, rfl⟩)) (blkOk_by (own := [("j", 6)]) (N := N_pairs_of) (sc := defScope s_pairs_of) (by decide +kernel)) (fun _ _ _ _ _ => pg_name (i := 6) sc_pairs_of.nd rfl (Or.inl rfl)) (fun _ _ _ _ _ => pts_nil) (fun _ _ _ _ _ => (pe_tup (pa_cons (pv 4) (pa_cons (pv 6) pa_nil))))) pa_nil)))))
      (pss_one (ps_ret (pv 3))))))), ?_⟩
    walk_at "go"
    refine ⟨x, y, rfl, hR.imp fun s t ex ey hs ht k H1 e1 => ?_⟩
    subst ex ey
    have hs1 := hs.len
    have ht1 := ht.len2
    have hsl : s.cps.toList.length = s.length := Array.length_toList
    walk_at "go"
    refine ⟨.str t, rfl, .inl ⟨t, rfl, ht, fun d rs H2 e2 P => ?_⟩⟩
    walk_at "go"
    rename_i p G3 n3 e3 v3
    have e13 := (e1.trans e2).trans e3
    have hp0 : H p = none := Ex.free (e1.trans e2) n3
    refine for_runs (runs_enumS s) (fun i σ H' => Ex H2 H' ∧ (∃ ts, PairsAt H H' p ts (prs s.cps.toList t.cps.toList i)) ∧ ∃ a b c, σ = [some (.str s), some (.str t), some (.ref d), some (.ref p), a, b, c]) ⟨e3, ⟨[], hp0, v3, .nil⟩, _, _, _, rfl⟩ (fun _ _ _ _ _ => trivial) ?_ ?_
    · rintro i x σ H' H'' hi ⟨e, ⟨ts, PA⟩, a, b, c0, rfl⟩ ⟨T, c, rfl, hT, eT, vT, hc⟩
      have hd : H'' d = _ := eT.get (e.get P.at_)
      have rows := (P.rows.ex e).ex eT
      have hp' : H'' p = _ := eT.get PA.at_
      walk_at "go"
      rename_i q G4 n4 e4 v4
      have hd4 := e4.get hd
      refine st_dget2P (k := Sum.inr (tx [c])) hd4 ?_
      have hrow : prRow s.cps.toList t.cps.toList i = (posOf c t.cps.toList).map fun j => (i, j) := by unfold prRow; rw [hc]
      obtain ⟨r, hr, hr2⟩ : ∃ r, (valV (((firsts t.cps.toList).zip rs).map fun q => ((Sum.inr (tx [q.1]) : Key), V.ref q.2)) (Sum.inr (tx [c]))).getD (.ref q) = .ref r ∧ G4 r = some (.lst ((posOf c t.cps.toList).map fun (j : Nat) => V.int j)) := by
        by_cases z : c ∈ firsts t.cps.toList
        · obtain ⟨kx, hkx⟩ := List.getElem?_of_mem z
          have hkl : kx < rs.length := by rw [P.len]; exact (List.getElem?_eq_some_iff.mp hkx).1
          refine ⟨rs[kx], ?_, ?_⟩
          · rw [places_get P.len (firsts_nodup _) hkx (List.getElem?_eq_getElem hkl)]; rfl
          · exact e4.get (rows.at kx _ _ (List.getElem?_eq_getElem hkl) (by rw [List.getElem?_map, hkx]; rfl))
        · refine ⟨q, by rw [places_none z]; rfl, ?_⟩
          rw [v4]
          have : posOf c t.cps.toList = [] := by
            unfold posOf
            rw [List.filter_eq_nil_iff]
            intro j hj w
            exact z ((firsts_mem _ _).mpr (List.mem_of_getElem? (of_decide_eq_true w)))
          rw [this]
          rfl
      rw [hr]
      walk_at "go"
      refine lc_objs0 (rv_list K r (posOf c t.cps.toList) fun (j : Nat) => V.int j) (fun H' e => lst_of (e.get hr2)) (by have := posOf_len c t.cps.toList; omega) (fun j => tupO (i, j)) ?_ ?_
      · intro j H5 hj e5 B h1
        refine ⟨rfl, ?_⟩
        walk_at "go"
        rename_i T5 G5 n5 e6 v5
        exact h1 T5 G5 n5 e6 v5
      · intro D H5 us hD e5 hd5 tups nd nn news
        have ee : Ex H'' H5 := e4.trans e5
        have hpl := prs_len s.cps.toList t.cps.toList i
        have hpl2 : (prs s.cps.toList t.cps.toList i).length ≤ 48 * 48 := Nat.le_trans hpl (Nat.mul_le_mul (by omega) ht1)
        have l1 := PA.tups.len
        have l2 := tups.len
        have l3 := posOf_len c t.cps.toList
        rw [List.length_map] at l1 l2
        walk_at "go"
        refine st_ext (ee.get hp') hd5 (by rw [List.length_map, List.length_map]; omega) ?_
        have hp5 : H5 p = some (.lst (ts.map V.ref)) := ee.get hp'
        have t1 : ObjsAt H5 (ts ++ us) ((prs s.cps.toList t.cps.toList (i + 1)).map tupO) := by
          rw [prs_succ, List.map_append, hrow, List.map_map]
          exact ((PA.tups.ex eT).ex ee).app tups
        refine ⟨((e.trans eT).trans ee).mut n3, ⟨ts ++ us, hp0, by rw [upd_same, List.map_append], .up (objs_ntup t1 hp5) t1⟩, _, _, _, rfl⟩
    · rintro σ H' ⟨e, ⟨ts, PA⟩, a, b, c, rfl⟩
      walk_at "go"
      exact k p ts H' ((e1.trans e2).trans e) PA
def sp_is_heap (K : PySem.W.Frag) : Sp := fun vs H Q _ => ∃ (s t : Str) (x : V) (d : PyData), vs = [.str s, .str t, x] ∧ RowS s ∧ RowS t ∧ Rp H x d ∧ (∀ ds, d = .list ds → ds.length ≤ 999999) ∧ d.depth ≤ 60 ∧
  ∀ H' b, Ex H H' → (b = true ↔ GoodHeap s.cps.toList t.cps.toList d) → Q (.bl b) H'
theorem ok_is_heap (T : Tx K mg ad fd tk base tc w) : FnOk P w K mg base CX0 4 (ad 41) (fd 41) ["side", "top", "thing"] (sp_is_heap K) := by
  refine T.d_is_heap.F.ok sc_is_heap (fun vs H Q E h => ?_) (fun cdv A outer s H vs Q E hr h => ?_)
  · obtain ⟨s, t, x, d, rfl, _⟩ := h
    rfl
  · obtain ⟨s, t, x, d, rfl, hs, ht, hx, hsz, hdp, k⟩ := h
    refine ⟨_, (pss_cons (ps_if (PW.pt (pw_or (pt_not (pt_val (pe_callB c_is (by rfl) T.b_isinstance (by decide +kernel) (pa_cons (pv 2) (pa_cons (pe_bltn (v := .ty "list") rfl T.b_list (by decide +kernel) rfl) pa_nil))))) (pw_or1 (pt_cmpR (o_eq hr.units) (pv 2) (pe_lst pa_nil) (nomark _))))) (pss_one (ps_ret pe_bl)) pss_nil)
      (pss_cons (ps_if (pt_not (pt_val (pe_callB (c_all rfl) (by rfl) T.b_all (by decide +kernel) (pa_cons (pe_lc (own := [("pair", 7)]) (g := gName 7) rfl sc_is_heap.nd (pi_list (pv 2)) (blkOk_by (own := [("pair", 7)]) (N := N_is_heap) (sc := defScope s_is_heap) (by decide +kernel)) (fun _ _ _ _ _ => pg_name (i := 7) sc_is_heap.nd rfl (Or.inl rfl)) (fun _ _ _ _ _ => pts_nil) (fun _ _ _ _ _ => (pe_call (ok_is_pair T) (hr.mono (by decide)) rfl T.d_is_pair.g T.d_is_pair.F.kp T.d_is_pair.b .nil pass0 (pa_cons (pv 0) (pa_cons (pv 1) (pa_cons (pv 7) pa_nil)))))) pa_nil)))) (pss_one (ps_ret pe_bl)) pss_nil)
      (pss_cons (ps_set (i := 3) sc_is_heap.nd rfl (Or.inl rfl) (pe_callB (c_len (K := K)) (by rfl) T.b_len (by decide +kernel) (pa_cons (pv 1) pa_nil)))
      (pss_cons (ps_set (i := 4) sc_is_heap.nd rfl (Or.inl rfl) (pe_tup (pa_cons (pe_un un_neg pe_int) (pa_cons (pe_un un_neg pe_int) pa_nil))))
      (pss_cons (ps_for PassesOwn.never rfl (pi_list (pe_callB (c_sortP (K := K)) (by rfl) T.b_sorted (by decide +kernel) (pa_cons (pe_lc (own := [("pair", 7)]) (g := gName 7) rfl sc_is_heap.nd (pi_list (pv 2)) (blkOk_by (own := [("pair", 7)]) (N := N_is_heap) (sc := defScope s_is_heap) (by decide +kernel)) (fun _ _ _ _ _ => pg_name (i := 7) sc_is_heap.nd rfl (Or.inl rfl)) (fun _ _ _ _ _ => pts_nil) (fun _ _ _ _ _ => (pe_tup (pa_cons (pe_ix (i_ix (K := K)) (pv 7) pe_int (fun _ _ => rfl)) (pa_cons (pe_un un_neg (pe_ix (i_ix (K := K)) (pv 7) pe_int (fun _ _ => rfl))) pa_nil))))) pa_nil))) (pg_tup rfl (pgs_cons (pg_name (i := 5) sc_is_heap.nd rfl (Or.inl rfl)) (pgs_cons (pg_name (i := 6) sc_is_heap.nd rfl (Or.inl rfl)) pgs_nil))) (pss_cons (ps_if (PW.pt (pw_or (pt_cmpR (o_eq hr.units) (pe_tup (pa_cons (pv 5) (pa_cons (pv 6) pa_nil))) (pv 4) (nomark _)) (pw_or1 (pt_cmpR o_gt (pe_un un_neg (pv 6)) (pv 3) (nomark _))))) (pss_one (ps_ret pe_bl)) pss_nil)
      (pss_cut (ps_if (pt_cmpR o_lt (pe_un un_neg (pv 6)) (pv 3) (nomark _)) (pss_one (ps_set (i := 3) sc_is_heap.nd rfl (Or.inl rfl) (pe_un un_neg (pv 6)))) pss_nil)
      (pss_one (ps_set (i := 4) sc_is_heap.nd rfl (Or.inl rfl) (pe_tup (pa_cons (pv 5) (pa_cons (pv 6) pa_nil))))))))
      (pss_one (ps_ret pe_bl))))))), ?_⟩
    have htl : t.cps.toList.length = t.length := Array.length_toList
    have ht1 := ht.len
    have no : ∀ H', Ex H H' → (¬ GoodHeap s.cps.toList t.cps.toList d) → Q (.bl false) H' := fun H' e n => k H' false e ⟨(fun z => nomatch z), (fun z => (n z).elim)⟩
    walk_at "go"
    refine st_isListD hx.rq ?_
    refine ⟨_, rfl, ?_⟩
    by_cases hd : ∃ ds, d = .list ds
    · obtain ⟨ds, rfl⟩ := hd
      obtain ⟨p, xs, rfl, hp1, hp2⟩ := hx.listAt
      obtain ⟨zs, rfl, rfl, hzs⟩ := RpA.zipped hp2
      have hzl := hsz _ rfl
      rw [List.length_map] at hzl
      refine st_F rfl ?_
      walk_at "go"
      rename_i w0 G0 n0 e0 v0
      refine st_eqD (hx.ex e0) (.lst (lst_of v0) .nil) (by simp only [PyData.depth, PyData.depthAll] at hdp ⊢; omega) ?_
      have he : PyData.eqv (.list (zs.map (·.2))) (.list []) = decide (zs = []) := by cases zs <;> rfl
      rw [he]
      refine ⟨_, rfl, ?_⟩
      refine st_br2 (fun c => ?_) (fun hne => ?_)
      · walk_at "go"
        refine no _ e0 (fun h => ?_)
        obtain ⟨l, e, h2, _⟩ := h
        subst c
        cases l with
        | nil => exact h2 rfl
        | cons _ _ => cases e
      have hp1' := lstAt_ex e0 hp1
      walk_at "go"
      refine st_isList hp1' ?_
      refine lc_map (rv_list K p zs (·.1)) (fun H' e => lstAt_ex e hp1') (by omega) (fun z => .bl (@decide (PairD s.cps.toList t.cps.toList z.2) (Classical.propDecidable _))) ?_ ?_
      · intro z H' hzm e B h1
        refine ⟨rfl, ?_⟩
        have h1' := h1 _ (Fr.refl _)
        have hz := (hzs z hzm).ex (e0.trans e)
        walk_at "go"
        refine ⟨s, t, z.1, z.2, rfl, hs, ht, hz, fun b hb => ?_⟩
        have : b = @decide (PairD s.cps.toList t.cps.toList z.2) (Classical.propDecidable _) := by
          rw [Bool.eq_iff_iff, hb]
          simp
        rw [this]
        exact h1'
      · intro D H1 hD e1 hd
        have e01 := e0.trans e1
        walk_at "go"
        refine st_all (bs := zs.map fun z => @decide (PairD s.cps.toList t.cps.toList z.2) (Classical.propDecidable _)) hd (by rw [List.map_map]; rfl) ?_
        walk_at "go"
        refine st_br (fun c => ?_) (fun c => ?_)
        · walk_at "go"
          refine no _ e01 (fun h => ?_)
          obtain ⟨l, e, _, h3, _⟩ := h
          simp at c
          obtain ⟨z1, z2, hz, hn⟩ := c
          apply hn
          have e : zs.map (·.2) = l.map encQ := by injection e
          have hm : z2 ∈ l.map encQ := by rw [← e]; exact List.mem_map.mpr ⟨_, hz, rfl⟩
          obtain ⟨q, hq, rfl⟩ := List.mem_map.mp hm
          exact ⟨q, rfl, h3 q hq⟩
        have hall : ∀ z ∈ zs, PairD s.cps.toList t.cps.toList z.2 := fun z hz => by
          simp at c
          exact c _ _ hz
        obtain ⟨gs, rfl, hok⟩ := pairs_in _ _ zs hall
        have hp3 : lstAt H1 p = some (gs.map (·.1)) := by
          have := lstAt_ex e1 hp1'
          rwa [List.map_map] at this
        have hrp : ∀ g ∈ gs, Rp H g.1 (encQ g.2) := fun g hg => hzs _ (List.mem_map.mpr ⟨g, hg, rfl⟩)
        rw [List.length_map] at hzl
        have hgd : GoodHeap s.cps.toList t.cps.toList (PyData.list ((gs.map fun g => (g.1, encQ g.2)).map (·.2))) ↔ (gs.map (·.2)).Nodup ∧ AntiQ (gs.map (·.2)) := by
          have e3 : (gs.map fun g => (g.1, encQ g.2)).map (·.2) = (gs.map (·.2)).map encQ := by simp
          rw [e3]
          constructor
          · rintro ⟨l, e, _, _, h4, h5⟩
            have e : (gs.map (·.2)).map encQ = l.map encQ := by injection e
            rw [map_encQ_inj e]
            exact ⟨h4, h5⟩
          · intro ⟨h1, h2⟩
            refine ⟨_, rfl, fun z => hne ?_, fun q hq => ?_, h1, h2⟩
            · cases gs with
              | nil => rfl
              | cons _ _ => cases z
            · obtain ⟨g, hg, rfl⟩ := List.mem_map.mp hq
              exact hok g hg
        walk_at "go"
        rename_i B0 G2 n2 e2 v2
        have hp4 := lstAt_ex e2 hp3
        refine st_isList hp4 ?_
        refine lc_objs0 (rv_list K p gs (·.1)) (fun H' e => lstAt_ex e hp4) (by omega) (fun z => .tup [.int (z.2.1 : Nat), .int (-((z.2.2 : Nat) : Int))]) ?_ ?_
        · intro z H' hzm e B h1
          refine ⟨rfl, ?_⟩
          obtain ⟨a, e5, hz0⟩ := rp_encQ ((hrp z hzm).ex ((e01.trans e2).trans e))
          rw [e5]
          walk_at "go"
          refine st_ixA2 hz0 (by rfl) ?_
          walk_at "go"
          refine st_ixA2 hz0 (by rfl) ?_
          walk_at "go"
          rename_i T5 G5 n5 e6 v5
          exact h1 T5 G5 n5 e6 v5
        · intro D2 H3 us hD2 e3 hd2 objs nd nn news
          walk_at "go"
          have hul : us.length = gs.length := by have := objs.len; rwa [List.length_map] at this
          obtain ⟨hs', hhs⟩ : ∃ hs' : List (GP (Nat × Nat)), hs' = us.zip (gs.map (·.2)) := ⟨_, rfl⟩
          have hgV : hs'.map gV = us.map V.ref := by
            rw [hhs]
            have : (us.zip (gs.map (·.2))).map Prod.fst = us := List.map_fst_zip (by rw [List.length_map]; omega)
            rw [show (gV : GP (Nat × Nat) → V) = V.ref ∘ Prod.fst from rfl, ← List.map_map, this]
          have hgS : hs'.map (·.2) = gs.map (·.2) := by rw [hhs]; exact List.map_snd_zip (by rw [List.length_map]; omega)
          have tg : TG2 enN H3 hs' := by
            intro g hg
            obtain ⟨j, hj⟩ := List.getElem?_of_mem hg
            rw [hhs, List.getElem?_zip_eq_some] at hj
            obtain ⟨j1, j2⟩ := hj
            rw [List.getElem?_map] at j2
            cases hq : gs[j]? with
            | none => rw [hq] at j2; cases j2
            | some z =>
              rw [hq] at j2
              have e : z.2 = g.2 := Option.some.inj j2
              have := objs.at j _ _ j1 (by rw [List.getElem?_map, hq]; rfl)
              rw [this]
              show some (HO.tup [V.int (z.2.1 : Nat), V.int (-((z.2.2 : Nat) : Int))]) = _
              rw [e]
              rfl
          refine st_sortG enN (zs := hs') (lstAt_sq (lst_of (by rw [hgV]; exact hd2))) tg (fun ys q H4 hpm hlx n4 e4 v4 => ?_)
          have hpm2 : (ys.map (·.2)).Perm (gs.map (·.2)) := by have := hpm.map (·.2); rwa [hgS] at this
          have tg4 : TG2 enN H4 ys := fun z hz => e4.get (tg z (hpm.mem_iff.mp hz))
          obtain ⟨m, hm⟩ : ∃ m, m = ys.map (·.2) := ⟨_, rfl⟩
          rw [← hm] at hpm2
          have hsm : (m.map enN).Pairwise lexI := by rw [hm, List.map_map]; exact hlx
          have hml : m.length = ys.length := by rw [hm, List.length_map]
          have hmt : ∀ y ∈ m, y.2 < t.length := fun y hy => by
            obtain ⟨z, hzm, e⟩ := List.mem_map.mp (hpm2.mem_iff.mp hy)
            obtain ⟨_, c, _, h3⟩ := hok z hzm
            have := (List.getElem?_eq_some_iff.mp h3).1
            rw [← e]
            omega
          have bad : ∀ H', Ex H H' → ¬ fallQ m → Q (.bl false) H' := fun H' e n => no H' e fun h => n (by
            obtain ⟨h1, h2⟩ := hgd.mp h
            exact fall_of hpm2 hsm h1 h2)
          have e14 : Ex H H4 := ((e01.trans e2).trans e3).trans e4
          have hB4 := e4.get (e3.get v2)
          walk_at "go"
          refine for_runs (runs_list K q (ys.map gV)) (fun i σ H' => Ex H4 H' ∧ (∃ (L : Nat) (B : Addr) (b1 b2 : Int), H' B = some (.tup [.int b1, .int b2]) ∧ HeapSeen m t.length i L b1 b2 ∧ ∃ c e f, σ = [some (.str s), some (.str t), some (.ref p), some (.int L), some (.ref B), c, e, f])) ⟨Fr.refl _, t.length, B0, -1, -1, hB4, heapSeen_0 m _, _, _, _, rfl⟩ (fun i σ H' _ ⟨e, _⟩ => lst_of (e.get v4)) ?_ ?_
          · rintro i x σ H5 H5' hi ⟨e5, L, B, b1, b2, hB, hseen, c, e, f, rfl⟩ ⟨rfl, hx⟩
            rw [List.length_map] at hi
            obtain ⟨z, hz'⟩ : ∃ z, ys[i]? = some z := ⟨_, List.getElem?_eq_getElem hi⟩
            rw [List.getElem?_map, hz'] at hx
            cases hx
            have hmi : m[i]? = some z.2 := by rw [hm, List.getElem?_map, hz']; rfl
            have hzv : H5' z.1 = some (.tup [.int (z.2.1 : Nat), .int (-((z.2.2 : Nat) : Int))]) := e5.get (tg4 z (List.mem_of_getElem? hz'))
            walk_at "go"
            rename_i T6 G6 n6 e6 v6
            refine st_eqD (.tup (tup_of v6) (.cons (.int _) (.cons (.int _) .nil))) (.tup (tup_of (e6.get hB)) (.cons (.int _) (.cons (.int _) .nil))) (by simp [PyData.depth, PyData.depthAll]) ?_
            refine ⟨_, rfl, ?_⟩
            have hev : (PyData.tuple [PyData.int (z.2.1 : Nat), PyData.int (-((z.2.2 : Nat) : Int))]).eqv (PyData.tuple [PyData.int b1, PyData.int b2]) = decide (b1 = (z.2.1 : Nat) ∧ b2 = -((z.2.2 : Nat) : Int)) := by
              simp only [PyData.eqv, PyData.eqvAll, Bool.and_true]
              rw [Bool.eq_iff_iff]
              simp
              omega
            have hzt := hmt z.2 (List.mem_of_getElem? hmi)
            rw [hev]
            refine st_br2 (fun c1 => ?_) (fun c1 => ?_)
            · walk_at "go"
              exact bad _ ((e14.trans e5).trans e6) (hseen.same hmi c1.1 c1.2)
            walk_at "go"
            refine st_br2 (fun c2 => ?_) (fun c2 => ?_)
            · walk_at "go"
              exact bad _ ((e14.trans e5).trans e6) (hseen.high hmi hzt (by omega))
            walk_at "go"
            have hst := hseen.step hsm hmi c1 (by omega)
            refine ⟨fun σ' H' => H' = G6 ∧ σ' = [some (.str s), some (.str t), some (.ref p), some (.int (z.2.2 : Nat)), some (.ref B), some (.int (z.2.1 : Nat)), some (.int (-((z.2.2 : Nat) : Int))), f], ?_, ?_⟩
            · refine st_ifS ?_
              walk_at "go"
              refine st_br2 (fun c3 => ?_) (fun c3 => ?_)
              · walk_at "go"
                refine ⟨rfl, ?_⟩
                rw [Int.neg_neg]
                rfl
              · walk_at "go"
                refine ⟨rfl, ?_⟩
                have : L = z.2.2 := by omega
                rw [this]
                rfl
            · rintro σ' H' ⟨rfl, rfl⟩
              walk_at "go"
              rename_i T7 G7 n7 e7 v7
              exact ⟨(e5.trans e6).trans e7, _, T7, _, _, v7, hst, _, _, _, rfl⟩
          · rintro σ H5 ⟨e5, L, B, b1, b2, hB, hseen, c, e, f, rfl⟩
            walk_at "go"
            refine k _ _ (e14.trans e5) ⟨(fun _ => ?_), (fun _ => rfl)⟩
            have hf := hseen.1
            rw [List.take_of_length_le (by rw [List.length_map]; omega)] at hf
            exact hgd.mpr (of_fall hpm2 hsm hf)
    · refine st_T ?_ ?_
      · cases d <;> first | rfl | exact absurd ⟨_, rfl⟩ hd
      walk_at "go"
      refine no _ (Fr.refl _) (fun h => ?_)
      obtain ⟨q, e, _⟩ := h
      exact hd ⟨_, e⟩
theorem prRow_sorted (s t : List Nat) (i : Nat) : (prRow s t i).Pairwise lexLe := by
  unfold prRow
  split
  · rename_i c hc
    rw [List.pairwise_map]
    unfold posOf
    have : ((List.range t.length).filter fun j => decide (t[j]? = some c)).Pairwise (· < ·) := List.Pairwise.filter _ List.pairwise_lt_range
    exact this.imp fun {a b} h => .inr ⟨rfl, Nat.le_of_lt h⟩
  · exact .nil
theorem prs_sorted (s t : List Nat) (n : Nat) : (prs s t n).Pairwise lexLe := by
  induction n with
  | zero => exact .nil
  | succ n ih =>
    rw [prs_succ, List.pairwise_append]
    refine ⟨ih, prRow_sorted s t n, fun a ha b hb => ?_⟩
    have h1 := (prs_mem.mp ha).1
    have h2 := (prRow_mem.mp hb).1
    exact .inl (by omega)
/-- heaps of all pairs -/
def encHs (hss : List (List (Nat × Nat))) : PyData := .list (hss.map fun l => .list (l.map encQ))
def GoodHeaps (s t : List Nat) (d : PyData) : Prop := ∃ hss : List (List (Nat × Nat)), d = encHs hss ∧ (∀ l ∈ hss, l ≠ [] ∧ AntiQ l) ∧ hss.flatten.Perm (prs s t s.length)
theorem rn_encQ {H : Hp} {x : V} {q : Nat × Nat} (h : Rn H x (encQ q)) : ∃ a, x = .ref a ∧ H a = some (tupO q) := by
  obtain ⟨a, xs, rfl, h1, h2⟩ := h.tupAt
  refine ⟨a, rfl, ?_⟩
  cases h2 with
  | cons r0 r =>
    cases r with
    | cons r1 r2 =>
      cases r2
      cases r0
      cases r1
      exact h1
theorem rn_pairs {H : Hp} : ∀ {xs : List V} {l : List (Nat × Nat)}, RnA H xs (l.map encQ) → ∃ zl : List ZP, xs = zl.map zV ∧ l = zl.map (·.2) ∧ TP H zl
  | xs, [], h => by
    cases h
    exact ⟨[], rfl, rfl, fun _ h => nomatch h⟩
  | xs, q :: l, h => by
    cases h with
    | cons h1 h2 =>
      obtain ⟨zl, rfl, rfl, h3⟩ := rn_pairs h2
      obtain ⟨a, rfl, h4⟩ := rn_encQ h1
      exact ⟨(a, q) :: zl, rfl, rfl, h3.cons h4⟩
/-- what the good heaps are by things -/
structure HeapsIn (H : Hp) (s t : List Nat) (zs : List (V × PyData)) (hs : List Addr) (zss : List (List ZP)) : Prop where
  vs : zs.map (·.1) = hs.map V.ref
  ds : zs.map (·.2) = (zss.map fun l => l.map (·.2)).map fun l => .list (l.map encQ)
  objs : ObjsAt H hs (zss.map fun (l : List ZP) => HO.lst (l.map zV))
  tp : TP H zss.flatten
  ok : ∀ l ∈ zss, l ≠ [] ∧ AntiQ (l.map (·.2)) ∧ ∀ z ∈ l, PairOk s t z.2
theorem heaps_in {H : Hp} {s t : List Nat} : ∀ zs : List (V × PyData), (∀ z ∈ zs, Rn H z.1 z.2) → (∀ z ∈ zs, GoodHeap s t z.2) → ∃ hs zss, HeapsIn H s t zs hs zss
  | [], _, _ => ⟨[], [], rfl, rfl, .nil, (fun _ h => nomatch h), (fun _ h => nomatch h)⟩
  | z :: zs, h, g => by
    obtain ⟨hs, zss, a1, a2, a3, a4, a5⟩ := heaps_in zs (fun z hz => h z (List.mem_cons_of_mem _ hz)) (fun z hz => g z (List.mem_cons_of_mem _ hz))
    have h0 := h z List.mem_cons_self
    obtain ⟨l, e, g1, g2, g3, g4⟩ := g z List.mem_cons_self
    rw [e] at h0
    obtain ⟨a, xs, e1, h1, h2⟩ := h0.listAt
    obtain ⟨zl, rfl, rfl, h3⟩ := rn_pairs h2
    refine ⟨a :: hs, zl :: zss, ?_, ?_, .cons h1 a3, ?_, ?_⟩
    · rw [List.map_cons, List.map_cons, a1, e1]
    · rw [List.map_cons, List.map_cons, List.map_cons, a2, e]
    · rw [List.flatten_cons]
      exact h3.app a4
    · intro l hl
      rcases List.mem_cons.mp hl with e | e
      · subst e
        refine ⟨fun z => g1 (by rw [z]; rfl), g4, fun z hz => g2 _ (List.mem_map.mpr ⟨z, hz, rfl⟩)⟩
      · exact a5 l e
theorem list_inj {a b : List PyData} (h : PyData.list a = .list b) : a = b := by injection h
theorem encHs_inj {a b : List (List (Nat × Nat))} (h : encHs a = encHs b) : a = b :=
  (List.map_inj_right fun x y e => map_encQ_inj (list_inj e)).mp (list_inj h)
theorem prs_ok {s t : List Nat} {q : Nat × Nat} (h : q ∈ prs s t s.length) : PairOk s t q := by
  obtain ⟨h1, h2⟩ := prs_mem.mp h
  exact ⟨h1, h2⟩
theorem prs_nodup (s t : List Nat) (n : Nat) : (prs s t n).Nodup := by
  induction n with
  | zero => exact .nil
  | succ n ih =>
    rw [prs_succ, List.nodup_append]
    refine ⟨ih, ?_, fun a ha b hb e => ?_⟩
    · unfold prRow
      split
      · refine nodup_map (List.Nodup.sublist List.filter_sublist List.nodup_range) fun a b h => ?_
        exact (Prod.mk.inj h).2
      · exact .nil
    · have h1 := (prs_mem.mp ha).1
      have h2 := (prRow_mem.mp hb).1
      rw [e] at h1
      omega
/-- each heap of good heaps is good -/
theorem GoodHeaps.each {s t : List Nat} {ds : List PyData} (h : GoodHeaps s t (.list ds)) : ∀ d ∈ ds, GoodHeap s t d := by
  obtain ⟨hss, e, h1, h2⟩ := h
  intro d hd
  rw [list_inj e] at hd
  obtain ⟨l, hl, rfl⟩ := List.mem_map.mp hd
  refine ⟨l, rfl, (h1 l hl).1, fun q hq => prs_ok (h2.mem_iff.mp (List.mem_flatten.mpr ⟨l, hl, hq⟩)), ?_, (h1 l hl).2⟩
  exact List.Sublist.nodup (List.sublist_flatten_of_mem hl) ((h2.nodup_iff).mpr (prs_nodup s t s.length))
def sp_are_heaps (K : PySem.W.Frag) : Sp := fun vs H Q E => ∃ (x0 y0 x : V), vs = [x0, y0, x] ∧ Rows2 K E H x0 y0 fun s t => ∃ d : PyData, Rn H x d ∧ (d.hasDict = true → d = .dict []) ∧ szD d ≤ 999999 ∧ d.depth ≤ 59 ∧
  ∀ H' b, Ex H H' → (b = true ↔ GoodHeaps s.cps.toList t.cps.toList d) → Q (.bl b) H'
theorem ok_are_heaps (T : Tx K mg ad fd tk base tc w) : FnOk P w K mg base (L2.CX P w) 6 (ad 42) (fd 42) ["side", "top", "thing"] (sp_are_heaps K) := by
  refine T.d_are_heaps.F.okX sc_are_heaps (fun vs H Q E h => ?_) (fun cdv A outer s H vs Q E hr h => ?_)
  · obtain ⟨x0, y0, x, rfl, _⟩ := h
    rfl
  · obtain ⟨x0, y0, x, rfl, hR⟩ := h
    refine ⟨_, (pss_cons (ps_set (i := 3) sc_are_heaps.nd rfl (Or.inl rfl) (pe_call (ok_pairs_of T) (hr.mono (by decide)) rfl T.d_pairs_of.g T.d_pairs_of.F.kp T.d_pairs_of.b .nil (passes_call (takes_of rfl rfl rfl rfl) (fun _ _ _ _ h => h)) (pa_cons (pv 0) (pa_cons (pv 1) pa_nil))))
      (pss_cons (ps_if (PW.pt (pw_or (pt_not (pt_val (pe_callB c_is (by rfl) T.b_isinstance (by decide +kernel) (pa_cons (pv 2) (pa_cons (pe_bltn (v := .ty "list") rfl T.b_list (by decide +kernel) rfl) pa_nil))))) (pw_or1 (pt_not (pt_val (pe_callB (c_all rfl) (by rfl) T.b_all (by decide +kernel) (pa_cons (pe_lc (own := [("heap", 5)]) (g := gName 5) rfl sc_are_heaps.nd (pi_list (pv 2)) (blkOk_by (own := [("heap", 5)]) (N := N_are_heaps) (sc := defScope s_are_heaps) (by decide +kernel)) (fun _ _ _ _ _ => pg_name (i := 5) sc_are_heaps.nd rfl (Or.inl rfl)) (fun _ _ _ _ _ => pts_nil) (fun _ _ _ _ _ => (pe_call (ok_is_heap T) (hr.mono (by decide)) rfl T.d_is_heap.g T.d_is_heap.F.kp T.d_is_heap.b .nil pass0 (pa_cons (pv 0) (pa_cons (pv 1) (pa_cons (pv 5) pa_nil)))))) pa_nil))))))) (pss_one (ps_ret pe_bl)) pss_nil)
      (pss_cons (ps_set (i := 4) sc_are_heaps.nd rfl (Or.inl rfl) (pe_lst pa_nil))
      (pss_cons (ps_for (passes_of rfl) rfl (pi_list (pv 2)) (pg_name (i := 5) sc_are_heaps.nd rfl (Or.inl rfl)) (pss_one (ps_expr (pe_bm PySem.F.plainAttrs_list PySem.F.slot_list_extend PySem.F.type_list_extend mt_extend (pv 4) (pa_cons (pv 5) pa_nil)))))
      (pss_one (ps_ret (pe_cmpR (o_eq hr.units) (pe_callB (c_sortP (K := K)) (by rfl) T.b_sorted (by decide +kernel) (pa_cons (pv 4) pa_nil)) (pv 3) (nomark _)))))))), ?_⟩
    walk_at "go"
    refine ⟨x0, y0, rfl, hR.imp fun s t ex ey hs ht ⟨d, hx, hdc, hsz, hdp, k⟩ p ts H1 e1 PA => ?_⟩
    subst ex ey
    have no : ∀ H', Ex H H' → (¬ GoodHeaps s.cps.toList t.cps.toList d) → Q (.bl false) H' := fun H' e n => k H' false e ⟨(fun z => nomatch z), (fun z => (n z).elim)⟩
    walk_at "go"
    refine st_isListD (hx.ex e1).rq ?_
    refine ⟨_, rfl, ?_⟩
    by_cases hd : ∃ ds, d = .list ds
    · obtain ⟨ds, rfl⟩ := hd
      have hndc : PyData.hasDictAll ds = false := by
        have : (PyData.list ds).hasDict = false := by
          cases q : (PyData.list ds).hasDict with
          | false => rfl
          | true => cases hdc q
        simpa only [PyData.hasDict] using this
      obtain ⟨a, xs, rfl, ha, hxs⟩ := hx.listAt
      obtain ⟨zs, rfl, rfl, hzs⟩ := hxs.zipped
      have hsz2 : szA (zs.map (·.2)) ≤ 999999 := by simp only [szD] at hsz; omega
      have hdp2 : PyData.depthAll (zs.map (·.2)) ≤ 59 := by simp only [PyData.depth] at hdp; omega
      have hzl : zs.length ≤ 999999 := by
        have := szA_len (zs.map (·.2))
        rw [List.length_map] at this
        omega
      have ha1 := e1.get ha
      refine st_F rfl ?_
      walk_at "go"
      refine lc_map (rv_list K a zs (·.1)) (fun H' e => lst_of (e.get ha1)) (by omega) (fun z => .bl (@decide (GoodHeap s.cps.toList t.cps.toList z.2) (Classical.propDecidable _))) ?_ ?_
      · intro z H' hzm e B h1
        refine ⟨rfl, ?_⟩
        have h1' := h1
        have hz := (hzs z hzm).ex (e1.trans e)
        have hmem : z.2 ∈ zs.map (·.2) := List.mem_map.mpr ⟨z, hzm, rfl⟩
        walk_at "go"
        refine ⟨s, t, z.1, z.2, rfl, hs, ht, hz.rp (hasDictA_mem hndc hmem), ?_, ?_, fun H'' b e3 hb => ?_⟩
        · intro ds e5
          have h1 := szA_mem hmem
          have h2 := szA_len ds
          rw [e5] at h1
          simp only [szD] at h1
          omega
        · have := depthA_mem hmem
          omega
        · have : b = @decide (GoodHeap s.cps.toList t.cps.toList z.2) (Classical.propDecidable _) := by
            rw [Bool.eq_iff_iff, hb]
            simp
          rw [this]
          exact h1' _ e3
      · intro D H2 hD e2 hd2
        walk_at "go"
        refine st_all (bs := zs.map fun z => @decide (GoodHeap s.cps.toList t.cps.toList z.2) (Classical.propDecidable _)) hd2 (by rw [List.map_map]; rfl) ?_
        walk_at "go"
        have e12 := e1.trans e2
        refine st_br (fun c => ?_) (fun c => ?_)
        · walk_at "go"
          refine no _ e12 (fun h => ?_)
          simp at c
          obtain ⟨z1, z2, hz, hn⟩ := c
          exact hn (h.each z2 (List.mem_map.mpr ⟨_, hz, rfl⟩))
        have hall : ∀ z ∈ zs, GoodHeap s.cps.toList t.cps.toList z.2 := fun z hz => by
          simp at c
          exact c _ _ hz
        obtain ⟨hh, zss, HI⟩ := heaps_in zs hzs hall
        have hgd : GoodHeaps s.cps.toList t.cps.toList (PyData.list (zs.map (·.2))) ↔ (zss.flatten.map (·.2)).Perm (prs s.cps.toList t.cps.toList s.length) := by
          have hds := HI.ds
          have e5 : zss.flatten.map (·.2) = (zss.map fun l => l.map (·.2)).flatten := by rw [List.map_flatten]
          rw [e5]
          constructor
          · rintro ⟨hss, e, h1, h2⟩
            have e6 : encHs (zss.map fun l => l.map (·.2)) = encHs hss := by rw [← e, hds]; rfl
            rw [encHs_inj e6]
            exact h2
          · intro h
            refine ⟨zss.map fun l => l.map (·.2), by rw [hds]; rfl, fun l hl => ?_, h⟩
            obtain ⟨l', hl', rfl⟩ := List.mem_map.mp hl
            obtain ⟨g1, g2, _⟩ := HI.ok l' hl'
            exact ⟨fun z => g1 (by cases l' with | nil => rfl | cons _ _ => cases z), g2⟩
        have rows := HI.objs
        have htp := HI.tp
        have hlen : zss.length = zs.length := by have := congrArg List.length HI.ds; simp at this; omega
        have hhl : hh.length = zss.length := by have := rows.len; rwa [List.length_map] at this
        have hfl : zss.flatten.length ≤ 999999 := by
          have : szA (zs.map (·.2)) = _ := congrArg szA HI.ds
          have h2 : ∀ w : List (List ZP), w.flatten.length ≤ szA ((w.map fun l => l.map (·.2)).map fun l => PyData.list (l.map encQ)) := by
            intro w
            induction w with
            | nil => simp [szA]
            | cons l w ih =>
              have := szA_len ((l.map (·.2)).map encQ)
              simp only [List.length_map] at this
              simp only [List.map_cons, szA, szD, List.flatten_cons, List.length_append]
              omega
          have := h2 zss
          omega
        have ha2 : H2 a = some (.lst (hh.map V.ref)) := by rw [← HI.vs]; exact e2.get ha1
        walk_at "go"
        rename_i f G3 n3 e3 v3
        refine for_runs (runs_list K a (hh.map V.ref)) (fun i σ H' => Ex H2 H' ∧ H' f = some (.lst ((zss.take i).flatten.map zV)) ∧ ∃ c, σ = [some (.str s), some (.str t), some (.ref a), some (.ref p), some (.ref f), c]) ⟨e3, v3, _, rfl⟩ (fun i σ H' _ ⟨e, _⟩ => lst_of (e.get ha2)) ?_ ?_
        · rintro i x σ H4 H4' hi ⟨e4, hf, c, rfl⟩ ⟨rfl, hx⟩
          rw [List.length_map] at hi
          obtain ⟨r, hr⟩ : ∃ r, hh[i]? = some r := ⟨_, List.getElem?_eq_getElem hi⟩
          obtain ⟨l, hl'⟩ : ∃ l, zss[i]? = some l := ⟨zss[i]'(by omega), List.getElem?_eq_getElem _⟩
          rw [List.getElem?_map, hr] at hx
          cases hx
          have hrow := rows.at i _ _ hr (by rw [List.getElem?_map, hl']; rfl)
          have hrow4 := Ex.get (e12.trans e4) hrow
          have tk : zss.take (i + 1) = zss.take i ++ [l] := by rw [List.take_add_one, hl']; rfl
          have htk : (zss.take (i + 1)).flatten.length ≤ zss.flatten.length := by
            have : zss.flatten = (zss.take (i + 1)).flatten ++ (zss.drop (i + 1)).flatten := by rw [← List.flatten_append, List.take_append_drop]
            rw [this, List.length_append]; omega
          rw [tk, List.flatten_append, List.length_append] at htk
          have hll : [l].flatten.length = l.length := by simp
          walk_at "go"
          refine st_ext hf hrow4 (by rw [List.length_map, List.length_map]; omega) ?_
          refine ⟨e4.mut n3, ?_, _, rfl⟩
          rw [upd_same, ← List.map_append, tk, List.flatten_append]
          simp
        · rintro σ H4 ⟨e4, hf, c, rfl⟩
          rw [List.length_map, hhl, List.take_length] at hf
          have e14 := e12.trans e4
          walk_at "go"
          refine st_sortZ (lstAt_sq (lst_of hf)) (htp.ex e14) (fun ys q H5 hpm hlx n5 e5 v5 => ?_)
          have hl1 := PA.tups.len
          rw [List.length_map] at hl1
          obtain ⟨gz, hgz⟩ : ∃ gz : List ZP, gz = ts.zip (prs s.cps.toList t.cps.toList s.length) := ⟨_, rfl⟩
          have hgV : gz.map zV = ts.map V.ref := by
            rw [hgz]
            have : (ts.zip (prs s.cps.toList t.cps.toList s.length)).map Prod.fst = ts := List.map_fst_zip (by omega)
            rw [show (zV : ZP → V) = V.ref ∘ Prod.fst from rfl, ← List.map_map, this]
          have hgS : gz.map (·.2) = prs s.cps.toList t.cps.toList s.length := by rw [hgz]; exact List.map_snd_zip (by omega)
          have tpg : TP H1 gz := by
            intro g hg
            obtain ⟨j, hj⟩ := List.getElem?_of_mem hg
            rw [hgz, List.getElem?_zip_eq_some] at hj
            obtain ⟨j1, j2⟩ := hj
            exact PA.tups.at j _ _ j1 (by rw [List.getElem?_map, j2]; rfl)
          have e15 := (e2.trans e4).trans e5
          have hpq : H5 p = some (.lst (gz.map zV)) := by rw [hgV]; exact e15.get PA.at_
          walk_at "go"
          refine st_eqD ((((htp.ex e14).ex e5).perm hpm).rpL v5) ((tpg.ex e15).rpL hpq) ?_ ?_
          · have := zs_depth ys
            omega
          · rw [eqv_zs, hgS]
            refine k H5 _ (e14.trans e5) ?_
            rw [hgd]
            have hp2 := hpm.map (·.2)
            constructor
            · intro hb
              rw [← of_decide_eq_true hb]
              exact hp2.symm
            · intro hb
              exact decide_eq_true (sorted_uniq hlx (prs_sorted _ _ _) (hp2.trans hb))
    · refine st_T ?_ ?_
      · cases d <;> first | rfl | exact absurd ⟨_, rfl⟩ hd
      walk_at "go"
      refine no _ e1 (fun h => ?_)
      obtain ⟨q, e, _⟩ := h
      exact hd ⟨_, e⟩
/-- two plain rows, or the first that is none is refused -/
def Plains2 (K : PySem.W.Frag) (E : XK) (H : Hp) (x y : V) (k : Str → Str → Prop) : Prop := (∃ s t, x = .str s ∧ y = .str t ∧ PlainS s ∧ PlainS t ∧ k s t) ∨
  (Thg H x ∧ Thg H y ∧ ((isPlain x = false ∧ RaR K E H "NoPlain" "found" x) ∨ (isPlain x = true ∧ isPlain y = false ∧ RaR K E H "NoPlain" "found" y)))
theorem Plains2.imp {K : PySem.W.Frag} {E : XK} {H : Hp} {x y : V} {k k' : Str → Str → Prop} (h : Plains2 K E H x y k) (f : ∀ s t, x = .str s → y = .str t → PlainS s → PlainS t → k s t → k' s t) : Plains2 K E H x y k' := by
  rcases h with ⟨s, t, e1, e2, hs, ht, h⟩ | h
  · exact .inl ⟨s, t, e1, e2, hs, ht, f s t e1 e2 hs ht h⟩
  · exact .inr h
def sp_need_plains (K : PySem.W.Frag) : Sp := fun vs H Q E => ∃ x y, vs = [x, y] ∧ Plains2 K E H x y fun _ _ => ∀ H', Ex H H' → Q .non H'
theorem ok_need_plains (T : Tx K mg ad fd tk base tc w) : FnOk P w K mg base (L2.CX P w) 4 (ad 43) (fd 43) ["side", "top"] (sp_need_plains K) := by
  refine T.d_need_plains.F.okX sc_need_plains (fun vs H Q E h => ?_) (fun cdv A outer s H vs Q E hr h => ?_)
  · obtain ⟨x, y, rfl, _⟩ := h
    rfl
  · obtain ⟨x, y, rfl, k⟩ := h
    refine ⟨_, (pss_cons (ps_expr (pe_call (ok_need_plain T) (hr.mono (by decide)) rfl T.d_need_plain.g T.d_need_plain.F.kp T.d_need_plain.b .nil (passes_call (takes_of rfl rfl rfl rfl) (fun _ _ _ _ h => h)) (pa_cons (pv 0) pa_nil)))
      (pss_one (ps_expr (pe_call (ok_need_plain T) (hr.mono (by decide)) rfl T.d_need_plain.g T.d_need_plain.F.kp T.d_need_plain.b .nil (passes_call (takes_of rfl rfl rfl rfl) (fun _ _ _ _ h => h)) (pa_cons (pv 1) pa_nil))))), ?_⟩
    walk_at "go"
    rcases k with ⟨s, t, rfl, rfl, hs, ht, k⟩ | ⟨h1, h2, ⟨hb, k⟩ | ⟨ha, hb, k⟩⟩
    · refine ⟨.str s, rfl, .inl ⟨s, rfl, hs, fun H1 e1 => ?_⟩⟩
      walk_at "go"
      refine ⟨.str t, rfl, .inl ⟨t, rfl, ht, fun H2 e2 => ?_⟩⟩
      walk_at "go"
      exact k _ (e1.trans e2)
    · exact ⟨x, rfl, .inr ⟨h1, hb, k⟩⟩
    · obtain ⟨s, rfl, hs⟩ := plainS_of_true ha
      refine ⟨.str s, rfl, .inl ⟨s, rfl, hs, fun H1 e1 => ?_⟩⟩
      walk_at "go"
      exact ⟨y, rfl, .inr ⟨h2.ex e1, hb, k.ex e1⟩⟩
def Lev (a b : List Nat) : Nat → Nat → Nat
  | 0, j => j
  | i + 1, 0 => i + 1
  | i + 1, j + 1 => min (min (Lev a b (i + 1) j + 1) (Lev a b i (j + 1) + 1)) (Lev a b i j + if a[i]? = b[j]? then 0 else 1)
termination_by i j => i + j
theorem Lev_0 (a b : List Nat) (j : Nat) : Lev a b 0 j = j := by unfold Lev; rfl
theorem Lev_s0 (a b : List Nat) (i : Nat) : Lev a b (i + 1) 0 = i + 1 := by unfold Lev; rfl
theorem Lev_j0 (a b : List Nat) (i : Nat) : Lev a b i 0 = i := by cases i with
  | zero => exact Lev_0 a b 0
  | succ i => exact Lev_s0 a b i
theorem Lev_ss (a b : List Nat) (i j : Nat) : Lev a b (i + 1) (j + 1) = min (min (Lev a b (i + 1) j + 1) (Lev a b i (j + 1) + 1)) (Lev a b i j + if a[i]? = b[j]? then 0 else 1) := by
  rw [Lev]
theorem parts_even : ∀ (l : List Nat) (i : Nat), i < l.length → (parts l)[2 * i]? = some 46
  | [], _, h => absurd h (Nat.not_lt_zero _)
  | a :: l, 0, _ => rfl
  | a :: l, i + 1, h => by
    rw [parts_cons, show 2 * (i + 1) = (2 * i + 1) + 1 by omega, List.getElem?_cons_succ, List.getElem?_cons_succ]
    exact parts_even l i (by simpa using h)
theorem parts_odd : ∀ (l : List Nat) (i : Nat), (parts l)[2 * i + 1]? = l[i]?
  | [], i => by simp [parts]
  | a :: l, 0 => rfl
  | a :: l, i + 1 => by
    rw [parts_cons, show 2 * (i + 1) + 1 = (2 * i + 1 + 1) + 1 by omega, List.getElem?_cons_succ, List.getElem?_cons_succ, List.getElem?_cons_succ]
    exact parts_odd l i
theorem parts_drop : ∀ (l : List Nat) (b : Nat), (parts l).drop (2 * b) = parts (l.drop b)
  | l, 0 => rfl
  | [], b + 1 => by simp [parts]
  | a :: l, b + 1 => by
    rw [parts_cons, show 2 * (b + 1) = (2 * b + 1) + 1 by omega, List.drop_succ_cons, List.drop_succ_cons, List.drop_succ_cons]
    exact parts_drop l b
theorem lev_Lc {a b : List Nat} (ha : 46 ∉ a) (hb : 46 ∉ b) : ∀ N i j : Nat, i + j ≤ N → i ≤ a.length → j ≤ b.length → Lc (parts a) (parts b) (2 * i) (2 * j) + Lev a b i j = i + j
  | N, 0, j, _, _, _ => by rw [Nat.mul_zero, Lc_i0, Lev_0]
  | N, i + 1, 0, _, _, _ => by rw [Nat.mul_zero, Lc_j0, Lev_s0]; omega
  | 0, i + 1, j + 1, h, _, _ => by omega
  | N + 1, i + 1, j + 1, h, hi, hj => by
    have h1 := lev_Lc ha hb N i j (by omega) (by omega) (by omega)
    have h2 := lev_Lc ha hb N i (j + 1) (by omega) (by omega) hj
    have h3 := lev_Lc ha hb N (i + 1) j (by omega) hi (by omega)
    rw [show 2 * (i + 1) = 2 * i + 1 + 1 by omega] at h3 ⊢
    rw [show 2 * (j + 1) = 2 * j + 1 + 1 by omega] at h2 ⊢
    have gi := parts_even a i (by omega)
    have gj := parts_even b j (by omega)
    have oi := parts_odd a i
    have oj := parts_odd b j
    have ai : a[i]? = some (a[i]'(by omega)) := List.getElem?_eq_getElem _
    have bj : b[j]? = some (b[j]'(by omega)) := List.getElem?_eq_getElem _
    have an : a[i]'(by omega) ≠ 46 := fun z => ha (by rw [← z]; exact List.getElem_mem _)
    have bn : b[j]'(by omega) ≠ 46 := fun z => hb (by rw [← z]; exact List.getElem_mem _)
    have E1 : Lc (parts a) (parts b) (2 * i + 1) (2 * j + 1) = Lc (parts a) (parts b) (2 * i) (2 * j) + 1 := by rw [Lc_ss, if_pos (by rw [gi, gj])]
    have E2 : Lc (parts a) (parts b) (2 * i + 1) (2 * j + 1 + 1) = max (Lc (parts a) (parts b) (2 * i) (2 * j + 1 + 1)) (Lc (parts a) (parts b) (2 * i + 1) (2 * j + 1)) := by
      rw [Lc_ss, if_neg (by rw [gi, oj, bj]; exact fun z => bn (Option.some.inj z).symm)]
    have E3 : Lc (parts a) (parts b) (2 * i + 1 + 1) (2 * j + 1) = max (Lc (parts a) (parts b) (2 * i + 1) (2 * j + 1)) (Lc (parts a) (parts b) (2 * i + 1 + 1) (2 * j)) := by
      rw [Lc_ss, if_neg (by rw [oi, gj, ai]; exact fun z => an (Option.some.inj z))]
    have E4 : Lc (parts a) (parts b) (2 * i + 1 + 1) (2 * j + 1 + 1) = if a[i]? = b[j]? then Lc (parts a) (parts b) (2 * i + 1) (2 * j + 1) + 1 else max (Lc (parts a) (parts b) (2 * i + 1) (2 * j + 1 + 1)) (Lc (parts a) (parts b) (2 * i + 1 + 1) (2 * j + 1)) := by
      rw [Lc_ss, oi, oj]
    have n1 := Lc_ri1 (parts a) (parts b) (2 * i) (2 * j)
    have n2 := Lc_ri1 (parts a) (parts b) (2 * i) (2 * j + 1)
    have n3 := Lc_up1 (parts a) (parts b) (2 * i) (2 * j)
    have n4 := Lc_up1 (parts a) (parts b) (2 * i + 1) (2 * j)
    rw [E4, Lev_ss]
    by_cases e : a[i]? = b[j]?
    · rw [if_pos e, if_pos e, E1]
      omega
    · rw [if_neg e, if_neg e, E2, E3, E1]
      omega
/-- the costs of all stretches that begin at b -/
def levRow (s t : List Nat) (b : Nat) : List Int := (List.range (t.length - b + 1)).map fun j => ((Lev s (t.drop b) s.length j : Nat) : Int)
theorem plain_pt {s : Str} (h : PlainS s) : 46 ∉ s.cps.toList := by
  have h : (isRow (.str s) && (decide (s.length ≤ 24) && !decide (46 ∈ s.cps.toList))) = true := h
  rw [Bool.and_eq_true, Bool.and_eq_true, Bool.not_eq_true'] at h
  exact of_decide_eq_false h.2.2
theorem plain_row {s : Str} (h : PlainS s) : RowS s := by
  have h : (isRow (.str s) && (decide (s.length ≤ 24) && !decide (46 ∈ s.cps.toList))) = true := h
  rw [Bool.and_eq_true] at h
  exact h.1
theorem parts_mem {l : List Nat} {c : Nat} (h : c ∈ parts l) : c = 46 ∨ c ∈ l := by
  induction l with
  | nil => cases h
  | cons a l ih =>
    rw [parts_cons] at h
    rcases List.mem_cons.mp h with h | h
    · exact .inl h
    · rcases List.mem_cons.mp h with h | h
      · exact .inr (by rw [h]; exact List.mem_cons_self)
      · exact (ih h).imp_right (List.mem_cons_of_mem _)
theorem parts_row {s : Str} (h : PlainS s) : RowS (tx (parts s.cps.toList)) := by
  have hr : (decide (s.length ≤ 48) && s.cps.toList.all rowSign) = true := plain_row h
  rw [Bool.and_eq_true] at hr
  show (decide ((tx (parts s.cps.toList)).length ≤ 48) && (tx (parts s.cps.toList)).cps.toList.all rowSign) = true
  rw [Bool.and_eq_true, decide_eq_true_eq, tx_length, tx_toList, parts_len]
  refine ⟨by have := h.len2; omega, List.all_eq_true.mpr fun c hc => ?_⟩
  rcases parts_mem hc with h | h
  · rw [h]; decide
  · exact List.all_eq_true.mp hr.2 c h
def sp_cost (K : PySem.W.Frag) : Sp := fun vs H Q E => ∃ x y, vs = [x, y] ∧ Plains2 K E H x y fun s t => ∀ H', Ex H H' → Q (.int ((Lev s.cps.toList t.cps.toList s.length t.length : Nat) : Int)) H'
theorem ok_cost (T : Tx K mg ad fd tk base tc w) : FnOk P w K mg base (L2.CX P w) 7 (ad 44) (fd 44) ["side", "top"] (sp_cost K) := by
  refine T.d_cost.F.okX sc_cost (fun vs H Q E h => ?_) (fun cdv A outer s H vs Q E hr h => ?_)
  · obtain ⟨x, y, rfl, _⟩ := h
    rfl
  · obtain ⟨x, y, rfl, hR⟩ := h
    refine ⟨_, (pss_cons (ps_expr (pe_call (ok_need_plains T) (hr.mono (by decide)) rfl T.d_need_plains.g T.d_need_plains.F.kp T.d_need_plains.b .nil (passes_call (takes_of rfl rfl rfl rfl) (fun _ _ _ _ h => h)) (pa_cons (pv 0) (pa_cons (pv 1) pa_nil))))
      (pss_one (ps_ret (pe_op o_sub (pe_op o_add (pe_callB (c_len (K := K)) (by rfl) T.b_len (by decide +kernel) (pa_cons (pv 0) pa_nil)) (pe_callB (c_len (K := K)) (by rfl) T.b_len (by decide +kernel) (pa_cons (pv 1) pa_nil))) (pe_call (ok_longest T) (hr.mono (by decide)) rfl T.d_longest.g T.d_longest.F.kp T.d_longest.b .nil (passes_call (takes_of rfl rfl rfl rfl) (fun _ _ _ _ h => h)) (pa_cons (pe_call (ok_parted T) (hr.mono (by decide)) rfl T.d_parted.g T.d_parted.F.kp T.d_parted.b .nil (passes_call (takes_of rfl rfl rfl rfl) (fun _ _ _ _ h => h)) (pa_cons (pv 0) pa_nil)) (pa_cons (pe_call (ok_parted T) (hr.mono (by decide)) rfl T.d_parted.g T.d_parted.F.kp T.d_parted.b .nil (passes_call (takes_of rfl rfl rfl rfl) (fun _ _ _ _ h => h)) (pa_cons (pv 1) pa_nil)) pa_nil))))))), ?_⟩
    walk_at "go"
    refine ⟨x, y, rfl, hR.imp fun s t ex ey hs ht k H1 e1 => ?_⟩
    subst ex ey
    have ls := hs.len
    have lt := ht.len
    walk_at "go"
    refine ⟨.str s, rfl, .inl ⟨s, rfl, hs, fun H2 e2 => ?_⟩⟩
    walk_at "go"
    refine ⟨.str t, rfl, .inl ⟨t, rfl, ht, fun H3 e3 => ?_⟩⟩
    walk_at "go"
    refine ⟨_, _, rfl, .inl ⟨_, _, rfl, rfl, parts_row hs, parts_row ht, fun H4 e4 => ?_⟩⟩
    have h := lev_Lc (plain_pt hs) (plain_pt ht) _ s.length t.length (Nat.le_refl _) (by rw [lenStr]; exact Nat.le_refl _) (by rw [lenStr]; exact Nat.le_refl _)
    rw [tx_toList, tx_toList, tx_length, tx_length, parts_len, parts_len, lenStr, lenStr]
    show Q (.int (((s.length : Int) + (t.length : Int)) - ((Lc (parts s.cps.toList) (parts t.cps.toList) (2 * s.length) (2 * t.length) : Nat) : Int))) H4
    rw [show ((s.length : Int) + (t.length : Int)) - ((Lc (parts s.cps.toList) (parts t.cps.toList) (2 * s.length) (2 * t.length) : Nat) : Int) = ((Lev s.cps.toList t.cps.toList s.length t.length : Nat) : Int) by omega]
    exact k H4 (e1.trans (e2.trans (e3.trans e4)))
def lvRow (s t : List Nat) (m i : Nat) : List V := (List.range m).map fun j => V.int (Lev s t i j : Nat)
theorem lvRow_len (s t : List Nat) (m i : Nat) : (lvRow s t m i).length = m := by simp [lvRow]
theorem lvRow_at {s t : List Nat} {m i j : Nat} (h : j < m) : (lvRow s t m i)[j]? = some (V.int (Lev s t i j : Nat)) := by
  unfold lvRow
  rw [List.getElem?_map, List.getElem?_range h]
  rfl
theorem lvRow_atI {s t : List Nat} {m i j : Nat} (h : j < m) : atI (lvRow s t m i) (j : Int) = some (V.int (Lev s t i j : Nat)) := at_nat (lvRow_at h)
theorem lvRow_more (s t : List Nat) (m i : Nat) : lvRow s t (m + 1) i = lvRow s t m i ++ [V.int (Lev s t i m : Nat)] := by
  unfold lvRow
  rw [List.range_succ, List.map_append]
  rfl
def sp_cost_table : Sp := fun vs H Q _ => ∃ s t, vs = [.str s, .str t] ∧ s.length ≤ 24 ∧ t.length ≤ 24 ∧ ∀ p rs H', Ex H H' → rs.length = s.length + 1 → TabAt H H' p rs (lvRow s.cps.toList t.cps.toList (t.length + 1)) → Q (.ref p) H'
theorem ok_cost_table (T : Tx K mg ad fd tk base tc w) : FnOk P w K mg base CX0 1 (ad 45) (fd 45) ["side", "top"] sp_cost_table := by
  refine T.d_cost_table.F.ok sc_cost_table (fun vs H Q E h => ?_) (fun cdv A outer s H vs Q E hr h => ?_)
  · obtain ⟨s, t, rfl, _⟩ := h
    rfl
  · obtain ⟨s, t, rfl, hs1, ht1, k⟩ := h
    refine ⟨_, (pss_cons (ps_set (i := 2) sc_cost_table.nd rfl (Or.inl rfl) (pe_lst (pa_cons (pe_listRgC rfl (by rfl) T.b_list (prgC (by rfl) T.b_range (pa_cons (pe_op o_add (pe_callB (c_len (K := K)) (by rfl) T.b_len (by decide +kernel) (pa_cons (pv 1) pa_nil)) pe_int) pa_nil))) pa_nil)))
      (pss_cons (ps_for PassesOwn.never rfl (pi_str (pv 0)) (pg_name (i := 3) sc_cost_table.nd rfl (Or.inl rfl)) (pss_cons (ps_set (i := 4) sc_cost_table.nd rfl (Or.inl rfl) (pe_ix (i_ix (K := K)) (pv 2) (pe_un un_neg pe_int) (fun _ _ => rfl)))
      (pss_cons (ps_set (i := 5) sc_cost_table.nd rfl (Or.inl rfl) (pe_lst (pa_cons (pe_op o_add (pe_ix (i_ix (K := K)) (pv 4) pe_int (fun _ _ => rfl)) pe_int) pa_nil)))
      (pss_cons (ps_for PassesOwn.never rfl (pi_enumS rfl T.b_enumerate (pa_cons (pv 1) pa_nil)) (pg_tup rfl (pgs_cons (pg_name (i := 6) sc_cost_table.nd rfl (Or.inl rfl)) (pgs_cons (pg_name (i := 7) sc_cost_table.nd rfl (Or.inl rfl)) pgs_nil))) (pss_one (ps_expr (pe_bm PySem.F.plainAttrs_list PySem.F.slot_list_append PySem.F.type_list_append mt_append (pv 5) (pa_cons (pe_callB (c_min3 rfl) (by rfl) T.b_min (by decide +kernel) (pa_cons (pe_op o_add (pe_ix (i_ix (K := K)) (pv 4) (pv 6) (fun _ _ => rfl)) (pe_callTy c_int (by rfl) T.b_int (by decide +kernel) (pa_cons (pe_cmpR (o_ne hr.units) (pv 3) (pv 7) (nomark _)) pa_nil))) (pa_cons (pe_op o_add (pe_ix (i_ix (K := K)) (pv 4) (pe_op o_add (pv 6) pe_int) (fun _ _ => rfl)) pe_int) (pa_cons (pe_op o_add (pe_ix (i_ix (K := K)) (pv 5) (pv 6) (fun _ _ => rfl)) pe_int) pa_nil)))) pa_nil)))))
      (pss_one (ps_expr (pe_bm PySem.F.plainAttrs_list PySem.F.slot_list_append PySem.F.type_list_append mt_append (pv 2) (pa_cons (pv 5) pa_nil))))))))
      (pss_one (ps_ret (pv 2))))), ?_⟩
    have hsl : s.cps.toList.length = s.length := Array.length_toList
    have htl : t.cps.toList.length = t.length := Array.length_toList
    walk_at "go"
    rename_i q2 G2 n2 ex2 v2 p G3 n3 ex3 v3
    have e3 : Ex H G3 := ex2.trans ex3
    have hp0 : H p = none := Ex.free ex2 n3
    have hq20 : H q2 = none := n2
    have hv2 : G3 q2 = some (.lst (lvRow s.cps.toList t.cps.toList (t.length + 1) 0)) := by
      rw [ex3.get v2]
      unfold lvRow rgL
      rw [List.map_map]
      congr 2
      refine List.map_congr_left fun j _ => ?_
      rw [Lev_0]
      show V.int (0 + (j : Int) * 1) = _
      rw [Int.mul_one, Int.zero_add]
    refine for_runs (rv_str s) (fun i σ H' => Ex H H' ∧ (∃ rs, rs.length = i + 1 ∧ TabAt H H' p rs (lvRow s.cps.toList t.cps.toList (t.length + 1))) ∧ ∃ a b c d e, σ = [some (.str s), some (.str t), some (.ref p), a, b, c, d, e]) ⟨e3, ⟨[q2], rfl, hp0, v3, ?_, by simp, ?_, ?_⟩, _, _, _, _, _, rfl⟩ (fun _ _ _ _ _ => trivial) ?_ ?_
    · intro h
      rw [List.mem_singleton] at h
      rw [h, v2] at n3
      cases n3
    · intro r h
      rw [List.mem_singleton.mp h]
      exact hq20
    · intro k' r h
      cases k' with
      | zero => cases h; exact hv2
      | succ k' => simp at h
    · rintro i x σ H2 H2' hi ⟨e2, ⟨rs, hrs, T2⟩, a, b, c, d, e', rfl⟩ ⟨rfl, y, hy, rfl⟩
      have hlast : ∃ r, rs[i]? = some r := ⟨rs[i]'(by omega), List.getElem?_eq_getElem _⟩
      obtain ⟨r, hr0⟩ := hlast
      walk_at "go"
      refine st_ixL T2.at_ (at_last (n := i) (v := .ref r) (by rw [List.length_map]; exact hrs) (by rw [List.getElem?_map, hr0]; rfl)) ?_
      have habove : H2' r = some (.lst (lvRow s.cps.toList t.cps.toList (t.length + 1) i)) := T2.rows i r hr0
      walk_at "go"
      refine st_ixL habove (lvRow_atI (j := 0) (by omega)) ?_
      walk_at "go"
      rename_i q G4 nq e4 vq
      refine for_runs (runs_enumS t) (fun j σ H' => Ex H2' H' ∧ H' q = some (.lst (lvRow s.cps.toList t.cps.toList (j + 1) (i + 1))) ∧ ∃ d e, σ = [some (.str s), some (.str t), some (.ref p), some (.str (tx [y])), some (.ref r), some (.ref q), d, e]) ⟨e4, ?_, _, _, rfl⟩ (fun _ _ _ _ _ => trivial) ?_ ?_
      · rw [vq, Lev_j0]
        show _ = some (HO.lst [V.int ((Lev _ _ (i + 1) 0 : Nat) : Int)])
        rw [Lev_j0]
        rfl
      · rintro j x σ H5 H6 hj ⟨e5, hq5, d', e'', rfl⟩ ⟨T, c', rfl, hT, e6, vT, hc'⟩
        have hab6 : H6 r = some (.lst (lvRow s.cps.toList t.cps.toList (t.length + 1) i)) := e6.get (e5.get habove)
        have hq6 := e6.get hq5
        have hss := Lev_ss s.cps.toList t.cps.toList i j
        rw [hy, hc'] at hss
        walk_at "go"
        refine st_ixL hab6 (lvRow_atI (j := j) (by omega)) ?_
        walk_at "go"
        refine st_ixL hab6 (lvRow_atI (j := j + 1) (by omega)) ?_
        walk_at "go"
        refine st_ixL hq6 (lvRow_atI (j := j) (by omega)) ?_
        walk_at "go"
        refine st_app hq6 (by rw [lvRow_len]; omega) ?_
        refine ⟨(e5.trans e6).mut nq, ?_, _, _, rfl⟩
        rw [upd_same, lvRow_more s.cps.toList t.cps.toList (j + 1), hss]
        have key : (if (!decide (tx [y] = tx [c'])) = true then (1 : Int) else 0) = ((if some y = some c' then 0 else 1 : Nat) : Int) := by
          by_cases z : y = c'
          · subst z
            simp
          · have h1 : ¬ tx [y] = tx [c'] := fun h => z (by simpa using tx_inj.mp h)
            simp [z, h1]
        rw [key]
        generalize (if some y = some c' then 0 else 1 : Nat) = e
        refine congrArg (fun x => some (HO.lst (_ ++ [V.int x]))) ?_
        omega
      · rintro σ H5 ⟨e5, hq5, d', e'', rfl⟩
        have T5 := T2.ex e5
        have h5at := T5.at_
        walk_at "go"
        refine st_app T5.at_ (by rw [List.length_map]; omega) ?_
        have hqp : q ≠ p := fun z => by rw [z, T2.at_] at nq; cases nq
        have hqr : q ∉ rs := fun z => by
          obtain ⟨k', hk'⟩ := List.getElem?_of_mem z
          rw [T2.rows k' q hk'] at nq
          cases nq
        refine ⟨(e2.trans e5).mut T2.new, ⟨rs ++ [q], by simp [hrs], T2.new, by rw [upd_same]; simp, ?_, ?_, ?_, ?_⟩, _, _, _, _, _, rfl⟩
        · rw [List.mem_append, List.mem_singleton]
          rintro (h | h)
          · exact T2.non h
          · exact hqp h.symm
        · rw [List.nodup_append]
          exact ⟨T2.nd, by simp, fun a ha b hb => by rw [List.mem_singleton.mp hb]; exact fun z => hqr (z ▸ ha)⟩
        · intro r' h
          rcases List.mem_append.mp h with h | h
          · exact T2.news r' h
          · rw [List.mem_singleton.mp h]; exact Ex.free e2 nq
        · intro k' r' h
          have hne : r' ≠ p := by
            intro z
            rw [List.getElem?_append] at h
            split at h
            · exact T2.non (z ▸ List.mem_of_getElem? h)
            · have := List.mem_of_getElem? h
              rw [List.mem_singleton] at this
              exact hqp (this ▸ z)
          rw [upd_ne hne]
          by_cases hk : k' < rs.length
          · rw [List.getElem?_append_left hk] at h
            exact T5.rows k' r' h
          · rw [List.getElem?_append_right (by omega)] at h
            have hk2 : k' - rs.length = 0 := by
              by_cases z : k' - rs.length = 0
              · exact z
              · rw [List.getElem?_eq_none (by simp; omega)] at h; cases h
            rw [hk2] at h
            cases h
            have : k' = i + 1 := by omega
            rw [this]
            exact hq5
    · rintro σ H2 ⟨e2, ⟨rs, hrs, T2⟩, a, b, c, d, e', rfl⟩
      walk_at "go"
      exact k p rs H2 e2 (by omega) T2
def sp_changes_of (K : PySem.W.Frag) : Sp := fun vs H Q E => ∃ x y, vs = [x, y] ∧ Plains2 K E H x y fun s t => ∀ q (zs : List CZ) H', Ex H H' → H q = none → H' q = some (.lst (zs.map cV)) → CT H' zs → (∀ z ∈ zs, ChgOk z.2) → OO (zs.map fun z => z.2) = s.cps.toList → NN (zs.map fun z => z.2) = t.cps.toList → (zs.map fun z => z.2).countP Chg.pays = Lev s.cps.toList t.cps.toList s.length t.length → zs.length ≤ s.length + t.length → Q (.ref q) H'
theorem plain_let {s : Str} (h : PlainS s) : ∀ a ∈ s.cps.toList, isL a := fun a ha => by
  have hr : (decide (s.length ≤ 48) && s.cps.toList.all rowSign) = true := plain_row h
  rw [Bool.and_eq_true] at hr
  have h1 := List.all_eq_true.mp hr.2 a ha
  have h2 : a ≠ 46 := fun z => plain_pt h (by rw [← z]; exact ha)
  unfold rowSign at h1
  simp only [Bool.or_eq_true, decide_eq_true_eq] at h1
  unfold isL
  rcases h1 with h1 | h1
  · exact h1
  · exact absurd h1 h2
theorem rev_o (l : List Chg) (c : Chg) : OO (l ++ [c]).reverse = c.o ++ OO l.reverse := by rw [List.reverse_append, List.reverse_singleton, List.singleton_append, OO_cons]
theorem rev_n (l : List Chg) (c : Chg) : NN (l ++ [c]).reverse = c.n ++ NN l.reverse := by rw [List.reverse_append, List.reverse_singleton, List.singleton_append, NN_cons]
theorem drop_at {l : List Nat} {i a : Nat} (h : l[i]? = some a) : l.drop i = a :: l.drop (i + 1) := by
  have hi := (List.getElem?_eq_some_iff.mp h).1
  rw [List.drop_eq_getElem_cons hi, (List.getElem?_eq_some_iff.mp h).2]
theorem cmT_one (a b : Nat) : ∃ c, cmT [a] [b] = [c] ∧ c.o = [a] ∧ c.n = [b] ∧ (c.pays = !decide (a = b)) ∧ (isL a → isL b → ChgOk c) := by
  by_cases h : a = b
  · exact ⟨.keep a, if_pos h, rfl, by rw [← h]; rfl, by rw [decide_eq_true h]; rfl, fun ha _ => ha⟩
  · exact ⟨.change a b, if_neg h, rfl, rfl, by rw [decide_eq_false h]; rfl, fun ha hb => ⟨ha, hb, h⟩⟩
theorem ok_changes_of (T : Tx K mg ad fd tk base tc w) : FnOk P w K mg base (L2.CX P w) 5 (ad 46) (fd 46) ["side", "top"] (sp_changes_of K) := by
  refine T.d_changes_of.F.okX sc_changes_of (fun vs H Q E h => ?_) (fun cdv A outer s H vs Q E hr h => ?_)
  · obtain ⟨x, y, rfl, _⟩ := h
    rfl
  · obtain ⟨x, y, rfl, hR⟩ := h
    refine ⟨_, (pss_cons (ps_expr (pe_call (ok_need_plains T) (hr.mono (by decide)) rfl T.d_need_plains.g T.d_need_plains.F.kp T.d_need_plains.b .nil (passes_call (takes_of rfl rfl rfl rfl) (fun _ _ _ _ h => h)) (pa_cons (pv 0) (pa_cons (pv 1) pa_nil))))
      (pss_cons (ps_set (i := 2) sc_changes_of.nd rfl (Or.inl rfl) (pe_call (ok_cost_table T) (hr.mono (by decide)) rfl T.d_cost_table.g T.d_cost_table.F.kp T.d_cost_table.b .nil pass0 (pa_cons (pv 0) (pa_cons (pv 1) pa_nil))))
      (pss_cons (ps_set (i := 3) sc_changes_of.nd rfl (Or.inl rfl) (pe_callB (c_len (K := K)) (by rfl) T.b_len (by decide +kernel) (pa_cons (pv 0) pa_nil)))
      (pss_cons (ps_set (i := 4) sc_changes_of.nd rfl (Or.inl rfl) (pe_callB (c_len (K := K)) (by rfl) T.b_len (by decide +kernel) (pa_cons (pv 1) pa_nil)))
      (pss_cons (ps_set (i := 5) sc_changes_of.nd rfl (Or.inl rfl) (pe_lst pa_nil))
      (pss_cons (ps_while (passes_of rfl) (PW.pt (pw_or (pt_cmpR o_gt (pv 3) pe_int (nomark _)) (pw_or1 (pt_cmpR o_gt (pv 4) pe_int (nomark _))))) (pss_one (ps_if (PW.pt (pw_and (pt_cmpR o_gt (pv 3) pe_int (nomark _)) (pw_and1 (pt_cmpR (o_eq hr.units) (pe_ix (i_ix (K := K)) (pe_ix (i_ix (K := K)) (pv 2) (pv 3) (fun _ _ => rfl)) (pv 4) (fun _ _ => rfl)) (pe_op o_add (pe_ix (i_ix (K := K)) (pe_ix (i_ix (K := K)) (pv 2) (pe_op o_sub (pv 3) pe_int) (fun _ _ => rfl)) (pv 4) (fun _ _ => rfl)) pe_int) (nomark _))))) (pss_cons (ps_aug (i := 3) sc_changes_of.nd rfl (Or.inl rfl) pe_int ip_sub)
      (pss_one (ps_expr (pe_bm PySem.F.plainAttrs_list PySem.F.slot_list_append PySem.F.type_list_append mt_append (pv 5) (pa_cons (pe_tup (pa_cons pe_str (pa_cons (pe_ix (i_ix (K := K)) (pv 0) (pv 3) (fun _ _ => rfl)) pa_nil))) pa_nil))))) (pss_one (ps_if (PW.pt (pw_and (pt_cmpR o_gt (pv 4) pe_int (nomark _)) (pw_and1 (pt_cmpR (o_eq hr.units) (pe_ix (i_ix (K := K)) (pe_ix (i_ix (K := K)) (pv 2) (pv 3) (fun _ _ => rfl)) (pv 4) (fun _ _ => rfl)) (pe_op o_add (pe_ix (i_ix (K := K)) (pe_ix (i_ix (K := K)) (pv 2) (pv 3) (fun _ _ => rfl)) (pe_op o_sub (pv 4) pe_int) (fun _ _ => rfl)) pe_int) (nomark _))))) (pss_cons (ps_aug (i := 4) sc_changes_of.nd rfl (Or.inl rfl) pe_int ip_sub)
      (pss_one (ps_expr (pe_bm PySem.F.plainAttrs_list PySem.F.slot_list_append PySem.F.type_list_append mt_append (pv 5) (pa_cons (pe_tup (pa_cons pe_str (pa_cons (pe_ix (i_ix (K := K)) (pv 1) (pv 4) (fun _ _ => rfl)) pa_nil))) pa_nil))))) (pss_cons (ps_aug (i := 3) sc_changes_of.nd rfl (Or.inl rfl) pe_int ip_sub)
      (pss_cons (ps_aug (i := 4) sc_changes_of.nd rfl (Or.inl rfl) pe_int ip_sub)
      (pss_one (ps_expr (pe_bm PySem.F.plainAttrs_list PySem.F.slot_list_extend PySem.F.type_list_extend mt_extend (pv 5) (pa_cons (pe_call (ok_come_to T) (hr.mono (by decide)) rfl T.d_come_to.g T.d_come_to.F.kp T.d_come_to.b .nil pass0 (pa_cons (pe_ix (i_ix (K := K)) (pv 0) (pv 3) (fun _ _ => rfl)) (pa_cons (pe_ix (i_ix (K := K)) (pv 1) (pv 4) (fun _ _ => rfl)) pa_nil))) pa_nil)))))))))))
      (pss_one (ps_ret (pe_slice3 (pv 5) po_none po_none (pe_un un_neg pe_int) (K := K)))))))))), ?_⟩
    walk_at "go"
    refine ⟨x, y, rfl, hR.imp fun s t ex ey hs ht k H0 e0 => ?_⟩
    subst ex ey
    have hs1 := hs.len2
    have ht1 := ht.len2
    have lets := plain_let hs
    have lett := plain_let ht
    have hsl : s.cps.toList.length = s.length := Array.length_toList
    have htl : t.cps.toList.length = t.length := Array.length_toList
    walk_at "go"
    refine ⟨s, t, rfl, hs1, ht1, fun p rs H1 e1 hrs T1 => ?_⟩
    walk_at "go"
    rename_i f G2 n2 e2 v2
    have T2 := T1.ex e2
    have e01 := e0.trans e1
    generalize hS : s.cps.toList = S at *
    generalize hT : t.cps.toList = T0 at *
    refine while_inv (fun m σ H' => ∃ (n j : Nat) (zs : List CZ), m = n + j ∧ n ≤ s.length ∧ j ≤ t.length ∧ Ex H1 H' ∧ H' f = some (.lst (zs.map cV)) ∧ CT H' zs ∧ (∀ z ∈ zs, ChgOk z.2) ∧ zs.length + n + j ≤ s.length + t.length ∧ OO (zs.map fun z => z.2).reverse = S.drop n ∧ NN (zs.map fun z => z.2).reverse = T0.drop j ∧ (zs.map fun z => z.2).countP Chg.pays + Lev S T0 n j = Lev S T0 s.length t.length ∧ σ = [some (.str s), some (.str t), some (.ref p), some (.int (n : Nat)), some (.int (j : Nat)), some (.ref f)]) ⟨s.length + t.length, s.length, t.length, [], rfl, Nat.le_refl _, Nat.le_refl _, e2, v2, (fun _ h => nomatch h), (fun _ h => nomatch h), by simp, by rw [← hsl]; simp [OO], by rw [← htl]; simp [NN], by simp, rfl⟩ ?_
    rintro m σ H3 ⟨n, j, zs, rfl, hn, hj, e3, hf, ct, ok, hzl, ho, hnn, hpay, rfl⟩
    have T3 := T1.ex e3
    have hHf : H1 f = none := n2
    -- the end
    have done_ : n = 0 → j = 0 → ∀ q H', Ex H3 H' → H3 q = none → H' q = some (.lst (zs.map cV).reverse) → Q (.ref q) H' := fun h h' q H' e hq vq => by
      subst h h'
      rw [Lev_0, Nat.add_zero] at hpay
      rw [List.drop_zero] at ho hnn
      refine k q zs.reverse H' (e01.trans (e3.trans e)) (Ex.free (e01.trans e3) hq) (by rw [vq, List.map_reverse]) (fun z hz => (ct.ex e) z (List.mem_reverse.mp hz)) (fun z hz => ok z (List.mem_reverse.mp hz)) (by rw [List.map_reverse, ho]) (by rw [List.map_reverse, hnn]) ?_ (by rw [List.length_reverse]; omega)
      rw [List.map_reverse, List.countP_reverse, hpay]
    have row : ∀ i, i ≤ s.length → ∃ r, rs[i]? = some r ∧ atI (rs.map V.ref) (i : Nat) = some (.ref r) ∧ H3 r = some (.lst (lvRow S T0 (t.length + 1) i)) := fun i hi => by
      obtain ⟨r, hr⟩ : ∃ r, rs[i]? = some r := ⟨rs[i]'(by omega), List.getElem?_eq_getElem _⟩
      exact ⟨r, hr, at_mapN hr, T3.rows _ _ hr⟩
    obtain ⟨r1, _, r1a, r1v⟩ := row n hn
    have rev_end : n = 0 → j = 0 → Lev S T0 0 0 = 0 := fun _ _ => Lev_0 _ _ 0
    have outs : 0 < n → Lev S T0 n j = Lev S T0 (n - 1) j + 1 → ∃ a, S[n - 1]? = some a ∧ isL a := fun h _ => ⟨S[n - 1]'(by omega), List.getElem?_eq_getElem _, lets _ (List.getElem_mem _)⟩
    -- one letter goes out
    have go_out : 0 < n → Lev S T0 n j = Lev S T0 (n - 1) j + 1 → ∀ (a : Nat) (w : Addr) (H' : Hp), S[n - 1]? = some a → Ex H3 H' → H' w = some (.tup [.str "out", .str (tx [a])]) →
        ∃ m', m' < n + j ∧ ∃ (n' j' : Nat) (zs' : List CZ), m' = n' + j' ∧ n' ≤ s.length ∧ j' ≤ t.length ∧ Ex H1 (upd H' f (.lst (zs.map cV ++ [.ref w]))) ∧ upd H' f (.lst (zs.map cV ++ [.ref w])) f = some (.lst (zs'.map cV)) ∧ CT (upd H' f (.lst (zs.map cV ++ [.ref w]))) zs' ∧ (∀ z ∈ zs', ChgOk z.2) ∧ zs'.length + n' + j' ≤ s.length + t.length ∧ OO (zs'.map fun z => z.2).reverse = S.drop n' ∧ NN (zs'.map fun z => z.2).reverse = T0.drop j' ∧ (zs'.map fun z => z.2).countP Chg.pays + Lev S T0 n' j' = Lev S T0 s.length t.length ∧ n' = n - 1 ∧ j' = j := fun hn0 hl a w H' ha e hw => by
      refine ⟨n - 1 + j, by omega, n - 1, j, zs ++ [(w, .out a)], rfl, by omega, hj, (e3.trans e).mut hHf, by rw [upd_same, List.map_append]; rfl, ?_, fun z hz => ?_, by rw [List.length_append, List.length_singleton]; omega, ?_, ?_, ?_, rfl, rfl⟩
      · have h1 : CT H' (zs ++ [(w, .out a)]) := (ct.ex e).app fun z hz => by rw [List.mem_singleton.mp hz]; exact hw
        intro z hz
        have h2 := h1 z hz
        rw [upd_ne fun q => by rw [q, e.get hf] at h2; cases h2]
        exact h2
      · rcases List.mem_append.mp hz with h | h
        · exact ok z h
        · rw [List.mem_singleton.mp h]; exact lets a (List.mem_of_getElem? ha)
      · rw [List.map_append, List.map_singleton, rev_o, ho, drop_at ha, show n - 1 + 1 = n by omega]
        rfl
      · rw [List.map_append, List.map_singleton, rev_n, hnn]
        rfl
      · rw [List.map_append, List.countP_append]
        have : [Chg.out a].countP Chg.pays = 1 := rfl
        rw [List.map_singleton, this]
        omega
    have go_in : 0 < j → Lev S T0 n j = Lev S T0 n (j - 1) + 1 → ∀ (a : Nat) (w : Addr) (H' : Hp), T0[j - 1]? = some a → Ex H3 H' → H' w = some (.tup [.str "in", .str (tx [a])]) →
        ∃ m', m' < n + j ∧ ∃ (n' j' : Nat) (zs' : List CZ), m' = n' + j' ∧ n' ≤ s.length ∧ j' ≤ t.length ∧ Ex H1 (upd H' f (.lst (zs.map cV ++ [.ref w]))) ∧ upd H' f (.lst (zs.map cV ++ [.ref w])) f = some (.lst (zs'.map cV)) ∧ CT (upd H' f (.lst (zs.map cV ++ [.ref w]))) zs' ∧ (∀ z ∈ zs', ChgOk z.2) ∧ zs'.length + n' + j' ≤ s.length + t.length ∧ OO (zs'.map fun z => z.2).reverse = S.drop n' ∧ NN (zs'.map fun z => z.2).reverse = T0.drop j' ∧ (zs'.map fun z => z.2).countP Chg.pays + Lev S T0 n' j' = Lev S T0 s.length t.length ∧ n' = n ∧ j' = j - 1 := fun hn0 hl a w H' ha e hw => by
      refine ⟨n + (j - 1), by omega, n, j - 1, zs ++ [(w, .inn a)], rfl, hn, by omega, (e3.trans e).mut hHf, by rw [upd_same, List.map_append]; rfl, ?_, fun z hz => ?_, by rw [List.length_append, List.length_singleton]; omega, ?_, ?_, ?_, rfl, rfl⟩
      · have h1 : CT H' (zs ++ [(w, .inn a)]) := (ct.ex e).app fun z hz => by rw [List.mem_singleton.mp hz]; exact hw
        intro z hz
        have h2 := h1 z hz
        rw [upd_ne fun q => by rw [q, e.get hf] at h2; cases h2]
        exact h2
      · rcases List.mem_append.mp hz with h | h
        · exact ok z h
        · rw [List.mem_singleton.mp h]; exact lett a (List.mem_of_getElem? ha)
      · rw [List.map_append, List.map_singleton, rev_o, ho]
        rfl
      · rw [List.map_append, List.map_singleton, rev_n, hnn, drop_at ha, show j - 1 + 1 = j by omega]
        rfl
      · rw [List.map_append, List.countP_append]
        have : [Chg.inn a].countP Chg.pays = 1 := rfl
        rw [List.map_singleton, this]
        omega
    have go_met : 0 < n → 0 < j → ∀ (a b : Nat) (w : Addr) (c : Chg) (H' : Hp), S[n - 1]? = some a → T0[j - 1]? = some b → Lev S T0 n j = Lev S T0 (n - 1) (j - 1) + (if a = b then 0 else 1) → Ex H3 H' → H' w = some (.tup (chVs c)) → cmT [a] [b] = [c] →
        ∃ m', m' < n + j ∧ ∃ (n' j' : Nat) (zs' : List CZ), m' = n' + j' ∧ n' ≤ s.length ∧ j' ≤ t.length ∧ Ex H1 (upd H' f (.lst (zs.map cV ++ [.ref w]))) ∧ upd H' f (.lst (zs.map cV ++ [.ref w])) f = some (.lst (zs'.map cV)) ∧ CT (upd H' f (.lst (zs.map cV ++ [.ref w]))) zs' ∧ (∀ z ∈ zs', ChgOk z.2) ∧ zs'.length + n' + j' ≤ s.length + t.length ∧ OO (zs'.map fun z => z.2).reverse = S.drop n' ∧ NN (zs'.map fun z => z.2).reverse = T0.drop j' ∧ (zs'.map fun z => z.2).countP Chg.pays + Lev S T0 n' j' = Lev S T0 s.length t.length ∧ n' = n - 1 ∧ j' = j - 1 := fun hn0 hj0 a b w c H' ha hb hl e hw hc => by
      obtain ⟨c', k0, k1, k2, k3, k4⟩ := cmT_one a b
      rw [hc] at k0
      cases k0
      refine ⟨n - 1 + (j - 1), by omega, n - 1, j - 1, zs ++ [(w, c)], rfl, by omega, by omega, (e3.trans e).mut hHf, by rw [upd_same, List.map_append]; rfl, ?_, fun z hz => ?_, by rw [List.length_append, List.length_singleton]; omega, ?_, ?_, ?_, rfl, rfl⟩
      · have h1 : CT H' (zs ++ [(w, c)]) := (ct.ex e).app fun z hz => by rw [List.mem_singleton.mp hz]; exact hw
        intro z hz
        have h2 := h1 z hz
        rw [upd_ne fun q => by rw [q, e.get hf] at h2; cases h2]
        exact h2
      · rcases List.mem_append.mp hz with h | h
        · exact ok z h
        · rw [List.mem_singleton.mp h]; exact k4 (lets a (List.mem_of_getElem? ha)) (lett b (List.mem_of_getElem? hb))
      · rw [List.map_append, List.map_singleton, rev_o, ho, drop_at ha, show n - 1 + 1 = n by omega, k1]
        rfl
      · rw [List.map_append, List.map_singleton, rev_n, hnn, drop_at hb, show j - 1 + 1 = j by omega, k2]
        rfl
      · rw [List.map_append, List.countP_append]
        have h1 : [c].countP Chg.pays = if a = b then 0 else 1 := by
          rw [List.countP_cons, List.countP_nil, k3]
          by_cases q : a = b
          · rw [if_pos q, decide_eq_true q]; rfl
          · rw [if_neg q, decide_eq_false q]; rfl
        rw [List.map_singleton, h1]
        omega
    walk_at "go"
    by_cases n0 : 0 < n
    rotate_left
    · rw [decide_eq_false (by omega)]
      walk_at "go"
      by_cases j0 : 0 < j
      rotate_left
      · refine wh_F (decide_eq_false (by omega)) ?_
        walk_at "go"
        refine st_revL (lstAt_sq (lst_of hf)) ?_
        walk_at "nw"
        rename_i q G3 n3 e4 v4
        exact done_ (by omega) (by omega) q G3 e4 n3 v4
      refine wh_T (decide_eq_true (by omega)) ?_
      obtain rfl : n = 0 := by omega
      obtain ⟨a, ha⟩ : ∃ a, T0[j - 1]? = some a := ⟨T0[j - 1]'(by omega), List.getElem?_eq_getElem _⟩
      have cj : ((j : Nat) : Int) - 1 = ((j - 1 : Nat) : Int) := by omega
      walk_at "go"
      rw [decide_eq_true (show (0 : Int) < ((j : Nat) : Int) by omega)]
      walk_at "go"
      refine st_ixL T3.at_ r1a ?_
      walk_at "go"
      refine st_ixL r1v (lvRow_atI (by omega)) ?_
      walk_at "go"
      refine st_ixL T3.at_ r1a ?_
      walk_at "go"
      refine st_ixL r1v (by rw [cj]; exact lvRow_atI (by omega)) ?_
      walk_at "go"
      have hl : Lev S T0 0 j = Lev S T0 0 (j - 1) + 1 := by rw [Lev_0, Lev_0]; omega
      rw [decide_eq_true (show ((Lev S T0 0 j : Nat) : Int) = ((Lev S T0 0 (j - 1) : Nat) : Int) + 1 by omega)]
      walk_at "go"
      refine st_sign (by omega) (by rw [cj, hT]; exact at_nat ha) ?_
      walk_at "go"
      rename_i w G3 m3 g3 w3
      refine st_app (g3.get hf) (by rw [List.length_map]; omega) ?_
      obtain ⟨m', h0, n', j', zs', h1, h2, h3, h4, h5, h6, h7, h8, h9, h10, h11, rfl, rfl⟩ := go_in (by omega) hl a w G3 ha g3 w3
      exact ⟨m', h0, _, _, zs', h1, h2, h3, h4, h5, h6, h7, h8, h9, h10, h11, by rw [cj]; rfl⟩
    rw [decide_eq_true (show (0 : Int) < ((n : Nat) : Int) by omega)]
    walk_at "go"
    refine wh_T rfl ?_
    have cn : ((n : Nat) : Int) - 1 = ((n - 1 : Nat) : Int) := by omega
    have cj : 0 < j → ((j : Nat) : Int) - 1 = ((j - 1 : Nat) : Int) := fun h => by omega
    obtain ⟨a, ha⟩ : ∃ a, S[n - 1]? = some a := ⟨S[n - 1]'(by omega), List.getElem?_eq_getElem _⟩
    obtain ⟨r0, _, r0a, r0v⟩ := row (n - 1) (by omega)
    walk_at "go"
    rw [decide_eq_true (show (0 : Int) < ((n : Nat) : Int) by omega)]
    walk_at "go"
    refine st_ixL T3.at_ r1a ?_
    walk_at "go"
    refine st_ixL r1v (lvRow_atI (by omega)) ?_
    walk_at "go"
    refine st_ixL T3.at_ (by rw [cn]; exact r0a) ?_
    walk_at "go"
    refine st_ixL r0v (lvRow_atI (by omega)) ?_
    walk_at "go"
    refine st_br2 (fun hl => ?_) (fun hl => ?_)
    · have hl : Lev S T0 n j = Lev S T0 (n - 1) j + 1 := by omega
      walk_at "go"
      refine st_sign (by omega) (by rw [cn, hS]; exact at_nat ha) ?_
      walk_at "go"
      rename_i w G3 m3 g3 w3
      refine st_app (g3.get hf) (by rw [List.length_map]; omega) ?_
      obtain ⟨m', h0, n', j', zs', h1, h2, h3, h4, h5, h6, h7, h8, h9, h10, h11, rfl, rfl⟩ := go_out n0 hl a w G3 ha g3 w3
      exact ⟨m', h0, _, _, zs', h1, h2, h3, h4, h5, h6, h7, h8, h9, h10, h11, by rw [cn]; rfl⟩
    have j0 : 0 < j := by
      refine Nat.pos_of_ne_zero fun z => hl ?_
      subst z
      rw [Lev_j0, Lev_j0]
      omega
    have cj := cj j0
    obtain ⟨b, hb⟩ : ∃ b, T0[j - 1]? = some b := ⟨T0[j - 1]'(by omega), List.getElem?_eq_getElem _⟩
    walk_at "go"
    rw [decide_eq_true (show (0 : Int) < ((j : Nat) : Int) by omega)]
    walk_at "go"
    refine st_ixL T3.at_ r1a ?_
    walk_at "go"
    refine st_ixL r1v (lvRow_atI (by omega)) ?_
    walk_at "go"
    refine st_ixL T3.at_ r1a ?_
    walk_at "go"
    refine st_ixL r1v (by rw [cj]; exact lvRow_atI (by omega)) ?_
    walk_at "go"
    refine st_br2 (fun hl2 => ?_) (fun hl2 => ?_)
    · have hl2 : Lev S T0 n j = Lev S T0 n (j - 1) + 1 := by omega
      walk_at "go"
      refine st_sign (by omega) (by rw [cj, hT]; exact at_nat hb) ?_
      walk_at "go"
      rename_i w G3 m3 g3 w3
      refine st_app (g3.get hf) (by rw [List.length_map]; omega) ?_
      obtain ⟨m', h0, n', j', zs', h1, h2, h3, h4, h5, h6, h7, h8, h9, h10, h11, rfl, rfl⟩ := go_in j0 hl2 b w G3 hb g3 w3
      exact ⟨m', h0, _, _, zs', h1, h2, h3, h4, h5, h6, h7, h8, h9, h10, h11, by rw [cj]; rfl⟩
    have hss := Lev_ss S T0 (n - 1) (j - 1)
    rw [show n - 1 + 1 = n by omega, show j - 1 + 1 = j by omega, ha, hb] at hss
    have hmet : Lev S T0 n j = Lev S T0 (n - 1) (j - 1) + (if a = b then 0 else 1) := by
      have e : (if some a = some b then 0 else 1 : Nat) = if a = b then 0 else 1 := by simp
      rw [e] at hss
      omega
    walk_at "go"
    refine st_sign (by omega) (by rw [cn, hS]; exact at_nat ha) ?_
    walk_at "go"
    refine st_sign (by omega) (by rw [cj, hT]; exact at_nat hb) ?_
    walk_at "go"
    refine ⟨[a], [b], rfl, by simp, by simp, fun q2 z2 G3 g3 m3 w3 c3 hz3 => ?_⟩
    obtain ⟨c, hc, _⟩ := cmT_one a b
    rw [hc] at hz3
    obtain ⟨⟨w, c'⟩, rfl⟩ : ∃ u, z2 = [u] := by
      match z2, hz3 with
      | [u], _ => exact ⟨u, rfl⟩
    obtain rfl : c' = c := by simpa using hz3
    walk_at "go"
    refine st_ext (g3.get hf) w3 (by rw [List.length_map, List.length_map]; simp; omega) ?_
    obtain ⟨m', h0, n', j', zs', h1, h2, h3, h4, h5, h6, h7, h8, h9, h10, h11, rfl, rfl⟩ := go_met n0 j0 a b w c' G3 ha hb hmet g3 (c3 _ List.mem_cons_self) hc
    exact ⟨m', h0, _, _, zs', h1, h2, h3, h4, h5, h6, h7, h8, h9, h10, h11, by rw [cn, cj]; rfl⟩
/-- a paper of costs -/
def ShowsC (s t : List Nat) (d : PyData) : Prop := ∃ (l : List Chg) (hss : List (List (Nat × Nat))), d = .tuple [.list (l.map encC), encHs hss] ∧ l.length ≤ 48 ∧ (∀ c ∈ l, ChgOk c) ∧ OO l = s ∧ NN l = t ∧ GoodHeaps (parts s) (parts t) (encHs hss) ∧ l.countP Chg.pays + hss.length = s.length + t.length
/-- what may be looked at -/
def SzC (d : PyData) : Prop := ∀ a b, d = .tuple [a, b] → lB a ∧ (b.hasDict = true → b = .dict []) ∧ szD b ≤ 999999 ∧ b.depth ≤ 59
def sp_shows_cost (K : PySem.W.Frag) : Sp := fun vs H Q E => ∃ x y z, vs = [x, y, z] ∧ Plains2 K E H x y fun s t => ∃ d : PyData, Rn H z d ∧ SzC d ∧ ∀ H' b, Ex H H' → (b = true ↔ ShowsC s.cps.toList t.cps.toList d) → Q (.bl b) H'
theorem ok_shows_cost (T : Tx K mg ad fd tk base tc w) : FnOk P w K mg base (L2.CX P w) 7 (ad 47) (fd 47) ["side", "top", "thing"] (sp_shows_cost K) := by
  refine T.d_shows_cost.F.okX sc_shows_cost (fun vs H Q E h => ?_) (fun cdv A outer s H vs Q E hr h => ?_)
  · obtain ⟨x, y, z, rfl, _⟩ := h
    rfl
  · obtain ⟨x, y, z, rfl, hR⟩ := h
    refine ⟨_, (pss_cons (ps_expr (pe_call (ok_need_plains T) (hr.mono (by decide)) rfl T.d_need_plains.g T.d_need_plains.F.kp T.d_need_plains.b .nil (passes_call (takes_of rfl rfl rfl rfl) (fun _ _ _ _ h => h)) (pa_cons (pv 0) (pa_cons (pv 1) pa_nil))))
      (pss_cons (ps_if (PW.pt (pw_or (pt_not (pt_val (pe_callB c_is (by rfl) T.b_isinstance (by decide +kernel) (pa_cons (pv 2) (pa_cons (pe_bltn (v := .ty "tuple") rfl T.b_tuple (by decide +kernel) rfl) pa_nil))))) (pw_or1 (pt_cmpR (o_ne hr.units) (pe_callB (c_len (K := K)) (by rfl) T.b_len (by decide +kernel) (pa_cons (pv 2) pa_nil)) pe_int (nomark _))))) (pss_one (ps_ret pe_bl)) pss_nil)
      (pss_cons (ps_asg (pv 2) (pg_tup rfl (pgs_cons (pg_name (i := 3) sc_shows_cost.nd rfl (Or.inl rfl)) (pgs_cons (pg_name (i := 4) sc_shows_cost.nd rfl (Or.inl rfl)) pgs_nil))))
      (pss_cons (ps_if (PW.pt (pw_or (pt_not (pt_val (pe_call (ok_is_changes T) (hr.mono (by decide)) rfl T.d_is_changes.g T.d_is_changes.F.kp T.d_is_changes.b .nil pass0 (pa_cons (pv 3) pa_nil)))) (pw_or (pt_cmpR (o_ne hr.units) (pe_call (ok_old_row T) (hr.mono (by decide)) rfl T.d_old_row.g T.d_old_row.F.kp T.d_old_row.b .nil pass0 (pa_cons (pv 3) pa_nil)) (pv 0) (nomark _)) (pw_or1 (pt_cmpR (o_ne hr.units) (pe_call (ok_new_row T) (hr.mono (by decide)) rfl T.d_new_row.g T.d_new_row.F.kp T.d_new_row.b .nil pass0 (pa_cons (pv 3) pa_nil)) (pv 1) (nomark _)))))) (pss_one (ps_ret pe_bl)) pss_nil)
      (pss_cons (ps_if (pt_not (pt_val (pe_call (ok_are_heaps T) (hr.mono (by decide)) rfl T.d_are_heaps.g T.d_are_heaps.F.kp T.d_are_heaps.b .nil (passes_call (takes_of rfl rfl rfl rfl) (fun _ _ _ _ h => h)) (pa_cons (pe_call (ok_parted T) (hr.mono (by decide)) rfl T.d_parted.g T.d_parted.F.kp T.d_parted.b .nil (passes_call (takes_of rfl rfl rfl rfl) (fun _ _ _ _ h => h)) (pa_cons (pv 0) pa_nil)) (pa_cons (pe_call (ok_parted T) (hr.mono (by decide)) rfl T.d_parted.g T.d_parted.F.kp T.d_parted.b .nil (passes_call (takes_of rfl rfl rfl rfl) (fun _ _ _ _ h => h)) (pa_cons (pv 1) pa_nil)) (pa_cons (pv 4) pa_nil)))))) (pss_one (ps_ret pe_bl)) pss_nil)
      (pss_one (ps_ret (pe_cmpR (o_eq hr.units) (pe_op o_add (pe_call (ok_paid T) (hr.mono (by decide)) rfl T.d_paid.g T.d_paid.F.kp T.d_paid.b .nil (passes_call (takes_of rfl rfl rfl rfl) (fun _ _ _ _ h => h)) (pa_cons (pv 3) pa_nil)) (pe_callB (c_len (K := K)) (by rfl) T.b_len (by decide +kernel) (pa_cons (pv 4) pa_nil))) (pe_op o_add (pe_callB (c_len (K := K)) (by rfl) T.b_len (by decide +kernel) (pa_cons (pv 0) pa_nil)) (pe_callB (c_len (K := K)) (by rfl) T.b_len (by decide +kernel) (pa_cons (pv 1) pa_nil))) (nomark _))))))))), ?_⟩
    walk_at "go"
    refine ⟨x, y, rfl, hR.imp fun s t ex ey hs ht k H1 e1 => ?_⟩
    subst ex ey
    have hs1 := hs.len
    have ht1 := ht.len
    obtain ⟨d, hz, sz, k⟩ := k
    have no : ∀ H', Ex H H' → ¬ ShowsC s.cps.toList t.cps.toList d → Q (.bl false) H' := fun H' e h => k H' false e ⟨(fun z => nomatch z), (fun z => (h z).elim)⟩
    have hz1 := hz.ex e1
    walk_at "go"
    refine st_isTupD hz1.rq ?_
    refine ⟨_, rfl, ?_⟩
    by_cases hd : ∃ ds, d = .tuple ds
    rotate_left
    · refine st_T ?_ ?_
      · cases d <;> first | rfl | exact absurd ⟨_, rfl⟩ hd
      walk_at "go"
      refine no _ e1 (fun h => ?_)
      obtain ⟨l, hss, e, _⟩ := h
      exact hd ⟨_, e⟩
    obtain ⟨ds, rfl⟩ := hd
    obtain ⟨a, xs, hv, h1, h2⟩ := hz1.tupAt
    subst hv
    have hl := h2.len
    refine st_F rfl ?_
    walk_at "go"
    refine st_brn (fun c => ?_) (fun c => ?_)
    · walk_at "go"
      refine no _ e1 (fun h => ?_)
      obtain ⟨l, hss, e, _⟩ := h
      injection e with e
      apply c
      rw [hl, e]
      rfl
    have c2 : xs.length = 2 := by omega
    obtain ⟨x0, x1, rfl⟩ : ∃ x0 x1, xs = [x0, x1] := by
      match xs, c2 with
      | [x0, x1], _ => exact ⟨x0, x1, rfl⟩
    obtain ⟨d0, d1, rfl, r0, r1⟩ : ∃ d0 d1, ds = [d0, d1] ∧ Rn H1 x0 d0 ∧ Rn H1 x1 d1 := by
      match ds, h2 with
      | [d0, d1], .cons r0 (.cons r1 .nil) => exact ⟨d0, d1, rfl, r0, r1⟩
    obtain ⟨z1, z2, z3, z4⟩ := sz d0 d1 rfl
    walk_at "go"
    refine ⟨x0, d0, rfl, r0.rq, fun _ => r0, z1, fun b H2 e2 hb => ?_⟩
    have e12 := e1.trans e2
    cases b with
    | false =>
      walk_at "go"
      refine no _ e12 (fun h => ?_)
      obtain ⟨l, hss, e, h1, h2, _⟩ := h
      injection e with e
      injection e with ea eb
      cases hb.mpr ⟨l, ea, h1, h2⟩
    | true =>
    obtain ⟨l, rfl, hll, okl⟩ := hb.mp rfl
    obtain ⟨p, zs, rfl, hp, hcz, rfl⟩ := cz_of (r0.ex e2)
    rw [List.length_map] at hll
    walk_at "go"
    refine ⟨p, zs, rfl, hp, hcz, by omega, fun H3 e3 => ?_⟩
    have e13 := e12.trans e3
    walk_at "go"
    have inj : ∀ {l' : List Chg} {g : PyData} {hss : List (List (Nat × Nat))}, PyData.tuple [.list ((zs.map fun z => z.2).map encC), d1] = .tuple [.list (l'.map encC), g] → zs.map (fun z => z.2) = l' ∧ d1 = g := fun e => by
      injection e with e
      injection e with ea eb
      injection eb with eb _
      exact ⟨encs_inj ea, eb⟩
    refine st_brn (fun c1 => ?_) (fun c1 => ?_)
    · walk_at "go"
      refine no _ e13 (fun h => c1 ?_)
      obtain ⟨l', hss, e, h1, h2, h3, _⟩ := h
      obtain ⟨rfl, _⟩ := inj (hss := hss) e
      rw [tx_of h3.symm]
      rfl
    walk_at "go"
    refine ⟨p, zs, rfl, e3.get hp, hcz.ex e3, by omega, fun H4 e4 => ?_⟩
    have e14 := e13.trans e4
    walk_at "go"
    refine st_brn (fun c2 => ?_) (fun c2 => ?_)
    · walk_at "go"
      refine no _ e14 (fun h => c2 ?_)
      obtain ⟨l', hss, e, h1, h2, h3, h4, _⟩ := h
      obtain ⟨rfl, _⟩ := inj (hss := hss) e
      rw [tx_of h4.symm]
      rfl
    have o1 : OO (zs.map fun z => z.2) = s.cps.toList := by
      have := congrArg (fun u : Str => u.cps.toList) c1
      rwa [show (oldR (zs.map fun z => z.2)).cps.toList = OO (zs.map fun z => z.2) from tx_toList _] at this
    have o2 : NN (zs.map fun z => z.2) = t.cps.toList := by
      have := congrArg (fun u : Str => u.cps.toList) c2
      rwa [show (newR (zs.map fun z => z.2)).cps.toList = NN (zs.map fun z => z.2) from tx_toList _] at this
    walk_at "go"
    refine ⟨.str s, rfl, .inl ⟨s, rfl, hs, fun H5 e5 => ?_⟩⟩
    walk_at "go"
    refine ⟨.str t, rfl, .inl ⟨t, rfl, ht, fun H6 e6 => ?_⟩⟩
    have e26 := e3.trans (e4.trans (e5.trans e6))
    have e16 := e12.trans e26
    walk_at "go"
    refine ⟨_, _, x1, rfl, .inl ⟨_, _, rfl, rfl, parts_row hs, parts_row ht, d1, r1.ex (e2.trans e26), z2, z3, z4, fun H7 b e7 hb2 => ?_⟩⟩
    rw [tx_toList, tx_toList] at hb2
    have e17 := e16.trans e7
    cases b with
    | false =>
      walk_at "go"
      refine no _ e17 (fun h => ?_)
      obtain ⟨l', hss, e, h1, h2, h3, h4, h5, _⟩ := h
      obtain ⟨_, e2⟩ := inj (hss := hss) e
      have := hb2.mpr (e2 ▸ h5)
      cases this
    | true =>
    have gh := hb2.mp rfl
    obtain ⟨hss, hd1, gh2⟩ := id gh
    subst hd1
    obtain ⟨g, xs1, rfl, hg1, hg2⟩ := ((r1.ex (e2.trans e26)).ex e7).listAt
    have hgl : xs1.length = hss.length := by rw [hg2.len, List.length_map]
    have rz := cz_rn (e26.get hp) (hcz.ex e26)
    have rz7 := rz.ex e7
    walk_at "go"
    refine ⟨.ref p, _, rfl, rz7.rq, fun _ => rz7, z1, fun l h1 h2 h3 H8 e8 => ?_, fun hn => absurd ⟨_, rfl, by rw [List.length_map]; exact hll, okl⟩ hn⟩
    rw [← encs_inj h1]
    have hg8 := e8.get hg1
    walk_at "go"
    refine k _ _ (e17.trans e8) ?_
    rw [decide_eq_true_eq, hgl]
    constructor
    · intro h
      exact ⟨_, hss, rfl, by rw [List.length_map]; exact hll, okl, o1, o2, gh, by rw [lenStr, lenStr]; omega⟩
    · rintro ⟨l', hss', e, q1, q2, q3, q4, q5, q6⟩
      obtain ⟨rfl, e2⟩ := inj (hss := hss') e
      have hlen : hss.length = hss'.length := by
        have := congrArg (fun d => match d with | PyData.list ds => ds.length | _ => 0) e2
        simpa [encHs] using this
      rw [lenStr, lenStr] at q6
      omega
def sp__law_cell_at (K : PySem.W.Frag) : Sp := fun vs H Q _ => ∃ (a : Addr) (ns : List Int) (j : Int), vs = [.ref a, .int j] ∧ SqL K H a (ns.map V.int) ∧ (0 ≤ j ∧ j < 1000000) ∧ ns.length ≤ 63 ∧ ∀ z : Int, Q (.int z) H
theorem ok__law_cell_at (T : Tx K mg ad fd tk base tc w) : FnOk P w K mg base CX0 1 (ad 48) (fd 48) ["_law_script", "_law_k"] (sp__law_cell_at K) := by
  refine T.d__law_cell_at.F.ok sc__law_cell_at (fun vs H Q E h => ?_) (fun cdv A outer s H vs Q E hr h => ?_)
  · obtain ⟨a, ns, j, rfl, _⟩ := h
    rfl
  · obtain ⟨a, ns, j, rfl, hs, hj, hl, k⟩ := h
    refine ⟨_, (pss_cons (ps_if (pt_cmpR o_lt (pv 1) (pe_callB (c_len (K := K)) (by rfl) T.b_len (by decide +kernel) (pa_cons (pv 0) pa_nil)) (nomark _)) (pss_one (ps_ret (pe_ix (i_ix (K := K)) (pv 0) (pv 1) (fun _ _ => rfl)))) pss_nil)
      (pss_one (ps_ret pe_int))), ?_⟩
    walk_at "go"
    refine st_lenK hs ?_
    walk_at "go"
    refine st_br2 (fun c => ?_) (fun c => ?_)
    · walk_at "go"
      rw [List.length_map] at c
      obtain ⟨v, h2, h3⟩ := at_in (xs := ns.map V.int) hj.1 (by rw [List.length_map]; exact c)
      rw [List.getElem?_map] at h3
      cases q : ns[j.toNat]? with
      | none => rw [q] at h3; cases h3
      | some z =>
        rw [q] at h3
        cases h3
        exact st_ixK hs h2 (k z)
    · walk_at "go"
      exact k _
def sp__law_great : Sp := fun vs H Q _ => ∃ c : Int, vs = [.int c] ∧ ∀ n : Int, 0 ≤ n → Q (.int n) H
theorem ok__law_great (T : Tx K mg ad fd tk base tc w) : FnOk P w K mg base CX0 1 (ad 49) (fd 49) ["_law_cell"] sp__law_great := by
  refine T.d__law_great.F.ok sc__law_great (fun vs H Q E h => ?_) (fun cdv A outer s H vs Q E hr h => ?_)
  · obtain ⟨c, rfl, _⟩ := h
    rfl
  · obtain ⟨c, rfl, k⟩ := h
    refine ⟨_, (pss_cons (ps_if (pt_cmpR o_ge (pv 0) (pe_op o_pow pe_int pe_int) (nomark _)) (pss_one (ps_ret (pv 0))) pss_nil)
      (pss_cons (ps_set (i := 1) sc__law_great.nd rfl (Or.inl rfl) pe_int)
      (pss_cons (ps_set (i := 2) sc__law_great.nd rfl (Or.inl rfl) (pe_op o_add (pe_op o_mod (pv 0) pe_int) pe_int))
      (pss_cons (ps_for PassesOwn.never rfl (pi_range1 rfl T.b_range (pa_cons pe_int pa_nil)) (pg_name (i := 3) sc__law_great.nd rfl (Or.inl rfl)) (pss_cons (ps_set (i := 2) sc__law_great.nd rfl (Or.inl rfl) (pe_op o_mod (pe_op o_add (pe_op o_add (pe_op o_mul (pv 2) (pv 2)) (pe_op o_mul pe_int (pv 2))) (pv 3)) pe_int))
      (pss_one (ps_set (i := 1) sc__law_great.nd rfl (Or.inl rfl) (pe_op o_add (pe_op o_mul (pv 1) pe_int) (pe_op o_mod (pe_op o_mul (pv 2) pe_int) pe_int))))))
      (pss_one (ps_ret (pv 1))))))), ?_⟩
    walk_at "go"
    refine st_br2 (fun c1 => ?_) (fun c1 => ?_)
    · walk_at "go"
      exact k c (Int.le_trans (by decide +kernel : (0 : Int) ≤ 10 ^ Int.toNat 18) c1)
    · walk_at "go"
      have b0 := Int.emod_nonneg c (b := 2147483647) (by decide)
      have b1 := Int.emod_lt_of_pos c (b := 2147483647) (by decide)
      refine for_runs (runs_range 0 _) (fun i σ H' => H' = H ∧ ∃ f n y, σ = [some (.int c), some (.int f), some (.int n), y] ∧ 0 ≤ f ∧ 0 ≤ n ∧ n < 2147495992) ⟨rfl, _, _, _, rfl, by decide, by omega, by omega⟩ (fun _ _ _ _ _ => trivial) ?_ ?_
      · rintro i x σ H0 H1 hi ⟨rfl, f, n, y, rfl, f0, n0, n1⟩ ⟨rfl, rfl⟩
        walk_at "go"
        have r0 := Int.emod_nonneg (n * n + 48271 * n + (0 + ((i : Nat) : Int))) (b := 2147483647) (by decide)
        have r1 := Int.emod_lt_of_pos (n * n + 48271 * n + (0 + ((i : Nat) : Int))) (b := 2147483647) (by decide)
        refine ⟨rfl, _, _, _, rfl, ?_, r0, Int.lt_trans r1 (by decide)⟩
        generalize (n * n + 48271 * n + (0 + ((i : Nat) : Int))) % 2147483647 = r at r0 r1 ⊢
        have := Int.emod_nonneg (r * 69621) (b := 2147483629) (by decide)
        omega
      · rintro σ H0 ⟨rfl, f, n, y, rfl, f0, n0, n1⟩
        walk_at "go"
        exact k f f0
theorem at_abc {i : Int} (h0 : 0 ≤ i) (h1 : i < 26) : atI ("abcdefghijklmnopqrstuvwxyz" : Str).cps.toList i = some (97 + i.toNat) := by
  have e : ("abcdefghijklmnopqrstuvwxyz" : Str).cps.toList = List.range' 97 26 := by decide +kernel
  rw [e]
  unfold atI ixN
  rw [List.length_range', if_pos h0, if_pos (by omega)]
  show (List.range' 97 26)[i.toNat]? = _
  rw [List.getElem?_range' (by omega), Nat.one_mul]
def sp__law_letter : Sp := fun vs H Q _ => ∃ n : Int, vs = [.int n] ∧ Q (.str (tx [97 + (n % 26).toNat])) H
theorem ok__law_letter (T : Tx K mg ad fd tk base tc w) : FnOk P w K mg base CX0 1 (ad 50) (fd 50) ["_law_number"] sp__law_letter := by
  refine T.d__law_letter.F.ok sc__law_letter (fun vs H Q E h => ?_) (fun cdv A outer s H vs Q E hr h => ?_)
  · obtain ⟨n, rfl, _⟩ := h
    rfl
  · obtain ⟨n, rfl, k⟩ := h
    refine ⟨_, (pss_one (ps_ret (pe_ix (i_ix (K := K)) pe_str (pe_op o_mod (pv 0) pe_int) (fun _ _ => rfl)))), ?_⟩
    walk_at "go"
    have b0 := Int.emod_nonneg n (b := 26) (by omega)
    have b1 := Int.emod_lt_of_pos n (b := 26) (by omega)
    exact st_sign (by decide +kernel) (at_abc b0 b1) k
theorem let_modR (n : Int) : isL (97 + (n % 26).toNat) := by
  have := Int.emod_nonneg n (b := 26) (by decide)
  have := Int.emod_lt_of_pos n (b := 26) (by decide)
  unfold isL
  omega
def sp__law_row : Sp := fun vs H Q _ => ∃ c : Int, vs = [.int c, .int 24] ∧ ∀ (s : Str) H', Ex H H' → (∀ a ∈ s.cps.toList, isL a) → s.length ≤ 24 → Q (.str s) H'
theorem ok__law_row (T : Tx K mg ad fd tk base tc w) : FnOk P w K mg base CX0 2 (ad 51) (fd 51) ["_law_cell", "_law_most"] sp__law_row := by
  refine T.d__law_row.F.ok sc__law_row (fun vs H Q E h => ?_) (fun cdv A outer s H vs Q E hr h => ?_)
  · obtain ⟨c, rfl, _⟩ := h
    rfl
  · obtain ⟨c, rfl, k⟩ := h
    refine ⟨_, (pss_cons (ps_set (i := 2) sc__law_row.nd rfl (Or.inl rfl) (pe_call (ok__law_great T) (hr.mono (by decide)) rfl T.d__law_great.g T.d__law_great.F.kp T.d__law_great.b .nil pass0 (pa_cons (pv 0) pa_nil)))
      (pss_cons (ps_set (i := 3) sc__law_row.nd rfl (Or.inl rfl) (pe_op o_mod (pv 2) pe_int))
      (pss_cut (ps_if (pt_cmpR (o_eq hr.units) (pe_op o_mod (pe_op o_div (pv 2) pe_int) pe_int) pe_int (nomark _)) (pss_one (ps_set (i := 3) sc__law_row.nd rfl (Or.inl rfl) (pe_op o_mod (pe_op o_div (pv 2) pe_int) (pe_op o_add (pv 1) pe_int)))) pss_nil)
      (pss_cons (ps_set (i := 2) sc__law_row.nd rfl (Or.inl rfl) (pe_op o_div (pv 2) pe_int))
      (pss_cons (ps_set (i := 4) sc__law_row.nd rfl (Or.inl rfl) (pe_ix (i_ix (K := K)) (pe_lst (pa_cons pe_int (pa_cons pe_int (pa_cons pe_int (pa_cons pe_int (pa_cons pe_int (pa_cons pe_int pa_nil))))))) (pe_op o_mod (pv 2) pe_int) (fun _ _ => rfl)))
      (pss_cons (ps_set (i := 5) sc__law_row.nd rfl (Or.inl rfl) (pe_op o_div (pv 2) pe_int))
      (pss_cons (ps_set (i := 2) sc__law_row.nd rfl (Or.inl rfl) (pe_op o_div (pv 5) pe_int))
      (pss_cons (ps_set (i := 6) sc__law_row.nd rfl (Or.inl rfl) pe_str)
      (pss_cons (ps_for PassesOwn.never rfl (pi_range1 rfl T.b_range (pa_cons (pv 3) pa_nil)) (pg_name (i := 7) sc__law_row.nd rfl (Or.inl rfl)) (pss_cons (ps_set (i := 6) sc__law_row.nd rfl (Or.inl rfl) (pe_op o_add (pv 6) (pe_call (ok__law_letter T) (hr.mono (by decide)) rfl T.d__law_letter.g T.d__law_letter.F.kp T.d__law_letter.b .nil pass0 (pa_cons (pe_op o_add (pe_op o_mod (pv 5) pe_int) (pe_op o_mod (pv 2) (pv 4))) pa_nil))))
      (pss_one (ps_set (i := 2) sc__law_row.nd rfl (Or.inl rfl) (pe_op o_div (pv 2) (pv 4))))))
      (pss_one (ps_ret (pv 6)))))))))))), ?_⟩
    walk_at "go"
    refine ⟨c, rfl, fun n hn => ?_⟩
    walk_at "go"
    refine ⟨fun σ' H' => H' = H ∧ ∃ (m : Nat) (y3 y4 y5 y6 : Option V), m ≤ 24 ∧ σ' = [some (.int c), some (.int 24), some (.int n), some (.int (m : Nat)), y3, y4, y5, y6], ?_, ?_⟩
    · walk_at "go"
      refine st_br2 (fun c1 => ?_) (fun c1 => ?_)
      · walk_at "go"
        have b0 := Int.emod_nonneg (n / 72) (b := 25) (by decide)
        have b1 := Int.emod_lt_of_pos (n / 72) (b := 25) (by decide)
        exact ⟨rfl, (n / 72 % 25).toNat, _, _, _, _, by omega, by rw [Int.toNat_of_nonneg b0]; rfl⟩
      · walk_at "go"
        have b0 := Int.emod_nonneg n (b := 9) (by decide)
        have b1 := Int.emod_lt_of_pos n (b := 9) (by decide)
        exact ⟨rfl, (n % 9).toNat, _, _, _, _, by omega, by rw [Int.toNat_of_nonneg b0]; rfl⟩
    rintro σ' H' ⟨rfl, m, y3, y4, y5, y6, hm, rfl⟩
    walk_at "go"
    rename_i L H1 n1 e1 v1
    have b0 := Int.emod_nonneg (n / 1800) (b := 6) (by decide)
    have b1 := Int.emod_lt_of_pos (n / 1800) (b := 6) (by decide)
    refine st_ixI [1, 2, 2, 3, 4, 26] v1 rfl (by omega) (by simp; omega) fun w hw hwm => ?_
    have hw26 : 1 ≤ w ∧ w ≤ 26 := by
      simp only [List.mem_cons, List.not_mem_nil, or_false] at hwm
      omega
    walk_at "go"
    rw [Int.toNat_natCast]
    refine for_runs (runs_range 0 _) (fun i σ G => G = H1 ∧ ∃ (z : Str) (u g : Int) (y : Option V), σ = [some (.int c), some (.int 24), some (.int u), some (.int (m : Nat)), some (.int w), some (.int g), some (.str z), y] ∧ (∀ a ∈ z.cps.toList, isL a) ∧ z.length = i) ⟨rfl, "", _, _, _, rfl, (fun a h => by cases h), rfl⟩ (fun _ _ _ _ _ => trivial) ?_ ?_
    · rintro i x σ H0 H2 hi ⟨rfl, z, u, g, y, rfl, hz, hzl⟩ ⟨rfl, rfl⟩
      walk_at "go"
      refine ⟨_, rfl, ?_⟩
      have hl := let_modR (g % 26 + u % w)
      generalize 97 + ((g % 26 + u % w) % 26).toNat = o at hl ⊢
      refine st_addS (by rw [tx_length, hzl]; simp; omega) ?_
      walk_at "go"
      refine ⟨rfl, _, _, _, _, rfl, fun a ha => ?_, by rw [Str.length_append, tx_length, hzl]; rfl⟩
      rw [show (z ++ tx [o]).cps.toList = z.cps.toList ++ (tx [o]).cps.toList from Array.toList_append, tx_toList] at ha
      rcases List.mem_append.mp ha with ha | ha
      · exact hz a ha
      · rw [List.mem_singleton.mp ha]; exact hl
    · rintro σ H0 ⟨rfl, z, u, g, y, rfl, hz, hzl⟩
      walk_at "go"
      exact k z H0 e1 hz (by omega)
def sp__law_list : Sp := fun vs H Q _ => ∃ (s : Str) (p : Addr) (cs : List Int), vs = [.str s, .ref p, .int 24] ∧ (∀ a ∈ s.cps.toList, isL a) ∧ s.length ≤ 24 ∧ H p = some (.lst (cs.map V.int)) ∧ cs.length ≤ 1000 ∧ ∀ q (zs : List CZ) H', Ex H H' → H q = none → H' q = some (.lst (zs.map cV)) → CT H' zs → zs.length ≤ 48 → (∀ z ∈ zs, ChgOk z.2) → OO (zs.map fun z => z.2) = s.cps.toList → (NN (zs.map fun z => z.2)).length ≤ 24 → Q (.ref q) H'
/-- what stands while the list is made -/
def ListI (H : Hp) (s : Str) (p F : Addr) (σ : L2.St) (H' : Hp) : Prop := Ex H H' ∧ ∃ (n m : Nat) (zs : List CZ) (y6 y7 y8 y9 : Option V), H' F = some (.lst (zs.map cV)) ∧ CT H' zs ∧ (∀ z ∈ zs, ChgOk z.2) ∧ OO (zs.map fun z => z.2) = s.cps.toList.take n ∧ n ≤ s.length ∧ zs.length + s.length ≤ 48 + n ∧ (NN (zs.map fun z => z.2)).length + s.length = m + n ∧ m ≤ 24 ∧ σ = [some (.str s), some (.ref p), some (.int 24), some (.ref F), some (.int (n : Nat)), some (.int (m : Nat)), y6, y7, y8, y9]
theorem ct_add {H : Hp} {F t : Addr} {zs : List CZ} {c : Chg} (h : CT H zs) (hF : H F = some (.lst (zs.map cV))) (ht : H t = some (.tup (chVs c))) : CT (upd H F (.lst (zs.map cV ++ [.ref t]))) (zs ++ [(t, c)]) := fun z hz => by
  have hz2 : H z.1 = some (.tup (chVs z.2)) := by
    rcases List.mem_append.mp hz with h2 | h2
    · exact h z h2
    · rw [List.mem_singleton.mp h2]; exact ht
  rw [upd_ne (fun e => by rw [e, hF] at hz2; cases hz2)]
  exact hz2
theorem list_add {H H' : Hp} {s : Str} {p F t : Addr} {n m k : Nat} {zs : List CZ} {c : Chg} {y6 y7 y8 y9 : Option V} (nF : H F = none) (e : Ex H H') (vF : H' F = some (.lst (zs.map cV))) (hz : CT H' zs) (ok : ∀ z ∈ zs, ChgOk z.2) (ho : OO (zs.map fun z => z.2) = s.cps.toList.take n) (ht : H' t = some (.tup (chVs c))) (okc : ChgOk c) (hc : s.cps.toList.take m = s.cps.toList.take n ++ c.o) (hm : m ≤ s.length) (hl : zs.length + 1 + s.length ≤ 48 + m) (hk : (NN (zs.map fun z => z.2)).length + c.n.length + s.length = k + m) (hk2 : k ≤ 24) :
    ListI H s p F [some (.str s), some (.ref p), some (.int 24), some (.ref F), some (.int (m : Nat)), some (.int (k : Nat)), y6, y7, y8, y9] (upd H' F (.lst (zs.map cV ++ [.ref t]))) := by
  refine ⟨e.mut nF, m, k, zs ++ [(t, c)], y6, y7, y8, y9, by rw [upd_same, List.map_append]; rfl, ct_add hz vF ht, fun z hz => ?_, ?_, hm, by rw [List.length_append]; exact hl, ?_, hk2, rfl⟩
  · rcases List.mem_append.mp hz with h2 | h2
    · exact ok z h2
    · rw [List.mem_singleton.mp h2]; exact okc
  · rw [List.map_append, OO_app, ho, hc]
    simp [OO]
  · rw [List.map_append, NN_app, List.length_append, List.map_singleton, show NN [c] = c.n from by simp [NN]]
    exact hk
theorem keep_o : ∀ l : List Nat, OO (l.map Chg.keep) = l
  | [] => rfl
  | a :: l => by rw [List.map_cons, OO_cons, keep_o l]; rfl
theorem keep_n : ∀ l : List Nat, NN (l.map Chg.keep) = l
  | [] => rfl
  | a :: l => by rw [List.map_cons, NN_cons, keep_n l]; rfl
theorem ok__law_list (T : Tx K mg ad fd tk base tc w) : FnOk P w K mg base CX0 2 (ad 52) (fd 52) ["_law_row_here", "_law_cells", "_law_most"] sp__law_list := by
  refine T.d__law_list.F.ok sc__law_list (fun vs H Q E h => ?_) (fun cdv A outer s H vs Q E hr h => ?_)
  · obtain ⟨s, p, cs, rfl, _⟩ := h
    rfl
  · obtain ⟨s, p, cs, rfl, hs, hl, hp, hc, k⟩ := h
    refine ⟨_, (pss_cons (ps_set (i := 3) sc__law_list.nd rfl (Or.inl rfl) (pe_lst pa_nil))
      (pss_cons (ps_set (i := 4) sc__law_list.nd rfl (Or.inl rfl) pe_int)
      (pss_cons (ps_set (i := 5) sc__law_list.nd rfl (Or.inl rfl) (pe_callB (c_len (K := K)) (by rfl) T.b_len (by decide +kernel) (pa_cons (pv 0) pa_nil)))
      (pss_cons (ps_for PassesOwn.never rfl (pi_list (pv 1)) (pg_name (i := 6) sc__law_list.nd rfl (Or.inl rfl)) (pss_one (ps_if (PW.pt (pw_and (pt_cmpR o_lt (pe_op o_mod (pv 6) pe_int) pe_int (nomark _)) (pw_and1 (pt_cmpR o_lt (pv 4) (pe_callB (c_len (K := K)) (by rfl) T.b_len (by decide +kernel) (pa_cons (pv 0) pa_nil)) (nomark _))))) (pss_cons (ps_set (i := 7) sc__law_list.nd rfl (Or.inl rfl) (pe_ix (i_ix (K := K)) (pv 0) (pv 4) (fun _ _ => rfl)))
      (pss_cons (ps_set (i := 8) sc__law_list.nd rfl (Or.inl rfl) (pe_call (ok__law_letter T) (hr.mono (by decide)) rfl T.d__law_letter.g T.d__law_letter.F.kp T.d__law_letter.b .nil pass0 (pa_cons (pe_op o_add (pe_op o_add (pe_op o_sub (pe_callB call_ord (by rfl) T.b_ord (by decide +kernel) (pa_cons (pv 7) pa_nil)) (pe_callB call_ord (by rfl) T.b_ord (by decide +kernel) (pa_cons pe_str pa_nil))) pe_int) (pe_op o_mod (pe_op o_div (pv 6) pe_int) pe_int)) pa_nil)))
      (pss_cons (ps_set (i := 4) sc__law_list.nd rfl (Or.inl rfl) (pe_op o_add (pv 4) pe_int))
      (pss_cons (ps_expr (pe_bm PySem.F.plainAttrs_list PySem.F.slot_list_append PySem.F.type_list_append mt_append (pv 3) (pa_cons (pe_ix (i_ix (K := K)) (pe_lst (pa_cons (pe_tup (pa_cons pe_str (pa_cons (pv 7) pa_nil))) (pa_cons (pe_tup (pa_cons pe_str (pa_cons (pv 7) (pa_cons (pv 8) pa_nil)))) (pa_cons (pe_tup (pa_cons pe_str (pa_cons (pv 7) pa_nil))) pa_nil)))) (pe_op o_div (pe_op o_mod (pv 6) pe_int) pe_int) (fun _ _ => rfl)) pa_nil)))
      (pss_one (ps_set (i := 5) sc__law_list.nd rfl (Or.inl rfl) (pe_op o_sub (pv 5) (pe_callTy c_int (by rfl) T.b_int (by decide +kernel) (pa_cons (pe_cmpR o_gt (pe_op o_mod (pv 6) pe_int) pe_int (nomark _)) pa_nil))))))))) (pss_one (ps_if (PW.pt (pw_and (pt_cmpR o_lt (pv 5) (pv 2) (nomark _)) (pw_and1 (pt_cmpR o_lt (pe_op o_sub (pe_op o_add (pe_callB (c_len (K := K)) (by rfl) T.b_len (by decide +kernel) (pa_cons (pv 3) pa_nil)) (pe_callB (c_len (K := K)) (by rfl) T.b_len (by decide +kernel) (pa_cons (pv 0) pa_nil))) (pv 4)) pe_int (nomark _))))) (pss_cons (ps_expr (pe_bm PySem.F.plainAttrs_list PySem.F.slot_list_append PySem.F.type_list_append mt_append (pv 3) (pa_cons (pe_tup (pa_cons pe_str (pa_cons (pe_call (ok__law_letter T) (hr.mono (by decide)) rfl T.d__law_letter.g T.d__law_letter.F.kp T.d__law_letter.b .nil pass0 (pa_cons (pe_op o_div (pv 6) pe_int) pa_nil)) pa_nil))) pa_nil)))
      (pss_one (ps_set (i := 5) sc__law_list.nd rfl (Or.inl rfl) (pe_op o_add (pv 5) pe_int)))) pss_nil)))))
      (pss_one (ps_ret (pe_op o_add (pv 3) (pe_lc (own := [("_law_letter_here", 9)]) (g := gName 9) rfl sc__law_list.nd (pi_str (pe_slice (s_sl (K := K)) (pv 0) (po_some (pv 4)) po_none)) (blkOk_by (own := [("_law_letter_here", 9)]) (N := N__law_list) (sc := defScope s__law_list) (by decide +kernel)) (fun _ _ _ _ _ => pg_name (i := 9) sc__law_list.nd rfl (Or.inl rfl)) (fun _ _ _ _ _ => pts_nil) (fun _ _ _ _ _ => (pe_tup (pa_cons pe_str (pa_cons (pv 9) pa_nil)))))))))))), ?_⟩
    walk_at "go"
    rename_i F H1 n1 e1 v1
    have sl : s.cps.toList.length = s.length := Array.length_toList
    refine for_runs (rv_list K p cs V.int) (fun i σ H' => ListI H s p F σ H') ⟨e1, 0, s.length, [], _, _, _, _, v1, (fun _ h => by cases h), (fun _ h => by cases h), rfl, Nat.zero_le _, by simp; omega, by simp [NN], hl, rfl⟩ (fun i σ H' _ h => lst_of (h.1.get hp)) ?_ ?_
    · rintro i x σ H5 H6 hi I ⟨rfl, c, hci, rfl⟩
      obtain ⟨e5, n, m, zs, y6, y7, y8, y9, vF, hz, ok, ho, hn, hzl, hmm, hm24, rfl⟩ := I
      have q0 := Int.emod_nonneg c (b := 8) (by decide)
      have q1 := Int.emod_lt_of_pos c (b := 8) (by decide)
      have put : ∀ {y7 y8 y9 : Option V} (o : Nat), isL o → zs.length + s.length - n < 48 → m < 24 → ∀ t H7, Ex H6 H7 → H7 t = some (.tup [.str "in", .str (tx [o])]) → ListI H s p F [some (.str s), some (.ref p), some (.int 24), some (.ref F), some (.int (n : Nat)), some (.int ((m + 1 : Nat) : Int)), some (.int c), y7, y8, y9] (upd H7 F (.lst (zs.map cV ++ [.ref t]))) := fun o lt h hm t H7 e7 v7 =>
        list_add (c := .inn o) n1 (e5.trans e7) (e7.get vF) (hz.ex e7) ok ho v7 lt (by simp [Chg.o]) hn (by omega) (by simp only [Chg.n, List.length_singleton]; omega) (by omega)
      walk_at "go"
      refine st_br2 (fun c1 => ?_) (fun c1 => ?_)
      · walk_at "go"
        refine st_br2 (fun c2 => ?_) (fun c2 => ?_)
        · walk_at "go"
          obtain ⟨b, hb⟩ : ∃ b, s.cps.toList[n]? = some b := ⟨_, List.getElem?_eq_getElem (by omega)⟩
          have lb := hs b (List.mem_of_getElem? hb)
          refine st_sign (by omega) (at_nat hb) ?_
          walk_at "go"
          refine ⟨rfl, ?_⟩
          walk_at "go"
          refine ⟨rfl, ?_⟩
          walk_at "go"
          refine ⟨_, rfl, ?_⟩
          have cb : ((tx [b]).cps.getD 0 0 : Nat) = b := rfl
          have ca : (("a" : Str).cps.getD 0 0 : Nat) = 97 := by decide +kernel
          rw [cb, ca]
          have lt2 := let_modR ((b : Int) - ((97 : Nat) : Int) + 1 + c / 8 % 25)
          have ne2 : 97 + (((b : Int) - ((97 : Nat) : Int) + 1 + c / 8 % 25) % 26).toNat ≠ b := by
            have g0 := Int.emod_nonneg (c / 8) (b := 25) (by decide)
            have g1 := Int.emod_lt_of_pos (c / 8) (b := 25) (by decide)
            unfold isL at lb
            omega
          generalize 97 + (((b : Int) - ((97 : Nat) : Int) + 1 + c / 8 % 25) % 26).toNat = o2 at lt2 ne2 ⊢
          walk_at "go"
          rename_i t1 G1 m1 g1 w1 t2 G2 m2 g2 w2 t3 G3 m3 g3 w3 L4 G5 m5 g5 w5
          have g15 := g1.trans (g2.trans (g3.trans g5))
          have tk : s.cps.toList.take (n + 1) = s.cps.toList.take n ++ [b] := by rw [List.take_succ, hb]; rfl
          have add : ∀ (t : Addr) (x : Chg) (m' : Nat), G5 t = some (.tup (chVs x)) → ChgOk x → x.o = [b] → x.n.length + m = m' + 1 → ∀ {y6 y7 y8 y9 : Option V}, ListI H s p F [some (.str s), some (.ref p), some (.int 24), some (.ref F), some (.int ((n + 1 : Nat) : Int)), some (.int ((m' : Nat) : Int)), y6, y7, y8, y9] (upd G5 F (.lst (zs.map cV ++ [.ref t]))) := fun t x m' h1 h2 h3 h4 =>
            list_add n1 (e5.trans g15) (g15.get vF) (hz.ex g15) ok ho h1 h2 (by rw [h3, tk]) (by omega) (by omega) (by omega) (by have : x.n.length ≤ 1 := (chn_le x).1; omega)
          have c60 : c % 8 / 2 = 0 ∧ ¬ 3 < c % 8 ∨ c % 8 / 2 = 1 ∧ ¬ 3 < c % 8 ∨ c % 8 / 2 = 2 ∧ 3 < c % 8 := by omega
          rcases c60 with ⟨h, h3⟩ | ⟨h, h3⟩ | ⟨h, h3⟩
          · rw [h]
            refine st_ixL w5 (v := .ref t1) rfl ?_
            walk_at "go"
            refine st_app (g15.get vF) (by rw [List.length_map]; omega) ?_
            walk_at "go"
            have := add t1 (.keep b) m ((g2.trans (g3.trans g5)).get w1) lb rfl (by simp [Chg.n]; omega) (y6 := some (.int c)) (y7 := some (.str (tx [b]))) (y8 := some (.str (tx [o2]))) (y9 := y9)
            rw [decide_eq_false h3]
            rw [show ((m : Nat) : Int) - (if false = true then 1 else 0) = ((m : Nat) : Int) by simp]
            exact this
          · rw [h]
            refine st_ixL w5 (v := .ref t2) rfl ?_
            walk_at "go"
            refine st_app (g15.get vF) (by rw [List.length_map]; omega) ?_
            walk_at "go"
            have := add t2 (.change b o2) m ((g3.trans g5).get w2) ⟨lb, lt2, fun z => ne2 z.symm⟩ rfl (by simp [Chg.n]; omega) (y6 := some (.int c)) (y7 := some (.str (tx [b]))) (y8 := some (.str (tx [o2]))) (y9 := y9)
            rw [decide_eq_false h3]
            rw [show ((m : Nat) : Int) - (if false = true then 1 else 0) = ((m : Nat) : Int) by simp]
            exact this
          · rw [h]
            refine st_ixL w5 (v := .ref t3) rfl ?_
            walk_at "go"
            refine st_app (g15.get vF) (by rw [List.length_map]; omega) ?_
            walk_at "go"
            have hm1 : 0 < m := by
              have : 0 < s.length - n := by omega
              omega
            have := add t3 (.out b) (m - 1) (g5.get w3) lb rfl (by simp [Chg.n]; omega) (y6 := some (.int c)) (y7 := some (.str (tx [b]))) (y8 := some (.str (tx [o2]))) (y9 := y9)
            rw [decide_eq_true h3]
            rw [show ((m : Nat) : Int) - (if true = true then 1 else 0) = ((m - 1 : Nat) : Int) by simp; omega]
            exact this
        · walk_at "go"
          refine st_br2 (fun c3 => ?_) (fun c3 => ?_)
          · walk_at "go"
            rw [List.length_map]
            refine st_br2 (fun c4 => ?_) (fun c4 => ?_)
            · walk_at "go"
              refine ⟨_, rfl, ?_⟩
              have lt := let_modR (c / 8)
              generalize 97 + (c / 8 % 26).toNat = o at lt ⊢
              walk_at "go"
              rename_i t G1 m1 g1 w1
              refine st_app (g1.get vF) (by rw [List.length_map]; omega) ?_
              walk_at "go"
              exact put o lt (by omega) (by omega) t G1 g1 w1
            · walk_at "go"
              exact ⟨e5, n, m, zs, _, _, _, _, vF, hz, ok, ho, hn, hzl, hmm, hm24, rfl⟩
          · walk_at "go"
            exact ⟨e5, n, m, zs, _, _, _, _, vF, hz, ok, ho, hn, hzl, hmm, hm24, rfl⟩
      · walk_at "go"
        refine st_br2 (fun c3 => ?_) (fun c3 => ?_)
        · walk_at "go"
          rw [List.length_map]
          refine st_br2 (fun c4 => ?_) (fun c4 => ?_)
          · walk_at "go"
            refine ⟨_, rfl, ?_⟩
            have lt := let_modR (c / 8)
            generalize 97 + (c / 8 % 26).toNat = o at lt ⊢
            walk_at "go"
            rename_i t G1 m1 g1 w1
            refine st_app (g1.get vF) (by rw [List.length_map]; omega) ?_
            walk_at "go"
            exact put o lt (by omega) (by omega) t G1 g1 w1
          · walk_at "go"
            exact ⟨e5, n, m, zs, _, _, _, _, vF, hz, ok, ho, hn, hzl, hmm, hm24, rfl⟩
        · walk_at "go"
          exact ⟨e5, n, m, zs, _, _, _, _, vF, hz, ok, ho, hn, hzl, hmm, hm24, rfl⟩
    · rintro σ H2 ⟨e2, n, m, zs, y6, y7, y8, y9, vF, hz, ok, ho, hn, hzl, hmm, hm24, rfl⟩
      walk_at "go"
      refine lc_objs0 (rv_str _) (fun _ _ => trivial) (by rw [cutS_from _ _ hn, List.length_drop]; omega) (fun c => HO.tup (chVs (.keep c))) ?_ ?_
      · intro c H3 hc e B hB
        refine ⟨rfl, ?_⟩
        walk_at "go"
        rename_i t H4 n4 e4 v4
        exact hB t H4 n4 e4 v4
      intro D H3 ts nD e3 vD hO _ _ _
      rw [cutS_from _ _ hn, show (s.cps.toList.drop n).map (fun c => HO.tup (chVs (.keep c))) = ((s.cps.toList.drop n).map Chg.keep).map (fun c => HO.tup (chVs c)) from by rw [List.map_map]; rfl] at hO
      obtain ⟨z1, z2, z3, z4⟩ := zip_cz hO
      have hol := hO.len
      rw [List.length_map, List.length_map, List.length_drop, sl] at hol
      have hsnd : (ts.zip ((s.cps.toList.drop n).map Chg.keep)).map (fun z => z.2) = (s.cps.toList.drop n).map Chg.keep := List.map_snd_zip (by rw [List.length_map, List.length_drop, sl]; omega)
      refine st_addL (e3.get vF) vD (by rw [List.length_map, List.length_map]; omega) fun q H4 n4 e4 v4 => ?_
      refine k q (zs ++ ts.zip ((s.cps.toList.drop n).map Chg.keep)) H4 (e2.trans (e3.trans e4)) (Ex.free (e2.trans e3) n4) (by rw [v4, List.map_append, z2]) ((hz.ex (e3.trans e4)).app (z1.ex e4)) (by rw [List.length_append, z3]; omega) (fun z hz2 => ?_) ?_ ?_
      · rcases List.mem_append.mp hz2 with h2 | h2
        · exact ok z h2
        · obtain ⟨c, hc, he⟩ := List.mem_map.mp (z4 z h2)
          rw [← he]
          exact hs c (List.mem_of_mem_drop hc)
      · rw [List.map_append, OO_app, ho, hsnd, keep_o, List.take_append_drop]
      · rw [List.map_append, NN_app, hsnd, keep_n, List.length_append, List.length_drop]
        omega
def sp__law_new : Sp := fun vs H Q _ => ∃ (p : Addr) (zs : List CZ), vs = [.ref p] ∧ H p = some (.lst (zs.map cV)) ∧ CT H zs ∧ zs.length ≤ 1000 ∧ ∀ H', Ex H H' → Q (.str (newR (zs.map fun z => z.2))) H'
def has_n : Chg → Bool
  | .inn _ => true
  | .out _ => false
  | _ => true
theorem flat_n : ∀ l : List CZ, ((l.filter fun z => has_n z.2).map fun z => z.2).flatMap Chg.n = (l.map fun z => z.2).flatMap Chg.n
  | [] => rfl
  | z :: l => by
    have ih := flat_n l
    obtain ⟨p, c⟩ := z
    rw [List.filter_cons, List.map_cons, List.flatMap_cons, ← ih]
    cases c <;> rfl
theorem ok__law_new (T : Tx K mg ad fd tk base tc w) : FnOk P w K mg base CX0 1 (ad 53) (fd 53) ["_law_changes"] sp__law_new := by
  refine T.d__law_new.F.ok sc__law_new (fun vs H Q E h => ?_) (fun cdv A outer s H vs Q E hr h => ?_)
  · obtain ⟨p, zs, rfl, _⟩ := h
    rfl
  · obtain ⟨p, zs, rfl, hp, hz, hl, k⟩ := h
    refine ⟨_, (pss_one (ps_ret (pe_join pe_str (pe_lc (own := [("_law_change", 1)]) (g := gName 1) rfl sc__law_new.nd (pi_list (pv 0)) (blkOk_by (own := [("_law_change", 1)]) (N := N__law_new) (sc := defScope s__law_new) (by decide +kernel)) (fun _ _ _ _ _ => pg_name (i := 1) sc__law_new.nd rfl (Or.inl rfl)) (fun _ _ _ _ _ => pts_one (pt_cmpR (o_ne hr.units) (pe_ix (i_ix (K := K)) (pv 1) pe_int (fun _ _ => rfl)) pe_str (nomark _))) (fun _ _ _ _ _ => (pe_ix (i_ix (K := K)) (pv 1) (pe_un un_neg pe_int) (fun _ _ => rfl))))))), ?_⟩
    walk_at "go"
    refine lc_pure (rv_list K p zs cV) (fun H' e => lst_of (e.get hp)) (by omega) (fun z => has_n z.2) (fun z => V.str (tx (Chg.n z.2))) ?_ ?_
    · intro y H' hy e B A' h3 h4
      refine ⟨rfl, ?_⟩
      have hy2 := e.get (hz y hy)
      obtain ⟨yp, yc⟩ := y
      cases yc with
      | keep a =>
        have hy2 : H' yp = some (.tup [.str "keep", .str (tx [a])]) := hy2
        walk_at "go"
        refine st_ixT hy2 (v := .str "keep") rfl ?_
        walk_at "go"
        refine st_ixT hy2 rfl ?_
        exact h3 rfl _ (Fr.refl _)
      | change a b =>
        have hy2 : H' yp = some (.tup [.str "change", .str (tx [a]), .str (tx [b])]) := hy2
        walk_at "go"
        refine st_ixT hy2 (v := .str "change") rfl ?_
        walk_at "go"
        refine st_ixT hy2 rfl ?_
        exact h3 rfl _ (Fr.refl _)
      | out a =>
        have hy2 : H' yp = some (.tup [.str "out", .str (tx [a])]) := hy2
        walk_at "go"
        refine st_ixT hy2 (v := .str "out") rfl ?_
        walk_at "go"
        exact h4 rfl _ (Fr.refl _)
      | inn a =>
        have hy2 : H' yp = some (.tup [.str "in", .str (tx [a])]) := hy2
        walk_at "go"
        refine st_ixT hy2 (v := .str "in") rfl ?_
        walk_at "go"
        refine st_ixT hy2 rfl ?_
        exact h3 rfl _ (Fr.refl _)
    · intro C H1 nC e1 vC
      have vC' : H1 C = some (.lst ((((zs.filter fun z => has_n z.2).map fun z => z.2).map fun c => tx (Chg.n c)).map V.str)) := by
        rw [vC, List.map_map, List.map_map]
        rfl
      have hfl := List.length_filter_le (fun z : CZ => has_n z.2) zs
      walk_at "go"
      refine ⟨"", C, _, rfl, rfl, .inl (lstAt_sq (lst_of vC')), by
        have := sum_flat (f := Chg.n) (fun c => (chn_le c).1) ((zs.filter fun z => has_n z.2).map fun z => z.2)
        rw [List.length_map] at this
        rw [List.length_map, List.length_map]
        show _ + (zs.filter _).length * 0 ≤ _
        omega, ?_⟩
      rw [join_flat, flat_n]
      exact k H1 e1
def sp__law_old : Sp := fun vs H Q _ => ∃ (p : Addr) (zs : List CZ), vs = [.ref p] ∧ H p = some (.lst (zs.map cV)) ∧ CT H zs ∧ zs.length ≤ 1000 ∧ ∀ H', Ex H H' → Q (.str (oldR (zs.map fun z => z.2))) H'
def has_o : Chg → Bool
  | .inn _ => false
  | .out _ => true
  | _ => true
theorem flat_o : ∀ l : List CZ, ((l.filter fun z => has_o z.2).map fun z => z.2).flatMap Chg.o = (l.map fun z => z.2).flatMap Chg.o
  | [] => rfl
  | z :: l => by
    have ih := flat_o l
    obtain ⟨p, c⟩ := z
    rw [List.filter_cons, List.map_cons, List.flatMap_cons, ← ih]
    cases c <;> rfl
theorem ok__law_old (T : Tx K mg ad fd tk base tc w) : FnOk P w K mg base CX0 1 (ad 54) (fd 54) ["_law_changes"] sp__law_old := by
  refine T.d__law_old.F.ok sc__law_old (fun vs H Q E h => ?_) (fun cdv A outer s H vs Q E hr h => ?_)
  · obtain ⟨p, zs, rfl, _⟩ := h
    rfl
  · obtain ⟨p, zs, rfl, hp, hz, hl, k⟩ := h
    refine ⟨_, (pss_one (ps_ret (pe_join pe_str (pe_lc (own := [("_law_change", 1)]) (g := gName 1) rfl sc__law_old.nd (pi_list (pv 0)) (blkOk_by (own := [("_law_change", 1)]) (N := N__law_old) (sc := defScope s__law_old) (by decide +kernel)) (fun _ _ _ _ _ => pg_name (i := 1) sc__law_old.nd rfl (Or.inl rfl)) (fun _ _ _ _ _ => pts_one (pt_cmpR (o_ne hr.units) (pe_ix (i_ix (K := K)) (pv 1) pe_int (fun _ _ => rfl)) pe_str (nomark _))) (fun _ _ _ _ _ => (pe_ix (i_ix (K := K)) (pv 1) pe_int (fun _ _ => rfl))))))), ?_⟩
    walk_at "go"
    refine lc_pure (rv_list K p zs cV) (fun H' e => lst_of (e.get hp)) (by omega) (fun z => has_o z.2) (fun z => V.str (tx (Chg.o z.2))) ?_ ?_
    · intro y H' hy e B A' h3 h4
      refine ⟨rfl, ?_⟩
      have hy2 := e.get (hz y hy)
      obtain ⟨yp, yc⟩ := y
      cases yc with
      | keep a =>
        have hy2 : H' yp = some (.tup [.str "keep", .str (tx [a])]) := hy2
        walk_at "go"
        refine st_ixT hy2 (v := .str "keep") rfl ?_
        walk_at "go"
        refine st_ixT hy2 rfl ?_
        exact h3 rfl _ (Fr.refl _)
      | change a b =>
        have hy2 : H' yp = some (.tup [.str "change", .str (tx [a]), .str (tx [b])]) := hy2
        walk_at "go"
        refine st_ixT hy2 (v := .str "change") rfl ?_
        walk_at "go"
        refine st_ixT hy2 rfl ?_
        exact h3 rfl _ (Fr.refl _)
      | out a =>
        have hy2 : H' yp = some (.tup [.str "out", .str (tx [a])]) := hy2
        walk_at "go"
        refine st_ixT hy2 (v := .str "out") rfl ?_
        walk_at "go"
        refine st_ixT hy2 rfl ?_
        exact h3 rfl _ (Fr.refl _)
      | inn a =>
        have hy2 : H' yp = some (.tup [.str "in", .str (tx [a])]) := hy2
        walk_at "go"
        refine st_ixT hy2 (v := .str "in") rfl ?_
        walk_at "go"
        exact h4 rfl _ (Fr.refl _)
    · intro C H1 nC e1 vC
      have vC' : H1 C = some (.lst ((((zs.filter fun z => has_o z.2).map fun z => z.2).map fun c => tx (Chg.o c)).map V.str)) := by
        rw [vC, List.map_map, List.map_map]
        rfl
      have hfl := List.length_filter_le (fun z : CZ => has_o z.2) zs
      walk_at "go"
      refine ⟨"", C, _, rfl, rfl, .inl (lstAt_sq (lst_of vC')), by
        have := sum_flat (f := Chg.o) (fun c => (cho_le c).1) ((zs.filter fun z => has_o z.2).map fun z => z.2)
        rw [List.length_map] at this
        rw [List.length_map, List.length_map]
        show _ + (zs.filter _).length * 0 ≤ _
        omega, ?_⟩
      rw [join_flat, flat_o]
      exact k H1 e1
def sp__law_pays : Sp := fun vs H Q _ => ∃ (p : Addr) (zs : List CZ), vs = [.ref p] ∧ H p = some (.lst (zs.map cV)) ∧ CT H zs ∧ zs.length ≤ 1000 ∧ ∀ H', Ex H H' → Q (.int (((zs.map fun z => z.2).countP Chg.pays : Nat) : Int)) H'
theorem ok__law_pays (T : Tx K mg ad fd tk base tc w) : FnOk P w K mg base CX0 1 (ad 55) (fd 55) ["_law_changes"] sp__law_pays := by
  refine T.d__law_pays.F.ok sc__law_pays (fun vs H Q E h => ?_) (fun cdv A outer s H vs Q E hr h => ?_)
  · obtain ⟨p, zs, rfl, _⟩ := h
    rfl
  · obtain ⟨p, zs, rfl, hp, hz, hl, k⟩ := h
    refine ⟨_, (pss_one (ps_ret (pe_callB (c_len (K := K)) (by rfl) T.b_len (by decide +kernel) (pa_cons (pe_lc (own := [("_law_change", 1)]) (g := gName 1) rfl sc__law_pays.nd (pi_list (pv 0)) (blkOk_by (own := [("_law_change", 1)]) (N := N__law_pays) (sc := defScope s__law_pays) (by decide +kernel)) (fun _ _ _ _ _ => pg_name (i := 1) sc__law_pays.nd rfl (Or.inl rfl)) (fun _ _ _ _ _ => pts_one (pt_cmpR (o_ne hr.units) (pe_ix (i_ix (K := K)) (pv 1) pe_int (fun _ _ => rfl)) pe_str (nomark _))) (fun _ _ _ _ _ => (pv 1))) pa_nil)))), ?_⟩
    walk_at "go"
    refine lc_pure (rv_list K p zs cV) (fun H' e => lst_of (e.get hp)) (by omega) (fun z => z.2.pays) cV ?_ ?_
    · intro y H' hy e B A' h3 h4
      refine ⟨rfl, ?_⟩
      obtain ⟨k2, ⟨r, hr⟩, hk2⟩ := chV_0 y.2
      have hy2 := e.get (hz y hy)
      rw [hr] at hy2
      walk_at "go"
      refine st_ixT hy2 at_c0 ?_
      walk_at "go"
      rw [← hk2]
      cases hq2 : y.2.pays with
      | true =>
        walk_at "go"
        exact h3 hq2 H' (Fr.refl _)
      | false => exact h4 hq2 H' (Fr.refl _)
    intro D H1 nD e1 vD
    walk_at "go"
    rw [List.length_map, ← List.countP_eq_length_filter]
    have h := k H1 e1
    rw [List.countP_map] at h
    exact h
def sp__law_parted : Sp := fun vs H Q _ => ∃ s : Str, vs = [.str s] ∧ s.length ≤ 1000 ∧ ∀ H', Ex H H' → Q (.str (tx (parts s.cps.toList))) H'
theorem flat_parts : ∀ l : List Nat, (l.map fun c => [46, c]).flatten = parts l
  | [] => rfl
  | a :: l => by rw [parts_cons, List.map_cons, List.flatten_cons, flat_parts l]; rfl
theorem join_parts (l : List Nat) : Txt.join "" (l.map fun c => tx [46, c]) = tx (parts l) := by
  have h := join_txs (l.map fun c => [46, c])
  rw [List.map_map, flat_parts] at h
  exact h
theorem ok__law_parted (T : Tx K mg ad fd tk base tc w) : FnOk P w K mg base CX0 1 (ad 56) (fd 56) ["_law_row_here"] sp__law_parted := by
  refine T.d__law_parted.F.ok sc__law_parted (fun vs H Q E h => ?_) (fun cdv A outer s H vs Q E hr h => ?_)
  · obtain ⟨s, rfl, _⟩ := h
    rfl
  · obtain ⟨s, rfl, hs, k⟩ := h
    refine ⟨_, (pss_one (ps_ret (pe_join pe_str (pe_lc (own := [("_law_letter_here", 1)]) (g := gName 1) rfl sc__law_parted.nd (pi_str (pv 0)) (blkOk_by (own := [("_law_letter_here", 1)]) (N := N__law_parted) (sc := defScope s__law_parted) (by decide +kernel)) (fun _ _ _ _ _ => pg_name (i := 1) sc__law_parted.nd rfl (Or.inl rfl)) (fun _ _ _ _ _ => pts_nil) (fun _ _ _ _ _ => (pe_op o_add pe_str (pv 1))))))), ?_⟩
    walk_at "go"
    refine lc_map (rv_str s) (fun _ _ => trivial) (by rw [lenStr]; omega) (fun c => V.str (tx [46, c])) ?_ ?_
    · intro c H1 hc e B h1
      refine ⟨rfl, ?_⟩
      have h1' := h1 _ (Fr.refl _)
      walk_at "go"
      refine st_addS (by rw [tx_length]; exact (by decide : 1 + 1 ≤ 16777216)) ?_
      rw [show ("." : Str) ++ tx [c] = tx [46, c] from by rw [show ("." : Str) = tx [46] from by decide +kernel, tx_append]; rfl]
      exact h1'
    intro D H1 nD e1 vD
    have vD' : H1 D = some (.lst ((s.cps.toList.map fun c => tx [46, c]).map V.str)) := by rw [vD, List.map_map]; rfl
    walk_at "go"
    refine ⟨"", D, _, rfl, rfl, .inl (lstAt_sq (lst_of vD')), ?_, ?_⟩
    · have hsum : ∀ l : List Nat, ((l.map fun c => tx [46, c]).map (·.length)).sum ≤ 2 * l.length := fun l => by
        induction l with
        | nil => exact Nat.le_refl _
        | cons a l ih => rw [List.map_cons, List.map_cons, List.sum_cons, tx_length, List.length_cons]; simp only [List.length_cons, List.length_nil]; omega
      have h := hsum s.cps.toList
      rw [lenStr] at h
      rw [List.length_map, show ("" : Str).length = 0 from rfl]
      omega
    · rw [join_parts]
      exact k H1 e1
/-- a pair lies below the end -/
theorem Lc_pair {s t : List Nat} {n m : Nat} {q : Nat × Nat} (h : q.1 < n ∧ ∃ c, s[q.1]? = some c ∧ t[q.2]? = some c) (hm : t.length ≤ m) : Lc s t q.1 q.2 < Lc s t n m := by
  obtain ⟨h1, c, h2, h3⟩ := h
  have h4 : q.2 < t.length := (List.getElem?_eq_some_iff.mp h3).1
  have e : Lc s t (q.1 + 1) (q.2 + 1) = Lc s t q.1 q.2 + 1 := by rw [Lc_ss, if_pos (by rw [h2, h3])]
  have := Lc_mono s t (i := q.1 + 1) (i' := n) (j := q.2 + 1) (j' := m) (by omega) (by omega)
  omega
/-- the pairs among qs that end a longest thread of l more -/
def lev (s t : List Nat) (qs : List (Nat × Nat)) (l : Nat) : List (Nat × Nat) := qs.filter fun q => decide (Lc s t q.1 q.2 = l)
theorem lev_snoc (s t : List Nat) (qs : List (Nat × Nat)) (q : Nat × Nat) (l : Nat) : lev s t (qs ++ [q]) l = lev s t qs l ++ (if Lc s t q.1 q.2 = l then [q] else []) := by
  unfold lev
  rw [List.filter_append]
  congr 1
  by_cases h : Lc s t q.1 q.2 = l
  · rw [if_pos h, List.filter_cons_of_pos (by simpa using h), List.filter_nil]
  · rw [if_neg h, List.filter_cons_of_neg (by simpa using h), List.filter_nil]
/-- the list at d of lists at hs of tuples at tss: these pairs, heap by heap -/
structure HeapsAt (H0 H : Hp) (d : Addr) (hs : List Addr) (tss : List (List Addr)) (n : Nat) (lv : Nat → List (Nat × Nat)) : Prop where
  new : H0 d = none
  at_ : H d = some (.lst (hs.map V.ref))
  len : tss.length = n
  rows : ObjsAt H hs (tss.map fun ts => .lst (ts.map V.ref))
  nd : hs.Nodup
  non : d ∉ hs
  news : ∀ h ∈ hs, H0 h = none
  tups : ∀ l ts, tss[l]? = some ts → ObjsAt H ts ((lv l).map tupO)
theorem HeapsAt.ex {H0 H H' : Hp} {d : Addr} {hs : List Addr} {tss : List (List Addr)} {n : Nat} {lv : Nat → List (Nat × Nat)} (h : HeapsAt H0 H d hs tss n lv) (e : Ex H H') : HeapsAt H0 H' d hs tss n lv :=
  ⟨h.new, e.get h.at_, h.len, h.rows.ex e, h.nd, h.non, h.news, fun l ts h1 => (h.tups l ts h1).ex e⟩
/-- one more pair, q, as the tuple at T, into its heap -/
theorem HeapsAt.put {H0 H : Hp} {d : Addr} {hs : List Addr} {tss : List (List Addr)} {n : Nat} {s t : List Nat} {qs : List (Nat × Nat)} {q : Nat × Nat} {T r : Addr} {ts : List Addr} (h : HeapsAt H0 H d hs tss n (lev s t qs)) (hT : H T = some (tupO q)) (hr : hs[Lc s t q.1 q.2]? = some r) (hts : tss[Lc s t q.1 q.2]? = some ts) :
    HeapsAt H0 (upd H r (.lst (ts.map V.ref ++ [V.ref T]))) d hs (tss.set (Lc s t q.1 q.2) (ts ++ [T])) n (lev s t (qs ++ [q])) := by
  have hrm := List.mem_of_getElem? hr
  have hrd : d ≠ r := fun z => h.non (z ▸ hrm)
  have hrr := h.rows.at _ _ _ hr (by rw [List.getElem?_map, hts]; rfl)
  have hTr : T ≠ r := fun z => by
    rw [z, hrr] at hT
    cases hT
  refine ⟨h.new, by rw [upd_ne hrd]; exact h.at_, by rw [List.length_set]; exact h.len, ?_, h.nd, h.non, h.news, ?_⟩
  · have := h.rows.set (u := .lst (ts.map V.ref ++ [V.ref T])) h.nd hr
    rw [List.map_set, List.map_append]
    exact this
  · intro l us hl
    rw [lev_snoc, List.map_append]
    by_cases e : l = Lc s t q.1 q.2
    · subst e
      rw [List.getElem?_set_self (List.getElem?_eq_some_iff.mp hts).1] at hl
      cases hl
      rw [if_pos rfl]
      refine ObjsAt.app (.up (objs_ntup (h.tups _ _ hts) hrr) (h.tups _ _ hts)) (.one ?_)
      rw [upd_ne hTr]
      exact hT
    · rw [List.getElem?_set_ne (Ne.symm e)] at hl
      rw [if_neg (Ne.symm e), List.map_nil, List.append_nil]
      exact .up (objs_ntup (h.tups _ _ hl) hrr) (h.tups _ _ hl)
theorem HeapsAt.mut {H0 H H' : Hp} {d : Addr} {hs : List Addr} {tss : List (List Addr)} {n : Nat} {lv : Nat → List (Nat × Nat)} (h : HeapsAt H0 H d hs tss n lv) (e : Ex H0 H') {r : Addr} {o : HO} (hr : r ∈ hs) : Ex H0 (upd H' r o) := e.mut (h.news r hr)
theorem pairwise_all {α : Type} {R : α → α → Prop} {l : List α} (h : ∀ a ∈ l, ∀ b ∈ l, R a b) : l.Pairwise R := by
  induction l with
  | nil => exact .nil
  | cons a l ih => exact .cons (fun b hb => h a List.mem_cons_self b (List.mem_cons_of_mem _ hb)) (ih fun x hx y hy => h x (List.mem_cons_of_mem _ hx) y (List.mem_cons_of_mem _ hy))
/-- each level has a pair -/
theorem lev_ex (s t : List Nat) : ∀ k n m l, n + m ≤ k → n ≤ s.length → m ≤ t.length → l < Lc s t n m → ∃ q : Nat × Nat, (q.1 < n ∧ ∃ c, s[q.1]? = some c ∧ t[q.2]? = some c) ∧ Lc s t q.1 q.2 = l
  | _, 0, m, l, _, _, _, h => by rw [Lc_i0] at h; omega
  | _, n + 1, 0, l, _, _, _, h => by rw [Lc_j0] at h; omega
  | 0, n + 1, m + 1, l, h, _, _, _ => by omega
  | k + 1, n + 1, m + 1, l, h, hn, hm, hl => by
    rw [Lc_ss] at hl
    by_cases e : s[n]? = t[m]?
    · rw [if_pos e] at hl
      obtain ⟨c, hc⟩ : ∃ c, s[n]? = some c := ⟨s[n]'(by omega), List.getElem?_eq_getElem _⟩
      by_cases h0 : l = Lc s t n m
      · exact ⟨(n, m), ⟨Nat.lt_succ_self n, c, hc, by rw [← e]; exact hc⟩, h0.symm⟩
      · obtain ⟨q, ⟨a, b⟩, d⟩ := lev_ex s t k n m l (by omega) (by omega) (by omega) (by omega)
        exact ⟨q, ⟨by omega, b⟩, d⟩
    · rw [if_neg e] at hl
      rcases Nat.lt_or_ge l (Lc s t n (m + 1)) with z | z
      · obtain ⟨q, ⟨a, b⟩, d⟩ := lev_ex s t k n (m + 1) l (by omega) (by omega) (by omega) z
        exact ⟨q, ⟨by omega, b⟩, d⟩
      · obtain ⟨q, ⟨a, b⟩, d⟩ := lev_ex s t k (n + 1) m l (by omega) (by omega) (by omega) (by omega)
        exact ⟨q, ⟨by omega, b⟩, d⟩
theorem lev_anti {s t : List Nat} {n l : Nat} : AntiQ (lev s t (prs s t n) l) := by
  have ah : ∀ a b : Nat × Nat, a ∈ lev s t (prs s t n) l → b ∈ lev s t (prs s t n) l → ¬ ahP a b := fun a b ha hb h => by
    obtain ⟨a1, a2⟩ := List.mem_filter.mp ha
    obtain ⟨b1, b2⟩ := List.mem_filter.mp hb
    have a2 := of_decide_eq_true a2
    have b2 := of_decide_eq_true b2
    obtain ⟨_, c, c1, c2⟩ := prs_mem.mp a1
    have e : Lc s t (a.1 + 1) (a.2 + 1) = Lc s t a.1 a.2 + 1 := by rw [Lc_ss, if_pos (by rw [c1, c2])]
    unfold ahP at h
    have := Lc_mono s t (i := a.1 + 1) (i' := b.1) (j := a.2 + 1) (j' := b.2) (by omega) (by omega)
    omega
  exact pairwise_all fun a ha b hb c => c.elim (ah a b ha hb) (ah b a hb ha)
theorem filter_or_perm {α : Type} (p q : α → Bool) : ∀ l : List α, (∀ x ∈ l, p x = true → q x = false) → (l.filter p ++ l.filter q).Perm (l.filter fun x => p x || q x)
  | [], _ => .nil
  | a :: l, h => by
    have ih := filter_or_perm p q l fun x hx => h x (List.mem_cons_of_mem _ hx)
    by_cases hp : p a = true
    · have hq := h a List.mem_cons_self hp
      rw [List.filter_cons_of_pos hp, List.filter_cons_of_neg (by rw [hq]; decide), List.filter_cons_of_pos (by rw [hp]; rfl)]
      exact ih.cons a
    · by_cases hq : q a = true
      · rw [List.filter_cons_of_neg hp, List.filter_cons_of_pos hq, List.filter_cons_of_pos (by rw [hq]; simp)]
        exact List.perm_middle.trans (ih.cons a)
      · rw [List.filter_cons_of_neg hp, List.filter_cons_of_neg hq, List.filter_cons_of_neg (by simp [hp, hq])]
        exact ih
theorem lev_flat (s t : List Nat) (qs : List (Nat × Nat)) : ∀ M, ((List.range M).map (lev s t qs)).flatten.Perm (qs.filter fun q => decide (Lc s t q.1 q.2 < M))
  | 0 => by
    have : (qs.filter fun q => decide (Lc s t q.1 q.2 < 0)) = [] := by rw [List.filter_eq_nil_iff]; intro a _; simp
    rw [this]
    exact .nil
  | M + 1 => by
    rw [List.range_succ, List.map_append, List.flatten_append]
    have h1 := (lev_flat s t qs M).append_right ([M].map (lev s t qs)).flatten
    refine h1.trans ?_
    have e : ([M].map (lev s t qs)).flatten = qs.filter fun q => decide (Lc s t q.1 q.2 = M) := by simp [lev]
    rw [e]
    refine (filter_or_perm _ _ qs fun x _ h => ?_).trans ?_
    · have := of_decide_eq_true h
      exact decide_eq_false (by omega)
    · have e2 : (fun q : Nat × Nat => decide (Lc s t q.1 q.2 < M) || decide (Lc s t q.1 q.2 = M)) = fun q => decide (Lc s t q.1 q.2 < M + 1) := by
        funext q
        rw [Bool.eq_iff_iff]
        simp
        omega
      rw [e2]
theorem lev_perm {s t : List Nat} : ((List.range (Lc s t s.length t.length)).map (lev s t (prs s t s.length))).flatten.Perm (prs s t s.length) := by
  have h := lev_flat s t (prs s t s.length) (Lc s t s.length t.length)
  rwa [List.filter_eq_self.mpr fun q hq => decide_eq_true (Lc_pair (prs_mem.mp hq) (Nat.le_refl _))] at h
theorem lev_nonempty {s t : List Nat} {l : Nat} (h : l < Lc s t s.length t.length) : lev s t (prs s t s.length) l ≠ [] := by
  obtain ⟨q, h1, h2⟩ := lev_ex s t _ s.length t.length l (Nat.le_refl _) (Nat.le_refl _) (Nat.le_refl _) h
  intro z
  have : q ∈ lev s t (prs s t s.length) l := List.mem_filter.mpr ⟨prs_mem.mpr h1, decide_eq_true h2⟩
  rw [z] at this
  cases this
/-- the levels as lists of pairs -/
theorem lev_hp {H0 H : Hp} {s t : Str} {d : Addr} {hs : List Addr} {tss : List (List Addr)} (hs1 : RowS s) (ht1 : RowS t) (h : HeapsAt H0 H d hs tss (Lc s.cps.toList t.cps.toList s.length t.length) (lev s.cps.toList t.cps.toList (prs s.cps.toList t.cps.toList s.length))) :
    ∃ gs : List HZ, gs.map hV = hs.map V.ref ∧ gs.map (·.1) = hs ∧ gs.map (fun g => g.2.map (·.2)) = (List.range (Lc s.cps.toList t.cps.toList s.length t.length)).map (lev s.cps.toList t.cps.toList (prs s.cps.toList t.cps.toList s.length)) ∧ HP H gs ∧ gs.length ≤ 48 ∧ ∀ g ∈ gs, g.2.length ≤ 2304 := by
  have hl := h.rows.len
  rw [List.length_map, h.len] at hl
  have l1 := hs1.len
  have l2 := ht1.len2
  have l3 := ht1.len
  have hsl : s.cps.toList.length = s.length := Array.length_toList
  have htl : t.cps.toList.length = t.length := Array.length_toList
  generalize hM : Lc s.cps.toList t.cps.toList s.length t.length = M at *
  have hM48 : M ≤ 48 := by rw [← hM]; have := Lc_le s.cps.toList t.cps.toList s.length t.length; omega
  generalize hLV : lev s.cps.toList t.cps.toList (prs s.cps.toList t.cps.toList s.length) = LV at *
  have hfew : ∀ l, (LV l).length ≤ 2304 := fun l => by
    rw [← hLV]
    exact Nat.le_trans (List.length_filter_le _ _) (Nat.le_trans (prs_len _ _ _) (Nat.mul_le_mul l1 l2))
  have hsm : ∀ l, ∀ q ∈ LV l, q.1 ≤ 1000 ∧ q.2 ≤ 1000 := fun l q hq => by
    rw [← hLV] at hq
    obtain ⟨h1, _⟩ := List.mem_filter.mp hq
    obtain ⟨a, c, b1, b2⟩ := prs_mem.mp h1
    have := (List.getElem?_eq_some_iff.mp b2).1
    omega
  have one : ∀ l, l < M → ∃ g : HZ, hs[l]? = some g.1 ∧ H g.1 = some (.lst (g.2.map zV)) ∧ SP H g.2 ∧ g.2.map (·.2) = LV l := fun l hlM => by
    obtain ⟨a, ha⟩ : ∃ a, hs[l]? = some a := ⟨hs[l]'(by omega), List.getElem?_eq_getElem _⟩
    obtain ⟨ts, hts⟩ : ∃ ts, tss[l]? = some ts := ⟨tss[l]'(by rw [h.len]; omega), List.getElem?_eq_getElem _⟩
    have h1 := h.rows.at l _ _ ha (by rw [List.getElem?_map, hts]; rfl)
    have h2 := h.tups l ts hts
    have h3 := h2.len
    rw [List.length_map] at h3
    have hgS : (ts.zip (LV l)).map (·.2) = LV l := List.map_snd_zip (by omega)
    refine ⟨(a, ts.zip (LV l)), ha, ?_, ⟨fun g hg => ?_, ?_, fun z hz => ?_⟩, hgS⟩
    · have : (ts.zip (LV l)).map Prod.fst = ts := List.map_fst_zip (by omega)
      rw [show (zV : ZP → V) = V.ref ∘ Prod.fst from rfl, ← List.map_map, this]
      exact h1
    · obtain ⟨j, hj⟩ := List.getElem?_of_mem hg
      rw [List.getElem?_zip_eq_some] at hj
      exact h2.at j _ _ hj.1 (by rw [List.getElem?_map, hj.2]; rfl)
    · have := congrArg List.length hgS
      rw [List.length_map] at this
      rw [this]
      exact Nat.le_succ_of_le (hfew l)
    · exact hsm l z.2 (by rw [← hgS]; exact List.mem_map.mpr ⟨z, hz, rfl⟩)
  obtain ⟨f, hf⟩ : ∃ f : Nat → HZ, ∀ l, l < M → hs[l]? = some (f l).1 ∧ H (f l).1 = some (.lst ((f l).2.map zV)) ∧ SP H (f l).2 ∧ (f l).2.map (·.2) = LV l :=
    ⟨fun l => if h : l < M then (one l h).choose else (0, []), fun l h => by simp only [h, dif_pos]; exact (one l h).choose_spec⟩
  have e1 : ((List.range M).map f).map (·.1) = hs := by
    apply List.ext_getElem?
    intro j
    rw [List.map_map, List.getElem?_map]
    by_cases hj : j < M
    · rw [List.getElem?_range hj, (hf j hj).1]; rfl
    · rw [List.getElem?_eq_none (by rw [List.length_range]; omega), List.getElem?_eq_none (by omega)]; rfl
  refine ⟨(List.range M).map f, ?_, e1, ?_, ?_, by rw [List.length_map, List.length_range]; exact hM48, ?_⟩
  · rw [← e1, List.map_map, List.map_map, List.map_map]; rfl
  · rw [List.map_map]
    exact List.map_congr_left fun l hl' => (hf l (List.mem_range.mp hl')).2.2.2
  · intro g hg
    obtain ⟨l, hl', rfl⟩ := List.mem_map.mp hg
    have := hf l (List.mem_range.mp hl')
    exact ⟨this.2.1, this.2.2.1⟩
  · intro g hg
    obtain ⟨l, hl', rfl⟩ := List.mem_map.mp hg
    have := congrArg List.length (hf l (List.mem_range.mp hl')).2.2.2
    rw [List.length_map] at this
    rw [this]
    exact hfew l
theorem HeapsAt.grow {H0 H : Hp} {d : Addr} {hs : List Addr} {tss : List (List Addr)} {n : Nat} {lv : Nat → List (Nat × Nat)} {r : Addr} (h : HeapsAt H0 H d hs tss n lv) (hr : H r = some (.lst [])) (hn : H0 r = none) (hd : d ≠ r) (hnr : r ∉ hs) (he : lv n = []) :
    HeapsAt H0 (upd H d (.lst (hs.map V.ref ++ [.ref r]))) d (hs ++ [r]) (tss ++ [[]]) (n + 1) lv := by
  have hat := h.at_
  refine ⟨h.new, by rw [upd_same, List.map_append]; rfl, by rw [List.length_append, h.len]; rfl, ?_, ?_, ?_, ?_, ?_⟩
  · rw [List.map_append]
    refine ObjsAt.app (h.rows.up h.non) (.one ?_)
    rw [upd_ne hd.symm]
    exact hr
  · rw [List.nodup_append]
    exact ⟨h.nd, by simp, fun a ha b hb => by rw [List.mem_singleton.mp hb]; exact fun z => hnr (z ▸ ha)⟩
  · rw [List.mem_append, List.mem_singleton]
    rintro (z | z)
    · exact h.non z
    · exact hd z
  · intro x hx
    rcases List.mem_append.mp hx with z | z
    · exact h.news x z
    · rw [List.mem_singleton.mp z]; exact hn
  · intro l ts hl
    by_cases c : l < tss.length
    · rw [List.getElem?_append_left c] at hl
      exact .up (objs_ntup (h.tups _ _ hl) hat) (h.tups _ _ hl)
    · rw [List.getElem?_append_right (by omega)] at hl
      have : l - tss.length = 0 := by
        by_cases z : l - tss.length = 0
        · exact z
        · rw [List.getElem?_eq_none (by simp; omega)] at hl; cases hl
      rw [this] at hl
      cases hl
      rw [show l = n by have := h.len; omega, he]
      exact .nil
/-- another list is changed -/
theorem HeapsAt.aside {H0 H : Hp} {d b : Addr} {hs : List Addr} {tss : List (List Addr)} {n : Nat} {lv : Nat → List (Nat × Nat)} {xs : List V} {o : HO} (h : HeapsAt H0 H d hs tss n lv) (hb : H b = some (.lst xs)) (hd : d ≠ b) (hn : b ∉ hs) : HeapsAt H0 (upd H b o) d hs tss n lv :=
  ⟨h.new, by rw [upd_ne hd]; exact h.at_, h.len, h.rows.up hn, h.nd, h.non, h.news, fun l ts hl => .up (objs_ntup (h.tups _ _ hl) hb) (h.tups _ _ hl)⟩
theorem HeapsAt.mem_lst {H0 H : Hp} {d : Addr} {hs : List Addr} {tss : List (List Addr)} {n : Nat} {lv : Nat → List (Nat × Nat)} (h : HeapsAt H0 H d hs tss n lv) {r : Addr} (hr : r ∈ hs) : ∃ ts : List Addr, H r = some (.lst (ts.map V.ref)) := by
  obtain ⟨i, hi⟩ := List.getElem?_of_mem hr
  have hl := h.rows.len
  have := (List.getElem?_eq_some_iff.mp hi).1
  rw [List.length_map] at hl
  exact ⟨_, h.rows.at i r _ hi (by rw [List.getElem?_map, List.getElem?_eq_getElem (by omega)]; rfl)⟩
/-- the pairs of one sign with the first ones of a row -/
theorem prRow_take {s t : List Nat} {i j c : Nat} (hi : s[i]? = some c) (hj : j < t.length) : prRow s (t.take (j + 1)) i = prRow s (t.take j) i ++ (if t[j]? = some c then [(i, j)] else []) := by
  unfold prRow
  rw [hi, List.take_succ, List.getElem?_eq_getElem hj]
  show (posOf c (t.take j ++ [t[j]])).map _ = _
  rw [posOf_snoc, List.map_append, List.length_take, Nat.min_eq_left (by omega)]
  congr 1
  by_cases h : t[j] = c
  · rw [if_pos h, if_pos (by rw [h])]
    rfl
  · rw [if_neg h, if_neg (fun z => h (Option.some.inj z))]
    rfl
theorem prRow_full {s t : List Nat} {i : Nat} {c : Nat} (hi : s[i]? = some c) : prRow s (t.take t.length) i = prRow s t i := by rw [List.take_length]
theorem prRow_0 {s t : List Nat} {i : Nat} : prRow s (t.take 0) i = [] := by
  unfold prRow
  cases s[i]? <;> rfl
/-- no pair so far stands as high -/
theorem lev_none {s t : List Nat} {qs : List (Nat × Nat)} {M : Nat} (h : ∀ q ∈ qs, Lc s t q.1 q.2 < M) : lev s t qs M = [] := by
  unfold lev
  rw [List.filter_eq_nil_iff]
  intro q hq z
  have := h q hq
  have := of_decide_eq_true z
  omega
/-- how many heaps there are behind so many pairs -/
def lvM (s t : List Nat) (i j : Nat) : Nat := max (Lc s t i t.length) (Lc s t (i + 1) j)
theorem lvM_0 (s t : List Nat) (i : Nat) : lvM s t i 0 = Lc s t i t.length := by unfold lvM; rw [Lc_j0]; omega
theorem lvM_m (s t : List Nat) (i : Nat) : lvM s t i t.length = Lc s t (i + 1) t.length := by
  have := Lc_up s t i t.length
  unfold lvM
  omega
theorem lvM_low {s t : List Nat} {i j : Nat} (hj : j < t.length) {q : Nat × Nat} (h : q ∈ prs s t i ++ prRow s (t.take j) i) : Lc s t q.1 q.2 < lvM s t i j := by
  unfold lvM
  rcases List.mem_append.mp h with h | h
  · have := Lc_pair (m := t.length) (prs_mem.mp h) (Nat.le_refl _)
    omega
  · have hq : q.1 = i ∧ q.2 < j ∧ ∃ c, s[i]? = some c ∧ t[q.2]? = some c := by
      unfold prRow at h
      cases hc : s[i]? with
      | none => rw [hc] at h; cases h
      | some c =>
        rw [hc] at h
        obtain ⟨p, hp, rfl⟩ := List.mem_map.mp h
        have hp := posOf_mem.mp hp
        have hp1 := (List.getElem?_eq_some_iff.mp hp).1
        rw [List.length_take] at hp1
        rw [List.getElem?_take, if_pos (by omega)] at hp
        exact ⟨rfl, by omega, c, rfl, hp⟩
    obtain ⟨h1, h2, c, h3, h4⟩ := hq
    have e : Lc s t (q.1 + 1) (q.2 + 1) = Lc s t q.1 q.2 + 1 := by rw [Lc_ss, if_pos (by rw [h1, h3, h4])]
    have := Lc_mono s t (i := q.1 + 1) (i' := i + 1) (j := q.2 + 1) (j' := j) (by omega) (by omega)
    omega
theorem lvM_eq {s t : List Nat} {i j : Nat} (hj : j < t.length) (h : s[i]? = t[j]?) : Lc s t i j ≤ lvM s t i j ∧ lvM s t i (j + 1) = if Lc s t i j = lvM s t i j then lvM s t i j + 1 else lvM s t i j := by
  have h1 : Lc s t (i + 1) (j + 1) = Lc s t i j + 1 := by rw [Lc_ss, if_pos h]
  have h2 := Lc_mono s t (i := i) (i' := i) (j := j) (j' := t.length) (Nat.le_refl _) (by omega)
  have h3 := Lc_ri s t (i + 1) j
  unfold lvM
  split <;> omega
theorem lvM_ne {s t : List Nat} {i j : Nat} (hj : j < t.length) (h : s[i]? ≠ t[j]?) : lvM s t i (j + 1) = lvM s t i j := by
  have h1 : Lc s t (i + 1) (j + 1) = max (Lc s t i (j + 1)) (Lc s t (i + 1) j) := by rw [Lc_ss, if_neg h]
  have h2 := Lc_mono s t (i := i) (i' := i) (j := j + 1) (j' := t.length) (Nat.le_refl _) (by omega)
  unfold lvM
  omega
def sp__law_heaps : Sp := fun vs H Q _ => ∃ s t, vs = [.str s, .str t] ∧ s.length ≤ 48 ∧ t.length ≤ 48 ∧ ∀ d hs tss H', Ex H H' → HeapsAt H H' d hs tss (Lc s.cps.toList t.cps.toList s.length t.length) (lev s.cps.toList t.cps.toList (prs s.cps.toList t.cps.toList s.length)) → Q (.ref d) H'
theorem ok__law_heaps (T : Tx K mg ad fd tk base tc w) : FnOk P w K mg base CX0 1 (ad 57) (fd 57) ["_law_side", "_law_top"] sp__law_heaps := by
  refine T.d__law_heaps.F.ok sc__law_heaps (fun vs H Q E h => ?_) (fun cdv A outer s H vs Q E hr h => ?_)
  · obtain ⟨s, t, rfl, _⟩ := h
    rfl
  · obtain ⟨s, t, rfl, hs1, ht1, k⟩ := h
    refine ⟨_, (pss_cons (ps_set (i := 2) sc__law_heaps.nd rfl (Or.inl rfl) (pe_lst pa_nil))
      (pss_cons (ps_set (i := 3) sc__law_heaps.nd rfl (Or.inl rfl) (pe_op o_mul (pe_lst (pa_cons pe_int pa_nil)) (pe_op o_add (pe_callB (c_len (K := K)) (by rfl) T.b_len (by decide +kernel) (pa_cons (pv 1) pa_nil)) pe_int)))
      (pss_cons (ps_for PassesOwn.never rfl (pi_range1 rfl T.b_range (pa_cons (pe_callB (c_len (K := K)) (by rfl) T.b_len (by decide +kernel) (pa_cons (pv 0) pa_nil)) pa_nil)) (pg_name (i := 4) sc__law_heaps.nd rfl (Or.inl rfl)) (pss_cons (ps_set (i := 5) sc__law_heaps.nd rfl (Or.inl rfl) (pe_lst (pa_cons pe_int pa_nil)))
      (pss_cons (ps_for PassesOwn.never rfl (pi_range1 rfl T.b_range (pa_cons (pe_callB (c_len (K := K)) (by rfl) T.b_len (by decide +kernel) (pa_cons (pv 1) pa_nil)) pa_nil)) (pg_name (i := 6) sc__law_heaps.nd rfl (Or.inl rfl)) (pss_cons (ps_expr (pe_bm PySem.F.plainAttrs_list PySem.F.slot_list_append PySem.F.type_list_append mt_append (pv 5) (pa_cons (pe_callB (c_max rfl) (by rfl) T.b_max (by decide +kernel) (pa_cons (pe_ix (i_ix (K := K)) (pv 3) (pe_op o_add (pv 6) pe_int) (fun _ _ => rfl)) (pa_cons (pe_ix (i_ix (K := K)) (pv 5) (pv 6) (fun _ _ => rfl)) pa_nil))) pa_nil)))
      (pss_one (ps_if (pt_cmpR (o_eq hr.units) (pe_ix (i_ix (K := K)) (pv 0) (pv 4) (fun _ _ => rfl)) (pe_ix (i_ix (K := K)) (pv 1) (pv 6) (fun _ _ => rfl)) (nomark _)) (pss_cons (ps_asg (pe_op o_add (pe_ix (i_ix (K := K)) (pv 3) (pv 6) (fun _ _ => rfl)) pe_int) (pg_sub (pv 5) (pe_op o_add (pv 6) pe_int) set_list))
      (pss_cut (ps_if (pt_cmpR (o_eq hr.units) (pe_ix (i_ix (K := K)) (pv 3) (pv 6) (fun _ _ => rfl)) (pe_callB (c_len (K := K)) (by rfl) T.b_len (by decide +kernel) (pa_cons (pv 2) pa_nil)) (nomark _)) (pss_one (ps_expr (pe_bm PySem.F.plainAttrs_list PySem.F.slot_list_append PySem.F.type_list_append mt_append (pv 2) (pa_cons (pe_lst pa_nil) pa_nil)))) pss_nil)
      (pss_one (ps_expr (pe_bm PySem.F.plainAttrs_list PySem.F.slot_list_append PySem.F.type_list_append mt_append (pe_ix (i_ix (K := K)) (pv 2) (pe_ix (i_ix (K := K)) (pv 3) (pv 6) (fun _ _ => rfl)) (fun _ _ => rfl)) (pa_cons (pe_tup (pa_cons (pv 4) (pa_cons (pv 6) pa_nil))) pa_nil)))))) pss_nil))))
      (pss_one (ps_set (i := 3) sc__law_heaps.nd rfl (Or.inl rfl) (pv 5))))))
      (pss_one (ps_ret (pv 2)))))), ?_⟩
    have hsl : s.cps.toList.length = s.length := Array.length_toList
    have htl : t.cps.toList.length = t.length := Array.length_toList
    have hpl : ∀ n ≤ s.length, (prs s.cps.toList t.cps.toList n).length ≤ 48 * 48 := fun n hn => Nat.le_trans (prs_len _ _ _) (Nat.mul_le_mul (by omega) (by omega))
    walk_at "go"
    rename_i F H1 n1 e1 v1 R0' H2' n2' e2' v2' R0 H2 n2 e2 v2
    have e12 := e1.trans (e2'.trans e2)
    have v1' := (e2'.trans e2).get v1
    have FR : F ≠ R0 := ne_of_none (e2'.get v1) n2
    have v2'' : H2 R0 = some (.lst (lcRow s.cps.toList t.cps.toList (t.length + 1) 0)) := by
      rw [v2, lcRow_zero, show ((t.length : Int) + 1).toNat = t.length + 1 by omega]
    have HA0 : HeapsAt H H2 F [] [] (Lc s.cps.toList t.cps.toList 0 t.length) (lev s.cps.toList t.cps.toList (prs s.cps.toList t.cps.toList 0)) := ⟨n1, v1', by rw [Lc_i0]; rfl, .nil, List.nodup_nil, List.not_mem_nil, (fun _ h => nomatch h), fun l ts h => by cases h⟩
    refine for_runs (runs_range 0 _) (fun i σ H' => Ex H H' ∧ (∃ (R : Addr) (hs : List Addr) (tss : List (List Addr)), H' R = some (.lst (lcRow s.cps.toList t.cps.toList (t.length + 1) i)) ∧ F ≠ R ∧ R ∉ hs ∧ HeapsAt H H' F hs tss (Lc s.cps.toList t.cps.toList i t.length) (lev s.cps.toList t.cps.toList (prs s.cps.toList t.cps.toList i)) ∧ ∃ y4 y5 y6, σ = [some (.str s), some (.str t), some (.ref F), some (.ref R), y4, y5, y6])) ⟨e12, R0, [], [], v2'', FR, List.not_mem_nil, HA0, _, _, _, rfl⟩ (fun _ _ _ _ _ => trivial) ?_ ?_
    · rintro i x σ H3 H4 hi ⟨e3, R, hs, tss, vR, FR, nR, HA, y4, y5, y6, rfl⟩ ⟨rfl, rfl⟩
      rw [Int.toNat_natCast] at hi
      obtain ⟨c, hc⟩ : ∃ c, s.cps.toList[i]? = some c := ⟨_, List.getElem?_eq_getElem (by omega)⟩
      walk_at "go"
      rename_i B H5 nB eB vB
      have FB : F ≠ B := ne_of_none HA.at_ nB
      have RB : R ≠ B := ne_of_none vR nB
      have nBh : B ∉ hs := fun z => by
        obtain ⟨ts, h⟩ := HA.mem_lst z
        rw [nB] at h; cases h
      have HA5 := HA.ex eB
      rw [← htl, ← lvM_0 s.cps.toList t.cps.toList i, ← List.append_nil (prs s.cps.toList t.cps.toList i), ← prRow_0 (s := s.cps.toList) (t := t.cps.toList) (i := i)] at HA5
      have vB' : H5 B = some (.lst (lcRow s.cps.toList t.cps.toList (0 + 1) (i + 1))) := by
        rw [vB]
        show _ = some (HO.lst [V.int ((Lc _ _ (i + 1) 0 : Nat) : Int)])
        rw [Lc_j0]
        rfl
      have nB0 : H B = none := Ex.free e3 nB
      rw [Int.toNat_natCast]
      refine for_runs (runs_range 0 _) (fun j σ H' => Ex H H' ∧ H' R = some (.lst (lcRow s.cps.toList t.cps.toList (t.length + 1) i)) ∧ H' B = some (.lst (lcRow s.cps.toList t.cps.toList (j + 1) (i + 1))) ∧ (∃ (hs : List Addr) (tss : List (List Addr)), R ∉ hs ∧ B ∉ hs ∧ HeapsAt H H' F hs tss (lvM s.cps.toList t.cps.toList i j) (lev s.cps.toList t.cps.toList (prs s.cps.toList t.cps.toList i ++ prRow s.cps.toList (t.cps.toList.take j) i))) ∧ ∃ y6, σ = [some (.str s), some (.str t), some (.ref F), some (.ref R), some (.int (i : Nat)), some (.ref B), y6]) ⟨e3.trans eB, eB.get vR, vB', ⟨hs, tss, nR, nBh, HA5⟩, _, by rw [Int.zero_add]; rfl⟩ (fun _ _ _ _ _ => trivial) ?_ ?_
      · rintro j x σ H6 H7 hj ⟨e6, vR, vB, ⟨hs, tss, nR, nBh, HA⟩, y6, rfl⟩ ⟨rfl, rfl⟩
        obtain ⟨b, hb⟩ : ∃ b, t.cps.toList[j]? = some b := ⟨_, List.getElem?_eq_getElem (by omega)⟩
        have hj2 : j < t.cps.toList.length := by omega
        walk_at "go"
        rw [Int.zero_add]
        refine st_ixL vR (lcRow_atI (j := j + 1) (by omega)) ?_
        walk_at "go"
        refine st_ixL vB (lcRow_atI (j := j) (by omega)) ?_
        walk_at "go"
        refine st_app vB (by rw [lcRow_len]; omega) ?_
        have mx : ∀ x y : Int, (if y > x then y else x) = max x y := fun x y => by split <;> omega
        rw [mx]
        have FB' : F ≠ B := FB
        have e7 : Ex H (upd H7 B (.lst (lcRow s.cps.toList t.cps.toList (j + 1) (i + 1) ++ [V.int (max ((Lc s.cps.toList t.cps.toList i (j + 1) : Nat) : Int) ((Lc s.cps.toList t.cps.toList (i + 1) j : Nat) : Int))]))) := e6.mut nB0
        have vR7 : upd H7 B (.lst (lcRow s.cps.toList t.cps.toList (j + 1) (i + 1) ++ [V.int (max ((Lc s.cps.toList t.cps.toList i (j + 1) : Nat) : Int) ((Lc s.cps.toList t.cps.toList (i + 1) j : Nat) : Int))])) R = some (.lst (lcRow s.cps.toList t.cps.toList (t.length + 1) i)) := by rw [upd_ne RB]; exact vR
        have vB7 : upd H7 B (.lst (lcRow s.cps.toList t.cps.toList (j + 1) (i + 1) ++ [V.int (max ((Lc s.cps.toList t.cps.toList i (j + 1) : Nat) : Int) ((Lc s.cps.toList t.cps.toList (i + 1) j : Nat) : Int))])) B = some (.lst (lcRow s.cps.toList t.cps.toList (j + 1) (i + 1) ++ [V.int (max ((Lc s.cps.toList t.cps.toList i (j + 1) : Nat) : Int) ((Lc s.cps.toList t.cps.toList (i + 1) j : Nat) : Int))])) := upd_same
        have HA7 := HA.aside (o := .lst (lcRow s.cps.toList t.cps.toList (j + 1) (i + 1) ++ [V.int (max ((Lc s.cps.toList t.cps.toList i (j + 1) : Nat) : Int) ((Lc s.cps.toList t.cps.toList (i + 1) j : Nat) : Int))])) vB FB nBh
        generalize upd H7 B (.lst (lcRow s.cps.toList t.cps.toList (j + 1) (i + 1) ++ [V.int (max ((Lc s.cps.toList t.cps.toList i (j + 1) : Nat) : Int) ((Lc s.cps.toList t.cps.toList (i + 1) j : Nat) : Int))])) = H8 at e7 vR7 vB7 HA7 ⊢
        walk_at "go"
        refine st_sign (by omega) (at_nat hc) ?_
        walk_at "go"
        refine st_sign (by omega) (at_nat hb) ?_
        walk_at "go"
        refine st_br2 (fun cc => ?_) (fun cc => ?_)
        rotate_left
        · have hne : s.cps.toList[i]? ≠ t.cps.toList[j]? := fun z => cc (by rw [hc, hb] at z; rw [Option.some.inj z])
          walk_at "go"
          refine ⟨e7, vR7, ?_, ⟨hs, tss, nR, nBh, ?_⟩, _, rfl⟩
          · rw [vB7, lcRow_more s.cps.toList t.cps.toList (j + 1), Lc_ss, if_neg hne]
            refine congrArg (fun z => some (HO.lst (_ ++ [V.int z]))) ?_
            omega
          · rw [lvM_ne hj2 hne, prRow_take hc hj2, if_neg (fun z => hne (by rw [hc, z])), List.append_nil]
            exact HA7
        have heq : s.cps.toList[i]? = t.cps.toList[j]? := by
          rw [tx_inj] at cc
          rw [hc, hb, show c = b by simpa using cc]
        obtain ⟨q1, q2⟩ := lvM_eq hj2 heq
        walk_at "go"
        refine st_ixL vR7 (lcRow_atI (j := j) (by omega)) ?_
        walk_at "go"
        refine st_setL vB7 (Evl.ixN_nat (j := j + 1) (by rw [List.length_append, lcRow_len]; simp)) ?_
        have lset : (lcRow s.cps.toList t.cps.toList (j + 1) (i + 1) ++ [V.int (max ((Lc s.cps.toList t.cps.toList i (j + 1) : Nat) : Int) ((Lc s.cps.toList t.cps.toList (i + 1) j : Nat) : Int))]).set (j + 1) (V.int (((Lc s.cps.toList t.cps.toList i j : Nat) : Int) + 1)) = lcRow s.cps.toList t.cps.toList (j + 1 + 1) (i + 1) := by
          rw [List.set_append_right _ _ (by rw [lcRow_len]; exact Nat.le_refl _), lcRow_len, Nat.sub_self, lcRow_more s.cps.toList t.cps.toList (j + 1), Lc_ss, if_pos heq]
          rfl
        rw [lset]
        have e8 : Ex H (upd H8 B (.lst (lcRow s.cps.toList t.cps.toList (j + 1 + 1) (i + 1)))) := e7.mut nB0
        have vR8 : upd H8 B (.lst (lcRow s.cps.toList t.cps.toList (j + 1 + 1) (i + 1))) R = some (.lst (lcRow s.cps.toList t.cps.toList (t.length + 1) i)) := by rw [upd_ne RB]; exact vR7
        have vB8 : upd H8 B (.lst (lcRow s.cps.toList t.cps.toList (j + 1 + 1) (i + 1))) B = some (.lst (lcRow s.cps.toList t.cps.toList (j + 1 + 1) (i + 1))) := upd_same
        have HA8 := HA7.aside (o := .lst (lcRow s.cps.toList t.cps.toList (j + 1 + 1) (i + 1))) vB7 FB nBh
        generalize upd H8 B (.lst (lcRow s.cps.toList t.cps.toList (j + 1 + 1) (i + 1))) = H9 at e8 vR8 vB8 HA8 ⊢
        have hlen := HA8.rows.len
        rw [List.length_map, HA8.len] at hlen
        refine ⟨fun σ' H' => Ex H H' ∧ H' R = some (.lst (lcRow s.cps.toList t.cps.toList (t.length + 1) i)) ∧ H' B = some (.lst (lcRow s.cps.toList t.cps.toList (j + 1 + 1) (i + 1))) ∧ (∃ (hs : List Addr) (tss : List (List Addr)), R ∉ hs ∧ B ∉ hs ∧ HeapsAt H H' F hs tss (lvM s.cps.toList t.cps.toList i (j + 1)) (lev s.cps.toList t.cps.toList (prs s.cps.toList t.cps.toList i ++ prRow s.cps.toList (t.cps.toList.take j) i))) ∧ σ' = [some (.str s), some (.str t), some (.ref F), some (.ref R), some (.int (i : Nat)), some (.ref B), some (.int (j : Nat))], ?_, ?_⟩
        · refine st_ifS ?_
          walk_at "go"
          refine st_ixL vR8 (lcRow_atI (j := j) (by omega)) ?_
          have hd8 := HA8.at_
          walk_at "go"
          rw [List.length_map]
          refine st_br2 (fun cm => ?_) (fun cm => ?_)
          · have cm : Lc s.cps.toList t.cps.toList i j = lvM s.cps.toList t.cps.toList i j := by omega
            rw [if_pos cm] at q2
            walk_at "go"
            rename_i r G1 m1 g1 w1
            refine st_app (g1.get hd8) (by rw [List.length_map, hlen]; unfold lvM; have h1 := Lc_le s.cps.toList t.cps.toList i t.cps.toList.length; have h2 := Lc_le s.cps.toList t.cps.toList (i + 1) j; omega) ?_
            walk_at "go"
            have nr0 : H r = none := Ex.free e8 m1
            have Fr : F ≠ r := ne_of_none hd8 m1
            have nrh : r ∉ hs := fun z => by
              obtain ⟨ts, h⟩ := HA8.mem_lst z
              rw [m1] at h; cases h
            have HA9 := (HA8.ex g1).grow w1 nr0 Fr nrh (lev_none fun q hq => lvM_low hj2 hq)
            refine ⟨(e8.trans g1).mut HA8.new, by rw [upd_ne FR.symm]; exact g1.get vR8, by rw [upd_ne FB.symm]; exact g1.get vB8, ⟨_, _, ?_, ?_, by rw [q2]; exact HA9⟩, rfl⟩
            · rw [List.mem_append, List.mem_singleton]
              rintro (z | z)
              · exact nR z
              · exact ne_of_none vR8 m1 z
            · rw [List.mem_append, List.mem_singleton]
              rintro (z | z)
              · exact nBh z
              · exact ne_of_none vB8 m1 z
          · have cm : ¬ Lc s.cps.toList t.cps.toList i j = lvM s.cps.toList t.cps.toList i j := by omega
            rw [if_neg cm] at q2
            walk_at "go"
            exact ⟨e8, vR8, vB8, ⟨_, _, nR, nBh, by rw [q2]; exact HA8⟩, rfl⟩
        rintro σ' H10 ⟨e10, vR10, vB10, ⟨hs', tss', nR', nB', HA10⟩, rfl⟩
        have hlt : Lc s.cps.toList t.cps.toList i j < lvM s.cps.toList t.cps.toList i (j + 1) := by rw [q2]; split <;> omega
        have hl10 := HA10.rows.len
        rw [List.length_map, HA10.len] at hl10
        obtain ⟨h9, hh9⟩ : ∃ h9, hs'[Lc s.cps.toList t.cps.toList i j]? = some h9 := ⟨_, List.getElem?_eq_getElem (by omega)⟩
        obtain ⟨us, hus⟩ : ∃ us, tss'[Lc s.cps.toList t.cps.toList i j]? = some us := ⟨_, List.getElem?_eq_getElem (by rw [HA10.len]; omega)⟩
        have hrow := HA10.rows.at _ _ _ hh9 (by rw [List.getElem?_map, hus]; rfl)
        walk_at "go"
        refine st_ixL vR10 (lcRow_atI (j := j) (by omega)) ?_
        walk_at "go"
        refine st_ixL HA10.at_ (v := .ref h9) (at_mapN hh9) ?_
        walk_at "go"
        rename_i T G1 m1 g1 w1
        have tl := (HA10.tups _ _ hus).len
        rw [List.length_map] at tl
        have fl : (lev s.cps.toList t.cps.toList (prs s.cps.toList t.cps.toList i ++ prRow s.cps.toList (t.cps.toList.take j) i) (Lc s.cps.toList t.cps.toList i j)).length ≤ 48 * 48 + 48 := by
          refine Nat.le_trans (List.length_filter_le _ _) ?_
          rw [List.length_append]
          have h1 := hpl i (by omega)
          have h2 : (prRow s.cps.toList (t.cps.toList.take j) i).length ≤ 48 := by
            unfold prRow
            rw [hc]
            show ((posOf c (t.cps.toList.take j)).map _).length ≤ 48
            rw [List.length_map]
            refine Nat.le_trans (posOf_len _ _) ?_
            rw [List.length_take]
            omega
          omega
        refine st_app (g1.get hrow) (by rw [List.length_map]; omega) ?_
        have HA11 := (HA10.ex g1).put (q := (i, j)) (T := T) w1 hh9 hus
        have hm9 := List.mem_of_getElem? hh9
        refine ⟨HA10.mut (e10.trans g1) hm9, by rw [upd_ne (fun z => nR' (by rw [z]; exact hm9))]; exact g1.get vR10, by rw [upd_ne (fun z => nB' (by rw [z]; exact hm9))]; exact g1.get vB10, ⟨hs', tss'.set (Lc s.cps.toList t.cps.toList i j) (us ++ [T]), nR', nB', ?_⟩, _, rfl⟩
        rw [prRow_take hc hj2, if_pos (by rw [← heq, hc]), ← List.append_assoc]
        exact HA11
      · rintro σ H6 ⟨e6, vR, vB, ⟨hs, tss, nR, nBh, HA⟩, y6, rfl⟩
        walk_at "go"
        rw [← htl, lvM_m, prRow_full hc, ← prs_succ] at HA
        exact ⟨e6, B, hs, tss, vB, FB, nBh, by rw [← htl]; exact HA, _, _, _, rfl⟩
    · rintro σ H3 ⟨e3, R, hs, tss, vR, FR, nR, HA, y4, y5, y6, rfl⟩
      walk_at "go"
      rw [Int.toNat_natCast] at HA
      exact k F hs tss H3 e3 HA
/-- heaps, one of them parted -/
def partH (gs : List HZ) (i : Nat) (g : HZ) : List (List (Nat × Nat)) := (gs.take i).map (fun g => g.2.map (·.2)) ++ [(g.2.map (·.2)).drop 1, (g.2.map (·.2)).take 1] ++ (gs.drop (i + 1)).map fun g => g.2.map (·.2)
def hsD (gs : List HZ) : List (List (Nat × Nat)) := gs.map fun g => g.2.map (·.2)
theorem hsD_enc (gs : List HZ) : PyData.list (gs.map encH) = encHs (hsD gs) := by
  unfold encHs hsD
  rw [List.map_map]
  congr 1
  exact List.map_congr_left fun g _ => by simp only [encH, Function.comp, List.map_map]; rfl
theorem part_good {s t : List Nat} {gs : List HZ} {i : Nat} {g : HZ} (h : GoodHeaps s t (encHs (hsD gs))) (hi : gs[i]? = some g) (h2 : 2 ≤ g.2.length) : GoodHeaps s t (encHs (partH gs i g)) := by
  obtain ⟨hss, e, h3, h4⟩ := h
  have inj : ∀ {a b : List (List (Nat × Nat))}, encHs a = encHs b → a = b := fun {a b} e => by
    unfold encHs at e
    injection e with e
    have e2 : a.map (fun l => l.map encQ) = b.map (fun l => l.map encQ) := by
      have := congrArg (List.map fun d : PyData => match d with | .list ds => ds | _ => []) e
      simpa [List.map_map, Function.comp_def] using this
    exact (List.map_inj_right (fun x y hxy => (List.map_inj_right (fun p q hpq => by
      obtain ⟨p1, p2⟩ := p
      obtain ⟨q1, q2⟩ := q
      unfold encQ at hpq
      injection hpq with hpq
      injection hpq with a1 hpq
      injection hpq with a2 _
      injection a1 with a1
      injection a2 with a2
      exact Prod.ext (Int.natCast_inj.mp a1) (Int.natCast_inj.mp a2))).mp hxy)).mp e2
  cases inj e
  have hm : g.2.map (·.2) ∈ hsD gs := List.mem_map_of_mem (List.mem_of_getElem? hi)
  obtain ⟨_, ha⟩ := h3 _ hm
  have hsplit : gs = gs.take i ++ g :: gs.drop (i + 1) := by
    have hil := (List.getElem?_eq_some_iff.mp hi).1
    rw [← (List.getElem?_eq_some_iff.mp hi).2, ← List.drop_eq_getElem_cons hil, List.take_append_drop]
  refine ⟨partH gs i g, rfl, fun l hl => ?_, ?_⟩
  · unfold partH at hl
    rcases List.mem_append.mp hl with hl | hl
    · rcases List.mem_append.mp hl with hl | hl
      · obtain ⟨f, hf, rfl⟩ := List.mem_map.mp hl
        exact h3 _ (List.mem_map_of_mem (List.mem_of_mem_take hf))
      · rcases List.mem_cons.mp hl with rfl | hl
        · refine ⟨fun z => ?_, ha.sublist (List.drop_sublist _ _)⟩
          have q : ((g.2.map (·.2)).drop 1).length = 0 := by rw [z]; rfl
          rw [List.length_drop, List.length_map] at q
          omega
        · rw [List.mem_singleton.mp hl]
          refine ⟨fun z => ?_, ha.sublist (List.take_sublist _ _)⟩
          have q : ((g.2.map (·.2)).take 1).length = 0 := by rw [z]; rfl
          rw [List.length_take, List.length_map] at q
          omega
    · obtain ⟨f, hf, rfl⟩ := List.mem_map.mp hl
      exact h3 _ (List.mem_map_of_mem (List.mem_of_mem_drop hf))
  · refine List.Perm.trans ?_ h4
    have e1 : hsD gs = (gs.take i).map (fun g => g.2.map (·.2)) ++ (g.2.map (·.2)) :: (gs.drop (i + 1)).map fun g => g.2.map (·.2) := by
      unfold hsD
      conv => lhs; rw [hsplit]
      rw [List.map_append, List.map_cons]
    unfold partH
    rw [e1]
    simp only [List.flatten_append, List.flatten_cons, List.flatten_nil, List.append_nil, List.append_assoc]
    refine List.Perm.append_left _ ?_
    rw [← List.append_assoc]
    refine List.Perm.append_right _ ?_
    have h := List.perm_append_comm (l₁ := (g.2.map (·.2)).drop 1) (l₂ := (g.2.map (·.2)).take 1)
    rwa [List.take_append_drop] at h
/-- heaps and their things -/
structure HzAt (H : Hp) (d : Addr) (gs : List HZ) : Prop where
  at_ : H d = some (.lst (gs.map hV))
  hp : HP H gs
  few : gs.length ≤ 60
  low : ∀ g ∈ gs, g.2.length ≤ 2304
theorem HzAt.ex {H H' : Hp} {d : Addr} {gs : List HZ} (h : HzAt H d gs) (e : Ex H H') : HzAt H' d gs := ⟨e.get h.at_, h.hp.ex e, h.few, h.low⟩
/-- fresh lists of the same things -/
theorem hz_of {H : Hp} {gs : List HZ} (hg : HP H gs) : ∀ {ts : List Addr}, ObjsAt H ts (gs.map fun g => HO.lst (g.2.map zV)) → ∃ fs : List HZ, fs.map hV = ts.map V.ref ∧ HP H fs ∧ fs.map (fun g => g.2) = gs.map fun g => g.2 := by
  induction gs with
  | nil =>
    intro ts h
    cases h
    exact ⟨[], rfl, (fun _ h => nomatch h), rfl⟩
  | cons g gs ih =>
    intro ts h
    cases h with
    | cons h1 h2 =>
      rename_i t ts
      obtain ⟨fs, a, b, c⟩ := ih (fun f hf => hg f (List.mem_cons_of_mem _ hf)) h2
      refine ⟨(t, g.2) :: fs, by rw [List.map_cons, List.map_cons, a], fun f hf => ?_, by rw [List.map_cons, List.map_cons, c]⟩
      rcases List.mem_cons.mp hf with rfl | hf
      · exact ⟨h1, (hg g List.mem_cons_self).2⟩
      · exact b f hf
def sp__law_part_one : Sp := fun vs H Q _ => ∃ (d : Addr) (gs : List HZ) (n : Int), vs = [.ref d, .int n] ∧ H d = some (.lst (gs.map hV)) ∧ HP H gs ∧ gs.length ≤ 48 ∧ (∀ g ∈ gs, g.2.length ≤ 2304) ∧ ∀ v H', Ex H H' → (v = .non ∨ ∃ q fs i g, v = .ref q ∧ HzAt H' q fs ∧ gs[i]? = some g ∧ 2 ≤ g.2.length ∧ hsD fs = partH gs i g ∧ fs.length = gs.length + 1) → Q v H'
theorem ok__law_part_one (T : Tx K mg ad fd tk base tc w) : FnOk P w K mg base CX0 1 (ad 58) (fd 58) ["_law_heaps_here", "_law_at"] sp__law_part_one := by
  refine T.d__law_part_one.F.ok sc__law_part_one (fun vs H Q E h => ?_) (fun cdv A outer s H vs Q E hr h => ?_)
  · obtain ⟨d, gs, n, rfl, _⟩ := h
    rfl
  · obtain ⟨d, gs, n, rfl, hd, hgz, hl, h48, k⟩ := h
    refine ⟨_, (pss_cons (ps_if (PW.pt (pw_or (pt_cmpR (o_eqE (K := K) hr.units) (pv 0) (pe_lst pa_nil) (nomark _)) (pw_or1 (pt_cmpR o_lt (pe_callB (c_len (K := K)) (by rfl) T.b_len (by decide +kernel) (pa_cons (pe_ix (i_ix (K := K)) (pv 0) (pe_op o_mod (pv 1) (pe_callB (c_len (K := K)) (by rfl) T.b_len (by decide +kernel) (pa_cons (pv 0) pa_nil))) (fun _ _ => rfl)) pa_nil)) pe_int (nomark _))))) (pss_one (ps_ret pe_non)) pss_nil)
      (pss_cons (ps_set (i := 2) sc__law_part_one.nd rfl (Or.inl rfl) (pe_ix (i_ix (K := K)) (pv 0) (pe_op o_mod (pv 1) (pe_callB (c_len (K := K)) (by rfl) T.b_len (by decide +kernel) (pa_cons (pv 0) pa_nil))) (fun _ _ => rfl)))
      (pss_cons (ps_setLc (i := 3) (own := [("_law_one", 4)]) (g := gName 4) rfl sc__law_part_one.nd rfl rfl (sw_true rfl rfl rfl (by decide +kernel)) (pi_list (pe_slice (s_sl (K := K)) (pv 0) po_none (po_some (pe_op o_mod (pv 1) (pe_callB (c_len (K := K)) (by rfl) T.b_len (by decide +kernel) (pa_cons (pv 0) pa_nil)))))) (blkOk_by (own := [("_law_one", 4)]) (N := N__law_part_one) (sc := defScope s__law_part_one) (by decide +kernel)) (fun _ _ _ _ _ => pg_name (i := 4) sc__law_part_one.nd rfl (Or.inl rfl)) (fun _ _ _ _ _ => pts_nil) (fun _ _ _ _ _ => (pe_callTy (c_list rfl (K := K)) (by rfl) T.b_list (by decide +kernel) (pa_cons (pv 4) pa_nil))))
      (pss_one (ps_ret (pe_op o_add (pe_op o_add (pv 3) (pe_lst (pa_cons (pe_slice (s_sl (K := K)) (pv 2) (po_some pe_int) po_none) (pa_cons (pe_slice (s_sl (K := K)) (pv 2) po_none (po_some pe_int)) pa_nil)))) (pe_lc (own := [("_law_one", 4)]) (g := gName 4) rfl sc__law_part_one.nd (pi_list (pe_slice (s_sl (K := K)) (pv 0) (po_some (pe_op o_add (pe_op o_mod (pv 1) (pe_callB (c_len (K := K)) (by rfl) T.b_len (by decide +kernel) (pa_cons (pv 0) pa_nil))) pe_int)) po_none)) (blkOk_by (own := [("_law_one", 4)]) (N := N__law_part_one) (sc := defScope s__law_part_one) (by decide +kernel)) (fun _ _ _ _ _ => pg_name (i := 4) sc__law_part_one.nd rfl (Or.inl rfl)) (fun _ _ _ _ _ => pts_nil) (fun _ _ _ _ _ => (pe_callTy (c_list rfl (K := K)) (by rfl) T.b_list (by decide +kernel) (pa_cons (pv 4) pa_nil)))))))))), ?_⟩
    have hg := hgz
    clear hgz
    have k1 : ∀ H', Ex H H' → Q .non H' := fun H' e => k _ H' e (.inl rfl)
    have k2 : ∀ q fs i g H', Ex H H' → HzAt H' q fs → gs[i]? = some g → 2 ≤ g.2.length → hsD fs = partH gs i g → fs.length = gs.length + 1 → Q (.ref q) H' := fun q fs i g H' e h1 h2 h3 h4 h5 => k _ H' e (.inr ⟨q, fs, i, g, rfl, h1, h2, h3, h4, h5⟩)
    walk_at "go"
    rename_i E0 H1 n1 e1 v1
    refine st_eqE (e1.get hd) v1 ?_
    refine ⟨_, rfl, ?_⟩
    by_cases hne : gs = []
    · subst hne
      refine st_T rfl ?_
      walk_at "go"
      exact k1 H1 e1
    have hpos : 0 < gs.length := List.length_pos_iff.mpr hne
    have hd1 := e1.get hd
    have hg1 := hg.ex e1
    refine st_F (by cases gs with | nil => exact absurd rfl hne | cons a b => rfl) ?_
    have m0 := Int.emod_nonneg n (b := ((gs.length : Nat) : Int)) (by omega)
    have m1 := Int.emod_lt_of_pos n (b := ((gs.length : Nat) : Int)) (by omega)
    obtain ⟨i, hi⟩ : ∃ i : Nat, ((i : Nat) : Int) = n % ((gs.length : Nat) : Int) := ⟨(n % ((gs.length : Nat) : Int)).toNat, Int.toNat_of_nonneg m0⟩
    obtain ⟨g, hgi⟩ : ∃ g, gs[i]? = some g := ⟨_, List.getElem?_eq_getElem (by omega)⟩
    have hgm := List.mem_of_getElem? hgi
    have at_i : ∀ {x : Int}, x = n % (((gs.map hV).length : Nat) : Int) → atI (gs.map hV) x = some (.ref g.1) := fun e => by
      rw [e, List.length_map, ← hi]
      exact at_nat (by rw [List.getElem?_map, hgi]; rfl)
    have hgv := (hg1 g hgm).1
    walk_at "go"
    refine st_ixL hd1 (at_i rfl) ?_
    walk_at "go"
    rw [List.length_map]
    refine st_br2 (fun c1 => ?_) (fun c1 => ?_)
    · walk_at "go"
      exact k1 H1 e1
    walk_at "go"
    refine st_ixL hd1 (at_i rfl) ?_
    walk_at "go"
    walk_at "go"
    rename_i S1 H2 n2 e2 v2
    rw [cutV_map, List.length_map, ← hi, cutL_to] at v2
    refine lc_objs0 (rv_list K S1 (gs.take i) hV) (fun H' e => lst_of (e.get v2)) (by rw [List.length_take]; omega) (fun g => HO.lst (g.2.map zV)) ?_ ?_
    · intro y H' hy e B h1
      refine ⟨rfl, ?_⟩
      have hy2 := (e2.trans e).get (hg1 y (List.mem_of_mem_take hy)).1
      walk_at "go"
      rename_i q G n3 e3 v3
      exact h1 q G n3 e3 v3
    intro D1 H3 ts1 nD1 e3 vD1 hO1 _ _ _
    obtain ⟨f1, a1, b1, c1'⟩ := hz_of (hg1.ex (e2.trans e3) |>.sub fun g hg => List.mem_of_mem_take hg) hO1
    rw [← a1] at vD1
    have hgv3 := (e2.trans e3).get hgv
    walk_at "go"
    rename_i P1 H4 n4 e4 v4 P2 H5 n5 e5 v5 L1 H6 n6 e6 v6
    rw [cutV_map, show (1 : Int) = ((1 : Nat) : Int) from rfl, cutL_from] at v4
    rw [cutV_map, show (1 : Int) = ((1 : Nat) : Int) from rfl, cutL_to] at v5
    have e36 := e4.trans (e5.trans e6)
    refine st_addL (e36.get vD1) v6 (by simp; have := congrArg List.length c1'; simp at this; omega) fun A1 H7 n7 e7 v7 => ?_
    have hd7 := (e2.trans (e3.trans (e36.trans e7))).get hd1
    walk_at "go"
    rename_i S2 H8 n8 e8 v8
    rw [cutV_map, List.length_map, ← hi, show ((i : Nat) : Int) + 1 = ((i + 1 : Nat) : Int) from rfl, cutL_from] at v8
    have e18 := e2.trans (e3.trans (e36.trans (e7.trans e8)))
    refine lc_objs0 (rv_list K S2 (gs.drop (i + 1)) hV) (fun H' e => lst_of (e.get v8)) (by rw [List.length_drop]; omega) (fun g => HO.lst (g.2.map zV)) ?_ ?_
    · intro y H' hy e B h1
      refine ⟨rfl, ?_⟩
      have hy2 := (e18.trans e).get (hg1 y (List.mem_of_mem_drop hy)).1
      walk_at "go"
      rename_i q G n3 e3 v3
      exact h1 q G n3 e3 v3
    intro D2 H9 ts2 nD2 e9 vD2 hO2 _ _ _
    obtain ⟨f2, a2, b2, c2'⟩ := hz_of (hg1.ex (e18.trans e9) |>.sub fun g hg => List.mem_of_mem_drop hg) hO2
    rw [← a2] at vD2
    have e89 := e8.trans e9
    have l1 : f1.length = min i gs.length := by have := congrArg List.length c1'; simpa using this
    have l2 : f2.length = gs.length - (i + 1) := by have := congrArg List.length c2'; simpa using this
    refine st_addL (e89.get v7) vD2 (by simp; omega) fun A2 H10 n10 e10 v10 => ?_
    have e310 := e36.trans (e7.trans (e89.trans e10))
    have sg := (hg1 g hgm).2.ex (e18.trans (e9.trans e10))
    refine k2 A2 (f1 ++ [(P1, g.2.drop 1), (P2, g.2.take 1)] ++ f2) i g H10 (e1.trans (e18.trans (e9.trans e10))) ⟨?_, ?_, ?_, ?_⟩ hgi (by omega) ?_ ?_
    · rw [v10]
      simp only [List.map_append, List.map_cons, List.map_nil]
    · intro f hf
      rcases List.mem_append.mp hf with hf | hf
      · rcases List.mem_append.mp hf with hf | hf
        · exact (b1.ex e310) f hf
        · rcases List.mem_cons.mp hf with rfl | hf
          · exact ⟨(e5.trans (e6.trans (e7.trans (e89.trans e10)))).get v4, sg.sub (List.drop_sublist _ _)⟩
          · rw [List.mem_singleton.mp hf]
            exact ⟨(e6.trans (e7.trans (e89.trans e10))).get v5, sg.sub (List.take_sublist _ _)⟩
      · exact (b2.ex e10) f hf
    · simp only [List.length_append, List.length_cons, List.length_nil]
      omega
    · intro f hf
      rcases List.mem_append.mp hf with hf | hf
      · rcases List.mem_append.mp hf with hf | hf
        · have : f.2 ∈ f1.map fun g => g.2 := List.mem_map_of_mem hf
          rw [c1'] at this
          obtain ⟨x, hx, e⟩ := List.mem_map.mp this
          rw [← e]
          exact h48 x (List.mem_of_mem_take hx)
        · have := h48 g hgm
          rcases List.mem_cons.mp hf with rfl | hf
          · show (g.2.drop 1).length ≤ 2304
            rw [List.length_drop]; omega
          · rw [List.mem_singleton.mp hf]
            show (g.2.take 1).length ≤ 2304
            rw [List.length_take]; omega
      · have : f.2 ∈ f2.map fun g => g.2 := List.mem_map_of_mem hf
        rw [c2'] at this
        obtain ⟨x, hx, e⟩ := List.mem_map.mp this
        rw [← e]
        exact h48 x (List.mem_of_mem_drop hx)
    · unfold partH
      have q1 : (f1.map fun g => g.2.map (·.2)) = (gs.take i).map fun g => g.2.map (·.2) := by
        have := congrArg (List.map fun q : List ZP => q.map (·.2)) c1'
        rwa [List.map_map, List.map_map] at this
      have q2 : (f2.map fun g => g.2.map (·.2)) = (gs.drop (i + 1)).map fun g => g.2.map (·.2) := by
        have := congrArg (List.map fun q : List ZP => q.map (·.2)) c2'
        rwa [List.map_map, List.map_map] at this
      unfold hsD
      rw [List.map_append, List.map_append, q1, q2]
      simp only [List.map_cons, List.map_nil, List.map_drop, List.map_take]
    · simp only [List.length_append, List.length_cons, List.length_nil]
      omega
theorem Lev_out (a b : List Nat) (i j : Nat) : Lev a b (i + 1) j ≤ Lev a b i j + 1 := by
  cases j with
  | zero => rw [Lev_j0, Lev_j0]; exact Nat.le_refl _
  | succ j => rw [Lev_ss]; omega
theorem Lev_in (a b : List Nat) (i j : Nat) : Lev a b i (j + 1) ≤ Lev a b i j + 1 := by
  cases i with
  | zero => rw [Lev_0, Lev_0]; exact Nat.le_refl _
  | succ i => rw [Lev_ss]; omega
theorem Lev_met (a b : List Nat) (i j : Nat) : Lev a b (i + 1) (j + 1) ≤ Lev a b i j + if a[i]? = b[j]? then 0 else 1 := by rw [Lev_ss]; omega
theorem pre_at {p q a : List Nat} {x : Nat} (h : p ++ x :: q = a) : a[p.length]? = some x := by rw [← h, List.getElem?_append_right (Nat.le_refl _), Nat.sub_self]; rfl
theorem pays_ge {a b : List Nat} : ∀ (l : List Chg) (p q u v : List Nat), p ++ OO l ++ u = a → q ++ NN l ++ v = b → Lev a b (p.length + (OO l).length) (q.length + (NN l).length) ≤ Lev a b p.length q.length + l.countP Chg.pays
  | [], p, q, u, v, _, _ => by simp [OO, NN]
  | c :: l, p, q, u, v, h1, h2 => by
    have ih := pays_ge (a := a) (b := b) l (p ++ c.o) (q ++ c.n) u v (by rw [← h1, OO_cons]; simp) (by rw [← h2, NN_cons]; simp)
    rw [OO_cons, NN_cons, List.length_append, List.length_append, List.countP_cons]
    rw [List.length_append, List.length_append] at ih
    rw [OO_cons] at h1
    rw [NN_cons] at h2
    cases c with
    | keep x =>
      have e1 : a[p.length]? = some x := pre_at (q := OO l ++ u) (by rw [← h1]; simp [Chg.o])
      have e2 : b[q.length]? = some x := pre_at (q := NN l ++ v) (by rw [← h2]; simp [Chg.n])
      have := Lev_met a b p.length q.length
      rw [e1, e2, if_pos rfl] at this
      simp only [Chg.o, Chg.n, List.length_singleton, Chg.pays] at ih ⊢
      simp only [Bool.false_eq_true, if_false]
      rw [← Nat.add_assoc, ← Nat.add_assoc]
      omega
    | change x y =>
      have := Lev_met a b p.length q.length
      have h3 : (if a[p.length]? = b[q.length]? then 0 else 1 : Nat) ≤ 1 := by split <;> omega
      simp only [Chg.o, Chg.n, List.length_singleton, Chg.pays] at ih ⊢
      simp only [if_true]
      rw [← Nat.add_assoc, ← Nat.add_assoc]
      omega
    | out x =>
      have := Lev_out a b p.length q.length
      simp only [Chg.o, Chg.n, List.length_singleton, List.length_nil, Chg.pays] at ih ⊢
      simp only [if_true, Nat.zero_add, Nat.add_zero, ← Nat.add_assoc] at ih ⊢
      omega
    | inn x =>
      have := Lev_in a b p.length q.length
      simp only [Chg.o, Chg.n, List.length_singleton, List.length_nil, Chg.pays] at ih ⊢
      simp only [if_true, Nat.zero_add, Nat.add_zero, ← Nat.add_assoc] at ih ⊢
      omega
theorem pays_lev (l : List Chg) : Lev (OO l) (NN l) (OO l).length (NN l).length ≤ l.countP Chg.pays := by
  have h := pays_ge (a := OO l) (b := NN l) l [] [] [] [] (by simp) (by simp)
  simpa [Lev_0] using h
theorem Lev_sym (a b : List Nat) : ∀ n i j : Nat, i + j ≤ n → Lev a b i j = Lev b a j i
  | _, 0, j, _ => by rw [Lev_0, Lev_j0]
  | _, i + 1, 0, _ => by rw [Lev_j0, Lev_0]
  | 0, i + 1, j + 1, h => by omega
  | n + 1, i + 1, j + 1, h => by
    rw [Lev_ss, Lev_ss, Lev_sym a b n (i + 1) j (by omega), Lev_sym a b n i (j + 1) (by omega), Lev_sym a b n i j (by omega)]
    have e : (if a[i]? = b[j]? then 0 else 1 : Nat) = if b[j]? = a[i]? then 0 else 1 := by
      by_cases h : a[i]? = b[j]?
      · rw [if_pos h, if_pos h.symm]
      · rw [if_neg h, if_neg (fun z => h z.symm)]
    rw [e]
    omega
theorem Lev_low (a b : List Nat) : ∀ n i j : Nat, i + j ≤ n → i ≤ j + Lev a b i j ∧ j ≤ i + Lev a b i j ∧ Lev a b i j ≤ max i j
  | _, 0, j, _ => by rw [Lev_0]; omega
  | _, i + 1, 0, _ => by rw [Lev_j0]; omega
  | 0, i + 1, j + 1, h => by omega
  | n + 1, i + 1, j + 1, h => by
    have h1 := Lev_low a b n (i + 1) j (by omega)
    have h2 := Lev_low a b n i (j + 1) (by omega)
    have h3 := Lev_low a b n i j (by omega)
    rw [Lev_ss]
    have h4 : (if a[i]? = b[j]? then 0 else 1 : Nat) ≤ 1 := by split <;> omega
    omega
theorem Lev_zero {a b : List Nat} : ∀ i j : Nat, i ≤ a.length → j ≤ b.length → (Lev a b i j = 0 ↔ a.take i = b.take j)
  | 0, j, _, hj => by
    rw [Lev_0, List.take_zero]
    constructor
    · intro h; rw [h, List.take_zero]
    · intro h
      have := congrArg List.length h
      rw [List.length_nil, List.length_take] at this
      omega
  | i + 1, 0, hi, _ => by
    rw [Lev_j0, List.take_zero]
    constructor
    · intro h; cases h
    · intro h
      have := congrArg List.length h
      rw [List.length_nil, List.length_take] at this
      omega
  | i + 1, j + 1, hi, hj => by
    have ih := Lev_zero (a := a) (b := b) i j (by omega) (by omega)
    have l1 := Lev_low a b _ (i + 1) (j + 1) (Nat.le_refl _)
    have ha : a[i]? = some a[i] := List.getElem?_eq_getElem _
    have hb : b[j]? = some b[j] := List.getElem?_eq_getElem _
    rw [List.take_succ, List.take_succ, ha, hb]
    show _ ↔ a.take i ++ [a[i]] = b.take j ++ [b[j]]
    rw [Lev_ss, ha, hb]
    constructor
    · intro h
      have h1 : (if some a[i] = some b[j] then 0 else 1 : Nat) = 0 ∧ Lev a b i j = 0 := by omega
      have h2 : a[i] = b[j] := by
        refine Classical.byContradiction fun z => ?_
        rw [if_neg (fun q => z (Option.some.inj q))] at h1
        omega
      rw [ih.mp h1.2, h2]
    · intro h
      obtain ⟨h1, h2⟩ := List.append_inj' h rfl
      injection h2 with h2 _
      rw [if_pos (by rw [h2]), ih.mpr h1]
      omega
theorem Lev_eq0 {a b : List Nat} : Lev a b a.length b.length = 0 ↔ a = b := by
  rw [Lev_zero _ _ (Nat.le_refl _) (Nat.le_refl _), List.take_length, List.take_length]
/-- changes are no more than the letters of both rows -/
theorem chg_len : ∀ l : List Chg, l.length ≤ (OO l).length + (NN l).length
  | [] => by simp
  | c :: l => by
    have ih := chg_len l
    rw [OO_cons, NN_cons, List.length_append, List.length_append, List.length_cons]
    cases c <;> simp only [Chg.o, Chg.n, List.length_singleton, List.length_nil] <;> omega
theorem rv_pays (l : List Chg) : (l.map Chg.rv).countP Chg.pays = l.countP Chg.pays := by
  rw [List.countP_map]
  congr 1
  funext c
  cases c <;> rfl
theorem rv_OO (l : List Chg) : OO (l.map Chg.rv) = NN l := by
  unfold OO NN
  rw [List.flatMap_map]
  congr 1
  funext c
  exact rv_o c
theorem rv_NN (l : List Chg) : NN (l.map Chg.rv) = OO l := by
  unfold OO NN
  rw [List.flatMap_map]
  congr 1
  funext c
  exact rv_n c
theorem lev_parts {s t : List Nat} (ha : 46 ∉ s) (hb : 46 ∉ t) : Lc (parts s) (parts t) (parts s).length (parts t).length + Lev s t s.length t.length = s.length + t.length := by
  have := lev_Lc ha hb _ s.length t.length (Nat.le_refl _) (Nat.le_refl _) (Nat.le_refl _)
  rw [parts_len, parts_len]
  exact this
def sp__law_leads : Sp := fun vs H Q _ => ∃ (p : Addr) (zs : List CZ) (s t : Str) (b : Bool), vs = [.ref p, .str s, .str t] ∧ H p = some (.lst (zs.map cV)) ∧ CT H zs ∧ zs.length ≤ 1000 ∧ (OO (zs.map fun z => z.2) = s.cps.toList ∧ NN (zs.map fun z => z.2) = t.cps.toList) ∧ ∀ H', Ex H H' → Q (.bl true) H'
theorem ok__law_leads (T : Tx K mg ad fd tk base tc w) : FnOk P w K mg base CX0 2 (ad 59) (fd 59) ["_law_changes", "_law_row_here", "_law_goal"] sp__law_leads := by
  refine T.d__law_leads.F.ok sc__law_leads (fun vs H Q E h => ?_) (fun cdv A outer s H vs Q E hr h => ?_)
  · obtain ⟨p, zs, s, t, b, rfl, _⟩ := h
    rfl
  · obtain ⟨p, zs, s, t, b, rfl, hp, hz, hl, hb, k⟩ := h
    refine ⟨_, (pss_cons (ps_if (PW.pt (pw_or (pt_not (pt_val (pe_callB c_is (by rfl) T.b_isinstance (by decide +kernel) (pa_cons (pv 0) (pa_cons (pe_bltn (v := .ty "list") rfl T.b_list (by decide +kernel) rfl) pa_nil))))) (pw_or1 (pt_not (pt_val (pe_callB (c_all rfl) (by rfl) T.b_all (by decide +kernel) (pa_cons (pe_lc (own := [("_law_change", 3)]) (g := gName 3) rfl sc__law_leads.nd (pi_list (pv 0)) (blkOk_by (own := [("_law_change", 3)]) (N := N__law_leads) (sc := defScope s__law_leads) (by decide +kernel)) (fun _ _ _ _ _ => pg_name (i := 3) sc__law_leads.nd rfl (Or.inl rfl)) (fun _ _ _ _ _ => pts_nil) (fun _ _ _ _ _ => (pe_callB c_is (by rfl) T.b_isinstance (by decide +kernel) (pa_cons (pv 3) (pa_cons (pe_bltn (v := .ty "tuple") rfl T.b_tuple (by decide +kernel) rfl) pa_nil))))) pa_nil))))))) (pss_one (ps_ret pe_bl)) pss_nil)
      (pss_one (ps_ret (pe_and (pe_cmpR (o_eq hr.units) (pe_call (ok__law_old T) (hr.mono (by decide)) rfl T.d__law_old.g T.d__law_old.F.kp T.d__law_old.b .nil pass0 (pa_cons (pv 0) pa_nil)) (pv 1) (nomark _)) (pe_one (pe_cmpR (o_eq hr.units) (pe_call (ok__law_new T) (hr.mono (by decide)) rfl T.d__law_new.g T.d__law_new.F.kp T.d__law_new.b .nil pass0 (pa_cons (pv 0) pa_nil)) (pv 2) (nomark _))))))), ?_⟩
    walk_at "go"
    refine lc_map (rv_list K p zs cV) (fun H' e => lst_of (e.get hp)) (by omega) (fun _ => V.bl true) ?_ ?_
    · intro y H1 hy e B h1
      refine ⟨rfl, ?_⟩
      have hy2 := e.get (hz y hy)
      walk_at "go"
      exact st_isT hy2 kit_tt (h1 _ (Fr.refl _))
    intro D H1 nD e1 vD
    have vD' : H1 D = some (.lst ((List.replicate zs.length true).map V.bl)) := by
      rw [vD]
      congr 2
      rw [List.map_replicate]
      exact List.map_const'
    walk_at "go"
    refine ⟨_, lst_of vD', ?_⟩
    rw [show (List.replicate zs.length true).all id = true from by rw [List.all_eq_true]; intro x hx; rw [List.eq_of_mem_replicate hx]; rfl]
    walk_at "go"
    refine ⟨p, zs, rfl, e1.get hp, hz.ex e1, by omega, fun H2 e2 => ?_⟩
    walk_at "go"
    rw [decide_eq_true (show oldR (zs.map fun z => z.2) = s from (tx_of hb.1.symm).symm)]
    walk_at "go"
    refine ⟨p, zs, rfl, (e1.trans e2).get hp, hz.ex (e1.trans e2), by omega, fun H3 e3 => ?_⟩
    walk_at "go"
    rw [decide_eq_true (show newR (zs.map fun z => z.2) = t from (tx_of hb.2.symm).symm)]
    exact k H3 (e1.trans (e2.trans e3))
theorem cw_eqv (zs ys : List CZ) (gs fs : List HZ) (h1 : zs.map (fun z => z.2) = ys.map fun z => z.2) (h2 : gs.map (fun g => g.2) = fs.map fun g => g.2) : PyData.tuple [.list ((zs.map fun z => z.2).map encC), .list (gs.map encH)] = .tuple [.list ((ys.map fun z => z.2).map encC), .list (fs.map encH)] := by
  rw [h1]
  have : gs.map encH = fs.map encH := by
    have h := congrArg (List.map fun q : List ZP => PyData.list (q.map fun z => encQ z.2)) h2
    rw [List.map_map, List.map_map] at h
    exact h
  rw [this]
theorem hz_sd {H : Hp} {d : Addr} {gs : List HZ} (h : HzAt H d gs) : Sd H (.ref d) (.list (gs.map encH)) := h.hp.sd h.at_ (by have := h.few; omega)
/-- a paper of changes and heaps, as data -/
theorem cw_nd {H : Hp} {d : Addr} {gs : List HZ} (h : HzAt H d gs) (l : List Chg) : (PyData.tuple [.list (l.map encC), .list (gs.map encH)]).hasDict = false ∧ (PyData.tuple [.list (l.map encC), .list (gs.map encH)]).depth ≤ 8 := by
  have nd := enc_nd l
  have hd := hz_sd h
  have h2 : (PyData.list (gs.map encH)).hasDict = false := by
    cases q : (PyData.list (gs.map encH)).hasDict with
    | false => rfl
    | true => cases hd.hd q
  have h3 := gs_depth gs
  constructor
  · rw [PyData.hasDict, PyData.hasDictAll, PyData.hasDictAll, PyData.hasDictAll, nd.1, h2]
    rfl
  · have h4 := nd.2
    simp only [PyData.depth, PyData.depthAll] at h3 h4 ⊢
    omega
/-- changes and heaps are shown where they come to all letters -/
theorem shown_ok {K : PySem.W.Frag} {H : Hp} {Q : VK} {E : XK} {s t : Str} {u p d : Addr} {zs : List CZ} {gs : List HZ} (hs : PlainS s) (ht : PlainS t) (hu : H u = some (.tup [.ref p, .ref d])) (hp : H p = some (.lst (zs.map cV))) (hz : CT H zs) (hl : zs.length ≤ 48) (hok : ∀ z ∈ zs, ChgOk z.2) (hr : OO (zs.map fun z => z.2) = s.cps.toList ∧ NN (zs.map fun z => z.2) = t.cps.toList) (hg : HzAt H d gs) (hgood : GoodHeaps (parts s.cps.toList) (parts t.cps.toList) (encHs (hsD gs)))
    (k : ∀ H', Ex H H' → Q (.bl (decide ((zs.map fun z => z.2).countP Chg.pays + gs.length = s.length + t.length))) H') : sp_shows_cost K [.str s, .str t, .ref u] H Q E := by
  have hd := hz_sd hg
  refine ⟨_, _, _, rfl, .inl ⟨s, t, rfl, rfl, hs, ht, .tuple [.list ((zs.map fun z => z.2).map encC), .list (gs.map encH)], .tup hu (.cons (cz_rn hp hz) (.cons hd.rn .nil)), fun a b e => ?_, fun H' b e hb => ?_⟩⟩
  · injection e with e
    injection e with e1 e2
    injection e2 with e2 _
    subst e1 e2
    exact ⟨cz_lB (by omega), hd.hd, hd.sz, hd.dp⟩
  · have : b = decide ((zs.map fun z => z.2).countP Chg.pays + gs.length = s.length + t.length) := by
      have hb2 : ShowsC s.cps.toList t.cps.toList (.tuple [.list ((zs.map fun z => z.2).map encC), .list (gs.map encH)]) ↔ (zs.map fun z => z.2).countP Chg.pays + gs.length = s.length + t.length := by
        constructor
        · rintro ⟨l, hss, e, q1, q2, q3, q4, q5, q6⟩
          injection e with e
          injection e with e1 e2
          injection e2 with e2 _
          rw [← encs_inj e1] at q6
          have hlen : gs.length = hss.length := by
            have := congrArg (fun d => match d with | PyData.list ds => ds.length | _ => 0) e2
            simpa [encHs] using this
          rw [lenStr, lenStr] at q6
          omega
        · intro h
          refine ⟨_, hsD gs, by rw [← hsD_enc], by rw [List.length_map]; exact hl, fun c hc => ?_, hr.1, hr.2, hgood, ?_⟩
          · obtain ⟨z, hz2, rfl⟩ := List.mem_map.mp hc
            exact hok z hz2
          · rw [lenStr, lenStr]
            unfold hsD
            rw [List.length_map]
            exact h
      rw [hb2] at hb
      cases b with
      | true => rw [decide_eq_true (hb.mp rfl)]
      | false => rw [decide_eq_false fun z => by cases hb.mpr z]
    rw [this]
    exact k H' e
def sp__law_shown : Sp := fun vs H Q _ => ∃ (p d : Addr) (zs : List CZ) (gs : List HZ) (s t : Str), vs = [.str s, .str t, .ref p, .ref d] ∧ PlainS s ∧ PlainS t ∧ H p = some (.lst (zs.map cV)) ∧ CT H zs ∧ zs.length ≤ 48 ∧ (∀ z ∈ zs, ChgOk z.2) ∧ (OO (zs.map fun z => z.2) = s.cps.toList ∧ NN (zs.map fun z => z.2) = t.cps.toList) ∧ HzAt H d gs ∧ GoodHeaps (parts s.cps.toList) (parts t.cps.toList) (encHs (hsD gs)) ∧ Lc (parts s.cps.toList) (parts t.cps.toList) (parts s.cps.toList).length (parts t.cps.toList).length ≤ gs.length ∧ ∀ H', Ex H H' → Q (.bl true) H'
theorem ok__law_shown (T : Tx K mg ad fd tk base tc w) : FnOk P w K mg base CX0 8 (ad 60) (fd 60) ["_law_row_here", "_law_goal", "_law_drawn", "_law_heaps_here"] sp__law_shown := by
  refine T.d__law_shown.F.ok sc__law_shown (fun vs H Q E h => ?_) (fun cdv A outer s H vs Q E hr h => ?_)
  · obtain ⟨p, d, zs, gs, s, t, rfl, _⟩ := h
    rfl
  · obtain ⟨p, d, zs, gs, s, t, rfl, hs, ht, hp, hz, hl, hok, hrr, hgz, hgood, hlow, k⟩ := h
    refine ⟨_, (pss_cons (ps_set (i := 4) sc__law_shown.nd rfl (Or.inl rfl) (pe_tup (pa_cons (pe_callTy (c_list rfl (K := K)) (by rfl) T.b_list (by decide +kernel) (pa_cons (pv 2) pa_nil)) (pa_cons (pe_lc (own := [("_law_heap", 7)]) (g := gName 7) rfl sc__law_shown.nd (pi_list (pv 3)) (blkOk_by (own := [("_law_heap", 7)]) (N := N__law_shown) (sc := defScope s__law_shown) (by decide +kernel)) (fun _ _ _ _ _ => pg_name (i := 7) sc__law_shown.nd rfl (Or.inl rfl)) (fun _ _ _ _ _ => pts_nil) (fun _ _ _ _ _ => (pe_callTy (c_list rfl (K := K)) (by rfl) T.b_list (by decide +kernel) (pa_cons (pv 7) pa_nil)))) pa_nil))))
      (pss_cons (ps_set (i := 5) sc__law_shown.nd rfl (Or.inl rfl) (pe_cmpR (o_eq hr.units) (pe_op o_add (pe_call (ok__law_pays T) (hr.mono (by decide)) rfl T.d__law_pays.g T.d__law_pays.F.kp T.d__law_pays.b .nil pass0 (pa_cons (pv 2) pa_nil)) (pe_callB (c_len (K := K)) (by rfl) T.b_len (by decide +kernel) (pa_cons (pv 3) pa_nil))) (pe_op o_add (pe_callB (c_len (K := K)) (by rfl) T.b_len (by decide +kernel) (pa_cons (pv 0) pa_nil)) (pe_callB (c_len (K := K)) (by rfl) T.b_len (by decide +kernel) (pa_cons (pv 1) pa_nil))) (nomark _)))
      (pss_cons (ps_if (pt_cmpR o_lt (pe_op o_add (pe_call (ok__law_pays T) (hr.mono (by decide)) rfl T.d__law_pays.g T.d__law_pays.F.kp T.d__law_pays.b .nil pass0 (pa_cons (pv 2) pa_nil)) (pe_callB (c_len (K := K)) (by rfl) T.b_len (by decide +kernel) (pa_cons (pv 3) pa_nil))) (pe_op o_add (pe_callB (c_len (K := K)) (by rfl) T.b_len (by decide +kernel) (pa_cons (pv 0) pa_nil)) (pe_callB (c_len (K := K)) (by rfl) T.b_len (by decide +kernel) (pa_cons (pv 1) pa_nil))) (nomark _)) (pss_one (ps_ret pe_bl)) pss_nil)
      (pss_cons (ps_set (i := 6) sc__law_shown.nd rfl (Or.inl rfl) (pe_call (ok_shows_cost T) (hr.mono (by decide)) rfl T.d_shows_cost.g T.d_shows_cost.F.kp T.d_shows_cost.b .nil passL (pa_cons (pv 0) (pa_cons (pv 1) (pa_cons (pv 4) pa_nil)))))
      (pss_cons (ps_if (PW.pt (pw_or (pt_not (pt_val (pe_callB c_is (by rfl) T.b_isinstance (by decide +kernel) (pa_cons (pv 6) (pa_cons (pe_bltn (v := .ty "bool") rfl T.b_bool (by decide +kernel) rfl) pa_nil))))) (pw_or (pt_cmpR (o_ne hr.units) (pv 6) (pv 5) (nomark _)) (pw_or1 (pt_cmpR (o_ne hr.units) (pv 4) (pe_tup (pa_cons (pv 2) (pa_cons (pv 3) pa_nil))) (nomark _)))))) (pss_one (ps_ret pe_bl)) pss_nil)
      (pss_one (ps_ret (pe_or (pe_not (pv 5)) (pe_one (pe_cmpR (o_eq hr.units) (pe_call (ok_cost T) (hr.mono (by decide)) rfl T.d_cost.g T.d_cost.F.kp T.d_cost.b .nil passL (pa_cons (pv 0) (pa_cons (pv 1) pa_nil))) (pe_call (ok__law_pays T) (hr.mono (by decide)) rfl T.d__law_pays.g T.d__law_pays.F.kp T.d__law_pays.b .nil pass0 (pa_cons (pv 2) pa_nil)) (nomark _))))))))))), ?_⟩
    have ls := hs.len
    have lt := ht.len
    have hlp := pays_lev (zs.map fun z => z.2)
    rw [hrr.1, hrr.2] at hlp
    have hpt := lev_parts (plain_pt hs) (plain_pt ht)
    have hls := lenStr s
    have hlt := lenStr t
    have hat := hgz.at_
    walk_at "go"
    rename_i P1 H1 n1 e1 v1
    have hat1 := e1.get hat
    refine lc_objs0 (rv_list K d gs hV) (fun H' e => lst_of (e.get hat1)) (by have := hgz.few; omega) (fun g => HO.lst (g.2.map zV)) ?_ ?_
    · intro y H' hy e B h1
      refine ⟨rfl, ?_⟩
      have hy2 := (e1.trans e).get (hgz.hp y hy).1
      walk_at "go"
      rename_i q G n3 e3 v3
      exact h1 q G n3 e3 v3
    intro D1 H2 ts1 nD1 e2 vD1 hO1 _ _ _
    obtain ⟨fs, a1, b1, c1⟩ := hz_of (hgz.hp.ex (e1.trans e2)) hO1
    rw [← a1] at vD1
    have hfl : fs.length = gs.length := by have := congrArg List.length c1; simpa using this
    walk_at "go"
    rename_i U H3 n3 e3 v3
    have e13 := e1.trans (e2.trans e3)
    refine ⟨p, zs, rfl, e13.get hp, hz.ex e13, by omega, fun H4 e4 => ?_⟩
    have e14 := e13.trans e4
    have hat4 := e14.get hat
    walk_at "go"
    rw [List.length_map]
    refine ⟨p, zs, rfl, e14.get hp, hz.ex e14, by omega, fun H5 e5 => ?_⟩
    have e15 := e14.trans e5
    have hat5 := e15.get hat
    walk_at "go"
    rw [List.length_map, decide_eq_false (by omega)]
    walk_at "go"
    have e35 := e4.trans e5
    have v35 := e35.get v3
    have w1 := (e2.trans (e3.trans e35)).get v1
    have w2 := (e3.trans e35).get vD1
    have hf5 : HzAt H5 D1 fs := ⟨w2, b1.ex (e3.trans e35), by have := hgz.few; omega, fun f hf => by
      have : f.2 ∈ fs.map fun g => g.2 := List.mem_map_of_mem hf
      rw [c1] at this
      obtain ⟨x, hx, e⟩ := List.mem_map.mp this
      rw [← e]
      exact hgz.low x hx⟩
    have hsd : hsD fs = hsD gs := by
      have h := congrArg (List.map fun q : List ZP => q.map (·.2)) c1
      rw [List.map_map, List.map_map] at h
      exact h
    refine shown_ok hs ht v35 w1 (hz.ex e15) hl hok hrr hf5 (by rw [hsd]; exact hgood) fun H6 e6 => ?_
    have e16 := e15.trans e6
    rw [hfl]
    have w3 := e6.get v35
    have w4 := e6.get w1
    have w5 := hf5.ex e6
    have hat6 := hgz.ex e16
    have nd := cw_nd hat6 (zs.map fun z => z.2)
    have eq_ : ∀ {G : Hp} {u : Addr} {R : VK}, Ex H6 G → G u = some (.tup [.ref p, .ref d]) → R (.bl false) G → rNeU (.ref U) (.ref u) G R := fun {G u R} g hu hR => by
      have rz : Rp G (.ref P1) (.list ((zs.map fun z => z.2).map encC)) := (cz_rn (g.get w4) (hz.ex (e16.trans g))).rp (enc_nd _).1
      have rz2 : Rp G (.ref p) (.list ((zs.map fun z => z.2).map encC)) := (cz_rn ((e16.trans g).get hp) (hz.ex (e16.trans g))).rp (enc_nd _).1
      refine st_neD (.tup (tup_of (g.get w3)) (.cons rz (.cons ((w5.ex g).hp.rp (w5.ex g).at_) .nil))) (.tup (tup_of hu) (.cons rz2 (.cons ((hat6.ex g).hp.rp (hat6.ex g).at_) .nil))) (by have := nd.2; omega) ?_
      rw [cw_eqv zs zs fs gs rfl c1, eqv_self _ nd.1]
      exact hR
    by_cases hdue : (zs.map fun z => z.2).countP Chg.pays + gs.length = s.length + t.length
    · rw [decide_eq_true hdue, decide_eq_true (show (((zs.map fun z => z.2).countP Chg.pays : Nat) : Int) + (gs.length : Nat) = (s.length : Nat) + (t.length : Nat) by omega)]
      walk_at "go"
      rename_i U2 H7 n7 e7 v7
      refine eq_ e7 v7 ?_
      walk_at "go"
      refine ⟨_, _, rfl, .inl ⟨s, t, rfl, rfl, hs, ht, fun H8 e8 => ?_⟩⟩
      have e18 := e16.trans (e7.trans e8)
      walk_at "go"
      refine ⟨p, zs, rfl, e18.get hp, hz.ex e18, by omega, fun H9 e9 => ?_⟩
      walk_at "go"
      rw [decide_eq_true (by rw [hls, hlt] at hlp hpt; omega)]
      exact k H9 (e18.trans e9)
    · rw [decide_eq_false hdue, decide_eq_false (show ¬ (((zs.map fun z => z.2).countP Chg.pays : Nat) : Int) + (gs.length : Nat) = (s.length : Nat) + (t.length : Nat) by omega)]
      walk_at "go"
      rename_i U2 H7 n7 e7 v7
      refine eq_ e7 v7 ?_
      walk_at "go"
      exact k H7 (e16.trans e7)
def sp__law_both_ways : Sp := fun vs H Q _ => ∃ (p : Addr) (zs : List CZ) (s t : Str) (n : Int), vs = [.str s, .str t, .ref p, .int n] ∧ PlainS s ∧ PlainS t ∧ H p = some (.lst (zs.map cV)) ∧ CT H zs ∧ zs.length ≤ 48 ∧ (∀ z ∈ zs, ChgOk z.2) ∧ (OO (zs.map fun z => z.2) = s.cps.toList ∧ NN (zs.map fun z => z.2) = t.cps.toList) ∧ ∀ H', Ex H H' → Q (.bl true) H'
theorem lev_goodX {s t : List Nat} : GoodHeaps s t (encHs ((List.range (Lc s t s.length t.length)).map (lev s t (prs s t s.length)))) := by
  refine ⟨_, rfl, fun l hl => ?_, lev_perm⟩
  obtain ⟨i, hi, rfl⟩ := List.mem_map.mp hl
  exact ⟨lev_nonempty (List.mem_range.mp hi), lev_anti⟩
/-- the heaps that the law makes -/
theorem made_heaps {H0 H : Hp} {s t : Str} {d : Addr} {hs : List Addr} {tss : List (List Addr)} (h1 : PlainS s) (h2 : PlainS t) (h : HeapsAt H0 H d hs tss (Lc (parts s.cps.toList) (parts t.cps.toList) (tx (parts s.cps.toList)).length (tx (parts t.cps.toList)).length) (lev (parts s.cps.toList) (parts t.cps.toList) (prs (parts s.cps.toList) (parts t.cps.toList) (tx (parts s.cps.toList)).length))) :
    ∃ gs : List HZ, HzAt H d gs ∧ GoodHeaps (parts s.cps.toList) (parts t.cps.toList) (encHs (hsD gs)) ∧ gs.length = Lc (parts s.cps.toList) (parts t.cps.toList) (parts s.cps.toList).length (parts t.cps.toList).length := by
  have r1 := parts_row h1
  have r2 := parts_row h2
  have h' := h
  rw [show parts s.cps.toList = (tx (parts s.cps.toList)).cps.toList from (tx_toList _).symm, show parts t.cps.toList = (tx (parts t.cps.toList)).cps.toList from (tx_toList _).symm, tx_eta, tx_eta] at h'
  obtain ⟨gs, a, b, c, e, f, g⟩ := lev_hp r1 r2 h'
  rw [tx_toList, tx_toList, tx_length, tx_length] at c
  refine ⟨gs, ⟨by rw [h.at_, a], e, by omega, g⟩, ?_, ?_⟩
  · unfold hsD
    rw [c]
    exact lev_goodX
  · have := congrArg List.length c
    rwa [List.length_map, List.length_map, List.length_range] at this
theorem ok__law_both_ways (T : Tx K mg ad fd tk base tc w) : FnOk P w K mg base CX0 9 (ad 61) (fd 61) ["_law_row_here", "_law_goal", "_law_drawn", "_law_at"] sp__law_both_ways := by
  refine T.d__law_both_ways.F.ok sc__law_both_ways (fun vs H Q E h => ?_) (fun cdv A outer s H vs Q E hr h => ?_)
  · obtain ⟨p, zs, s, t, n, rfl, _⟩ := h
    rfl
  · obtain ⟨p, zs, s, t, n, rfl, hs, ht, hp, hz, hl, hok, hrr, k⟩ := h
    refine ⟨_, (pss_cons (ps_set (i := 4) sc__law_both_ways.nd rfl (Or.inl rfl) (pe_call (ok__law_heaps T) (hr.mono (by decide)) rfl T.d__law_heaps.g T.d__law_heaps.F.kp T.d__law_heaps.b .nil pass0 (pa_cons (pe_call (ok__law_parted T) (hr.mono (by decide)) rfl T.d__law_parted.g T.d__law_parted.F.kp T.d__law_parted.b .nil pass0 (pa_cons (pv 0) pa_nil)) (pa_cons (pe_call (ok__law_parted T) (hr.mono (by decide)) rfl T.d__law_parted.g T.d__law_parted.F.kp T.d__law_parted.b .nil pass0 (pa_cons (pv 1) pa_nil)) pa_nil))))
      (pss_cons (ps_set (i := 5) sc__law_both_ways.nd rfl (Or.inl rfl) (pe_call (ok_cost T) (hr.mono (by decide)) rfl T.d_cost.g T.d_cost.F.kp T.d_cost.b .nil passL (pa_cons (pv 0) (pa_cons (pv 1) pa_nil))))
      (pss_cons (ps_if (PW.pt (pw_or (pt_not (pt_val (pe_callB c_is (by rfl) T.b_isinstance (by decide +kernel) (pa_cons (pv 5) (pa_cons (pe_bltn (v := .ty "int") rfl T.b_int (by decide +kernel) rfl) pa_nil))))) (pw_or (pt_val (pe_callB c_is (by rfl) T.b_isinstance (by decide +kernel) (pa_cons (pv 5) (pa_cons (pe_bltn (v := .ty "bool") rfl T.b_bool (by decide +kernel) rfl) pa_nil)))) (pw_or1 (pt_cmpR (o_ne hr.units) (pe_op o_add (pv 5) (pe_callB (c_len (K := K)) (by rfl) T.b_len (by decide +kernel) (pa_cons (pv 4) pa_nil))) (pe_op o_add (pe_callB (c_len (K := K)) (by rfl) T.b_len (by decide +kernel) (pa_cons (pv 0) pa_nil)) (pe_callB (c_len (K := K)) (by rfl) T.b_len (by decide +kernel) (pa_cons (pv 1) pa_nil))) (nomark _)))))) (pss_one (ps_ret pe_bl)) pss_nil)
      (pss_cons (ps_if (PW.pt (pw_or (pt_cmpR o_gt (pv 5) (pe_call (ok__law_pays T) (hr.mono (by decide)) rfl T.d__law_pays.g T.d__law_pays.F.kp T.d__law_pays.b .nil pass0 (pa_cons (pv 2) pa_nil)) (nomark _)) (pw_or (pt_cmpR (o_ne hr.units) (pe_cmpR (o_eq hr.units) (pv 5) pe_int (nomark _)) (pe_cmpR (o_eq hr.units) (pv 0) (pv 1) (nomark _)) (nomark _)) (pw_or1 (pt_cmpR (o_ne hr.units) (pe_call (ok_cost T) (hr.mono (by decide)) rfl T.d_cost.g T.d_cost.F.kp T.d_cost.b .nil passL (pa_cons (pv 1) (pa_cons (pv 0) pa_nil))) (pv 5) (nomark _)))))) (pss_one (ps_ret pe_bl)) pss_nil)
      (pss_cons (ps_if (PW.pt (pw_or (pt_cmpR (o_ne hr.units) (pe_call (ok_paid T) (hr.mono (by decide)) rfl T.d_paid.g T.d_paid.F.kp T.d_paid.b .nil passL (pa_cons (pv 2) pa_nil)) (pe_call (ok__law_pays T) (hr.mono (by decide)) rfl T.d__law_pays.g T.d__law_pays.F.kp T.d__law_pays.b .nil pass0 (pa_cons (pv 2) pa_nil)) (nomark _)) (pw_or (pt_cmpR (o_ne hr.units) (pe_call (ok_done T) (hr.mono (by decide)) rfl T.d_done.g T.d_done.F.kp T.d_done.b .nil passL (pa_cons (pv 0) (pa_cons (pv 2) pa_nil))) (pv 1) (nomark _)) (pw_or1 (pt_not (pt_val (pe_call (ok__law_shown T) (hr.mono (by decide)) rfl T.d__law_shown.g T.d__law_shown.F.kp T.d__law_shown.b .nil pass0 (pa_cons (pv 0) (pa_cons (pv 1) (pa_cons (pv 2) (pa_cons (pv 4) pa_nil))))))))))) (pss_one (ps_ret pe_bl)) pss_nil)
      (pss_cons (ps_set (i := 6) sc__law_both_ways.nd rfl (Or.inl rfl) (pe_call (ok__law_part_one T) (hr.mono (by decide)) rfl T.d__law_part_one.g T.d__law_part_one.F.kp T.d__law_part_one.b .nil pass0 (pa_cons (pv 4) (pa_cons (pv 3) pa_nil))))
      (pss_cut (ps_if (PW.pt (pw_and (pt_cmpR o_notN (pv 6) pe_non (nomark _)) (pw_and1 (pt_not (pt_val (pe_call (ok__law_shown T) (hr.mono (by decide)) rfl T.d__law_shown.g T.d__law_shown.F.kp T.d__law_shown.b .nil pass0 (pa_cons (pv 0) (pa_cons (pv 1) (pa_cons (pv 2) (pa_cons (pv 6) pa_nil)))))))))) (pss_one (ps_ret pe_bl)) pss_nil)
      (pss_cons (ps_set (i := 7) sc__law_both_ways.nd rfl (Or.inl rfl) (pe_call (ok_changes_of T) (hr.mono (by decide)) rfl T.d_changes_of.g T.d_changes_of.F.kp T.d_changes_of.b .nil passL (pa_cons (pv 0) (pa_cons (pv 1) pa_nil))))
      (pss_cons (ps_if (PW.pt (pw_or (pt_not (pt_val (pe_call (ok__law_leads T) (hr.mono (by decide)) rfl T.d__law_leads.g T.d__law_leads.F.kp T.d__law_leads.b .nil pass0 (pa_cons (pv 7) (pa_cons (pv 0) (pa_cons (pv 1) pa_nil)))))) (pw_or (pt_cmpR (o_ne hr.units) (pe_call (ok__law_pays T) (hr.mono (by decide)) rfl T.d__law_pays.g T.d__law_pays.F.kp T.d__law_pays.b .nil pass0 (pa_cons (pv 7) pa_nil)) (pv 5) (nomark _)) (pw_or1 (pt_not (pt_val (pe_call (ok__law_shown T) (hr.mono (by decide)) rfl T.d__law_shown.g T.d__law_shown.F.kp T.d__law_shown.b .nil pass0 (pa_cons (pv 0) (pa_cons (pv 1) (pa_cons (pv 7) (pa_cons (pv 4) pa_nil))))))))))) (pss_one (ps_ret pe_bl)) pss_nil)
      (pss_cons (ps_set (i := 8) sc__law_both_ways.nd rfl (Or.inl rfl) (pe_call (ok__law_heaps T) (hr.mono (by decide)) rfl T.d__law_heaps.g T.d__law_heaps.F.kp T.d__law_heaps.b .nil pass0 (pa_cons (pe_call (ok__law_parted T) (hr.mono (by decide)) rfl T.d__law_parted.g T.d__law_parted.F.kp T.d__law_parted.b .nil pass0 (pa_cons (pv 1) pa_nil)) (pa_cons (pe_call (ok__law_parted T) (hr.mono (by decide)) rfl T.d__law_parted.g T.d__law_parted.F.kp T.d__law_parted.b .nil pass0 (pa_cons (pv 0) pa_nil)) pa_nil))))
      (pss_cons (ps_set (i := 9) sc__law_both_ways.nd rfl (Or.inl rfl) (pe_call (ok_back T) (hr.mono (by decide)) rfl T.d_back.g T.d_back.F.kp T.d_back.b .nil passL (pa_cons (pv 7) pa_nil)))
      (pss_one (ps_ret (pe_and (pe_call (ok__law_leads T) (hr.mono (by decide)) rfl T.d__law_leads.g T.d__law_leads.F.kp T.d__law_leads.b .nil pass0 (pa_cons (pv 9) (pa_cons (pv 1) (pa_cons (pv 0) pa_nil)))) (pe_one (pe_cmpR o_isB (pe_call (ok_shows_cost T) (hr.mono (by decide)) rfl T.d_shows_cost.g T.d_shows_cost.F.kp T.d_shows_cost.b .nil passL (pa_cons (pv 1) (pa_cons (pv 0) (pa_cons (pe_tup (pa_cons (pv 9) (pa_cons (pv 8) pa_nil))) pa_nil)))) pe_bl (nomark _))))))))))))))))), ?_⟩
    walk_at "go"
    have ls := hs.len
    have lt := ht.len
    have hls := lenStr s
    have hlt := lenStr t
    have hlp := pays_lev (zs.map fun z => z.2)
    rw [hrr.1, hrr.2, hls, hlt] at hlp
    have hpt := lev_parts (plain_pt hs) (plain_pt ht)
    rw [hls, hlt] at hpt
    have hpt2 := lev_parts (plain_pt ht) (plain_pt hs)
    rw [hls, hlt] at hpt2
    have hsy := Lev_sym s.cps.toList t.cps.toList _ s.length t.length (Nat.le_refl _)
    have hz0 : Lev s.cps.toList t.cps.toList s.length t.length = 0 ↔ s = t := by
      have h := Lev_eq0 (a := s.cps.toList) (b := t.cps.toList)
      rw [hls, hlt] at h
      rw [h]
      exact ⟨fun e => by rw [tx_of e, tx_eta], fun e => by rw [e]⟩
    obtain ⟨L, hL⟩ : ∃ L, L = Lev s.cps.toList t.cps.toList s.length t.length := ⟨_, rfl⟩
    rw [← hL] at hlp hpt hz0
    have lq : ∀ {u : Str}, u.length ≤ 24 → (tx (parts u.cps.toList)).length ≤ 48 := fun {u} h => by rw [tx_length, parts_len, lenStr]; omega
    refine ⟨s, rfl, by omega, fun H1 e1 => ?_⟩
    walk_at "go"
    refine ⟨t, rfl, by omega, fun H2 e2 => ?_⟩
    walk_at "go"
    refine ⟨_, _, rfl, lq ls, lq lt, fun d hs' tss H3 e3 HA => ?_⟩
    rw [tx_toList, tx_toList] at HA
    obtain ⟨gs, hA, hgood, hgl⟩ := made_heaps hs ht HA
    have e13 := e1.trans (e2.trans e3)
    have hat := hA.at_
    walk_at "go"
    refine ⟨_, _, rfl, .inl ⟨s, t, rfl, rfl, hs, ht, fun H4 e4 => ?_⟩⟩
    rw [← hL]
    have hat4 := e4.get hat
    walk_at "go"
    rw [List.length_map, decide_eq_true (show ((L : Nat) : Int) + ((gs.length : Nat) : Int) = (s.length : Nat) + (t.length : Nat) by omega)]
    have e14 := e13.trans e4
    walk_at "go"
    refine ⟨p, zs, rfl, e14.get hp, hz.ex e14, by omega, fun H5 e5 => ?_⟩
    have e15 := e14.trans e5
    walk_at "go"
    rw [decide_eq_false (by omega)]
    walk_at "go"
    have same : (decide (((L : Nat) : Int) = 0)) = decide (s = t) := by
      by_cases h : s = t
      · rw [decide_eq_true h, decide_eq_true (by have := hz0.mpr h; omega)]
      · rw [decide_eq_false h, decide_eq_false (fun z => h (hz0.mp (by omega)))]
    rw [same]
    refine st_F (by simp) ?_
    walk_at "go"
    refine ⟨_, _, rfl, .inl ⟨t, s, rfl, rfl, ht, hs, fun H6 e6 => ?_⟩⟩
    rw [← hsy, ← hL]
    have e16 := e15.trans e6
    walk_at "go"
    rw [decide_eq_true rfl]
    have rz6 := cz_rn (e16.get hp) (hz.ex e16)
    walk_at "go"
    refine ⟨.ref p, _, rfl, rz6.rq, fun _ => rz6, cz_lB (by omega), fun l h1 h2 h3 H7 e7 => ?_, fun hn => absurd ⟨_, rfl, by rw [List.length_map]; exact hl, fun c hc => ?_⟩ hn⟩
    rotate_left
    · obtain ⟨z, hz2, rfl⟩ := List.mem_map.mp hc
      exact hok z hz2
    rw [← encs_inj h1]
    clear h1 h2 h3
    have e17 := e16.trans e7
    walk_at "go"
    refine ⟨p, zs, rfl, e17.get hp, hz.ex e17, by omega, fun H8 e8 => ?_⟩
    have e18 := e17.trans e8
    walk_at "go"
    rw [decide_eq_true rfl]
    walk_at "go"
    have rz8 := cz_rn (e18.get hp) (hz.ex e18)
    have ornew : oldR (zs.map fun z => z.2) = s := (tx_of hrr.1.symm).symm
    have nrnew : newR (zs.map fun z => z.2) = t := (tx_of hrr.2.symm).symm
    refine ⟨.str s, .ref p, _, rfl, fun z e => by cases e; omega, rz8.rq, fun _ => rz8, cz_lB (by omega), .inr ⟨s, rfl, hs, fun l h1 h2 h3 h4 H9 e9 => ?_, fun hn => absurd ⟨_, rfl, by rw [List.length_map]; exact hl, fun c hc => ?_, ornew⟩ hn⟩⟩
    rotate_left
    · obtain ⟨z, hz2, rfl⟩ := List.mem_map.mp hc
      exact hok z hz2
    rw [← encs_inj h1, nrnew]
    clear h1 h2 h3 h4
    have e19 := e18.trans e9
    have e39 := e4.trans (e5.trans (e6.trans (e7.trans (e8.trans e9))))
    have hA9 := hA.ex e39
    walk_at "go"
    rw [decide_eq_true rfl]
    walk_at "go"
    refine ⟨p, d, zs, gs, s, t, rfl, hs, ht, e19.get hp, hz.ex e19, hl, hok, hrr, hA9, hgood, by rw [hgl]; exact Nat.le_refl _, fun Ha ea => ?_⟩
    have e1a := e19.trans ea
    have hAa := hA9.ex ea
    walk_at "go"
    refine ⟨d, gs, n, rfl, hAa.at_, hAa.hp, by have := hgl; have h1 := Lc_le (parts s.cps.toList) (parts t.cps.toList) (parts s.cps.toList).length (parts t.cps.toList).length; rw [parts_len, hls] at h1; rw [parts_len, hls] at this; omega, hAa.low, fun v Hb eb hv => ?_⟩
    have e1b := e1a.trans eb
    walk_at "go"
    refine ⟨fun σ' H' => Ex Hb H' ∧ ∃ y6 y7 y8 y9 : Option V, σ' = [some (.str s), some (.str t), some (.ref p), some (.int n), some (.ref d), some (.int (L : Nat)), y6, y7, y8, y9], ?_, ?_⟩
    · refine st_ifS ?_
      walk_at "go"
      rcases hv with rfl | ⟨q, fs, i, g, rfl, hB, hgi, hg2, hpart, hfl⟩
      · rw [decide_eq_true rfl]
        walk_at "go"
        exact ⟨Fr.refl _, _, _, _, _, rfl⟩
      · rw [decide_eq_false (fun z => by cases z)]
        walk_at "go"
        refine ⟨p, q, zs, fs, s, t, rfl, hs, ht, e1b.get hp, hz.ex e1b, hl, hok, hrr, hB, by rw [hpart]; exact part_good hgood hgi hg2, by rw [hfl, hgl]; omega, fun Hc ec => ?_⟩
        walk_at "go"
        exact ⟨ec, _, _, _, _, rfl⟩
    rintro σ' Hc ⟨ec, y6, y7, y8, y9, rfl⟩
    have e1c := e1b.trans ec
    have hAc := hAa.ex (eb.trans ec)
    walk_at "go"
    refine ⟨_, _, rfl, .inl ⟨s, t, rfl, rfl, hs, ht, fun q cz Hd ed _ vq cq okq oq nq pq lq2 => ?_⟩⟩
    rw [← hL] at pq
    have e1d := e1c.trans ed
    have hAd := hAc.ex ed
    walk_at "go"
    refine ⟨q, cz, s, t, true, rfl, vq, cq, by omega, ⟨oq, nq⟩, fun He ee => ?_⟩
    walk_at "go"
    refine ⟨q, cz, rfl, ee.get vq, cq.ex ee, by omega, fun Hf ef => ?_⟩
    have edf := ee.trans ef
    rw [pq]
    walk_at "go"
    rw [decide_eq_true rfl]
    walk_at "go"
    refine ⟨q, d, cz, gs, s, t, rfl, hs, ht, edf.get vq, cq.ex edf, by omega, okq, ⟨oq, nq⟩, hAd.ex edf, hgood, by rw [hgl]; exact Nat.le_refl _, fun Hg eg => ?_⟩
    have edg := edf.trans eg
    walk_at "go"
    refine ⟨t, rfl, by omega, fun Hh eh => ?_⟩
    walk_at "go"
    refine ⟨s, rfl, by omega, fun Hi ei => ?_⟩
    walk_at "go"
    refine ⟨_, _, rfl, lq lt, lq ls, fun d2 hs2 tss2 Hj ej HA2 => ?_⟩
    rw [tx_toList, tx_toList] at HA2
    obtain ⟨gs2, hA2, hgood2, hgl2⟩ := made_heaps ht hs HA2
    have edj := edg.trans (eh.trans (ei.trans ej))
    have rq := cz_rn (edj.get vq) (cq.ex edj)
    walk_at "go"
    refine ⟨.ref q, _, rfl, rq.rq, fun _ => rq, cz_lB (by omega), fun l h1 h2 h3 r rz Hk ek _ vr cr hrz => ?_, fun hn => absurd ⟨_, rfl, by rw [List.length_map]; omega, fun c hc => ?_⟩ hn⟩
    rotate_left
    · obtain ⟨z, hz2, rfl⟩ := List.mem_map.mp hc
      exact okq z hz2
    rw [← encs_inj h1] at hrz
    clear h1 h2 h3
    have rO : OO (rz.map fun z => z.2) = t.cps.toList := by rw [hrz, rv_OO, nq]
    have rN : NN (rz.map fun z => z.2) = s.cps.toList := by rw [hrz, rv_NN, oq]
    have rP : (rz.map fun z => z.2).countP Chg.pays = L := by rw [hrz, rv_pays, pq]
    have rl : rz.length = cz.length := by have := congrArg List.length hrz; simpa using this
    have rok : ∀ z ∈ rz, ChgOk z.2 := fun z hz2 => by
      have : z.2 ∈ (cz.map fun z => z.2).map Chg.rv := by rw [← hrz]; exact List.mem_map_of_mem hz2
      obtain ⟨c, hc, e⟩ := List.mem_map.mp this
      obtain ⟨z', hz', rfl⟩ := List.mem_map.mp hc
      rw [← e]
      exact rv_ok (okq z' hz')
    walk_at "go"
    refine ⟨r, rz, t, s, true, rfl, vr, cr, by omega, ⟨rO, rN⟩, fun Hl el => ?_⟩
    walk_at "go"
    rename_i U Hm nm em vm
    have elm := el.trans em
    refine shown_ok ht hs vm (elm.get vr) (cr.ex elm) (by omega) rok ⟨rO, rN⟩ (hA2.ex (ek.trans elm)) hgood2 fun Hn en => ?_
    rw [rP, decide_eq_true (by omega)]
    walk_at "go"
    exact k Hn (e1d.trans (edj.trans (ek.trans (elm.trans en))))
def gainL (l : List Nat) (m b : Nat) : List Nat := ((List.range (l.length - m - b)).filter fun i => decide (gT (invT l) (b + i) < m + b)).map fun i => b + i
def sp_Asks_gains (K : PySem.W.Frag) : Sp := fun vs H Q E => ∃ (p : Addr) (l : List Nat) (m b : Nat), vs = [.ref p, .int (b : Nat)] ∧ AsksAt K H p l m ∧ b ≤ l.length - m ∧ ∀ D H', Ex H H' → H D = none → H' D = some (.lst ((gainL l m b).map nV)) → Q (.ref D) H'
theorem ok_Asks_gains (T : Tx K mg ad fd tk base tc w) : FnOk P w K mg base CX0 4 (ad 62) (fd 62) ["self", "begin"] (sp_Asks_gains K) := by
  refine T.d_Asks_gains.F.ok sc_Asks_gains (fun vs H Q E h => ?_) (fun cdv A outer s H vs Q E hr h => ?_)
  · obtain ⟨p, l, m, b, rfl, _⟩ := h
    rfl
  · obtain ⟨p, l, m, b, rfl, hp, h1, k⟩ := h
    refine ⟨_, (pss_cons (ps_expr (pe_call (ok_need_place T) (hr.mono (by decide)) rfl T.d_need_place.g T.d_need_place.F.kp T.d_need_place.b .nil passL (pa_cons (pv 1) (pa_cons (pe_fldK (K := K) (pv 0) rfl) pa_nil))))
      (pss_one (ps_ret (pe_lc (own := [("at", 2)]) (g := gName 2) rfl sc_Asks_gains.nd (pi_range2 rfl T.b_range (pa_cons (pv 1) (pa_cons (pe_fldK (K := K) (pv 0) rfl) pa_nil))) (blkOk_by (own := [("at", 2)]) (N := N_Asks_gains) (sc := defScope s_Asks_gains) (by decide +kernel)) (fun _ _ _ _ _ => pg_name (i := 2) sc_Asks_gains.nd rfl (Or.inl rfl)) (fun _ _ _ _ _ => pts_one (pt_cmpR o_lt (pe_ix (i_ix (K := K)) (pe_fldK (K := K) (pv 0) rfl) (pv 2) (fun _ _ => rfl)) (pe_op o_add (pe_fldK (K := K) (pv 0) rfl) (pv 1)) (nomark _))) (fun _ _ _ _ _ => (pv 2)))))), ?_⟩
    obtain ⟨dx, tp, ga, sa, g1, g2, g3, g4, g5, g6, g7⟩ := hp
    walk_at "go"
    refine ⟨_, _, rfl, ⟨_, rfl⟩, fun h => nat_no h1 h, fun _ => ?_⟩
    walk_at "go"
    rw [show (((l.length - m : Nat) : Int) - (b : Nat)).toNat = l.length - m - b by omega]
    refine lc_pure (rv_range (b : Nat) _) (fun _ _ => trivial) (by rw [List.length_range]; omega) (fun i => decide (gT (invT l) (b + i) < m + b)) (fun i => nV (b + i)) ?_ ?_
    · intro i H' hi e B A' k1 k2
      have hi := List.mem_range.mp hi
      have g1' := e.get g1
      have g4' := e.get g4
      refine ⟨rfl, ?_⟩
      rw [show ((b : Nat) : Int) + (i : Nat) = ((b + i : Nat) : Int) by omega]
      walk_at "go"
      refine st_ixL g4' (at_nV (by rw [invT_len]; omega)) ?_
      unfold nV
      walk_at "go"
      refine st_br2 (fun c => ?_) (fun c => ?_)
      · walk_at "go"
        exact k1 (decide_eq_true (by omega)) _ (Fr.refl _)
      · exact k2 (decide_eq_false (by omega)) _ (Fr.refl _)
    · intro D H1 nD e1 vD
      refine k D H1 e1 nD ?_
      rw [vD, gainL, List.map_map]
      rfl
def sp_Tally_from_on (K : PySem.W.Frag) : Sp := fun vs H Q _ => ∃ (p : Addr) (l : List Nat) (b e : Nat), vs = [.ref p, .int (b : Nat), .int (e : Nat)] ∧ TalAt K H p l ∧ b ≤ 1000 ∧ Q (.int (cntT l b e : Nat)) H
theorem ok_Tally_from_on (T : Tx K mg ad fd tk base tc w) : FnOk P w K mg base CX0 2 (ad 63) (fd 63) ["self", "begin", "end"] (sp_Tally_from_on K) := by
  refine T.d_Tally_from_on.F.ok sc_Tally_from_on (fun vs H Q E h => ?_) (fun cdv A outer s H vs Q E hr h => ?_)
  · obtain ⟨p, l, b, e, rfl, _⟩ := h
    rfl
  · obtain ⟨p, l, b, e, rfl, hp, hb, k⟩ := h
    refine ⟨_, (pss_cons (ps_set (i := 3) sc_Tally_from_on.nd rfl (Or.inl rfl) pe_int)
      (pss_cons (ps_set (i := 4) sc_Tally_from_on.nd rfl (Or.inl rfl) (pv 1))
      (pss_cons (ps_for PassesOwn.never rfl (pi_list (pe_fldK (K := K) (pv 0) rfl)) (pg_name (i := 5) sc_Tally_from_on.nd rfl (Or.inl rfl)) (pss_cons (ps_if (pt_cmpR o_ge (pv 4) (pe_callB (c_len (K := K)) (by rfl) T.b_len (by decide +kernel) (pa_cons (pv 5) pa_nil)) (nomark _)) (pss_one (ps_ret (pv 3))) pss_nil)
      (pss_cut (ps_if (PW.pt (pw_or (pt_cmpR (o_eq hr.units) (pe_op o_mod (pv 4) pe_int) pe_int (nomark _)) (pw_or1 (pt_cmpR (o_eq hr.units) (pe_callB (c_len (K := K)) (by rfl) T.b_len (by decide +kernel) (pa_cons (pv 5) pa_nil)) pe_int (nomark _))))) (pss_cons (ps_aug (i := 3) sc_Tally_from_on.nd rfl (Or.inl rfl) (pe_call (ok_lesser T) (hr.mono (by decide)) rfl T.d_lesser.g T.d_lesser.F.kp T.d_lesser.b .nil pass0 (pa_cons (pe_ix (i_ix (K := K)) (pv 5) (pv 4) (fun _ _ => rfl)) (pa_cons (pv 2) pa_nil))) ip_add)
      (pss_one (ps_aug (i := 4) sc_Tally_from_on.nd rfl (Or.inl rfl) pe_int ip_add))) pss_nil)
      (pss_one (ps_set (i := 4) sc_Tally_from_on.nd rfl (Or.inl rfl) (pe_op o_div (pv 4) pe_int))))))
      (pss_one (ps_ret (pv 3)))))), ?_⟩
    obtain ⟨dx, fa, qs, fs, h1, h2, h3, h4, h5, h6, h7⟩ := hp
    have hql := h3.len
    walk_at "go"
    have start : restP (fun x => decide (x < e)) (ones l) b = cntT l b e := rest_ones _ l _ b rfl
    refine for_runs (runs_list K fa _) (fun j σ H' => H' = H ∧ ∃ (tot at_ : Nat), ((∃ bs, fs[j]? = some bs ∧ tot + restP (fun x => decide (x < e)) bs at_ = cntT l b e) ∨ (j = fs.length ∧ tot = cntT l b e)) ∧ at_ ≤ 1001 ∧ ∃ y, σ = [some (.ref p), some (.int (b : Nat)), some (.int (e : Nat)), some (.int (tot : Nat)), some (.int (at_ : Nat)), y]) ⟨rfl, 0, b, .inl ⟨_, h4.fst, by rw [start]; omega⟩, by omega, _, rfl⟩ (fun j σ H' _ h => by rw [h.1]; exact lst_of h2) ?_ ?_
    rotate_left
    · rintro σ H' ⟨rfl, tot, at_, hc, _, y, rfl⟩
      rw [List.length_map, hql] at hc
      have ht : tot = cntT l b e := by
        rcases hc with ⟨bs, hbs, _⟩ | ⟨_, h⟩
        · have := (List.getElem?_eq_some_iff.mp hbs).1
          omega
        · exact h
      subst ht
      walk_at "go"
      exact k
    rintro j x σ H0 H' hj ⟨hH, tot, at_, hc, hat, y, rfl⟩ ⟨hH2, hx⟩
    have hH3 := (hH2.trans hH).symm
    clear hH2 hH
    subst hH3
    rw [List.length_map, hql] at hj
    obtain ⟨q, hq⟩ : ∃ q, qs[j]? = some q := ⟨qs[j]'(by omega), List.getElem?_eq_getElem _⟩
    rw [List.getElem?_map, hq] at hx
    cases hx
    obtain ⟨bs, hbs, hrest⟩ : ∃ bs, fs[j]? = some bs ∧ tot + restP (fun x => decide (x < e)) bs at_ = cntT l b e := by
      rcases hc with h | ⟨h, _⟩
      · exact h
      · omega
    obtain ⟨rs, bs', hb', hT⟩ := h3.tb j q hq
    have : bs' = bs := by rw [hb'] at hbs; exact Option.some.inj hbs
    subst this
    have hrl := hT.len
    have hTa := hT.at_
    have hlen := h4.len _ _ hbs
    walk_at "go"
    rw [List.length_map, hrl]
    refine st_br2 (fun c1 => ?_) (fun c1 => ?_)
    · rw [restP_end (by omega)] at hrest
      have ht : tot = cntT l b e := by omega
      subst ht
      walk_at "go"
      exact k
    have hal : at_ < bs'.length := by omega
    have step := restP_at (p := fun x => decide (x < e)) hal
    have next : ∀ cs, fs[j + 1]? = some cs → 2 ≤ bs'.length ∧ ∀ i, restP (fun x => decide (x < e)) cs i = restP (fun x => decide (x < e)) bs' (2 * i) := fun cs hcs => by
      obtain ⟨g1, g2⟩ := h4.nxt j _ _ hbs hcs
      exact ⟨g1, fun i => g2.rest _ _ i rfl⟩
    have last : ¬ j + 1 < fs.length → bs'.length ≤ 1 := fun h => h5 _ (by rw [show fs.length - 1 = j by omega]; exact hbs)
    walk_at "go"
    refine ⟨fun σ' H' => H' = H ∧ ∃ (tot at_ : Nat), ((∃ cs, fs[j + 1]? = some cs ∧ tot + restP (fun x => decide (x < e)) cs (at_ / 2) = cntT l b e) ∨ (j + 1 = fs.length ∧ tot = cntT l b e)) ∧ at_ ≤ 1001 ∧ σ' = [some (.ref p), some (.int (b : Nat)), some (.int (e : Nat)), some (.int (tot : Nat)), some (.int (at_ : Nat)), some (.ref q)], ?_, ?_⟩
    rotate_left
    · rintro σ' H' ⟨rfl, tot', at', hc', hat', rfl⟩
      walk_at "go"
      refine ⟨rfl, tot', at' / 2, hc', by omega, some (.ref q), ?_⟩
      rw [show ((at' / 2 : Nat) : Int) = ((at' : Nat) : Int) / 2 by omega]
      rfl
    obtain ⟨r, hr1, hr2⟩ := hT.row hal
    have hblk := h4.blk hbs (List.getElem_mem hal)
    have fin : at_ % 2 = 1 ∨ bs'.length = 1 → ((∃ cs, fs[j + 1]? = some cs ∧ (tot + bs'[at_].countP (fun x => decide (x < e))) + restP (fun x => decide (x < e)) cs ((at_ + 1) / 2) = cntT l b e) ∨ (j + 1 = fs.length ∧ tot + bs'[at_].countP (fun x => decide (x < e)) = cntT l b e)) := fun hc => by
      by_cases hj2 : j + 1 < fs.length
      · obtain ⟨g1, g2⟩ := next _ (List.getElem?_eq_getElem hj2)
        refine .inl ⟨_, List.getElem?_eq_getElem hj2, ?_⟩
        rw [g2, show 2 * ((at_ + 1) / 2) = at_ + 1 by omega]
        omega
      · have := last hj2
        rw [restP_end (i := at_ + 1) (by omega)] at step
        exact .inr ⟨by omega, by omega⟩
    have stay : ¬ (at_ % 2 = 1) → ¬ (bs'.length = 1) → ((∃ cs, fs[j + 1]? = some cs ∧ tot + restP (fun x => decide (x < e)) cs (at_ / 2) = cntT l b e) ∨ (j + 1 = fs.length ∧ tot = cntT l b e)) := fun c2 c3 => by
      by_cases hj2 : j + 1 < fs.length
      · obtain ⟨g1, g2⟩ := next _ (List.getElem?_eq_getElem hj2)
        refine .inl ⟨_, List.getElem?_eq_getElem hj2, ?_⟩
        rw [g2, show 2 * (at_ / 2) = at_ by omega]
        exact hrest
      · have := last hj2
        omega
    refine st_ifS ?_
    walk_at "go"
    by_cases c2 : at_ % 2 = 1
    · rw [decide_eq_true (by omega)]
      walk_at "go"
      refine st_ixL hTa (v := .ref r) (at_nat (by rw [List.getElem?_map, hr1]; rfl)) ?_
      walk_at "go"
      refine ⟨r, _, e, rfl, hr2, hblk.1, by omega, ?_⟩
      walk_at "go"
      refine ⟨rfl, _, at_ + 1, fin (.inl c2), by omega, ?_⟩
      rw [show ((at_ + 1 : Nat) : Int) = ((at_ : Nat) : Int) + 1 by omega, Int.natCast_add]
      rfl
    · rw [decide_eq_false (by omega)]
      walk_at "go"
      rw [List.length_map, hrl]
      by_cases c3 : bs'.length = 1
      · rw [decide_eq_true (by omega)]
        walk_at "go"
        refine st_ixL hTa (v := .ref r) (at_nat (by rw [List.getElem?_map, hr1]; rfl)) ?_
        walk_at "go"
        refine ⟨r, _, e, rfl, hr2, hblk.1, by omega, ?_⟩
        walk_at "go"
        refine ⟨rfl, _, at_ + 1, fin (.inr c3), by omega, ?_⟩
        rw [show ((at_ + 1 : Nat) : Int) = ((at_ : Nat) : Int) + 1 by omega, Int.natCast_add]
        rfl
      · rw [decide_eq_false (by omega)]
        walk_at "go"
        exact ⟨rfl, tot, at_, stay c2 c3, hat, rfl⟩
def sp_Tally_below (K : PySem.W.Frag) : Sp := fun vs H Q E => ∃ (p : Addr) (l : List Nat) (b e : V), vs = [.ref p, b, e] ∧ TalAt K H p l ∧ Ty H b ∧ Ty H e ∧ (withinV b 0 l.length = false → RaF K E H "NoPlace" [("found", b)]) ∧ (withinV b 0 l.length = true → withinV e 0 l.length = false → RaF K E H "NoPlace" [("found", e)]) ∧ (∀ i j : Nat, b = .int (i : Nat) → e = .int (j : Nat) → i ≤ l.length → j ≤ l.length → Q (.int (cntT l i j : Nat)) H)
theorem ok_Tally_below (T : Tx K mg ad fd tk base tc w) : FnOk P w K mg base (L2.CX P w) 4 (ad 64) (fd 64) ["self", "begin", "end"] (sp_Tally_below K) := by
  refine T.d_Tally_below.F.okX sc_Tally_below (fun vs H Q E h => ?_) (fun cdv A outer s H vs Q E hr h => ?_)
  · obtain ⟨p, l, b, e, rfl, _⟩ := h
    rfl
  · obtain ⟨p, l, b, e, rfl, hp, hb, he, k0, k1, k2⟩ := h
    refine ⟨_, (pss_cons (ps_expr (pe_call (ok_need_place T) (hr.mono (by decide)) rfl T.d_need_place.g T.d_need_place.F.kp T.d_need_place.b .nil (passes_call (takes_of rfl rfl rfl rfl) (fun _ _ _ _ h => h)) (pa_cons (pv 1) (pa_cons (pe_fldK (K := K) (pv 0) rfl) pa_nil))))
      (pss_cons (ps_expr (pe_call (ok_need_place T) (hr.mono (by decide)) rfl T.d_need_place.g T.d_need_place.F.kp T.d_need_place.b .nil (passes_call (takes_of rfl rfl rfl rfl) (fun _ _ _ _ h => h)) (pa_cons (pv 2) (pa_cons (pe_fldK (K := K) (pv 0) rfl) pa_nil))))
      (pss_one (ps_ret (pe_meth (pv 0) T.cl_Tally T.d_Tally_from_on.g (ok_Tally_from_on T) (hr.mono (by decide)) T.d_Tally_from_on.b .nil pass0 (pa_cons (pv 1) (pa_cons (pv 2) pa_nil))))))), ?_⟩
    obtain ⟨dx, fa, qs, fs, h1, _, _, _, _, _, h7⟩ := id hp
    walk_at "go"
    refine ⟨b, _, rfl, hb, k0, fun hbt => ?_⟩
    walk_at "go"
    refine ⟨e, _, rfl, he, k1 hbt, fun het => ?_⟩
    obtain ⟨i, rfl, hi⟩ := within_nat hbt
    obtain ⟨j, rfl, hj⟩ := within_nat het
    walk_at "go"
    exact ⟨p, l, i, j, rfl, hp, by omega, k2 i j rfl rfl hi hj⟩
def sp_Asks_window (K : PySem.W.Frag) : Sp := fun vs H Q E => ∃ (p : Addr) (l : List Nat) (m f la b e : Nat), vs = [.ref p, .int (f : Nat), .int (la : Nat), .int (b : Nat), .int (e : Nat)] ∧ AsksAt K H p l m ∧ WinOk m (l.length - m) f la b e ∧ ∀ H', Ex H H' → Q (.int (winV l m f la b e)) H'
theorem ok_Asks_window (T : Tx K mg ad fd tk base tc w) : FnOk P w K mg base CX0 5 (ad 65) (fd 65) ["self", "first", "last", "begin", "end"] (sp_Asks_window K) := by
  refine T.d_Asks_window.F.ok sc_Asks_window (fun vs H Q E h => ?_) (fun cdv A outer s H vs Q E hr h => ?_)
  · obtain ⟨p, l, m, f, la, b, e, rfl, _⟩ := h
    rfl
  · obtain ⟨p, l, m, f, la, b, e, rfl, hp, hk, k⟩ := h
    refine ⟨_, (pss_cons (ps_expr (pe_call (ok_need_window T) (hr.mono (by decide)) rfl T.d_need_window.g T.d_need_window.F.kp T.d_need_window.b .nil pass0 (pa_cons (pe_fldK (K := K) (pv 0) rfl) (pa_cons (pe_fldK (K := K) (pv 0) rfl) (pa_cons (pe_tup (pa_cons (pv 1) (pa_cons (pv 2) (pa_cons (pv 3) (pa_cons (pv 4) pa_nil))))) pa_nil)))))
      (pss_one (ps_ret (pe_op o_sub (pe_op o_sub (pv 4) (pv 3)) (pe_meth (pe_fldK (K := K) (pv 0) rfl) T.cl_Tally T.d_Tally_below.g (ok_Tally_below T) (hr.mono (by decide)) T.d_Tally_below.b .nil passL (pa_cons (pe_op o_add (pe_op o_sub (pe_fldK (K := K) (pv 0) rfl) (pv 1)) (pv 3)) (pa_cons (pe_op o_add (pe_op o_sub (pe_fldK (K := K) (pv 0) rfl) (pv 2)) (pv 4)) pa_nil))))))), ?_⟩
    obtain ⟨dx, tp, ga, sa, h1, h2, h3, h4, h5, h6, h7⟩ := hp
    obtain ⟨g1, g2, g3, g4, g5, g6⟩ := id hk
    walk_at "go"
    rename_i t H1 n1 e1 v1
    refine ⟨t, m, l.length - m, f, la, b, e, rfl, v1, hk, ?_⟩
    have h1' := e1.get h1
    have h2' := h2.ex e1
    obtain ⟨_, _, _, _, hins, _⟩ := id h2'
    walk_at "go"
    rw [show ((m : Nat) : Int) - (f : Nat) + (b : Nat) = ((m - f + b : Nat) : Int) by omega, show ((m : Nat) : Int) - (la : Nat) + (e : Nat) = ((m - la + e : Nat) : Int) by omega]
    refine ⟨tp, l, _, _, rfl, h2', ⟨_, rfl⟩, ⟨_, rfl⟩, fun h => nat_no (by omega) h, fun _ h => nat_no (by omega) h, fun i j hi hj _ _ => ?_⟩
    have q1 : i = m - f + b := by have := V.int.inj hi; omega
    have q2 : j = m - la + e := by have := V.int.inj hj; omega
    subst q1
    subst q2
    walk_at "go"
    exact k _ e1
def sp_Asks_stretch (K : PySem.W.Frag) : Sp := fun vs H Q E => ∃ (p : Addr) (l : List Nat) (m b e : Nat), vs = [.ref p, .int (b : Nat), .int (e : Nat)] ∧ AsksAt K H p l m ∧ b ≤ e ∧ e ≤ l.length - m ∧ ∀ H', Ex H H' → Q (.int (winV l m 0 m b e)) H'
theorem ok_Asks_stretch (T : Tx K mg ad fd tk base tc w) : FnOk P w K mg base CX0 6 (ad 66) (fd 66) ["self", "begin", "end"] (sp_Asks_stretch K) := by
  refine T.d_Asks_stretch.F.ok sc_Asks_stretch (fun vs H Q E h => ?_) (fun cdv A outer s H vs Q E hr h => ?_)
  · obtain ⟨p, l, m, b, e, rfl, _⟩ := h
    rfl
  · obtain ⟨p, l, m, b, e, rfl, hp, h1, h2, k⟩ := h
    refine ⟨_, (pss_cons (ps_expr (pe_call (ok_need_span T) (hr.mono (by decide)) rfl T.d_need_span.g T.d_need_span.F.kp T.d_need_span.b .nil passL (pa_cons (pv 1) (pa_cons (pv 2) (pa_cons (pe_fldK (K := K) (pv 0) rfl) pa_nil)))))
      (pss_one (ps_ret (pe_meth (pv 0) T.cl_Asks T.d_Asks_window.g (ok_Asks_window T) (hr.mono (by decide)) T.d_Asks_window.b .nil pass0 (pa_cons pe_int (pa_cons (pe_fldK (K := K) (pv 0) rfl) (pa_cons (pv 1) (pa_cons (pv 2) pa_nil)))))))), ?_⟩
    obtain ⟨dx, tp, ga, sa, g1, g2⟩ := id hp
    walk_at "go"
    refine use_span h1 h2 ?_
    walk_at "go"
    exact ⟨p, l, m, 0, m, b, e, rfl, hp, ⟨Nat.zero_le _, Nat.le_refl _, h1, h2, .inl rfl, .inl rfl⟩, k⟩
def winRow (l : List Nat) (m b : Nat) : List Int := (List.range (l.length - m - b + 1)).map fun j => winV l m 0 m b (b + j)
def winO (l : List Nat) (m b : Nat) : HO := .lst ((winRow l m b).map V.int)
theorem win_next {l : List Nat} (h : IsT l) {m b e : Nat} (hbe : b ≤ e) (he : e < l.length - m) : winV l m 0 m b (e + 1) = winV l m 0 m b e + (if gT (invT l) e < m + b then 1 else 0) := by
  unfold winV
  rw [Nat.sub_zero, Nat.sub_self, Nat.zero_add, Nat.zero_add]
  have h1 : cntT l (m + b) (e + 1) = cntT l (m + b) e + (if m + b ≤ l.idxOf e then 1 else 0) := by
    unfold cntT
    rw [countP_lt_succ, count_drop h (by omega)]
  rw [h1, invT_g (by omega)]
  by_cases q : m + b ≤ l.idxOf e
  · rw [if_pos q, if_neg (by omega)]; omega
  · rw [if_neg q, if_pos (by omega)]; omega
theorem gain_any {l : List Nat} {m b e : Nat} (hbe : b ≤ e) (he : e < l.length - m) : (((gainL l m b).map encN).any fun y => PyData.eqv y (encN e)) = decide (gT (invT l) e < m + b) := by
  rw [Bool.eq_iff_iff, List.any_eq_true, decide_eq_true_eq]
  constructor
  · rintro ⟨d, hd, h⟩
    obtain ⟨x, hx, rfl⟩ := List.mem_map.mp hd
    rw [eqv_encN, decide_eq_true_eq] at h
    subst h
    obtain ⟨i, hi, rfl⟩ := List.mem_map.mp hx
    simpa using (List.mem_filter.mp hi).2
  · intro h
    refine ⟨encN e, List.mem_map.mpr ⟨e, List.mem_map.mpr ⟨e - b, List.mem_filter.mpr ⟨List.mem_range.mpr (by omega), ?_⟩, by omega⟩, rfl⟩, by rw [eqv_encN]; exact decide_eq_true rfl⟩
    rw [show b + (e - b) = e by omega]
    exact decide_eq_true h
def sp_Asks_table (K : PySem.W.Frag) : Sp := fun vs H Q E => ∃ (p : Addr) (l : List Nat) (m : Nat), vs = [.ref p] ∧ AsksAt K H p l m ∧ ∀ D rs H', Ex H H' → H D = none → H' D = some (.lst (rs.map V.ref)) → ObjsAt H' rs ((List.range (l.length - m + 1)).map (winO l m)) → D ∉ rs → (∀ r ∈ rs, H r = none) → rs.Nodup → Q (.ref D) H'
theorem ok_Asks_table (T : Tx K mg ad fd tk base tc w) : FnOk P w K mg base CX0 7 (ad 67) (fd 67) ["self"] (sp_Asks_table K) := by
  refine T.d_Asks_table.F.ok sc_Asks_table (fun vs H Q E h => ?_) (fun cdv A outer s H vs Q E hr h => ?_)
  · obtain ⟨p, l, m, rfl, _⟩ := h
    rfl
  · obtain ⟨p, l, m, rfl, hp, k⟩ := h
    refine ⟨_, (pss_cons (ps_set (i := 1) sc_Asks_table.nd rfl (Or.inl rfl) (pe_lst pa_nil))
      (pss_cons (ps_for PassesOwn.never rfl (pi_range1 rfl T.b_range (pa_cons (pe_op o_add (pe_fldK (K := K) (pv 0) rfl) pe_int) pa_nil)) (pg_name (i := 2) sc_Asks_table.nd rfl (Or.inl rfl)) (pss_cons (ps_set (i := 3) sc_Asks_table.nd rfl (Or.inl rfl) (pe_lst (pa_cons (pe_meth (pv 0) T.cl_Asks T.d_Asks_stretch.g (ok_Asks_stretch T) (hr.mono (by decide)) T.d_Asks_stretch.b .nil pass0 (pa_cons (pv 2) (pa_cons (pv 2) pa_nil))) pa_nil)))
      (pss_cons (ps_set (i := 4) sc_Asks_table.nd rfl (Or.inl rfl) (pe_meth (pv 0) T.cl_Asks T.d_Asks_gains.g (ok_Asks_gains T) (hr.mono (by decide)) T.d_Asks_gains.b .nil pass0 (pa_cons (pv 2) pa_nil)))
      (pss_cons (ps_for PassesOwn.never rfl (pi_range2 rfl T.b_range (pa_cons (pv 2) (pa_cons (pe_fldK (K := K) (pv 0) rfl) pa_nil))) (pg_name (i := 5) sc_Asks_table.nd rfl (Or.inl rfl)) (pss_one (ps_expr (pe_bm PySem.F.plainAttrs_list PySem.F.slot_list_append PySem.F.type_list_append mt_append (pv 3) (pa_cons (pe_op o_add (pe_ix (i_ix (K := K)) (pv 3) (pe_un un_neg pe_int) (fun _ _ => rfl)) (pe_callTy c_int (by rfl) T.b_int (by decide +kernel) (pa_cons (pe_cmpR (o_in hr.units) (pv 5) (pv 4) rfl) pa_nil))) pa_nil)))))
      (pss_one (ps_expr (pe_bm PySem.F.plainAttrs_list PySem.F.slot_list_append PySem.F.type_list_append mt_append (pv 1) (pa_cons (pv 3) pa_nil))))))))
      (pss_one (ps_ret (pv 1))))), ?_⟩
    obtain ⟨dx, tp, ga, sa, g1, g2, g3, g4, g5, g6, g7⟩ := id hp
    walk_at "go"
    rename_i F H1 n1 e1 v1
    have g1' := e1.get g1
    walk_at "go"
    rw [show (((l.length - m : Nat) : Int) + 1).toNat = l.length - m + 1 by omega]
    refine for_runs (runs_range 0 _) (fun i σ H' => (FrP F H1 H' ∧ ∃ rs : List Addr, H' F = some (.lst (rs.map V.ref)) ∧ ObjsAt H' rs ((List.range i).map (winO l m)) ∧ F ∉ rs ∧ (∀ r ∈ rs, H r = none) ∧ rs.Nodup) ∧ ∃ y2 y3 y4 y5, σ = [some (.ref p), some (.ref F), y2, y3, y4, y5]) ⟨⟨Fr.refl _, [], v1, .nil, by simp, by simp, List.nodup_nil⟩, _, _, _, _, rfl⟩ (fun _ _ _ _ _ => trivial) ?_ ?_
    rotate_left
    · rintro σ H2 ⟨⟨f2, rs, h1, h2, h3, h4, h5⟩, y2, y3, y4, y5, rfl⟩
      walk_at "go"
      exact k F rs H2 (Ex.comp (M := fun b => b = F) e1 f2 fun b hb => by rw [hb]; exact n1) n1 h1 h2 h3 h4 h5
    rintro b x σ H0 H2 hb ⟨⟨f2, rs, h1, h2, h3, h4, h5⟩, y2, y3, y4, y5, rfl⟩ ⟨rfl, rfl⟩
    have e02 : Ex H H2 := Ex.comp (M := fun b => b = F) e1 f2 fun b hb => by rw [hb]; exact n1
    have hp2 := hp.ex e02
    have g2' := e02.get g1
    have hrl := h2.len
    rw [List.length_map, List.length_range] at hrl
    rw [show (0 : Int) + ((b : Nat) : Int) = (b : Nat) by omega]
    walk_at "go"
    refine ⟨p, l, m, b, b, rfl, hp2, Nat.le_refl _, by omega, fun H3 e3 => ?_⟩
    have hp3 := hp2.ex e3
    have g3' := e3.get g2'
    walk_at "go"
    rename_i R H4 n4 e4 v4
    have hp4 := hp3.ex e4
    have g4' := e4.get g3'
    refine ⟨p, l, m, b, rfl, hp4, by omega, fun G H5 e5 n5 v5 => ?_⟩
    have g5' := e5.get g4'
    have v45 := e5.get v4
    have hRG : G ≠ R := fun z => by rw [z, v4] at n5; cases n5
    walk_at "go"
    rw [show (((l.length - m : Nat) : Int) - (b : Nat)).toNat = l.length - m - b by omega]
    refine for_runs (runs_range (b : Nat) _) (fun j σ H' => (FrP R H5 H' ∧ H' R = some (.lst (((List.range (j + 1)).map fun j => winV l m 0 m b (b + j)).map V.int))) ∧ ∃ y5, σ = [some (.ref p), some (.ref F), some (.int (b : Nat)), some (.ref R), some (.ref G), y5]) ⟨⟨Fr.refl _, v45⟩, _, rfl⟩ (fun _ _ _ _ _ => trivial) ?_ ?_
    · rintro j x σ H0' H6 hj ⟨⟨f6, v6⟩, y5, rfl⟩ ⟨rfl, rfl⟩
      rw [show ((b : Nat) : Int) + (j : Nat) = ((b + j : Nat) : Int) by omega]
      have v5' := f6.get hRG v5
      have hl1 : (((List.range (j + 1)).map fun j => winV l m 0 m b (b + j)).map V.int).length = j + 1 := by simp
      walk_at "go"
      refine st_ixL v6 (at_last (n := j) hl1 (v := .int (winV l m 0 m b (b + j))) (by rw [List.getElem?_map, List.getElem?_map, List.getElem?_range (by omega)]; rfl)) ?_
      walk_at "go"
      refine st_inL (seq_l v5') (rpA_map (val := nV) (enc := encN) fun _ _ => .int _) (d := encN (b + j)) (.int _) (by simp [encN, PyData.depth]) ?_
      rw [gain_any (by omega) (by omega)]
      walk_at "go"
      refine st_app v6 (by rw [hl1]; omega) ?_
      refine ⟨⟨f6.trans FrP.at, ?_⟩, _, rfl⟩
      rw [upd_same, List.range_succ (n := j + 1), List.map_append, List.map_append]
      have := win_next g5 (m := m) (b := b) (e := b + j) (by omega) (by omega)
      have hw : winV l m 0 m b (b + (j + 1)) = winV l m 0 m b (b + j) + (if decide (gT (invT l) (b + j) < m + b) = true then 1 else 0) := by
        rw [show b + (j + 1) = b + j + 1 by omega, this]
        simp only [decide_eq_true_eq]
      show _ = some (HO.lst (_ ++ [V.int (winV l m 0 m b (b + (j + 1)))]))
      rw [hw]
    · rintro σ H6 ⟨⟨f6, v6⟩, y5, rfl⟩
      have hRF : R ≠ F := fun z => by rw [z, e3.get h1] at n4; cases n4
      have nR2 : H2 R = none := Ex.free e3 n4
      have nR : H R = none := Ex.free e02 nR2
      have e26 : Ex H2 H6 := Ex.comp (M := fun b => b = R) (e3.trans (e4.trans e5)) f6 fun b hb => by rw [hb]; exact nR2
      have hF6 := e26.get h1
      have hRr : R ∉ rs := fun z => by
        obtain ⟨i, hi⟩ := List.getElem?_of_mem z
        have hir := (List.getElem?_eq_some_iff.mp hi).1
        have := h2.at i R _ hi (by rw [List.getElem?_map, List.getElem?_range (by omega)]; rfl)
        rw [nR2] at this
        cases this
      walk_at "go"
      refine st_app hF6 (by rw [List.length_map]; omega) ?_
      refine ⟨⟨fun x o hx h => by rw [upd_ne hx]; exact e26.get (f2 x o hx h), rs ++ [R], by rw [upd_same, List.map_append]; rfl, ?_, ?_, ?_, ?_⟩, _, _, _, _, rfl⟩
      · rw [List.range_succ, List.map_append]
        refine ObjsAt.app ((h2.ex e26).up h3) (.one ?_)
        rw [upd_ne hRF]
        exact v6
      · rw [List.mem_append, List.mem_singleton]
        rintro (z | z)
        · exact h3 z
        · exact hRF z.symm
      · intro r hr
        rcases List.mem_append.mp hr with z | z
        · exact h4 r z
        · rw [List.mem_singleton.mp z]; exact nR
      · rw [List.nodup_append]
        exact ⟨h5, by simp, fun x hx y hy => by rw [List.mem_singleton.mp hy]; exact fun z => hRr (z ▸ hx)⟩
/-- the costs that are kept -/
structure CostsAt (K : PySem.W.Frag) (H : Hp) (p : Addr) (s t : Str) : Prop where
  ex : ∃ (dx cs : Addr) (rs : List Addr), H p = some (.ins (clsA K "Costs") dx [("turned_row", .str s), ("goal_row", .str t), ("wide", .int (t.length : Nat)), ("costs", .ref cs)]) ∧ H cs = some (.lst (rs.map V.ref)) ∧ ObjsAt H rs ((List.range (t.length + 1)).map fun b => .lst ((levRow s.cps.toList t.cps.toList b).map V.int)) ∧ rs.Nodup ∧ cs ∉ rs
/-- a row of the table, cut to even places, is what the costs come of -/
theorem table_lev {s t : Str} (hs : PlainS s) (ht : PlainS t) {b j : Nat} (hb : b ≤ t.length) (hj : j ≤ t.length - b) :
    ((s.length : Int) + (j : Int)) - winV (brdL (tx (parts s.cps.toList)) (tx (parts t.cps.toList))) (2 * s.length) 0 (2 * s.length) (2 * b) (2 * b + 2 * j) = ((Lev s.cps.toList (t.cps.toList.drop b) s.length j : Nat) : Int) := by
  have hsl : s.cps.toList.length = s.length := Array.length_toList
  have htl : t.cps.toList.length = t.length := Array.length_toList
  have l1 : (tx (parts s.cps.toList)).length = 2 * s.length := by rw [tx_length, parts_len, hsl]
  have l2 : (tx (parts t.cps.toList)).length = 2 * t.length := by rw [tx_length, parts_len, htl]
  have w := winV_Lc (tx (parts s.cps.toList)) (tx (parts t.cps.toList)) (f := 0) (la := 2 * s.length) (b := 2 * b) (e := 2 * b + 2 * j) (.inl rfl) (.inl l1.symm) (Nat.zero_le _) (by omega) (by omega) (by omega)
  rw [l1] at w
  unfold winV
  rw [w, tx_toList, tx_toList, List.drop_zero, parts_drop, Nat.sub_zero, Nat.add_sub_cancel_left]
  have hd : 46 ∉ t.cps.toList.drop b := fun z => plain_pt ht (List.mem_of_mem_drop z)
  have := lev_Lc (plain_pt hs) hd _ s.length j (Nat.le_refl _) (by omega) (by rw [List.length_drop]; omega)
  omega
def sp_Costs_init (K : PySem.W.Frag) (TL : List (Addr × Str)) : Sp := fun vs H Q E => ∃ (p dx : Addr) (x y : V), vs = [.ref p, x, y] ∧ H p = some (.ins (clsA K "Costs") dx []) ∧ LamX.Tabs TL H ∧ Plains2 K E H x y fun s t => ∀ H', Fr (fun b => b = p) (noT H) H' → LamX.Tabs TL H' → CostsAt K H' p s t → Q .non H'
theorem mk_costs {K : PySem.W.Frag} {TL : List (Addr × Str)} {H : Hp} {Q : VK} {E : XK} {x y : V} (hT : LamX.Tabs TL H) (hR : Plains2 K E H x y fun s t => ∀ p H', Ex (noT H) H' → H p = none → LamX.Tabs TL H' → CostsAt K H' p s t → Q (.ref p) H') : MakeP (clsA K "Costs") (sp_Costs_init K TL) [] E Q [x, y] H := by
  refine st_makeP fun p dx H1 np e1 v1 => ?_
  refine ⟨p, dx, _, _, rfl, v1, hT.ext fun b o h => e1.get h, ?_⟩
  rcases hR with ⟨s, t, rfl, rfl, hs, ht, k⟩ | ⟨h1, h2, h⟩
  · refine .inl ⟨s, t, rfl, rfl, hs, ht, fun H2 f2 hT2 hB => ?_⟩
    refine ⟨rfl, k p H2 ?_ np hT2 hB⟩
    exact Ex.comp (M := fun b => b = p) (noT_mono e1) f2 fun b hb => by
      rw [hb]
      unfold Zb.noT
      rw [np]
  · refine .inr ⟨h1.ex e1, h2.ex e1, ?_⟩
    rcases h with ⟨a, b⟩ | ⟨a, b, c⟩
    · exact .inl ⟨a, b.ex e1⟩
    · exact .inr ⟨a, b, c.ex e1⟩
theorem ok_Costs_init (T : Tx K mg ad fd tk base tc w) : FnOk P w K mg base (L2.CX P w) 10 (ad 68) (fd 68) ["self", "side", "top"] (sp_Costs_init K (tabsL tc)) := by
  refine T.d_Costs_init.F.okX sc_Costs_init (fun vs H Q E h => ?_) (fun cdv A outer s H vs Q E hr h => ?_)
  · obtain ⟨p, dx, x, y, rfl, _⟩ := h
    rfl
  · obtain ⟨p, dx, x, y, rfl, hp, hT, hR⟩ := h
    refine ⟨_, (pss_cons (ps_expr (pe_call (ok_need_plains T) (hr.mono (by decide)) rfl T.d_need_plains.g T.d_need_plains.F.kp T.d_need_plains.b .nil (passes_call (takes_of rfl rfl rfl rfl) (fun _ _ _ _ h => h)) (pa_cons (pv 1) (pa_cons (pv 2) pa_nil))))
      (pss_cons (ps_fldK (K := K) (pv 0) (pv 1) rfl)
      (pss_cons (ps_fldK (K := K) (pv 0) (pv 2) rfl)
      (pss_cons (ps_fldK (K := K) (pv 0) (pe_callB (c_len (K := K)) (by rfl) T.b_len (by decide +kernel) (pa_cons (pv 2) pa_nil)) rfl)
      (pss_cons (ps_set (i := 3) sc_Costs_init.nd rfl (Or.inl rfl) (pe_meth0 (pe_call (ok_asks_of T) (hr.mono (by decide)) rfl T.d_asks_of.g T.d_asks_of.F.kp T.d_asks_of.b .nil (passes_call (takes_of rfl rfl rfl rfl) (fun _ _ _ _ h => h)) (pa_cons (pe_call (ok_parted T) (hr.mono (by decide)) rfl T.d_parted.g T.d_parted.F.kp T.d_parted.b .nil (passes_call (takes_of rfl rfl rfl rfl) (fun _ _ _ _ h => h)) (pa_cons (pv 1) pa_nil)) (pa_cons (pe_call (ok_parted T) (hr.mono (by decide)) rfl T.d_parted.g T.d_parted.F.kp T.d_parted.b .nil (passes_call (takes_of rfl rfl rfl rfl) (fun _ _ _ _ h => h)) (pa_cons (pv 2) pa_nil)) pa_nil))) T.cl_Asks T.d_Asks_table.g (ok_Asks_table T) (hr.mono (by decide)) T.d_Asks_table.b .nil pass0))
      (pss_cons (ps_fldK (K := K) (pv 0) (pe_lst pa_nil) rfl)
      (pss_one (ps_for (passes_of rfl) rfl (pi_range1 rfl T.b_range (pa_cons (pe_op o_add (pe_fldK (K := K) (pv 0) rfl) pe_int) pa_nil)) (pg_name (i := 4) sc_Costs_init.nd rfl (Or.inl rfl)) (pss_cons (ps_set (i := 5) sc_Costs_init.nd rfl (Or.inl rfl) (pe_slice3 (pe_ix (i_ix (K := K)) (pv 3) (pe_op o_mul pe_int (pv 4)) (fun _ _ => rfl)) po_none po_none pe_int (K := K)))
      (pss_one (ps_expr (pe_bm PySem.F.plainAttrs_list PySem.F.slot_list_append PySem.F.type_list_append mt_append (pe_fldK (K := K) (pv 0) rfl) (pa_cons (pe_lc (own := [("at", 6), ("many", 7)]) (g := gTup K 2 (gCons (gName 6) (gCons (gName 7) gNil))) rfl sc_Costs_init.nd (pi_enum rfl T.b_enumerate (pa_cons (pv 5) pa_nil)) (blkOk_by (own := [("at", 6), ("many", 7)]) (N := N_Costs_init) (sc := defScope s_Costs_init) (by decide +kernel)) (fun _ _ _ _ _ => (pg_tup rfl (pgs_cons (pg_name (i := 6) sc_Costs_init.nd rfl (Or.inl rfl)) (pgs_cons (pg_name (i := 7) sc_Costs_init.nd rfl (Or.inl rfl)) pgs_nil)))) (fun _ _ _ _ _ => pts_nil) (fun _ _ _ _ _ => (pe_op o_sub (pe_op o_add (pe_callB (c_len (K := K)) (by rfl) T.b_len (by decide +kernel) (pa_cons (pv 1) pa_nil)) (pv 6)) (pv 7)))) pa_nil))))))))))))), ?_⟩
    walk_at "go"
    refine ⟨x, y, rfl, hR.imp fun s t ex ey hs ht k H1 e1 => ?_⟩
    subst ex ey
    have ls := hs.len
    have lt := ht.len
    have hsl : s.cps.toList.length = s.length := Array.length_toList
    have htl : t.cps.toList.length = t.length := Array.length_toList
    have hp1 := e1.get hp
    have hT1 : LamX.Tabs (tabsL tc) H1 := hT.ext fun b o h => e1.get h
    walk_at "go"
    rw [putF_nil, putF_ne (by decide +kernel), putF_nil, putF_ne (by decide +kernel), putF_ne (by decide +kernel), putF_nil]
    have v2 : upd (upd (upd H1 p (.ins (clsA K "Costs") dx [("turned_row", .str s)])) p (.ins (clsA K "Costs") dx [("turned_row", .str s), ("goal_row", .str t)])) p (.ins (clsA K "Costs") dx [("turned_row", .str s), ("goal_row", .str t), ("wide", .int (t.length : Nat))]) p = some (.ins (clsA K "Costs") dx [("turned_row", .str s), ("goal_row", .str t), ("wide", .int (t.length : Nat))]) := upd_same
    have f2 : FrP p H1 (upd (upd (upd H1 p (.ins (clsA K "Costs") dx [("turned_row", .str s)])) p (.ins (clsA K "Costs") dx [("turned_row", .str s), ("goal_row", .str t)])) p (.ins (clsA K "Costs") dx [("turned_row", .str s), ("goal_row", .str t), ("wide", .int (t.length : Nat))])) := (FrP.at.trans FrP.at).trans FrP.at
    generalize upd (upd (upd H1 p (.ins (clsA K "Costs") dx [("turned_row", .str s)])) p (.ins (clsA K "Costs") dx [("turned_row", .str s), ("goal_row", .str t)])) p (.ins (clsA K "Costs") dx [("turned_row", .str s), ("goal_row", .str t), ("wide", .int (t.length : Nat))]) = H2 at v2 f2 ⊢
    have hT2 := tabs_fr hT1 f2 hp1
    refine ⟨.str s, rfl, .inl ⟨s, rfl, hs, fun H3 e3 => ?_⟩⟩
    walk_at "go"
    refine ⟨.str t, rfl, .inl ⟨t, rfl, ht, fun H4 e4 => ?_⟩⟩
    walk_at "go"
    have e24 := e3.trans e4
    have l1 : (tx (parts s.cps.toList)).length = 2 * s.length := by rw [tx_length, parts_len, hsl]
    have l2 : (tx (parts t.cps.toList)).length = 2 * t.length := by rw [tx_length, parts_len, htl]
    refine ⟨_, _, rfl, parts_row hs, parts_row ht, hT2.ext fun b o h => e24.get h, fun pa H5 e5 hT5 hA => ?_⟩
    obtain ⟨dx5, tp, ga, sa, gA, _⟩ := id hA
    have v5 : H5 p = _ := e5.get (noT_get (e24.get v2) fun _ z => (by cases z))
    walk_at "go"
    refine ⟨pa, _, _, rfl, hA, fun D rs H6 e6 nD vD oD nDr nrs ndrs => ?_⟩
    have v6 := e6.get v5
    rw [l1, brdL_len, l1, l2, show 2 * s.length + 2 * t.length - 2 * s.length + 1 = 2 * t.length + 1 by omega] at oD
    walk_at "go"
    rename_i C H7 nC e7 vC
    rw [putF_ne (by decide +kernel), putF_ne (by decide +kernel), putF_ne (by decide +kernel), putF_nil]
    have v7 := e7.get v6
    have pC : C ≠ p := (ne_of_none v6 nC).symm
    have v8 : upd H7 p (.ins (clsA K "Costs") dx [("turned_row", .str s), ("goal_row", .str t), ("wide", .int (t.length : Nat)), ("costs", .ref C)]) p = some (.ins (clsA K "Costs") dx [("turned_row", .str s), ("goal_row", .str t), ("wide", .int (t.length : Nat)), ("costs", .ref C)]) := upd_same
    have f8 : FrP p H7 (upd H7 p (.ins (clsA K "Costs") dx [("turned_row", .str s), ("goal_row", .str t), ("wide", .int (t.length : Nat)), ("costs", .ref C)])) := FrP.at
    generalize upd H7 p (.ins (clsA K "Costs") dx [("turned_row", .str s), ("goal_row", .str t), ("wide", .int (t.length : Nat)), ("costs", .ref C)]) = H8 at v8 f8 ⊢
    have hT7 : LamX.Tabs (tabsL tc) H7 := hT5.ext fun b o h => (e6.trans e7).get h
    have hT8 := tabs_fr hT7 f8 v7
    have vC8 := f8.get pC vC
    have lp : ∀ {b : Addr} {xs : List V}, H7 b = some (.lst xs) → ¬ b = p := fun h z => by rw [z, v7] at h; cases h
    have vD8 := f8.get (lp (e7.get vD)) (e7.get vD)
    have oD8 := (oD.ex e7).fr f8 fun r hr z => by
      obtain ⟨i, hi⟩ := List.getElem?_of_mem hr
      have hl := oD.len
      have hi2 := (List.getElem?_eq_some_iff.mp hi).1
      have h := (oD.ex e7).at i r _ hi (List.getElem?_eq_getElem (by omega))
      rw [z, v7, List.getElem_map] at h
      cases h
    have DC : D ≠ C := ne_of_none vD nC
    have rC : C ∉ rs := fun z => by
      obtain ⟨i, hi⟩ := List.getElem?_of_mem z
      have hl := oD.len
      have hi2 := (List.getElem?_eq_some_iff.mp hi).1
      have h := oD.at i C _ hi (List.getElem?_eq_getElem (by omega))
      rw [nC] at h
      cases h
    have rl : rs.length = 2 * t.length + 1 := by
      have := oD.len
      rw [List.length_map, List.length_range] at this
      exact this
    have e07 : Fr (fun b => b = p) (noT H) H7 := fun b o nb h => by
      have h0 := noT_of h
      have h2 := f2 b o nb (e1.get h0.1)
      exact (e6.trans e7).get (e5.get (noT_get (e24.get h2) h0.2))
    have nC0 : noT H C = none := by
      cases hh : noT H C with
      | none => rfl
      | some o => exact absurd (e07 C o pC hh) (by rw [vC]; intro z; cases z; cases hh2 : H C with
        | none => unfold Zb.noT at hh; rw [hh2] at hh; cases hh
        | some o2 =>
          have h0 := noT_of hh
          have h2 := f2 C _ pC (e1.get h0.1)
          have h6 := e6.get (e5.get (noT_get (e24.get h2) h0.2))
          rw [nC] at h6
          cases h6)
    clear v2 f2 hT2 e3 e4 e24 v5 gA hA hT5 v6 vD oD vC hT1 e1 hp1
    walk_at "go"
    rw [show ((t.length : Int) + 1).toNat = t.length + 1 by omega]
    refine for_runs (runs_range 0 (t.length + 1)) (fun i σ H' => FrP C H8 H' ∧ (∃ cs : List Addr, H' C = some (.lst (cs.map V.ref)) ∧ ObjsAt H' cs ((List.range i).map fun b => .lst ((levRow s.cps.toList t.cps.toList b).map V.int)) ∧ cs.Nodup ∧ C ∉ cs) ∧ ∃ y4 y5 y6 y7, σ = [some (.ref p), some (.str s), some (.str t), some (.ref D), y4, y5, y6, y7]) ⟨Fr.refl _, ⟨[], vC8, .nil, List.nodup_nil, List.not_mem_nil⟩, _, _, _, _, rfl⟩ (fun _ _ _ _ _ => trivial) ?_ ?_
    · rintro i x σ H9 H10 hi ⟨f9, ⟨cs, c1, c2, c3, c4⟩, y4, y5, y6, y7, rfl⟩ ⟨rfl, rfl⟩
      have hcl : cs.length = i := by
        have := c2.len
        rw [List.length_map, List.length_range] at this
        exact this
      rw [Int.zero_add]
      have vD10 := f9.get DC vD8
      have v10 := f9.get (fun z => pC z.symm) v8
      have hr : rs[2 * i]? = some (rs[2 * i]'(by omega)) := List.getElem?_eq_getElem _
      have hro := (oD8.fr f9 fun r hr z => rC (by rw [← z]; exact hr)).at (2 * i) _ _ hr (by rw [List.getElem?_map, List.getElem?_range (by omega)]; rfl)
      have hro' : H10 (rs[2 * i]'(by omega)) = some (.lst ((winRow (brdL (tx (parts s.cps.toList)) (tx (parts t.cps.toList))) (2 * s.length) (2 * i)).map V.int)) := hro
      walk_at "go"
      rw [show (2 : Int) * (i : Int) = ((2 * i : Nat) : Int) by omega]
      refine st_ixL vD10 (refs_at hr) ?_
      walk_at "go"
      refine st_evL (lstAt_sq (lst_of hro')) fun q H11 nq e11 vq => ?_
      have v11 := e11.get v10
      have lw : ((winRow (brdL (tx (parts s.cps.toList)) (tx (parts t.cps.toList))) (2 * s.length) (2 * i)).map V.int).length = 2 * (t.length - i) + 1 := by
        unfold winRow
        rw [List.length_map, List.length_map, List.length_range, brdL_len, l1, l2]
        omega
      have le := evL_len ((winRow (brdL (tx (parts s.cps.toList)) (tx (parts t.cps.toList))) (2 * s.length) (2 * i)).map V.int)
      rw [lw, show (2 * (t.length - i) + 1 + 1) / 2 = t.length - i + 1 by omega] at le
      have ge : ∀ j, j ≤ t.length - i → (evL ((winRow (brdL (tx (parts s.cps.toList)) (tx (parts t.cps.toList))) (2 * s.length) (2 * i)).map V.int))[j]? = some (V.int (winV (brdL (tx (parts s.cps.toList)) (tx (parts t.cps.toList))) (2 * s.length) 0 (2 * s.length) (2 * i) (2 * i + 2 * j))) := fun j hj => by
        rw [evL_get]
        unfold winRow
        rw [List.map_map, List.getElem?_map, List.getElem?_range (by rw [brdL_len, l1, l2]; omega)]
        rfl
      walk_at "go"
      refine lc_turns (runs_enum K q _) (fun i x H H' h => by obtain ⟨_, _, _, _, h, _⟩ := h; exact h) (fun H' e => lst_of (e.get vq)) (by rw [le]; omega) (fun j => V.int ((Lev s.cps.toList (t.cps.toList.drop i) s.length j : Nat) : Int)) ?_ ?_ gTup_mono
      · rintro j x H12 H13 hj e12 ⟨Tt, v, rfl, nT, eT, vT, hv⟩ B h2'
        rw [le] at hj
        rw [ge j (by omega)] at hv
        cases hv
        walk_at "go"
        refine ⟨rfl, ?_⟩
        walk_at "go"
        have hh := h2' _ (Fr.refl _)
        rw [← table_lev hs ht (b := i) (j := j) (by omega) (by omega)] at hh
        exact hh
      intro r H12 nr e12 vr
      rw [le] at vr
      have e1012 := e11.trans e12
      have c1' := e1012.get c1
      have rC' : r ≠ C := (ne_of_none (e11.get c1) nr).symm
      have nr0 : H10 r = none := Ex.free e11 nr
      walk_at "go"
      refine st_app c1' (by rw [List.length_map, hcl]; omega) ?_
      refine ⟨(f9.trans (Fr.ex e1012)).trans FrP.at, ⟨cs ++ [r], by rw [upd_same, List.map_append]; rfl, ?_, ?_, ?_⟩, _, _, _, _, rfl⟩
      · rw [List.range_succ, List.map_append]
        refine ObjsAt.app ((c2.ex e1012).up c4) (.one ?_)
        rw [upd_ne rC', vr]
        show _ = some (HO.lst ((levRow s.cps.toList t.cps.toList i).map V.int))
        unfold levRow
        rw [List.map_map, htl, hsl]
        rfl
      · rw [List.nodup_append]
        exact ⟨c3, by simp, fun b hb c hc => by
          rw [List.mem_singleton.mp hc]
          rintro rfl
          obtain ⟨k, hk⟩ := List.getElem?_of_mem hb
          have hk2 := (List.getElem?_eq_some_iff.mp hk).1
          have h := c2.at k b _ hk (List.getElem?_eq_getElem (by rw [← c2.len]; exact hk2))
          rw [nr0] at h
          cases h⟩
      · rw [List.mem_append, List.mem_singleton]
        rintro (z | z)
        · exact c4 z
        · exact rC' z.symm
    · rintro σ H9 ⟨f9, ⟨cs, c1, c2, c3, c4⟩, y4, y5, y6, y7, rfl⟩
      walk_at "go"
      refine k H9 ?_ ?_ ⟨dx, C, cs, f9.get (fun z => pC z.symm) v8, c1, c2, c3, c4⟩
      · intro b o nb h
        have h7 := e07 b o nb h
        refine f9 b o (fun z => ?_) (f8 b o nb h7)
        rw [z, nC0] at h
        cases h
      · intro q hq
        obtain ⟨ps, h1, h2, h3⟩ := hT8 q hq
        refine ⟨ps, f9.get (fun z => by rw [z, vC8] at h1; cases h1) h1, h2, fun pos cv hc => ?_⟩
        obtain ⟨c, e1, e2⟩ := h3 pos cv hc
        exact ⟨c, e1, f9.get (fun z => by rw [z, vC8] at e2; unfold CodeO at e2; cases e2) e2⟩
def sp_Costs_of (K : PySem.W.Frag) : Sp := fun vs H Q E => ∃ (p : Addr) (b e : V) (s t : Str), vs = [.ref p, b, e] ∧ CostsAt K H p s t ∧ t.length ≤ 24 ∧ Ty H b ∧ Ty H e ∧ (spanV b e (t.length : Nat) = false → RaF K E H "NoSpan" [("end", e), ("begin", b)]) ∧ (∀ i j : Nat, b = .int (i : Nat) → e = .int (j : Nat) → i ≤ j → j ≤ t.length → Q (.int ((Lev s.cps.toList (t.cps.toList.drop i) s.length (j - i) : Nat) : Int)) H)
theorem ok_Costs_of (T : Tx K mg ad fd tk base tc w) : FnOk P w K mg base (L2.CX P w) 4 (ad 69) (fd 69) ["self", "begin", "end"] (sp_Costs_of K) := by
  refine T.d_Costs_of.F.okX sc_Costs_of (fun vs H Q E h => ?_) (fun cdv A outer s H vs Q E hr h => ?_)
  · obtain ⟨p, b, e, s, t, rfl, _⟩ := h
    rfl
  · obtain ⟨p, b, e, s, t, rfl, hp, hl, hb, he, h1, h2⟩ := h
    refine ⟨_, (pss_cons (ps_expr (pe_call (ok_need_span T) (hr.mono (by decide)) rfl T.d_need_span.g T.d_need_span.F.kp T.d_need_span.b .nil (passes_call (takes_of rfl rfl rfl rfl) (fun _ _ _ _ h => h)) (pa_cons (pv 1) (pa_cons (pv 2) (pa_cons (pe_fldK (K := K) (pv 0) rfl) pa_nil)))))
      (pss_one (ps_ret (pe_ix (i_ix (K := K)) (pe_ix (i_ix (K := K)) (pe_fldK (K := K) (pv 0) rfl) (pv 1) (fun _ _ => rfl)) (pe_op o_sub (pv 2) (pv 1)) (fun _ _ => rfl))))), ?_⟩
    obtain ⟨dx, cs, rs, g1, g2, g3, g4, g5⟩ := hp.ex
    have hrl : rs.length = t.length + 1 := by
      have := g3.len
      rw [List.length_map, List.length_range] at this
      exact this
    have htl : t.cps.toList.length = t.length := Array.length_toList
    have hsl : s.cps.toList.length = s.length := Array.length_toList
    walk_at "go"
    refine ⟨b, e, _, rfl, hb, he, h1, fun hsp => ?_⟩
    obtain ⟨i, j, rfl, rfl, hij, hjt⟩ := span_nat hsp
    have q := h2 i j rfl rfl hij hjt
    have hr : rs[i]? = some (rs[i]'(by omega)) := List.getElem?_eq_getElem _
    have hro := g3.at i _ _ hr (by rw [List.getElem?_map, List.getElem?_range (by omega)]; rfl)
    walk_at "go"
    refine st_ixL g2 (refs_at hr) ?_
    walk_at "go"
    rw [show ((j : Nat) : Int) - ((i : Nat) : Int) = ((j - i : Nat) : Int) by omega]
    refine st_ixL hro (at_nat (a := V.int ((Lev s.cps.toList (t.cps.toList.drop i) s.length (j - i) : Nat) : Int)) ?_) ?_
    · unfold levRow
      rw [List.map_map, List.getElem?_map, List.getElem?_range (by omega), hsl]
      rfl
    exact q
def sp_law (K : PySem.W.Frag) (TL : List (Addr × Str)) : Sp := fun vs H Q _ => ∃ (a : Addr) (ns : List Int), vs = [.ref a] ∧ SqL K H a (ns.map V.int) ∧ LamX.Tabs TL H ∧ ns.length ≤ 63 ∧ ∀ H', Q (.bl true) H'
theorem ok_law (T : Tx K mg ad fd tk base tc w) : FnOk P w K mg base CX0 12 (ad 70) (fd 70) ["_law_script"] (sp_law K (tabsL tc)) := by
  refine T.d_law.F.ok sc_law (fun vs H Q E h => ?_) (fun cdv A outer s H vs Q E hr h => ?_)
  · obtain ⟨a, ns, rfl, _⟩ := h
    rfl
  · obtain ⟨a, ns, rfl, hs, hT, hl, k⟩ := h
    refine ⟨_, (pss_cons (ps_set (i := 1) sc_law.nd rfl (Or.inl rfl) (pe_call (ok__law_row T) (hr.mono (by decide)) rfl T.d__law_row.g T.d__law_row.F.kp T.d__law_row.b .nil pass0 (pa_cons (pe_call (ok__law_cell_at T) (hr.mono (by decide)) rfl T.d__law_cell_at.g T.d__law_cell_at.F.kp T.d__law_cell_at.b .nil pass0 (pa_cons (pv 0) (pa_cons pe_int pa_nil))) (pa_cons pe_int pa_nil))))
      (pss_cons (ps_set (i := 2) sc_law.nd rfl (Or.inl rfl) (pe_call (ok__law_list T) (hr.mono (by decide)) rfl T.d__law_list.g T.d__law_list.F.kp T.d__law_list.b .nil pass0 (pa_cons (pv 1) (pa_cons (pe_slice3 (pv 0) (po_some pe_int) po_none pe_int (K := K)) (pa_cons pe_int pa_nil)))))
      (pss_cons (ps_set (i := 3) sc_law.nd rfl (Or.inl rfl) (pe_call (ok__law_new T) (hr.mono (by decide)) rfl T.d__law_new.g T.d__law_new.F.kp T.d__law_new.b .nil pass0 (pa_cons (pv 2) pa_nil)))
      (pss_cons (ps_set (i := 4) sc_law.nd rfl (Or.inl rfl) (pe_call (ok__law_list T) (hr.mono (by decide)) rfl T.d__law_list.g T.d__law_list.F.kp T.d__law_list.b .nil pass0 (pa_cons (pv 3) (pa_cons (pe_slice3 (pv 0) (po_some pe_int) po_none pe_int (K := K)) (pa_cons pe_int pa_nil)))))
      (pss_cons (ps_set (i := 5) sc_law.nd rfl (Or.inl rfl) (pe_call (ok__law_new T) (hr.mono (by decide)) rfl T.d__law_new.g T.d__law_new.F.kp T.d__law_new.b .nil pass0 (pa_cons (pv 4) pa_nil)))
      (pss_cons (ps_set (i := 6) sc_law.nd rfl (Or.inl rfl) (pe_call (ok__law_cell_at T) (hr.mono (by decide)) rfl T.d__law_cell_at.g T.d__law_cell_at.F.kp T.d__law_cell_at.b .nil pass0 (pa_cons (pv 0) (pa_cons pe_int pa_nil))))
      (pss_cons (ps_if (PW.pt (pw_or (pt_not (pt_val (pe_call (ok__law_both_ways T) (hr.mono (by decide)) rfl T.d__law_both_ways.g T.d__law_both_ways.F.kp T.d__law_both_ways.b .nil pass0 (pa_cons (pv 1) (pa_cons (pv 3) (pa_cons (pv 2) (pa_cons (pv 6) pa_nil))))))) (pw_or1 (pt_not (pt_val (pe_call (ok__law_both_ways T) (hr.mono (by decide)) rfl T.d__law_both_ways.g T.d__law_both_ways.F.kp T.d__law_both_ways.b .nil pass0 (pa_cons (pv 3) (pa_cons (pv 5) (pa_cons (pv 4) (pa_cons (pe_op o_div (pv 6) pe_int) pa_nil)))))))))) (pss_one (ps_ret pe_bl)) pss_nil)
      (pss_cons (ps_set (i := 7) sc_law.nd rfl (Or.inl rfl) (pe_call (ok_after T) (hr.mono (by decide)) rfl T.d_after.g T.d_after.F.kp T.d_after.b .nil passL (pa_cons (pe_call (ok_changes_of T) (hr.mono (by decide)) rfl T.d_changes_of.g T.d_changes_of.F.kp T.d_changes_of.b .nil passL (pa_cons (pv 1) (pa_cons (pv 3) pa_nil))) (pa_cons (pe_call (ok_changes_of T) (hr.mono (by decide)) rfl T.d_changes_of.g T.d_changes_of.F.kp T.d_changes_of.b .nil passL (pa_cons (pv 3) (pa_cons (pv 5) pa_nil))) pa_nil))))
      (pss_cons (ps_if (pt_not (pt_val (pe_call (ok__law_leads T) (hr.mono (by decide)) rfl T.d__law_leads.g T.d__law_leads.F.kp T.d__law_leads.b .nil pass0 (pa_cons (pv 7) (pa_cons (pv 1) (pa_cons (pv 5) pa_nil)))))) (pss_one (ps_ret pe_bl)) pss_nil)
      (pss_cons (ps_set (i := 8) sc_law.nd rfl (Or.inl rfl) (pe_call (ok_cost T) (hr.mono (by decide)) rfl T.d_cost.g T.d_cost.F.kp T.d_cost.b .nil passL (pa_cons (pv 1) (pa_cons (pv 5) pa_nil))))
      (pss_cons (ps_if (PW.pt (pw_or (pt_cmpR o_gt (pv 8) (pe_call (ok__law_pays T) (hr.mono (by decide)) rfl T.d__law_pays.g T.d__law_pays.F.kp T.d__law_pays.b .nil pass0 (pa_cons (pv 7) pa_nil)) (nomark _)) (pw_or1 (pt_cmpR o_gt (pe_call (ok__law_pays T) (hr.mono (by decide)) rfl T.d__law_pays.g T.d__law_pays.F.kp T.d__law_pays.b .nil pass0 (pa_cons (pv 7) pa_nil)) (pe_op o_add (pe_call (ok_cost T) (hr.mono (by decide)) rfl T.d_cost.g T.d_cost.F.kp T.d_cost.b .nil passL (pa_cons (pv 1) (pa_cons (pv 3) pa_nil))) (pe_call (ok_cost T) (hr.mono (by decide)) rfl T.d_cost.g T.d_cost.F.kp T.d_cost.b .nil passL (pa_cons (pv 3) (pa_cons (pv 5) pa_nil)))) (nomark _))))) (pss_one (ps_ret pe_bl)) pss_nil)
      (pss_cons (ps_if (PW.pt (pw_or (pt_cmpR o_gt (pv 8) (pe_callB (c_max rfl) (by rfl) T.b_max (by decide +kernel) (pa_cons (pe_callB (c_len (K := K)) (by rfl) T.b_len (by decide +kernel) (pa_cons (pv 1) pa_nil)) (pa_cons (pe_callB (c_len (K := K)) (by rfl) T.b_len (by decide +kernel) (pa_cons (pv 5) pa_nil)) pa_nil))) (nomark _)) (pw_or1 (pt_cmpR o_lt (pv 8) (pe_callB call_abs (by rfl) T.b_abs (by decide +kernel) (pa_cons (pe_op o_sub (pe_callB (c_len (K := K)) (by rfl) T.b_len (by decide +kernel) (pa_cons (pv 1) pa_nil)) (pe_callB (c_len (K := K)) (by rfl) T.b_len (by decide +kernel) (pa_cons (pv 5) pa_nil))) pa_nil)) (nomark _))))) (pss_one (ps_ret pe_bl)) pss_nil)
      (pss_one (ps_ret (pe_and (pe_cmpR (o_eq hr.units) (pe_meth (pe_make T.m_Costs (ok_Costs_init T) (hr.mono (by decide)) rfl T.mg_Costs T.d_Costs_init.b .nil passL (pa_cons (pv 1) (pa_cons (pv 5) pa_nil))) T.cl_Costs T.d_Costs_of.g (ok_Costs_of T) (hr.mono (by decide)) T.d_Costs_of.b .nil passL (pa_cons pe_int (pa_cons (pe_callB (c_len (K := K)) (by rfl) T.b_len (by decide +kernel) (pa_cons (pv 5) pa_nil)) pa_nil))) (pv 8) (nomark _)) (pe_one (pe_cmpR (o_eq hr.units) (pe_call (ok__law_pays T) (hr.mono (by decide)) rfl T.d__law_pays.g T.d__law_pays.F.kp T.d__law_pays.b .nil pass0 (pa_cons (pe_call (ok_changes_of T) (hr.mono (by decide)) rfl T.d_changes_of.g T.d_changes_of.F.kp T.d_changes_of.b .nil passL (pa_cons (pv 1) (pa_cons (pv 5) pa_nil))) pa_nil)) (pv 8) (nomark _)))))))))))))))))), ?_⟩
    walk_at "go"
    refine ⟨a, ns, 0, rfl, hs, by decide, hl, fun c0 => ?_⟩
    walk_at "go"
    refine ⟨c0, rfl, fun s H1 e1 ls ls24 => ?_⟩
    have ps := let_plain ls ls24
    walk_at "go"
    refine st_stL (sqL_exV hs e1) (by decide) (by omega) fun p1 cs1 H2 n2 e2 v2 l2 => ?_
    walk_at "go"
    refine ⟨s, p1, cs1, rfl, ls, ls24, v2, l2, fun A zA H3 e3 nA vA cA lA okA oA nA2 => ?_⟩
    have e13 := e1.trans (e2.trans e3)
    walk_at "go"
    refine ⟨A, zA, rfl, vA, cA, by omega, fun H4 e4 => ?_⟩
    have okAl : ∀ c ∈ zA.map (fun z => z.2), ChgOk c := fun c hc => by
      obtain ⟨z, hz2, rfl⟩ := List.mem_map.mp hc
      exact okA z hz2
    have lt := newR_let okAl
    have lt24 : (newR (zA.map fun z => z.2)).length ≤ 24 := by unfold newR; rw [tx_length]; exact nA2
    have pt := let_plain lt lt24
    have nAt : NN (zA.map fun z => z.2) = (newR (zA.map fun z => z.2)).cps.toList := (tx_toList _).symm
    obtain ⟨t, htt⟩ : ∃ t, t = newR (zA.map fun z => z.2) := ⟨_, rfl⟩
    rw [← htt] at lt lt24 pt nAt ⊢
    walk_at "go"
    refine st_stL (sqL_exV hs (e13.trans e4)) (by decide) (by omega) fun p2 cs2 H5 n5 e5 v5 l5 => ?_
    walk_at "go"
    refine ⟨t, p2, cs2, rfl, lt, lt24, v5, l5, fun B zB H6 e6 nB vB cB lB okB oB nB2 => ?_⟩
    have e36 := e4.trans (e5.trans e6)
    walk_at "go"
    refine ⟨B, zB, rfl, vB, cB, by omega, fun H7 e7 => ?_⟩
    have okBl : ∀ c ∈ zB.map (fun z => z.2), ChgOk c := fun c hc => by
      obtain ⟨z, hz2, rfl⟩ := List.mem_map.mp hc
      exact okB z hz2
    have lu := newR_let okBl
    have lu24 : (newR (zB.map fun z => z.2)).length ≤ 24 := by unfold newR; rw [tx_length]; exact nB2
    have pu := let_plain lu lu24
    have nBt : NN (zB.map fun z => z.2) = (newR (zB.map fun z => z.2)).cps.toList := (tx_toList _).symm
    obtain ⟨u, huu⟩ : ∃ u, u = newR (zB.map fun z => z.2) := ⟨_, rfl⟩
    rw [← huu] at lu lu24 pu nBt ⊢
    have e37 := e36.trans e7
    have e17 := e13.trans e37
    walk_at "go"
    refine ⟨a, ns, 1, rfl, sqL_exV hs e17, by decide, hl, fun n => ?_⟩
    walk_at "go"
    refine ⟨A, zA, s, t, n, rfl, ps, pt, e37.get vA, cA.ex e37, lA, okA, ⟨oA, nAt⟩, fun H8 e8 => ?_⟩
    walk_at "go"
    refine ⟨B, zB, t, u, n / 7, rfl, pt, pu, (e7.trans e8).get vB, cB.ex (e7.trans e8), lB, okB, ⟨oB, nBt⟩, fun H9 e9 => ?_⟩
    have e19 := e17.trans (e8.trans e9)
    have hls := lenStr s
    have hlt := lenStr t
    have hlu := lenStr u
    walk_at "go"
    refine ⟨_, _, rfl, .inl ⟨s, t, rfl, rfl, ps, pt, fun q cz Ha ea nq vq cq okq oq nnq pq lq => ?_⟩⟩
    walk_at "go"
    refine ⟨_, _, rfl, .inl ⟨t, u, rfl, rfl, pt, pu, fun r dz Hb eb nr vr cr okr oR nnr pr lr => ?_⟩⟩
    have vq := eb.get vq
    have cq := cq.ex eb
    have okql : ∀ c ∈ cz.map (fun z => z.2), ChgOk c := fun c hc => by
      obtain ⟨z, hz2, rfl⟩ := List.mem_map.mp hc
      exact okq z hz2
    have okrl : ∀ c ∈ dz.map (fun z => z.2), ChgOk c := fun c hc => by
      obtain ⟨z, hz2, rfl⟩ := List.mem_map.mp hc
      exact okr z hz2
    have rq := cz_rn vq cq
    have rr := cz_rn vr cr
    have hfit : NN (cz.map fun z => z.2) = OO (dz.map fun z => z.2) := by rw [nnq, oR]
    have hO : OO (aft (cz.map fun z => z.2) (dz.map fun z => z.2)) = s.cps.toList := by rw [aft_o hfit, oq]
    have hN : NN (aft (cz.map fun z => z.2) (dz.map fun z => z.2)) = u.cps.toList := by rw [aft_n hfit, nnr]
    have hlen := chg_len (aft (cz.map fun z => z.2) (dz.map fun z => z.2))
    rw [hO, hN, hls, hlu] at hlen
    walk_at "go"
    refine ⟨.ref q, .ref r, _, _, rfl, rq.rq, fun _ => rq, cz_lB (by omega), rr.rq, fun _ => rr, cz_lB (by omega), .inr (.inr ⟨_, _, rfl, rfl, by rw [List.length_map]; omega, by rw [List.length_map]; omega, okql, okrl, .inr (.inr ⟨hfit, by omega, fun f fz Hc ec nf vf cf hf => ?_⟩)⟩)⟩
    have e1c := e19.trans (ea.trans (eb.trans ec))
    rw [← hf] at hO hN
    have hfl : fz.length ≤ 48 := by
      have := congrArg List.length hf
      rw [List.length_map] at this
      omega
    walk_at "go"
    refine ⟨f, fz, s, u, true, rfl, vf, cf, by omega, ⟨hO, hN⟩, fun Hd ed => ?_⟩
    walk_at "go"
    refine ⟨_, _, rfl, .inl ⟨s, u, rfl, rfl, ps, pu, fun He ee => ?_⟩⟩
    have ede := ed.trans ee
    have low := Lev_low s.cps.toList u.cps.toList _ s.length u.length (Nat.le_refl _)
    have hlp := pays_lev (fz.map fun z => z.2)
    rw [hO, hN, hls, hlu] at hlp
    have hap := aft_pays hfit
    rw [← hf, pq, pr] at hap
    obtain ⟨W, hW⟩ : ∃ W, W = Lev s.cps.toList u.cps.toList s.length u.length := ⟨_, rfl⟩
    rw [← hW] at low hlp ⊢
    walk_at "go"
    refine ⟨f, fz, rfl, ede.get vf, cf.ex ede, by omega, fun Hf ef => ?_⟩
    have edf := ede.trans ef
    walk_at "go"
    rw [decide_eq_false (by omega)]
    walk_at "go"
    refine ⟨f, fz, rfl, edf.get vf, cf.ex edf, by omega, fun Hg eg => ?_⟩
    have edg := edf.trans eg
    walk_at "go"
    refine ⟨_, _, rfl, .inl ⟨s, t, rfl, rfl, ps, pt, fun Hh eh => ?_⟩⟩
    walk_at "go"
    refine ⟨_, _, rfl, .inl ⟨t, u, rfl, rfl, pt, pu, fun Hi ei => ?_⟩⟩
    have e1i := e1c.trans (edg.trans (eh.trans ei))
    walk_at "go"
    rw [decide_eq_false (by omega)]
    walk_at "go"
    rw [decide_eq_false (show ¬ (if ((u.length : Nat) : Int) > ((s.length : Nat) : Int) then ((u.length : Nat) : Int) else ((s.length : Nat) : Int)) < ((W : Nat) : Int) from by split <;> omega)]
    walk_at "go"
    refine ⟨_, rfl, ?_⟩
    walk_at "go"
    rw [decide_eq_false (show ¬ ((W : Nat) : Int) < (if ((s.length : Nat) : Int) - ((u.length : Nat) : Int) < 0 then -(((s.length : Nat) : Int) - ((u.length : Nat) : Int)) else ((s.length : Nat) : Int) - ((u.length : Nat) : Int)) from by split <;> omega)]
    walk_at "go"
    refine mk_costs (hT.ext fun b o h => e1i.get h) (.inl ⟨s, u, rfl, rfl, ps, pu, fun pc Hj ej npc hTj hC => ?_⟩)
    obtain ⟨dxc, csc, rsc, hpc, _⟩ := hC.ex
    walk_at "go"
    refine ⟨pc, .int 0, .int (u.length : Nat), s, u, rfl, hC, lu24, ty_int _, ty_int _, fun h => ?_, fun i j hi hj hij hju => ?_⟩
    · exfalso
      have : spanV (.int ((0 : Nat) : Int)) (.int (u.length : Nat)) (u.length : Nat) = true := by
        simp [spanV, withinV]
      rw [show (0 : Int) = ((0 : Nat) : Int) from rfl, this] at h
      cases h
    · injection hi with hi
      injection hj with hj
      obtain rfl : i = 0 := by omega
      obtain rfl : j = u.length := by omega
      rw [List.drop_zero, Nat.sub_zero, ← hW]
      walk_at "go"
      rw [decide_eq_true rfl]
      walk_at "go"
      refine ⟨_, _, rfl, .inl ⟨s, u, rfl, rfl, ps, pu, fun q2 cz2 Hk ek nq2 vq2 cq2 okq2 oq2 nnq2 pq2 lq2 => ?_⟩⟩
      walk_at "go"
      refine ⟨q2, cz2, rfl, vq2, cq2, by omega, fun Hl el => ?_⟩
      rw [pq2, ← hW]
      walk_at "go"
      rw [decide_eq_true rfl]
      exact k _
end
theorem all_mk {l : PySem.W.OpenLaw} {w : World} {K : PySem.W.Frag} {h : Heap} {mg : Str → Option Value} {fa f0 f1 f2 f3 f4 f5 f6 f7 f8 f9 f10 f11 f12 f13 f14 f15 f16 f17 f18 f19 f20 f21 f22 f23 f24 f25 f26 f27 f28 f29 f30 f31 f32 f33 f34 f35 f36 f37 f38 f39 f40 f41 f42 f43 f44 f45 f46 f47 f48 f49 f50 f51 f52 f53 f54 f55 f56 f57 f58 f59 f60 f61 f62 f63 f64 f65 f66 f67 f68 f69 f70 : Addr} (X : K.In h) (G : h.Ns mainGlobals mg) (hfa : mg "law" = some (.ref fa))
    {od0 od1 od2 od3 od4 od5 od6 od7 od8 od9 od10 od11 od12 od13 od14 od15 od16 od17 od18 od19 od20 od21 od22 od23 od24 od25 od26 od27 od28 od29 od30 od31 od32 od33 od34 od35 od36 od37 od38 od39 od40 od41 od42 od43 od44 od45 od46 od47 od48 od49 od50 od51 od52 od53 od54 od55 od56 od57 od58 od59 od60 od61 od62 od63 od64 od65 od66 od67 od68 od69 od70 an0 an1 an2 an3 an4 an5 an6 an7 an8 an9 an10 an11 an12 an13 an14 an15 an16 an17 an18 an19 an20 an21 an22 an23 an24 an25 an26 an27 an28 an29 an30 an31 an32 an33 an34 an35 an36 an37 an38 an39 an40 an41 an42 an43 an44 an45 an46 an47 an48 an49 an50 an51 an52 an53 an54 an55 an56 an57 an58 an59 an60 an61 an62 an63 an64 an65 an66 an67 an68 an69 an70 : Option Addr} {sl0 sl1 sl2 sl3 sl4 sl5 sl6 sl7 sl8 sl9 sl10 sl11 sl12 sl13 sl14 sl15 sl16 sl17 sl18 sl19 sl20 sl21 sl22 sl23 sl24 sl25 sl26 sl27 sl28 sl29 sl30 sl31 sl32 sl33 sl34 sl35 sl36 sl37 sl38 sl39 sl40 sl41 sl42 sl43 sl44 sl45 sl46 sl47 sl48 sl49 sl50 sl51 sl52 sl53 sl54 sl55 sl56 sl57 sl58 sl59 sl60 sl61 sl62 sl63 sl64 sl65 sl66 sl67 sl68 sl69 sl70 : Array (Option Value)} {oc0 oc1 oc2 oc3 oc4 oc5 oc6 oc7 oc8 oc9 oc10 oc11 oc12 oc13 oc14 oc15 oc16 oc17 oc18 oc19 oc20 oc21 oc22 oc23 oc24 oc25 oc26 oc27 oc28 oc29 oc30 oc31 oc32 oc33 oc34 oc35 oc36 oc37 oc38 oc39 oc40 oc41 oc42 oc43 oc44 oc45 oc46 oc47 oc48 oc49 oc50 oc51 oc52 oc53 oc54 oc55 oc56 oc57 oc58 oc59 oc60 oc61 oc62 oc63 oc64 oc65 oc66 oc67 oc68 oc69 oc70 kV0 kV1 kV2 kV3 kV4 kV5 kV6 kV7 kV8 kV9 kV10 kV11 kV12 kV13 kV14 kV15 kV16 kV17 kV18 kV19 kV20 kV21 kV22 kV23 kV24 kV25 kV26 kV27 kV28 kV29 kV30 kV31 kV32 kV33 kV34 kV35 kV36 kV37 kV38 kV39 kV40 kV41 kV42 kV43 kV44 kV45 kV46 kV47 kV48 kV49 kV50 kV51 kV52 kV53 kV54 kV55 kV56 kV57 kV58 kV59 kV60 kV61 kV62 kV63 kV64 kV65 kV66 kV67 kV68 kV69 kV70 dc0 dc1 dc2 dc3 dc4 dc5 dc6 dc7 dc8 dc9 dc10 dc11 dc12 dc13 dc14 dc15 dc16 dc17 dc18 dc19 dc20 dc21 dc22 dc23 dc24 dc25 dc26 dc27 dc28 dc29 dc30 dc31 dc32 dc33 dc34 dc35 dc36 dc37 dc38 dc39 dc40 dc41 dc42 dc43 dc44 dc45 dc46 dc47 dc48 dc49 dc50 dc51 dc52 dc53 dc54 dc55 dc56 dc57 dc58 dc59 dc60 dc61 dc62 dc63 dc64 dc65 dc66 dc67 dc68 dc69 dc70 pm0 pm1 pm2 pm3 pm4 pm5 pm6 pm7 pm8 pm9 pm10 pm11 pm12 pm13 pm14 pm15 pm16 pm17 pm18 pm19 pm20 pm21 pm22 pm23 pm24 pm25 pm26 pm27 pm28 pm29 pm30 pm31 pm32 pm33 pm34 pm35 pm36 pm37 pm38 pm39 pm40 pm41 pm42 pm43 pm44 pm45 pm46 pm47 pm48 pm49 pm50 pm51 pm52 pm53 pm54 pm55 pm56 pm57 pm58 pm59 pm60 pm61 pm62 pm63 pm64 pm65 pm66 pm67 pm68 pm69 pm70 cd0 cd1 cd2 cd3 cd4 cd5 cd6 cd7 cd8 cd9 cd10 cd11 cd12 cd13 cd14 cd15 cd16 cd17 cd18 cd19 cd20 cd21 cd23 cd24 cd25 cd26 cd27 cd28 cd29 cd30 cd31 cd32 cd33 cd34 cd35 cd36 cd37 cd38 cd39 cd40 cd41 cd42 cd43 cd44 cd45 cd46 cd47 cd48 cd49 cd50 cd51 cd52 cd53 cd54 cd55 cd56 cd57 cd58 cd59 cd60 cd61 cd62 cd63 cd64 cd65 cd66 cd67 cd68 cd69 cd70 ct0 ct1 ct2 ct3 ct4 ct5 ct6 ct7 ct8 ct9 ct10 ct11 ct12 ct13 ct14 ct15 ct16 ct17 ct18 ct19 ct20 ct21 ct22 ct23 ct24 ct25 ct26 ct27 ct28 ct29 ct30 ct31 ct32 ct33 ct34 ct35 ct36 ct37 ct38 ct39 ct40 ct41 ct42 ct43 ct44 ct45 ct46 ct47 ct48 ct49 ct50 ct51 ct52 ct53 ct54 ct55 ct56 ct57 ct58 ct59 ct60 ct61 ct62 ct63 ct64 ct65 ct66 ct67 ct68 ct69 ct70 : Value} {cc22 PT22 : Addr} {hc22 : Value} {hd22 : Option Addr} {hv22 : Array Value} {hs22 : Array (Option Value)} {t_0 t_1 t_2 t_3 t_4 : Tok}{es_SIZES : Array DictEntry} {en_SIZES : Nat} {C_NoRow C_NoPlain C_NoSpan C_NoTurning C_NoPlace C_NoChanges C_Unlike C_TooLong C_PaneError C_Tally C_Asks C_Board C_Costs C_SIZES I_NoRow I_NoPlain I_NoSpan I_NoTurning I_NoPlace I_NoChanges I_Unlike I_TooLong : Addr} {xn_NoRow xn_NoPlain xn_NoSpan xn_NoTurning xn_NoPlace xn_NoChanges xn_Unlike xn_TooLong xq_NoRow xq_NoPlain xq_NoSpan xq_NoTurning xq_NoPlace xq_NoChanges xq_Unlike xq_TooLong : Str} {xN_NoRow xN_NoPlain xN_NoSpan xN_NoTurning xN_NoPlace xN_NoChanges xN_Unlike xN_TooLong : Addr} {xb_NoRow xb_NoPlain xb_NoSpan xb_NoTurning xb_NoPlace xb_NoChanges xb_Unlike xb_TooLong xu_NoRow xu_NoPlain xu_NoSpan xu_NoTurning xu_NoPlace xu_NoChanges xu_Unlike xu_TooLong : List Value} {xs_NoRow xs_NoPlain xs_NoSpan xs_NoTurning xs_NoPlace xs_NoChanges xs_Unlike xs_TooLong : List Str} {xa_NoRow xa_NoPlain xa_NoSpan xa_NoTurning xa_NoPlace xa_NoChanges xa_Unlike xa_TooLong : Bool} {xc_NoRow xc_NoPlain xc_NoSpan xc_NoTurning xc_NoPlace xc_NoChanges xc_Unlike xc_TooLong : Option Bool} {xd_NoRow xd_NoPlain xd_NoSpan xd_NoTurning xd_NoPlace xd_NoChanges xd_Unlike xd_TooLong Iod_NoRow Iod_NoPlain Iod_NoSpan Iod_NoTurning Iod_NoPlace Iod_NoChanges Iod_Unlike Iod_TooLong Ian_NoRow Ian_NoPlain Ian_NoSpan Ian_NoTurning Ian_NoPlace Ian_NoChanges Ian_Unlike Ian_TooLong : Option Addr} {xk0_NoRow xk0_NoPlain xk0_NoSpan xk0_NoTurning xk0_NoPlace xk0_NoChanges xk0_Unlike xk0_TooLong xk1_NoRow xk1_NoPlain xk1_NoSpan xk1_NoTurning xk1_NoPlace xk1_NoChanges xk1_Unlike xk1_TooLong xk2_NoRow xk2_NoPlain xk2_NoSpan xk2_NoTurning xk2_NoPlace xk2_NoChanges xk2_Unlike xk2_TooLong xk3_NoRow xk3_NoPlain xk3_NoSpan xk3_NoTurning xk3_NoPlace xk3_NoChanges xk3_Unlike xk3_TooLong xk5_NoRow xk5_NoPlain xk5_NoSpan xk5_NoTurning xk5_NoPlace xk5_NoChanges xk5_Unlike xk5_TooLong : Option Value} {Ioc_NoRow Ioc_NoPlain Ioc_NoSpan Ioc_NoTurning Ioc_NoPlace Ioc_NoChanges Ioc_Unlike Ioc_TooLong IkV_NoRow IkV_NoPlain IkV_NoSpan IkV_NoTurning IkV_NoPlace IkV_NoChanges IkV_Unlike IkV_TooLong Idc_NoRow Idc_NoPlain Idc_NoSpan Idc_NoTurning Idc_NoPlace Idc_NoChanges Idc_Unlike Idc_TooLong Ipm_NoRow Ipm_NoPlain Ipm_NoSpan Ipm_NoTurning Ipm_NoPlace Ipm_NoChanges Ipm_Unlike Ipm_TooLong Icd_NoRow Icd_NoPlain Icd_NoSpan Icd_NoTurning Icd_NoPlace Icd_NoChanges Icd_Unlike Icd_TooLong Ict_NoRow Ict_NoPlain Ict_NoSpan Ict_NoTurning Ict_NoPlace Ict_NoChanges Ict_Unlike Ict_TooLong : Value} {Isl_NoRow Isl_NoPlain Isl_NoSpan Isl_NoTurning Isl_NoPlace Isl_NoChanges Isl_Unlike Isl_TooLong : Array (Option Value)} 
    (a0 : PySem.W.nsIn K mainGlobals "is_whole" = some (some (.ref f0)))
    (l0 : K.lookup f0 = some ⟨oc0, od0, .func (PySem.W.fnOf "is_whole" "is_whole" (defArgs s_is_whole) (defBody s_is_whole) (defScope s_is_whole) .none kV0 dc0 pm0 an0 cd0 ct0), sl0⟩)
    (c0 : PySem.W.codeIn K cd0 "is_whole" = true) (k0 : PySem.W.keepIn K (.ref f0) = true)
    (a1 : PySem.W.nsIn K mainGlobals "is_within" = some (some (.ref f1)))
    (l1 : K.lookup f1 = some ⟨oc1, od1, .func (PySem.W.fnOf "is_within" "is_within" (defArgs s_is_within) (defBody s_is_within) (defScope s_is_within) .none kV1 dc1 pm1 an1 cd1 ct1), sl1⟩)
    (c1 : PySem.W.codeIn K cd1 "is_within" = true) (k1 : PySem.W.keepIn K (.ref f1) = true)
    (a2 : PySem.W.nsIn K mainGlobals "is_letter" = some (some (.ref f2)))
    (l2 : K.lookup f2 = some ⟨oc2, od2, .func (PySem.W.fnOf "is_letter" "is_letter" (defArgs s_is_letter) (defBody s_is_letter) (defScope s_is_letter) .none kV2 dc2 pm2 an2 cd2 ct2), sl2⟩)
    (c2 : PySem.W.codeIn K cd2 "is_letter" = true) (k2 : PySem.W.keepIn K (.ref f2) = true)
    (a3 : PySem.W.nsIn K mainGlobals "is_row" = some (some (.ref f3)))
    (l3 : K.lookup f3 = some ⟨oc3, od3, .func (PySem.W.fnOf "is_row" "is_row" (defArgs s_is_row) (defBody s_is_row) (defScope s_is_row) .none kV3 dc3 pm3 an3 cd3 ct3), sl3⟩)
    (c3 : PySem.W.codeIn K cd3 "is_row" = true) (k3 : PySem.W.keepIn K (.ref f3) = true)
    (a4 : PySem.W.nsIn K mainGlobals "is_plain" = some (some (.ref f4)))
    (l4 : K.lookup f4 = some ⟨oc4, od4, .func (PySem.W.fnOf "is_plain" "is_plain" (defArgs s_is_plain) (defBody s_is_plain) (defScope s_is_plain) .none kV4 dc4 pm4 an4 cd4 ct4), sl4⟩)
    (c4 : PySem.W.codeIn K cd4 "is_plain" = true) (k4 : PySem.W.keepIn K (.ref f4) = true)
    (a5 : PySem.W.nsIn K mainGlobals "need_row" = some (some (.ref f5)))
    (l5 : K.lookup f5 = some ⟨oc5, od5, .func (PySem.W.fnOf "need_row" "need_row" (defArgs s_need_row) (defBody s_need_row) (defScope s_need_row) .none kV5 dc5 pm5 an5 cd5 ct5), sl5⟩)
    (c5 : PySem.W.codeIn K cd5 "need_row" = true) (k5 : PySem.W.keepIn K (.ref f5) = true)
    (a6 : PySem.W.nsIn K mainGlobals "need_rows" = some (some (.ref f6)))
    (l6 : K.lookup f6 = some ⟨oc6, od6, .func (PySem.W.fnOf "need_rows" "need_rows" (defArgs s_need_rows) (defBody s_need_rows) (defScope s_need_rows) .none kV6 dc6 pm6 an6 cd6 ct6), sl6⟩)
    (c6 : PySem.W.codeIn K cd6 "need_rows" = true) (k6 : PySem.W.keepIn K (.ref f6) = true)
    (a7 : PySem.W.nsIn K mainGlobals "need_plain" = some (some (.ref f7)))
    (l7 : K.lookup f7 = some ⟨oc7, od7, .func (PySem.W.fnOf "need_plain" "need_plain" (defArgs s_need_plain) (defBody s_need_plain) (defScope s_need_plain) .none kV7 dc7 pm7 an7 cd7 ct7), sl7⟩)
    (c7 : PySem.W.codeIn K cd7 "need_plain" = true) (k7 : PySem.W.keepIn K (.ref f7) = true)
    (a8 : PySem.W.nsIn K mainGlobals "need_span" = some (some (.ref f8)))
    (l8 : K.lookup f8 = some ⟨oc8, od8, .func (PySem.W.fnOf "need_span" "need_span" (defArgs s_need_span) (defBody s_need_span) (defScope s_need_span) .none kV8 dc8 pm8 an8 cd8 ct8), sl8⟩)
    (c8 : PySem.W.codeIn K cd8 "need_span" = true) (k8 : PySem.W.keepIn K (.ref f8) = true)
    (a9 : PySem.W.nsIn K mainGlobals "parted" = some (some (.ref f9)))
    (l9 : K.lookup f9 = some ⟨oc9, od9, .func (PySem.W.fnOf "parted" "parted" (defArgs s_parted) (defBody s_parted) (defScope s_parted) .none kV9 dc9 pm9 an9 cd9 ct9), sl9⟩)
    (c9 : PySem.W.codeIn K cd9 "parted" = true) (k9 : PySem.W.keepIn K (.ref f9) = true)
    (a10 : PySem.W.nsIn K mainGlobals "places_of" = some (some (.ref f10)))
    (l10 : K.lookup f10 = some ⟨oc10, od10, .func (PySem.W.fnOf "places_of" "places_of" (defArgs s_places_of) (defBody s_places_of) (defScope s_places_of) .none kV10 dc10 pm10 an10 cd10 ct10), sl10⟩)
    (c10 : PySem.W.codeIn K cd10 "places_of" = true) (k10 : PySem.W.keepIn K (.ref f10) = true)
    (a11 : PySem.W.nsIn K mainGlobals "led" = some (some (.ref f11)))
    (l11 : K.lookup f11 = some ⟨oc11, od11, .func (PySem.W.fnOf "led" "led" (defArgs s_led) (defBody s_led) (defScope s_led) .none kV11 dc11 pm11 an11 cd11 ct11), sl11⟩)
    (c11 : PySem.W.codeIn K cd11 "led" = true) (k11 : PySem.W.keepIn K (.ref f11) = true)
    (a12 : PySem.W.nsIn K mainGlobals "is_turning" = some (some (.ref f12)))
    (l12 : K.lookup f12 = some ⟨oc12, od12, .func (PySem.W.fnOf "is_turning" "is_turning" (defArgs s_is_turning) (defBody s_is_turning) (defScope s_is_turning) .none kV12 dc12 pm12 an12 cd12 ct12), sl12⟩)
    (c12 : PySem.W.codeIn K cd12 "is_turning" = true) (k12 : PySem.W.keepIn K (.ref f12) = true)
    (a13 : PySem.W.nsIn K mainGlobals "need_turning" = some (some (.ref f13)))
    (l13 : K.lookup f13 = some ⟨oc13, od13, .func (PySem.W.fnOf "need_turning" "need_turning" (defArgs s_need_turning) (defBody s_need_turning) (defScope s_need_turning) .none kV13 dc13 pm13 an13 cd13 ct13), sl13⟩)
    (c13 : PySem.W.codeIn K cd13 "need_turning" = true) (k13 : PySem.W.keepIn K (.ref f13) = true)
    (a14 : PySem.W.nsIn K mainGlobals "need_place" = some (some (.ref f14)))
    (l14 : K.lookup f14 = some ⟨oc14, od14, .func (PySem.W.fnOf "need_place" "need_place" (defArgs s_need_place) (defBody s_need_place) (defScope s_need_place) .none kV14 dc14 pm14 an14 cd14 ct14), sl14⟩)
    (c14 : PySem.W.codeIn K cd14 "need_place" = true) (k14 : PySem.W.keepIn K (.ref f14) = true)
    (a15 : PySem.W.nsIn K mainGlobals "opposite" = some (some (.ref f15)))
    (l15 : K.lookup f15 = some ⟨oc15, od15, .func (PySem.W.fnOf "opposite" "opposite" (defArgs s_opposite) (defBody s_opposite) (defScope s_opposite) .none kV15 dc15 pm15 an15 cd15 ct15), sl15⟩)
    (c15 : PySem.W.codeIn K cd15 "opposite" = true) (k15 : PySem.W.keepIn K (.ref f15) = true)
    (a16 : PySem.W.nsIn K mainGlobals "mixed" = some (some (.ref f16)))
    (l16 : K.lookup f16 = some ⟨oc16, od16, .func (PySem.W.fnOf "mixed" "mixed" (defArgs s_mixed) (defBody s_mixed) (defScope s_mixed) .none kV16 dc16 pm16 an16 cd16 ct16), sl16⟩)
    (c16 : PySem.W.codeIn K cd16 "mixed" = true) (k16 : PySem.W.keepIn K (.ref f16) = true)
    (a17 : PySem.W.nsIn K mainGlobals "floors_of" = some (some (.ref f17)))
    (l17 : K.lookup f17 = some ⟨oc17, od17, .func (PySem.W.fnOf "floors_of" "floors_of" (defArgs s_floors_of) (defBody s_floors_of) (defScope s_floors_of) .none kV17 dc17 pm17 an17 cd17 ct17), sl17⟩)
    (c17 : PySem.W.codeIn K cd17 "floors_of" = true) (k17 : PySem.W.keepIn K (.ref f17) = true)
    (a18 : PySem.W.nsIn K mainGlobals "lesser" = some (some (.ref f18)))
    (l18 : K.lookup f18 = some ⟨oc18, od18, .func (PySem.W.fnOf "lesser" "lesser" (defArgs s_lesser) (defBody s_lesser) (defScope s_lesser) .none kV18 dc18 pm18 an18 cd18 ct18), sl18⟩)
    (c18 : PySem.W.codeIn K cd18 "lesser" = true) (k18 : PySem.W.keepIn K (.ref f18) = true)
    (a19 : PySem.W.nsIn K mainGlobals "need_window" = some (some (.ref f19)))
    (l19 : K.lookup f19 = some ⟨oc19, od19, .func (PySem.W.fnOf "need_window" "need_window" (defArgs s_need_window) (defBody s_need_window) (defScope s_need_window) .none kV19 dc19 pm19 an19 cd19 ct19), sl19⟩)
    (c19 : PySem.W.codeIn K cd19 "need_window" = true) (k19 : PySem.W.keepIn K (.ref f19) = true)
    (a20 : PySem.W.findIn K (.ref C_Tally) "__init__" = some (some (.ref f20))) (i20 : PySem.W.isFn K (.ref f20) = true)
    (l20 : K.lookup f20 = some ⟨oc20, od20, .func (PySem.W.fnOf "__init__" "Tally.__init__" (defArgs s_Tally_init) (defBody s_Tally_init) (defScope s_Tally_init) .none kV20 dc20 pm20 an20 cd20 ct20), sl20⟩)
    (c20 : PySem.W.codeIn K cd20 "Tally.__init__" = true) (k20 : PySem.W.keepIn K (.ref f20) = true)
    (a21 : PySem.W.findIn K (.ref C_Asks) "__init__" = some (some (.ref f21))) (i21 : PySem.W.isFn K (.ref f21) = true)
    (l21 : K.lookup f21 = some ⟨oc21, od21, .func (PySem.W.fnOf "__init__" "Asks.__init__" (defArgs s_Asks_init) (defBody s_Asks_init) (defScope s_Asks_init) .none kV21 dc21 pm21 an21 cd21 ct21), sl21⟩)
    (c21 : PySem.W.codeIn K cd21 "Asks.__init__" = true) (k21 : PySem.W.keepIn K (.ref f21) = true)
    (a22 : PySem.W.findIn K (.ref C_Board) "__init__" = some (some (.ref f22))) (i22 : PySem.W.isFn K (.ref f22) = true)
    (l22 : K.lookup f22 = some ⟨oc22, od22, .func (PySem.W.fnOf "__init__" "Board.__init__" (defArgs s_Board_init) (defBody s_Board_init) (defScope s_Board_init) .none kV22 dc22 pm22 an22 (.ref cc22) ct22), sl22⟩)
    (c22 : PySem.W.codeIn K (.ref cc22) "Board.__init__" = true) (k22 : PySem.W.keepIn K (.ref f22) = true)
    (h22 : K.lookup cc22 = some ⟨hc22, hd22, .fields hv22, hs22⟩) (p22 : (hv22[11]? : Option Value) = some (.ref PT22)) (g22 : PySem.W.codeHdIn K cc22 PT22 = true) (n22 : K.lookup PT22 = none) (t22 : h.get? PT22 = some { cls := .none, data := .fields #[] })
    (a23 : PySem.W.findIn K (.ref C_Board) "lines" = some (some (.ref f23))) (i23 : PySem.W.isFn K (.ref f23) = true)
    (l23 : K.lookup f23 = some ⟨oc23, od23, .func (PySem.W.fnOf "lines" "Board.lines" (defArgs s_Board_lines) (defBody s_Board_lines) (defScope s_Board_lines) .none kV23 dc23 pm23 an23 cd23 ct23), sl23⟩)
    (c23 : PySem.W.codeIn K cd23 "Board.lines" = true) (k23 : PySem.W.keepIn K (.ref f23) = true)
    (a24 : PySem.W.nsIn K mainGlobals "asks_of" = some (some (.ref f24)))
    (l24 : K.lookup f24 = some ⟨oc24, od24, .func (PySem.W.fnOf "asks_of" "asks_of" (defArgs s_asks_of) (defBody s_asks_of) (defScope s_asks_of) .none kV24 dc24 pm24 an24 cd24 ct24), sl24⟩)
    (c24 : PySem.W.codeIn K cd24 "asks_of" = true) (k24 : PySem.W.keepIn K (.ref f24) = true)
    (a25 : PySem.W.nsIn K mainGlobals "is_change" = some (some (.ref f25)))
    (l25 : K.lookup f25 = some ⟨oc25, od25, .func (PySem.W.fnOf "is_change" "is_change" (defArgs s_is_change) (defBody s_is_change) (defScope s_is_change) .none kV25 dc25 pm25 an25 cd25 ct25), sl25⟩)
    (c25 : PySem.W.codeIn K cd25 "is_change" = true) (k25 : PySem.W.keepIn K (.ref f25) = true)
    (a26 : PySem.W.nsIn K mainGlobals "is_changes" = some (some (.ref f26)))
    (l26 : K.lookup f26 = some ⟨oc26, od26, .func (PySem.W.fnOf "is_changes" "is_changes" (defArgs s_is_changes) (defBody s_is_changes) (defScope s_is_changes) .none kV26 dc26 pm26 an26 cd26 ct26), sl26⟩)
    (c26 : PySem.W.codeIn K cd26 "is_changes" = true) (k26 : PySem.W.keepIn K (.ref f26) = true)
    (a27 : PySem.W.nsIn K mainGlobals "need_changes" = some (some (.ref f27)))
    (l27 : K.lookup f27 = some ⟨oc27, od27, .func (PySem.W.fnOf "need_changes" "need_changes" (defArgs s_need_changes) (defBody s_need_changes) (defScope s_need_changes) .none kV27 dc27 pm27 an27 cd27 ct27), sl27⟩)
    (c27 : PySem.W.codeIn K cd27 "need_changes" = true) (k27 : PySem.W.keepIn K (.ref f27) = true)
    (a28 : PySem.W.nsIn K mainGlobals "old_of" = some (some (.ref f28)))
    (l28 : K.lookup f28 = some ⟨oc28, od28, .func (PySem.W.fnOf "old_of" "old_of" (defArgs s_old_of) (defBody s_old_of) (defScope s_old_of) .none kV28 dc28 pm28 an28 cd28 ct28), sl28⟩)
    (c28 : PySem.W.codeIn K cd28 "old_of" = true) (k28 : PySem.W.keepIn K (.ref f28) = true)
    (a29 : PySem.W.nsIn K mainGlobals "new_of" = some (some (.ref f29)))
    (l29 : K.lookup f29 = some ⟨oc29, od29, .func (PySem.W.fnOf "new_of" "new_of" (defArgs s_new_of) (defBody s_new_of) (defScope s_new_of) .none kV29 dc29 pm29 an29 cd29 ct29), sl29⟩)
    (c29 : PySem.W.codeIn K cd29 "new_of" = true) (k29 : PySem.W.keepIn K (.ref f29) = true)
    (a30 : PySem.W.nsIn K mainGlobals "old_row" = some (some (.ref f30)))
    (l30 : K.lookup f30 = some ⟨oc30, od30, .func (PySem.W.fnOf "old_row" "old_row" (defArgs s_old_row) (defBody s_old_row) (defScope s_old_row) .none kV30 dc30 pm30 an30 cd30 ct30), sl30⟩)
    (c30 : PySem.W.codeIn K cd30 "old_row" = true) (k30 : PySem.W.keepIn K (.ref f30) = true)
    (a31 : PySem.W.nsIn K mainGlobals "new_row" = some (some (.ref f31)))
    (l31 : K.lookup f31 = some ⟨oc31, od31, .func (PySem.W.fnOf "new_row" "new_row" (defArgs s_new_row) (defBody s_new_row) (defScope s_new_row) .none kV31 dc31 pm31 an31 cd31 ct31), sl31⟩)
    (c31 : PySem.W.codeIn K cd31 "new_row" = true) (k31 : PySem.W.keepIn K (.ref f31) = true)
    (a32 : PySem.W.nsIn K mainGlobals "come_to" = some (some (.ref f32)))
    (l32 : K.lookup f32 = some ⟨oc32, od32, .func (PySem.W.fnOf "come_to" "come_to" (defArgs s_come_to) (defBody s_come_to) (defScope s_come_to) .none kV32 dc32 pm32 an32 cd32 ct32), sl32⟩)
    (c32 : PySem.W.codeIn K cd32 "come_to" = true) (k32 : PySem.W.keepIn K (.ref f32) = true)
    (a33 : PySem.W.nsIn K mainGlobals "paid" = some (some (.ref f33)))
    (l33 : K.lookup f33 = some ⟨oc33, od33, .func (PySem.W.fnOf "paid" "paid" (defArgs s_paid) (defBody s_paid) (defScope s_paid) .none kV33 dc33 pm33 an33 cd33 ct33), sl33⟩)
    (c33 : PySem.W.codeIn K cd33 "paid" = true) (k33 : PySem.W.keepIn K (.ref f33) = true)
    (a34 : PySem.W.nsIn K mainGlobals "done" = some (some (.ref f34)))
    (l34 : K.lookup f34 = some ⟨oc34, od34, .func (PySem.W.fnOf "done" "done" (defArgs s_done) (defBody s_done) (defScope s_done) .none kV34 dc34 pm34 an34 cd34 ct34), sl34⟩)
    (c34 : PySem.W.codeIn K cd34 "done" = true) (k34 : PySem.W.keepIn K (.ref f34) = true)
    (a35 : PySem.W.nsIn K mainGlobals "back" = some (some (.ref f35)))
    (l35 : K.lookup f35 = some ⟨oc35, od35, .func (PySem.W.fnOf "back" "back" (defArgs s_back) (defBody s_back) (defScope s_back) .none kV35 dc35 pm35 an35 cd35 ct35), sl35⟩)
    (c35 : PySem.W.codeIn K cd35 "back" = true) (k35 : PySem.W.keepIn K (.ref f35) = true)
    (a36 : PySem.W.nsIn K mainGlobals "after" = some (some (.ref f36)))
    (l36 : K.lookup f36 = some ⟨oc36, od36, .func (PySem.W.fnOf "after" "after" (defArgs s_after) (defBody s_after) (defScope s_after) .none kV36 dc36 pm36 an36 cd36 ct36), sl36⟩)
    (c36 : PySem.W.codeIn K cd36 "after" = true) (k36 : PySem.W.keepIn K (.ref f36) = true)
    (a37 : PySem.W.nsIn K mainGlobals "lengths" = some (some (.ref f37)))
    (l37 : K.lookup f37 = some ⟨oc37, od37, .func (PySem.W.fnOf "lengths" "lengths" (defArgs s_lengths) (defBody s_lengths) (defScope s_lengths) .none kV37 dc37 pm37 an37 cd37 ct37), sl37⟩)
    (c37 : PySem.W.codeIn K cd37 "lengths" = true) (k37 : PySem.W.keepIn K (.ref f37) = true)
    (a38 : PySem.W.nsIn K mainGlobals "longest" = some (some (.ref f38)))
    (l38 : K.lookup f38 = some ⟨oc38, od38, .func (PySem.W.fnOf "longest" "longest" (defArgs s_longest) (defBody s_longest) (defScope s_longest) .none kV38 dc38 pm38 an38 cd38 ct38), sl38⟩)
    (c38 : PySem.W.codeIn K cd38 "longest" = true) (k38 : PySem.W.keepIn K (.ref f38) = true)
    (a39 : PySem.W.nsIn K mainGlobals "is_pair" = some (some (.ref f39)))
    (l39 : K.lookup f39 = some ⟨oc39, od39, .func (PySem.W.fnOf "is_pair" "is_pair" (defArgs s_is_pair) (defBody s_is_pair) (defScope s_is_pair) .none kV39 dc39 pm39 an39 cd39 ct39), sl39⟩)
    (c39 : PySem.W.codeIn K cd39 "is_pair" = true) (k39 : PySem.W.keepIn K (.ref f39) = true)
    (a40 : PySem.W.nsIn K mainGlobals "pairs_of" = some (some (.ref f40)))
    (l40 : K.lookup f40 = some ⟨oc40, od40, .func (PySem.W.fnOf "pairs_of" "pairs_of" (defArgs s_pairs_of) (defBody s_pairs_of) (defScope s_pairs_of) .none kV40 dc40 pm40 an40 cd40 ct40), sl40⟩)
    (c40 : PySem.W.codeIn K cd40 "pairs_of" = true) (k40 : PySem.W.keepIn K (.ref f40) = true)
    (a41 : PySem.W.nsIn K mainGlobals "is_heap" = some (some (.ref f41)))
    (l41 : K.lookup f41 = some ⟨oc41, od41, .func (PySem.W.fnOf "is_heap" "is_heap" (defArgs s_is_heap) (defBody s_is_heap) (defScope s_is_heap) .none kV41 dc41 pm41 an41 cd41 ct41), sl41⟩)
    (c41 : PySem.W.codeIn K cd41 "is_heap" = true) (k41 : PySem.W.keepIn K (.ref f41) = true)
    (a42 : PySem.W.nsIn K mainGlobals "are_heaps" = some (some (.ref f42)))
    (l42 : K.lookup f42 = some ⟨oc42, od42, .func (PySem.W.fnOf "are_heaps" "are_heaps" (defArgs s_are_heaps) (defBody s_are_heaps) (defScope s_are_heaps) .none kV42 dc42 pm42 an42 cd42 ct42), sl42⟩)
    (c42 : PySem.W.codeIn K cd42 "are_heaps" = true) (k42 : PySem.W.keepIn K (.ref f42) = true)
    (a43 : PySem.W.nsIn K mainGlobals "need_plains" = some (some (.ref f43)))
    (l43 : K.lookup f43 = some ⟨oc43, od43, .func (PySem.W.fnOf "need_plains" "need_plains" (defArgs s_need_plains) (defBody s_need_plains) (defScope s_need_plains) .none kV43 dc43 pm43 an43 cd43 ct43), sl43⟩)
    (c43 : PySem.W.codeIn K cd43 "need_plains" = true) (k43 : PySem.W.keepIn K (.ref f43) = true)
    (a44 : PySem.W.nsIn K mainGlobals "cost" = some (some (.ref f44)))
    (l44 : K.lookup f44 = some ⟨oc44, od44, .func (PySem.W.fnOf "cost" "cost" (defArgs s_cost) (defBody s_cost) (defScope s_cost) .none kV44 dc44 pm44 an44 cd44 ct44), sl44⟩)
    (c44 : PySem.W.codeIn K cd44 "cost" = true) (k44 : PySem.W.keepIn K (.ref f44) = true)
    (a45 : PySem.W.nsIn K mainGlobals "cost_table" = some (some (.ref f45)))
    (l45 : K.lookup f45 = some ⟨oc45, od45, .func (PySem.W.fnOf "cost_table" "cost_table" (defArgs s_cost_table) (defBody s_cost_table) (defScope s_cost_table) .none kV45 dc45 pm45 an45 cd45 ct45), sl45⟩)
    (c45 : PySem.W.codeIn K cd45 "cost_table" = true) (k45 : PySem.W.keepIn K (.ref f45) = true)
    (a46 : PySem.W.nsIn K mainGlobals "changes_of" = some (some (.ref f46)))
    (l46 : K.lookup f46 = some ⟨oc46, od46, .func (PySem.W.fnOf "changes_of" "changes_of" (defArgs s_changes_of) (defBody s_changes_of) (defScope s_changes_of) .none kV46 dc46 pm46 an46 cd46 ct46), sl46⟩)
    (c46 : PySem.W.codeIn K cd46 "changes_of" = true) (k46 : PySem.W.keepIn K (.ref f46) = true)
    (a47 : PySem.W.nsIn K mainGlobals "shows_cost" = some (some (.ref f47)))
    (l47 : K.lookup f47 = some ⟨oc47, od47, .func (PySem.W.fnOf "shows_cost" "shows_cost" (defArgs s_shows_cost) (defBody s_shows_cost) (defScope s_shows_cost) .none kV47 dc47 pm47 an47 cd47 ct47), sl47⟩)
    (c47 : PySem.W.codeIn K cd47 "shows_cost" = true) (k47 : PySem.W.keepIn K (.ref f47) = true)
    (a48 : PySem.W.nsIn K mainGlobals "_law_cell_at" = some (some (.ref f48)))
    (l48 : K.lookup f48 = some ⟨oc48, od48, .func (PySem.W.fnOf "_law_cell_at" "_law_cell_at" (defArgs s__law_cell_at) (defBody s__law_cell_at) (defScope s__law_cell_at) .none kV48 dc48 pm48 an48 cd48 ct48), sl48⟩)
    (c48 : PySem.W.codeIn K cd48 "_law_cell_at" = true) (k48 : PySem.W.keepIn K (.ref f48) = true)
    (a49 : PySem.W.nsIn K mainGlobals "_law_great" = some (some (.ref f49)))
    (l49 : K.lookup f49 = some ⟨oc49, od49, .func (PySem.W.fnOf "_law_great" "_law_great" (defArgs s__law_great) (defBody s__law_great) (defScope s__law_great) .none kV49 dc49 pm49 an49 cd49 ct49), sl49⟩)
    (c49 : PySem.W.codeIn K cd49 "_law_great" = true) (k49 : PySem.W.keepIn K (.ref f49) = true)
    (a50 : PySem.W.nsIn K mainGlobals "_law_letter" = some (some (.ref f50)))
    (l50 : K.lookup f50 = some ⟨oc50, od50, .func (PySem.W.fnOf "_law_letter" "_law_letter" (defArgs s__law_letter) (defBody s__law_letter) (defScope s__law_letter) .none kV50 dc50 pm50 an50 cd50 ct50), sl50⟩)
    (c50 : PySem.W.codeIn K cd50 "_law_letter" = true) (k50 : PySem.W.keepIn K (.ref f50) = true)
    (a51 : PySem.W.nsIn K mainGlobals "_law_row" = some (some (.ref f51)))
    (l51 : K.lookup f51 = some ⟨oc51, od51, .func (PySem.W.fnOf "_law_row" "_law_row" (defArgs s__law_row) (defBody s__law_row) (defScope s__law_row) .none kV51 dc51 pm51 an51 cd51 ct51), sl51⟩)
    (c51 : PySem.W.codeIn K cd51 "_law_row" = true) (k51 : PySem.W.keepIn K (.ref f51) = true)
    (a52 : PySem.W.nsIn K mainGlobals "_law_list" = some (some (.ref f52)))
    (l52 : K.lookup f52 = some ⟨oc52, od52, .func (PySem.W.fnOf "_law_list" "_law_list" (defArgs s__law_list) (defBody s__law_list) (defScope s__law_list) .none kV52 dc52 pm52 an52 cd52 ct52), sl52⟩)
    (c52 : PySem.W.codeIn K cd52 "_law_list" = true) (k52 : PySem.W.keepIn K (.ref f52) = true)
    (a53 : PySem.W.nsIn K mainGlobals "_law_new" = some (some (.ref f53)))
    (l53 : K.lookup f53 = some ⟨oc53, od53, .func (PySem.W.fnOf "_law_new" "_law_new" (defArgs s__law_new) (defBody s__law_new) (defScope s__law_new) .none kV53 dc53 pm53 an53 cd53 ct53), sl53⟩)
    (c53 : PySem.W.codeIn K cd53 "_law_new" = true) (k53 : PySem.W.keepIn K (.ref f53) = true)
    (a54 : PySem.W.nsIn K mainGlobals "_law_old" = some (some (.ref f54)))
    (l54 : K.lookup f54 = some ⟨oc54, od54, .func (PySem.W.fnOf "_law_old" "_law_old" (defArgs s__law_old) (defBody s__law_old) (defScope s__law_old) .none kV54 dc54 pm54 an54 cd54 ct54), sl54⟩)
    (c54 : PySem.W.codeIn K cd54 "_law_old" = true) (k54 : PySem.W.keepIn K (.ref f54) = true)
    (a55 : PySem.W.nsIn K mainGlobals "_law_pays" = some (some (.ref f55)))
    (l55 : K.lookup f55 = some ⟨oc55, od55, .func (PySem.W.fnOf "_law_pays" "_law_pays" (defArgs s__law_pays) (defBody s__law_pays) (defScope s__law_pays) .none kV55 dc55 pm55 an55 cd55 ct55), sl55⟩)
    (c55 : PySem.W.codeIn K cd55 "_law_pays" = true) (k55 : PySem.W.keepIn K (.ref f55) = true)
    (a56 : PySem.W.nsIn K mainGlobals "_law_parted" = some (some (.ref f56)))
    (l56 : K.lookup f56 = some ⟨oc56, od56, .func (PySem.W.fnOf "_law_parted" "_law_parted" (defArgs s__law_parted) (defBody s__law_parted) (defScope s__law_parted) .none kV56 dc56 pm56 an56 cd56 ct56), sl56⟩)
    (c56 : PySem.W.codeIn K cd56 "_law_parted" = true) (k56 : PySem.W.keepIn K (.ref f56) = true)
    (a57 : PySem.W.nsIn K mainGlobals "_law_heaps" = some (some (.ref f57)))
    (l57 : K.lookup f57 = some ⟨oc57, od57, .func (PySem.W.fnOf "_law_heaps" "_law_heaps" (defArgs s__law_heaps) (defBody s__law_heaps) (defScope s__law_heaps) .none kV57 dc57 pm57 an57 cd57 ct57), sl57⟩)
    (c57 : PySem.W.codeIn K cd57 "_law_heaps" = true) (k57 : PySem.W.keepIn K (.ref f57) = true)
    (a58 : PySem.W.nsIn K mainGlobals "_law_part_one" = some (some (.ref f58)))
    (l58 : K.lookup f58 = some ⟨oc58, od58, .func (PySem.W.fnOf "_law_part_one" "_law_part_one" (defArgs s__law_part_one) (defBody s__law_part_one) (defScope s__law_part_one) .none kV58 dc58 pm58 an58 cd58 ct58), sl58⟩)
    (c58 : PySem.W.codeIn K cd58 "_law_part_one" = true) (k58 : PySem.W.keepIn K (.ref f58) = true)
    (a59 : PySem.W.nsIn K mainGlobals "_law_leads" = some (some (.ref f59)))
    (l59 : K.lookup f59 = some ⟨oc59, od59, .func (PySem.W.fnOf "_law_leads" "_law_leads" (defArgs s__law_leads) (defBody s__law_leads) (defScope s__law_leads) .none kV59 dc59 pm59 an59 cd59 ct59), sl59⟩)
    (c59 : PySem.W.codeIn K cd59 "_law_leads" = true) (k59 : PySem.W.keepIn K (.ref f59) = true)
    (a60 : PySem.W.nsIn K mainGlobals "_law_shown" = some (some (.ref f60)))
    (l60 : K.lookup f60 = some ⟨oc60, od60, .func (PySem.W.fnOf "_law_shown" "_law_shown" (defArgs s__law_shown) (defBody s__law_shown) (defScope s__law_shown) .none kV60 dc60 pm60 an60 cd60 ct60), sl60⟩)
    (c60 : PySem.W.codeIn K cd60 "_law_shown" = true) (k60 : PySem.W.keepIn K (.ref f60) = true)
    (a61 : PySem.W.nsIn K mainGlobals "_law_both_ways" = some (some (.ref f61)))
    (l61 : K.lookup f61 = some ⟨oc61, od61, .func (PySem.W.fnOf "_law_both_ways" "_law_both_ways" (defArgs s__law_both_ways) (defBody s__law_both_ways) (defScope s__law_both_ways) .none kV61 dc61 pm61 an61 cd61 ct61), sl61⟩)
    (c61 : PySem.W.codeIn K cd61 "_law_both_ways" = true) (k61 : PySem.W.keepIn K (.ref f61) = true)
    (a62 : PySem.W.findIn K (.ref C_Asks) "gains" = some (some (.ref f62))) (i62 : PySem.W.isFn K (.ref f62) = true)
    (l62 : K.lookup f62 = some ⟨oc62, od62, .func (PySem.W.fnOf "gains" "Asks.gains" (defArgs s_Asks_gains) (defBody s_Asks_gains) (defScope s_Asks_gains) .none kV62 dc62 pm62 an62 cd62 ct62), sl62⟩)
    (c62 : PySem.W.codeIn K cd62 "Asks.gains" = true) (k62 : PySem.W.keepIn K (.ref f62) = true)
    (a63 : PySem.W.findIn K (.ref C_Tally) "from_on" = some (some (.ref f63))) (i63 : PySem.W.isFn K (.ref f63) = true)
    (l63 : K.lookup f63 = some ⟨oc63, od63, .func (PySem.W.fnOf "from_on" "Tally.from_on" (defArgs s_Tally_from_on) (defBody s_Tally_from_on) (defScope s_Tally_from_on) .none kV63 dc63 pm63 an63 cd63 ct63), sl63⟩)
    (c63 : PySem.W.codeIn K cd63 "Tally.from_on" = true) (k63 : PySem.W.keepIn K (.ref f63) = true)
    (a64 : PySem.W.findIn K (.ref C_Tally) "below" = some (some (.ref f64))) (i64 : PySem.W.isFn K (.ref f64) = true)
    (l64 : K.lookup f64 = some ⟨oc64, od64, .func (PySem.W.fnOf "below" "Tally.below" (defArgs s_Tally_below) (defBody s_Tally_below) (defScope s_Tally_below) .none kV64 dc64 pm64 an64 cd64 ct64), sl64⟩)
    (c64 : PySem.W.codeIn K cd64 "Tally.below" = true) (k64 : PySem.W.keepIn K (.ref f64) = true)
    (a65 : PySem.W.findIn K (.ref C_Asks) "window" = some (some (.ref f65))) (i65 : PySem.W.isFn K (.ref f65) = true)
    (l65 : K.lookup f65 = some ⟨oc65, od65, .func (PySem.W.fnOf "window" "Asks.window" (defArgs s_Asks_window) (defBody s_Asks_window) (defScope s_Asks_window) .none kV65 dc65 pm65 an65 cd65 ct65), sl65⟩)
    (c65 : PySem.W.codeIn K cd65 "Asks.window" = true) (k65 : PySem.W.keepIn K (.ref f65) = true)
    (a66 : PySem.W.findIn K (.ref C_Asks) "stretch" = some (some (.ref f66))) (i66 : PySem.W.isFn K (.ref f66) = true)
    (l66 : K.lookup f66 = some ⟨oc66, od66, .func (PySem.W.fnOf "stretch" "Asks.stretch" (defArgs s_Asks_stretch) (defBody s_Asks_stretch) (defScope s_Asks_stretch) .none kV66 dc66 pm66 an66 cd66 ct66), sl66⟩)
    (c66 : PySem.W.codeIn K cd66 "Asks.stretch" = true) (k66 : PySem.W.keepIn K (.ref f66) = true)
    (a67 : PySem.W.findIn K (.ref C_Asks) "table" = some (some (.ref f67))) (i67 : PySem.W.isFn K (.ref f67) = true)
    (l67 : K.lookup f67 = some ⟨oc67, od67, .func (PySem.W.fnOf "table" "Asks.table" (defArgs s_Asks_table) (defBody s_Asks_table) (defScope s_Asks_table) .none kV67 dc67 pm67 an67 cd67 ct67), sl67⟩)
    (c67 : PySem.W.codeIn K cd67 "Asks.table" = true) (k67 : PySem.W.keepIn K (.ref f67) = true)
    (a68 : PySem.W.findIn K (.ref C_Costs) "__init__" = some (some (.ref f68))) (i68 : PySem.W.isFn K (.ref f68) = true)
    (l68 : K.lookup f68 = some ⟨oc68, od68, .func (PySem.W.fnOf "__init__" "Costs.__init__" (defArgs s_Costs_init) (defBody s_Costs_init) (defScope s_Costs_init) .none kV68 dc68 pm68 an68 cd68 ct68), sl68⟩)
    (c68 : PySem.W.codeIn K cd68 "Costs.__init__" = true) (k68 : PySem.W.keepIn K (.ref f68) = true)
    (a69 : PySem.W.findIn K (.ref C_Costs) "of" = some (some (.ref f69))) (i69 : PySem.W.isFn K (.ref f69) = true)
    (l69 : K.lookup f69 = some ⟨oc69, od69, .func (PySem.W.fnOf "of" "Costs.of" (defArgs s_Costs_of) (defBody s_Costs_of) (defScope s_Costs_of) .none kV69 dc69 pm69 an69 cd69 ct69), sl69⟩)
    (c69 : PySem.W.codeIn K cd69 "Costs.of" = true) (k69 : PySem.W.keepIn K (.ref f69) = true)
    (a70 : PySem.W.nsIn K mainGlobals "law" = some (some (.ref f70)))
    (l70 : K.lookup f70 = some ⟨oc70, od70, .func (PySem.W.fnOf "law" "law" (defArgs s_law) (defBody s_law) (defScope s_law) .none kV70 dc70 pm70 an70 cd70 ct70), sl70⟩)
    (c70 : PySem.W.codeIn K cd70 "law" = true) (k70 : PySem.W.keepIn K (.ref f70) = true)
    (cn0 : PySem.W.nsIn K mainGlobals "LETTERS" = some (some (.str "abcdefghijklmnopqrstuvwxyz" t_0)))
    (cn1 : PySem.W.nsIn K mainGlobals "MOST_SIGNS" = some (some (.int 48 t_1)))
    (cn2 : PySem.W.nsIn K mainGlobals "MOST_LETTERS" = some (some (.int 24 t_2)))
    (cn3 : PySem.W.nsIn K mainGlobals "MOST_LINES" = some (some (.int 96 t_3)))
    (cn4 : PySem.W.nsIn K mainGlobals "MOST_CHANGES" = some (some (.int 48 t_4)))
    (z0 : PySem.W.nsIn K mainGlobals "isinstance" = some none)
    (z1 : PySem.W.nsIn K mainGlobals "int" = some none)
    (z2 : PySem.W.nsIn K mainGlobals "bool" = some none)
    (z3 : PySem.W.nsIn K mainGlobals "str" = some none)
    (z4 : PySem.W.nsIn K mainGlobals "len" = some none)
    (z5 : PySem.W.nsIn K mainGlobals "all" = some none)
    (z6 : PySem.W.nsIn K mainGlobals "enumerate" = some none)
    (z7 : PySem.W.nsIn K mainGlobals "list" = some none)
    (z8 : PySem.W.nsIn K mainGlobals "range" = some none)
    (z9 : PySem.W.nsIn K mainGlobals "tuple" = some none)
    (z10 : PySem.W.nsIn K mainGlobals "zip" = some none)
    (z11 : PySem.W.nsIn K mainGlobals "max" = some none)
    (z12 : PySem.W.nsIn K mainGlobals "sorted" = some none)
    (z13 : PySem.W.nsIn K mainGlobals "min" = some none)
    (z14 : PySem.W.nsIn K mainGlobals "ord" = some none)
    (z15 : PySem.W.nsIn K mainGlobals "abs" = some none)
    (g_NoRow : PySem.W.nsIn K mainGlobals "NoRow" = some (some (.ref C_NoRow)))
    (g_NoPlain : PySem.W.nsIn K mainGlobals "NoPlain" = some (some (.ref C_NoPlain)))
    (g_NoSpan : PySem.W.nsIn K mainGlobals "NoSpan" = some (some (.ref C_NoSpan)))
    (g_NoTurning : PySem.W.nsIn K mainGlobals "NoTurning" = some (some (.ref C_NoTurning)))
    (g_NoPlace : PySem.W.nsIn K mainGlobals "NoPlace" = some (some (.ref C_NoPlace)))
    (g_NoChanges : PySem.W.nsIn K mainGlobals "NoChanges" = some (some (.ref C_NoChanges)))
    (g_Unlike : PySem.W.nsIn K mainGlobals "Unlike" = some (some (.ref C_Unlike)))
    (g_TooLong : PySem.W.nsIn K mainGlobals "TooLong" = some (some (.ref C_TooLong)))
    (g_PaneError : PySem.W.nsIn K mainGlobals "PaneError" = some (some (.ref C_PaneError)))
    (lk_NoRow : K.lookup C_NoRow = some (excClassObj xn_NoRow xq_NoRow C_NoRow xN_NoRow xb_NoRow [.ref C_PaneError, .type "ValueError", .type "Exception", .type "BaseException", .type "object"] true xs_NoRow xu_NoRow xa_NoRow xc_NoRow xd_NoRow xk0_NoRow xk1_NoRow xk2_NoRow xk3_NoRow xk5_NoRow "ValueError.__new__"))
    (f_setattr_NoRow : PySem.W.findIn K (.ref C_NoRow) "__setattr__" = some (some (.builtin "object.__setattr__")))
    (sb_NoRow : PySem.W.subIn K (.ref C_NoRow) (.type "BaseException") = some true)
    (ty_NoRow : PySem.W.typeIn K (.ref C_NoRow) = some (.type "type"))
    (k_NoRow : PySem.W.keepIn K (.ref C_NoRow) = true)
    (f_found_NoRow : PySem.W.findIn K (.ref C_NoRow) "found" = some none)
    (ini_NoRow : PySem.W.findIn K (.ref C_NoRow) "__init__" = some (some (.ref I_NoRow)))
    (int_NoRow : PySem.W.typeIn K (.ref I_NoRow) = some (.type "function"))
    (il_NoRow : K.lookup I_NoRow = some ⟨Ioc_NoRow, Iod_NoRow, .func (PySem.W.fnOf "__init__" "NoRow.__init__" (defArgs si_NoRow) (defBody si_NoRow) (defScope si_NoRow) .none IkV_NoRow Idc_NoRow Ipm_NoRow Ian_NoRow Icd_NoRow Ict_NoRow), Isl_NoRow⟩)
    (ic_NoRow : PySem.W.codeIn K Icd_NoRow "NoRow.__init__" = true)
    (ik_NoRow : PySem.W.keepIn K (.ref I_NoRow) = true)
    (lk_NoPlain : K.lookup C_NoPlain = some (excClassObj xn_NoPlain xq_NoPlain C_NoPlain xN_NoPlain xb_NoPlain [.ref C_PaneError, .type "ValueError", .type "Exception", .type "BaseException", .type "object"] true xs_NoPlain xu_NoPlain xa_NoPlain xc_NoPlain xd_NoPlain xk0_NoPlain xk1_NoPlain xk2_NoPlain xk3_NoPlain xk5_NoPlain "ValueError.__new__"))
    (f_setattr_NoPlain : PySem.W.findIn K (.ref C_NoPlain) "__setattr__" = some (some (.builtin "object.__setattr__")))
    (sb_NoPlain : PySem.W.subIn K (.ref C_NoPlain) (.type "BaseException") = some true)
    (ty_NoPlain : PySem.W.typeIn K (.ref C_NoPlain) = some (.type "type"))
    (k_NoPlain : PySem.W.keepIn K (.ref C_NoPlain) = true)
    (f_found_NoPlain : PySem.W.findIn K (.ref C_NoPlain) "found" = some none)
    (ini_NoPlain : PySem.W.findIn K (.ref C_NoPlain) "__init__" = some (some (.ref I_NoPlain)))
    (int_NoPlain : PySem.W.typeIn K (.ref I_NoPlain) = some (.type "function"))
    (il_NoPlain : K.lookup I_NoPlain = some ⟨Ioc_NoPlain, Iod_NoPlain, .func (PySem.W.fnOf "__init__" "NoPlain.__init__" (defArgs si_NoPlain) (defBody si_NoPlain) (defScope si_NoPlain) .none IkV_NoPlain Idc_NoPlain Ipm_NoPlain Ian_NoPlain Icd_NoPlain Ict_NoPlain), Isl_NoPlain⟩)
    (ic_NoPlain : PySem.W.codeIn K Icd_NoPlain "NoPlain.__init__" = true)
    (ik_NoPlain : PySem.W.keepIn K (.ref I_NoPlain) = true)
    (lk_NoSpan : K.lookup C_NoSpan = some (excClassObj xn_NoSpan xq_NoSpan C_NoSpan xN_NoSpan xb_NoSpan [.ref C_PaneError, .type "ValueError", .type "Exception", .type "BaseException", .type "object"] true xs_NoSpan xu_NoSpan xa_NoSpan xc_NoSpan xd_NoSpan xk0_NoSpan xk1_NoSpan xk2_NoSpan xk3_NoSpan xk5_NoSpan "ValueError.__new__"))
    (f_setattr_NoSpan : PySem.W.findIn K (.ref C_NoSpan) "__setattr__" = some (some (.builtin "object.__setattr__")))
    (sb_NoSpan : PySem.W.subIn K (.ref C_NoSpan) (.type "BaseException") = some true)
    (ty_NoSpan : PySem.W.typeIn K (.ref C_NoSpan) = some (.type "type"))
    (k_NoSpan : PySem.W.keepIn K (.ref C_NoSpan) = true)
    (f_begin_NoSpan : PySem.W.findIn K (.ref C_NoSpan) "begin" = some none)
    (f_end_NoSpan : PySem.W.findIn K (.ref C_NoSpan) "end" = some none)
    (ini_NoSpan : PySem.W.findIn K (.ref C_NoSpan) "__init__" = some (some (.ref I_NoSpan)))
    (int_NoSpan : PySem.W.typeIn K (.ref I_NoSpan) = some (.type "function"))
    (il_NoSpan : K.lookup I_NoSpan = some ⟨Ioc_NoSpan, Iod_NoSpan, .func (PySem.W.fnOf "__init__" "NoSpan.__init__" (defArgs si_NoSpan) (defBody si_NoSpan) (defScope si_NoSpan) .none IkV_NoSpan Idc_NoSpan Ipm_NoSpan Ian_NoSpan Icd_NoSpan Ict_NoSpan), Isl_NoSpan⟩)
    (ic_NoSpan : PySem.W.codeIn K Icd_NoSpan "NoSpan.__init__" = true)
    (ik_NoSpan : PySem.W.keepIn K (.ref I_NoSpan) = true)
    (lk_NoTurning : K.lookup C_NoTurning = some (excClassObj xn_NoTurning xq_NoTurning C_NoTurning xN_NoTurning xb_NoTurning [.ref C_PaneError, .type "ValueError", .type "Exception", .type "BaseException", .type "object"] true xs_NoTurning xu_NoTurning xa_NoTurning xc_NoTurning xd_NoTurning xk0_NoTurning xk1_NoTurning xk2_NoTurning xk3_NoTurning xk5_NoTurning "ValueError.__new__"))
    (f_setattr_NoTurning : PySem.W.findIn K (.ref C_NoTurning) "__setattr__" = some (some (.builtin "object.__setattr__")))
    (sb_NoTurning : PySem.W.subIn K (.ref C_NoTurning) (.type "BaseException") = some true)
    (ty_NoTurning : PySem.W.typeIn K (.ref C_NoTurning) = some (.type "type"))
    (k_NoTurning : PySem.W.keepIn K (.ref C_NoTurning) = true)
    (f_found_NoTurning : PySem.W.findIn K (.ref C_NoTurning) "found" = some none)
    (ini_NoTurning : PySem.W.findIn K (.ref C_NoTurning) "__init__" = some (some (.ref I_NoTurning)))
    (int_NoTurning : PySem.W.typeIn K (.ref I_NoTurning) = some (.type "function"))
    (il_NoTurning : K.lookup I_NoTurning = some ⟨Ioc_NoTurning, Iod_NoTurning, .func (PySem.W.fnOf "__init__" "NoTurning.__init__" (defArgs si_NoTurning) (defBody si_NoTurning) (defScope si_NoTurning) .none IkV_NoTurning Idc_NoTurning Ipm_NoTurning Ian_NoTurning Icd_NoTurning Ict_NoTurning), Isl_NoTurning⟩)
    (ic_NoTurning : PySem.W.codeIn K Icd_NoTurning "NoTurning.__init__" = true)
    (ik_NoTurning : PySem.W.keepIn K (.ref I_NoTurning) = true)
    (lk_NoPlace : K.lookup C_NoPlace = some (excClassObj xn_NoPlace xq_NoPlace C_NoPlace xN_NoPlace xb_NoPlace [.ref C_PaneError, .type "ValueError", .type "Exception", .type "BaseException", .type "object"] true xs_NoPlace xu_NoPlace xa_NoPlace xc_NoPlace xd_NoPlace xk0_NoPlace xk1_NoPlace xk2_NoPlace xk3_NoPlace xk5_NoPlace "ValueError.__new__"))
    (f_setattr_NoPlace : PySem.W.findIn K (.ref C_NoPlace) "__setattr__" = some (some (.builtin "object.__setattr__")))
    (sb_NoPlace : PySem.W.subIn K (.ref C_NoPlace) (.type "BaseException") = some true)
    (ty_NoPlace : PySem.W.typeIn K (.ref C_NoPlace) = some (.type "type"))
    (k_NoPlace : PySem.W.keepIn K (.ref C_NoPlace) = true)
    (f_found_NoPlace : PySem.W.findIn K (.ref C_NoPlace) "found" = some none)
    (ini_NoPlace : PySem.W.findIn K (.ref C_NoPlace) "__init__" = some (some (.ref I_NoPlace)))
    (int_NoPlace : PySem.W.typeIn K (.ref I_NoPlace) = some (.type "function"))
    (il_NoPlace : K.lookup I_NoPlace = some ⟨Ioc_NoPlace, Iod_NoPlace, .func (PySem.W.fnOf "__init__" "NoPlace.__init__" (defArgs si_NoPlace) (defBody si_NoPlace) (defScope si_NoPlace) .none IkV_NoPlace Idc_NoPlace Ipm_NoPlace Ian_NoPlace Icd_NoPlace Ict_NoPlace), Isl_NoPlace⟩)
    (ic_NoPlace : PySem.W.codeIn K Icd_NoPlace "NoPlace.__init__" = true)
    (ik_NoPlace : PySem.W.keepIn K (.ref I_NoPlace) = true)
    (lk_NoChanges : K.lookup C_NoChanges = some (excClassObj xn_NoChanges xq_NoChanges C_NoChanges xN_NoChanges xb_NoChanges [.ref C_PaneError, .type "ValueError", .type "Exception", .type "BaseException", .type "object"] true xs_NoChanges xu_NoChanges xa_NoChanges xc_NoChanges xd_NoChanges xk0_NoChanges xk1_NoChanges xk2_NoChanges xk3_NoChanges xk5_NoChanges "ValueError.__new__"))
    (f_setattr_NoChanges : PySem.W.findIn K (.ref C_NoChanges) "__setattr__" = some (some (.builtin "object.__setattr__")))
    (sb_NoChanges : PySem.W.subIn K (.ref C_NoChanges) (.type "BaseException") = some true)
    (ty_NoChanges : PySem.W.typeIn K (.ref C_NoChanges) = some (.type "type"))
    (k_NoChanges : PySem.W.keepIn K (.ref C_NoChanges) = true)
    (f_found_NoChanges : PySem.W.findIn K (.ref C_NoChanges) "found" = some none)
    (ini_NoChanges : PySem.W.findIn K (.ref C_NoChanges) "__init__" = some (some (.ref I_NoChanges)))
    (int_NoChanges : PySem.W.typeIn K (.ref I_NoChanges) = some (.type "function"))
    (il_NoChanges : K.lookup I_NoChanges = some ⟨Ioc_NoChanges, Iod_NoChanges, .func (PySem.W.fnOf "__init__" "NoChanges.__init__" (defArgs si_NoChanges) (defBody si_NoChanges) (defScope si_NoChanges) .none IkV_NoChanges Idc_NoChanges Ipm_NoChanges Ian_NoChanges Icd_NoChanges Ict_NoChanges), Isl_NoChanges⟩)
    (ic_NoChanges : PySem.W.codeIn K Icd_NoChanges "NoChanges.__init__" = true)
    (ik_NoChanges : PySem.W.keepIn K (.ref I_NoChanges) = true)
    (lk_Unlike : K.lookup C_Unlike = some (excClassObj xn_Unlike xq_Unlike C_Unlike xN_Unlike xb_Unlike [.ref C_PaneError, .type "ValueError", .type "Exception", .type "BaseException", .type "object"] true xs_Unlike xu_Unlike xa_Unlike xc_Unlike xd_Unlike xk0_Unlike xk1_Unlike xk2_Unlike xk3_Unlike xk5_Unlike "ValueError.__new__"))
    (f_setattr_Unlike : PySem.W.findIn K (.ref C_Unlike) "__setattr__" = some (some (.builtin "object.__setattr__")))
    (sb_Unlike : PySem.W.subIn K (.ref C_Unlike) (.type "BaseException") = some true)
    (ty_Unlike : PySem.W.typeIn K (.ref C_Unlike) = some (.type "type"))
    (k_Unlike : PySem.W.keepIn K (.ref C_Unlike) = true)
    (f_one_Unlike : PySem.W.findIn K (.ref C_Unlike) "one" = some none)
    (f_other_Unlike : PySem.W.findIn K (.ref C_Unlike) "other" = some none)
    (ini_Unlike : PySem.W.findIn K (.ref C_Unlike) "__init__" = some (some (.ref I_Unlike)))
    (int_Unlike : PySem.W.typeIn K (.ref I_Unlike) = some (.type "function"))
    (il_Unlike : K.lookup I_Unlike = some ⟨Ioc_Unlike, Iod_Unlike, .func (PySem.W.fnOf "__init__" "Unlike.__init__" (defArgs si_Unlike) (defBody si_Unlike) (defScope si_Unlike) .none IkV_Unlike Idc_Unlike Ipm_Unlike Ian_Unlike Icd_Unlike Ict_Unlike), Isl_Unlike⟩)
    (ic_Unlike : PySem.W.codeIn K Icd_Unlike "Unlike.__init__" = true)
    (ik_Unlike : PySem.W.keepIn K (.ref I_Unlike) = true)
    (lk_TooLong : K.lookup C_TooLong = some (excClassObj xn_TooLong xq_TooLong C_TooLong xN_TooLong xb_TooLong [.ref C_PaneError, .type "ValueError", .type "Exception", .type "BaseException", .type "object"] true xs_TooLong xu_TooLong xa_TooLong xc_TooLong xd_TooLong xk0_TooLong xk1_TooLong xk2_TooLong xk3_TooLong xk5_TooLong "ValueError.__new__"))
    (f_setattr_TooLong : PySem.W.findIn K (.ref C_TooLong) "__setattr__" = some (some (.builtin "object.__setattr__")))
    (sb_TooLong : PySem.W.subIn K (.ref C_TooLong) (.type "BaseException") = some true)
    (ty_TooLong : PySem.W.typeIn K (.ref C_TooLong) = some (.type "type"))
    (k_TooLong : PySem.W.keepIn K (.ref C_TooLong) = true)
    (f_found_TooLong : PySem.W.findIn K (.ref C_TooLong) "found" = some none)
    (ini_TooLong : PySem.W.findIn K (.ref C_TooLong) "__init__" = some (some (.ref I_TooLong)))
    (int_TooLong : PySem.W.typeIn K (.ref I_TooLong) = some (.type "function"))
    (il_TooLong : K.lookup I_TooLong = some ⟨Ioc_TooLong, Iod_TooLong, .func (PySem.W.fnOf "__init__" "TooLong.__init__" (defArgs si_TooLong) (defBody si_TooLong) (defScope si_TooLong) .none IkV_TooLong Idc_TooLong Ipm_TooLong Ian_TooLong Icd_TooLong Ict_TooLong), Isl_TooLong⟩)
    (ic_TooLong : PySem.W.codeIn K Icd_TooLong "TooLong.__init__" = true)
    (ik_TooLong : PySem.W.keepIn K (.ref I_TooLong) = true)
    (ba_PaneError : PySem.W.specialIn K (.ref C_PaneError) "__getattribute__" = some (some (.builtin "type.__getattribute__")))
    (br_PaneError : PySem.W.readsIn K C_PaneError (.type "type") = true)
    (bf_PaneError : PySem.W.findCls K (.ref C_PaneError) (.type "type") "__init__" = some (.val (.builtin "ValueError.__init__")))
    (g_Tally : PySem.W.nsIn K mainGlobals "Tally" = some (some (.ref C_Tally)))
    (pg_Tally : PySem.W.plainGet K C_Tally Str.empty = true)
    (hd_Tally : PySem.W.hasDictIn K C_Tally = true)
    (po_Tally : PySem.W.plainOver K C_Tally = true)
    (sa_Tally : PySem.W.findIn K (.ref C_Tally) "__setattr__" = some (some (.builtin "object.__setattr__")))
    (na_Tally_many : PySem.W.findIn K (.ref C_Tally) "many" = some none)
    (na_Tally_floors : PySem.W.findIn K (.ref C_Tally) "floors" = some none)
    (mk_Tally : PySem.W.makesIn K C_Tally = true)
    (kc_Tally : PySem.W.keepIn K (.ref C_Tally) = true)
    (g_Asks : PySem.W.nsIn K mainGlobals "Asks" = some (some (.ref C_Asks)))
    (pg_Asks : PySem.W.plainGet K C_Asks Str.empty = true)
    (hd_Asks : PySem.W.hasDictIn K C_Asks = true)
    (po_Asks : PySem.W.plainOver K C_Asks = true)
    (sa_Asks : PySem.W.findIn K (.ref C_Asks) "__setattr__" = some (some (.builtin "object.__setattr__")))
    (na_Asks_tall : PySem.W.findIn K (.ref C_Asks) "tall" = some none)
    (na_Asks_wide : PySem.W.findIn K (.ref C_Asks) "wide" = some none)
    (na_Asks_tally : PySem.W.findIn K (.ref C_Asks) "tally" = some none)
    (na_Asks_goals : PySem.W.findIn K (.ref C_Asks) "goals" = some none)
    (na_Asks_starts : PySem.W.findIn K (.ref C_Asks) "starts" = some none)
    (mk_Asks : PySem.W.makesIn K C_Asks = true)
    (kc_Asks : PySem.W.keepIn K (.ref C_Asks) = true)
    (g_Board : PySem.W.nsIn K mainGlobals "Board" = some (some (.ref C_Board)))
    (pg_Board : PySem.W.plainGet K C_Board Str.empty = true)
    (hd_Board : PySem.W.hasDictIn K C_Board = true)
    (po_Board : PySem.W.plainOver K C_Board = true)
    (sa_Board : PySem.W.findIn K (.ref C_Board) "__setattr__" = some (some (.builtin "object.__setattr__")))
    (na_Board_left_row : PySem.W.findIn K (.ref C_Board) "left_row" = some none)
    (na_Board_upper_row : PySem.W.findIn K (.ref C_Board) "upper_row" = some none)
    (na_Board_meetings : PySem.W.findIn K (.ref C_Board) "meetings" = some none)
    (na_Board_signs : PySem.W.findIn K (.ref C_Board) "signs" = some none)
    (na_Board_goals : PySem.W.findIn K (.ref C_Board) "goals" = some none)
    (mk_Board : PySem.W.makesIn K C_Board = true)
    (kc_Board : PySem.W.keepIn K (.ref C_Board) = true)
    (g_Costs : PySem.W.nsIn K mainGlobals "Costs" = some (some (.ref C_Costs)))
    (pg_Costs : PySem.W.plainGet K C_Costs Str.empty = true)
    (hd_Costs : PySem.W.hasDictIn K C_Costs = true)
    (po_Costs : PySem.W.plainOver K C_Costs = true)
    (sa_Costs : PySem.W.findIn K (.ref C_Costs) "__setattr__" = some (some (.builtin "object.__setattr__")))
    (na_Costs_turned_row : PySem.W.findIn K (.ref C_Costs) "turned_row" = some none)
    (na_Costs_goal_row : PySem.W.findIn K (.ref C_Costs) "goal_row" = some none)
    (na_Costs_wide : PySem.W.findIn K (.ref C_Costs) "wide" = some none)
    (na_Costs_costs : PySem.W.findIn K (.ref C_Costs) "costs" = some none)
    (mk_Costs : PySem.W.makesIn K C_Costs = true)
    (kc_Costs : PySem.W.keepIn K (.ref C_Costs) = true)
    (g_SIZES : PySem.W.nsIn K mainGlobals "SIZES" = some (some (.ref C_SIZES)))
    (gl_SIZES : K.lookup C_SIZES = some ⟨.type "dict", none, .dict es_SIZES en_SIZES, #[]⟩)
    (gk_SIZES : PySem.W.KeysLit w.params es_SIZES.toList)
    (gv_SIZES : gdAll es_SIZES.toList [("keep", .int 2), ("change", .int 3), ("out", .int 2), ("in", .int 2)] = true)
    (gs_SIZES : (C_SIZES == sysModules) = false)
    : LamX.LawAtS l w K CX0 12 63 "_law_script" mg fa h := by
  have e := hfa.symm.trans (PySem.W.mg_of X G a70)
  cases e
  have q_NoRow := clsA_of g_NoRow
  subst q_NoRow
  have q_NoPlain := clsA_of g_NoPlain
  subst q_NoPlain
  have q_NoSpan := clsA_of g_NoSpan
  subst q_NoSpan
  have q_NoTurning := clsA_of g_NoTurning
  subst q_NoTurning
  have q_NoPlace := clsA_of g_NoPlace
  subst q_NoPlace
  have q_NoChanges := clsA_of g_NoChanges
  subst q_NoChanges
  have q_Unlike := clsA_of g_Unlike
  subst q_Unlike
  have q_TooLong := clsA_of g_TooLong
  subst q_TooLong
  have q_PaneError := clsA_of g_PaneError
  subst q_PaneError
  have q_Tally := clsA_of g_Tally
  subst q_Tally
  have q_Asks := clsA_of g_Asks
  subst q_Asks
  have q_Board := clsA_of g_Board
  subst q_Board
  have q_Costs := clsA_of g_Costs
  subst q_Costs
  have q_SIZES := clsA_of g_SIZES
  subst q_SIZES
  refine ⟨PySem.W.fnOf "law" "law" (defArgs s_law) (defBody s_law) (defScope s_law) .none kV70 dc70 pm70 an70 cd70 ct70, [(cc22, PT22)], sp_law K (tabsL (fun i => match i with | 0 => (cc22, PT22) | _ => (cc22, PT22))), (fun p hp => by
    simp only [List.mem_cons, List.not_mem_nil, or_false] at hp
    rcases hp with rfl
    · exact t22), (fun p hp => by
    simp only [List.mem_cons, List.not_mem_nil, or_false] at hp
    rcases hp with rfl
    · exact n22), (fun p hp => by
    simp only [List.mem_cons, List.not_mem_nil, or_false] at hp
    rcases hp with rfl
    · exact PySem.W.codeHd_of_K X g22), fun s v => .of_eq rfl, fun H a ns hl _ hTt hS => ⟨a, ns, rfl, hS, fun p hp => ?_, hl, fun _ => rfl⟩, fun base _ _ hTB => ?_⟩
  · simp only [tabsL, List.mem_cons, List.not_mem_nil, or_false] at hp
    rcases hp with rfl
    · exact LamX.TabS.nil (hTt (cc22, PT22) (by simp))
  have T : Tx K mg (fun i => match i with | 0 => f0 | 1 => f1 | 2 => f2 | 3 => f3 | 4 => f4 | 5 => f5 | 6 => f6 | 7 => f7 | 8 => f8 | 9 => f9 | 10 => f10 | 11 => f11 | 12 => f12 | 13 => f13 | 14 => f14 | 15 => f15 | 16 => f16 | 17 => f17 | 18 => f18 | 19 => f19 | 20 => f20 | 21 => f21 | 22 => f22 | 23 => f23 | 24 => f24 | 25 => f25 | 26 => f26 | 27 => f27 | 28 => f28 | 29 => f29 | 30 => f30 | 31 => f31 | 32 => f32 | 33 => f33 | 34 => f34 | 35 => f35 | 36 => f36 | 37 => f37 | 38 => f38 | 39 => f39 | 40 => f40 | 41 => f41 | 42 => f42 | 43 => f43 | 44 => f44 | 45 => f45 | 46 => f46 | 47 => f47 | 48 => f48 | 49 => f49 | 50 => f50 | 51 => f51 | 52 => f52 | 53 => f53 | 54 => f54 | 55 => f55 | 56 => f56 | 57 => f57 | 58 => f58 | 59 => f59 | 60 => f60 | 61 => f61 | 62 => f62 | 63 => f63 | 64 => f64 | 65 => f65 | 66 => f66 | 67 => f67 | 68 => f68 | 69 => f69 | 70 => fa | _ => f0) (fun i => match i with | 0 => PySem.W.fnOf "is_whole" "is_whole" (defArgs s_is_whole) (defBody s_is_whole) (defScope s_is_whole) .none kV0 dc0 pm0 an0 cd0 ct0 | 1 => PySem.W.fnOf "is_within" "is_within" (defArgs s_is_within) (defBody s_is_within) (defScope s_is_within) .none kV1 dc1 pm1 an1 cd1 ct1 | 2 => PySem.W.fnOf "is_letter" "is_letter" (defArgs s_is_letter) (defBody s_is_letter) (defScope s_is_letter) .none kV2 dc2 pm2 an2 cd2 ct2 | 3 => PySem.W.fnOf "is_row" "is_row" (defArgs s_is_row) (defBody s_is_row) (defScope s_is_row) .none kV3 dc3 pm3 an3 cd3 ct3 | 4 => PySem.W.fnOf "is_plain" "is_plain" (defArgs s_is_plain) (defBody s_is_plain) (defScope s_is_plain) .none kV4 dc4 pm4 an4 cd4 ct4 | 5 => PySem.W.fnOf "need_row" "need_row" (defArgs s_need_row) (defBody s_need_row) (defScope s_need_row) .none kV5 dc5 pm5 an5 cd5 ct5 | 6 => PySem.W.fnOf "need_rows" "need_rows" (defArgs s_need_rows) (defBody s_need_rows) (defScope s_need_rows) .none kV6 dc6 pm6 an6 cd6 ct6 | 7 => PySem.W.fnOf "need_plain" "need_plain" (defArgs s_need_plain) (defBody s_need_plain) (defScope s_need_plain) .none kV7 dc7 pm7 an7 cd7 ct7 | 8 => PySem.W.fnOf "need_span" "need_span" (defArgs s_need_span) (defBody s_need_span) (defScope s_need_span) .none kV8 dc8 pm8 an8 cd8 ct8 | 9 => PySem.W.fnOf "parted" "parted" (defArgs s_parted) (defBody s_parted) (defScope s_parted) .none kV9 dc9 pm9 an9 cd9 ct9 | 10 => PySem.W.fnOf "places_of" "places_of" (defArgs s_places_of) (defBody s_places_of) (defScope s_places_of) .none kV10 dc10 pm10 an10 cd10 ct10 | 11 => PySem.W.fnOf "led" "led" (defArgs s_led) (defBody s_led) (defScope s_led) .none kV11 dc11 pm11 an11 cd11 ct11 | 12 => PySem.W.fnOf "is_turning" "is_turning" (defArgs s_is_turning) (defBody s_is_turning) (defScope s_is_turning) .none kV12 dc12 pm12 an12 cd12 ct12 | 13 => PySem.W.fnOf "need_turning" "need_turning" (defArgs s_need_turning) (defBody s_need_turning) (defScope s_need_turning) .none kV13 dc13 pm13 an13 cd13 ct13 | 14 => PySem.W.fnOf "need_place" "need_place" (defArgs s_need_place) (defBody s_need_place) (defScope s_need_place) .none kV14 dc14 pm14 an14 cd14 ct14 | 15 => PySem.W.fnOf "opposite" "opposite" (defArgs s_opposite) (defBody s_opposite) (defScope s_opposite) .none kV15 dc15 pm15 an15 cd15 ct15 | 16 => PySem.W.fnOf "mixed" "mixed" (defArgs s_mixed) (defBody s_mixed) (defScope s_mixed) .none kV16 dc16 pm16 an16 cd16 ct16 | 17 => PySem.W.fnOf "floors_of" "floors_of" (defArgs s_floors_of) (defBody s_floors_of) (defScope s_floors_of) .none kV17 dc17 pm17 an17 cd17 ct17 | 18 => PySem.W.fnOf "lesser" "lesser" (defArgs s_lesser) (defBody s_lesser) (defScope s_lesser) .none kV18 dc18 pm18 an18 cd18 ct18 | 19 => PySem.W.fnOf "need_window" "need_window" (defArgs s_need_window) (defBody s_need_window) (defScope s_need_window) .none kV19 dc19 pm19 an19 cd19 ct19 | 20 => PySem.W.fnOf "__init__" "Tally.__init__" (defArgs s_Tally_init) (defBody s_Tally_init) (defScope s_Tally_init) .none kV20 dc20 pm20 an20 cd20 ct20 | 21 => PySem.W.fnOf "__init__" "Asks.__init__" (defArgs s_Asks_init) (defBody s_Asks_init) (defScope s_Asks_init) .none kV21 dc21 pm21 an21 cd21 ct21 | 22 => PySem.W.fnOf "__init__" "Board.__init__" (defArgs s_Board_init) (defBody s_Board_init) (defScope s_Board_init) .none kV22 dc22 pm22 an22 (.ref cc22) ct22 | 23 => PySem.W.fnOf "lines" "Board.lines" (defArgs s_Board_lines) (defBody s_Board_lines) (defScope s_Board_lines) .none kV23 dc23 pm23 an23 cd23 ct23 | 24 => PySem.W.fnOf "asks_of" "asks_of" (defArgs s_asks_of) (defBody s_asks_of) (defScope s_asks_of) .none kV24 dc24 pm24 an24 cd24 ct24 | 25 => PySem.W.fnOf "is_change" "is_change" (defArgs s_is_change) (defBody s_is_change) (defScope s_is_change) .none kV25 dc25 pm25 an25 cd25 ct25 | 26 => PySem.W.fnOf "is_changes" "is_changes" (defArgs s_is_changes) (defBody s_is_changes) (defScope s_is_changes) .none kV26 dc26 pm26 an26 cd26 ct26 | 27 => PySem.W.fnOf "need_changes" "need_changes" (defArgs s_need_changes) (defBody s_need_changes) (defScope s_need_changes) .none kV27 dc27 pm27 an27 cd27 ct27 | 28 => PySem.W.fnOf "old_of" "old_of" (defArgs s_old_of) (defBody s_old_of) (defScope s_old_of) .none kV28 dc28 pm28 an28 cd28 ct28 | 29 => PySem.W.fnOf "new_of" "new_of" (defArgs s_new_of) (defBody s_new_of) (defScope s_new_of) .none kV29 dc29 pm29 an29 cd29 ct29 | 30 => PySem.W.fnOf "old_row" "old_row" (defArgs s_old_row) (defBody s_old_row) (defScope s_old_row) .none kV30 dc30 pm30 an30 cd30 ct30 | 31 => PySem.W.fnOf "new_row" "new_row" (defArgs s_new_row) (defBody s_new_row) (defScope s_new_row) .none kV31 dc31 pm31 an31 cd31 ct31 | 32 => PySem.W.fnOf "come_to" "come_to" (defArgs s_come_to) (defBody s_come_to) (defScope s_come_to) .none kV32 dc32 pm32 an32 cd32 ct32 | 33 => PySem.W.fnOf "paid" "paid" (defArgs s_paid) (defBody s_paid) (defScope s_paid) .none kV33 dc33 pm33 an33 cd33 ct33 | 34 => PySem.W.fnOf "done" "done" (defArgs s_done) (defBody s_done) (defScope s_done) .none kV34 dc34 pm34 an34 cd34 ct34 | 35 => PySem.W.fnOf "back" "back" (defArgs s_back) (defBody s_back) (defScope s_back) .none kV35 dc35 pm35 an35 cd35 ct35 | 36 => PySem.W.fnOf "after" "after" (defArgs s_after) (defBody s_after) (defScope s_after) .none kV36 dc36 pm36 an36 cd36 ct36 | 37 => PySem.W.fnOf "lengths" "lengths" (defArgs s_lengths) (defBody s_lengths) (defScope s_lengths) .none kV37 dc37 pm37 an37 cd37 ct37 | 38 => PySem.W.fnOf "longest" "longest" (defArgs s_longest) (defBody s_longest) (defScope s_longest) .none kV38 dc38 pm38 an38 cd38 ct38 | 39 => PySem.W.fnOf "is_pair" "is_pair" (defArgs s_is_pair) (defBody s_is_pair) (defScope s_is_pair) .none kV39 dc39 pm39 an39 cd39 ct39 | 40 => PySem.W.fnOf "pairs_of" "pairs_of" (defArgs s_pairs_of) (defBody s_pairs_of) (defScope s_pairs_of) .none kV40 dc40 pm40 an40 cd40 ct40 | 41 => PySem.W.fnOf "is_heap" "is_heap" (defArgs s_is_heap) (defBody s_is_heap) (defScope s_is_heap) .none kV41 dc41 pm41 an41 cd41 ct41 | 42 => PySem.W.fnOf "are_heaps" "are_heaps" (defArgs s_are_heaps) (defBody s_are_heaps) (defScope s_are_heaps) .none kV42 dc42 pm42 an42 cd42 ct42 | 43 => PySem.W.fnOf "need_plains" "need_plains" (defArgs s_need_plains) (defBody s_need_plains) (defScope s_need_plains) .none kV43 dc43 pm43 an43 cd43 ct43 | 44 => PySem.W.fnOf "cost" "cost" (defArgs s_cost) (defBody s_cost) (defScope s_cost) .none kV44 dc44 pm44 an44 cd44 ct44 | 45 => PySem.W.fnOf "cost_table" "cost_table" (defArgs s_cost_table) (defBody s_cost_table) (defScope s_cost_table) .none kV45 dc45 pm45 an45 cd45 ct45 | 46 => PySem.W.fnOf "changes_of" "changes_of" (defArgs s_changes_of) (defBody s_changes_of) (defScope s_changes_of) .none kV46 dc46 pm46 an46 cd46 ct46 | 47 => PySem.W.fnOf "shows_cost" "shows_cost" (defArgs s_shows_cost) (defBody s_shows_cost) (defScope s_shows_cost) .none kV47 dc47 pm47 an47 cd47 ct47 | 48 => PySem.W.fnOf "_law_cell_at" "_law_cell_at" (defArgs s__law_cell_at) (defBody s__law_cell_at) (defScope s__law_cell_at) .none kV48 dc48 pm48 an48 cd48 ct48 | 49 => PySem.W.fnOf "_law_great" "_law_great" (defArgs s__law_great) (defBody s__law_great) (defScope s__law_great) .none kV49 dc49 pm49 an49 cd49 ct49 | 50 => PySem.W.fnOf "_law_letter" "_law_letter" (defArgs s__law_letter) (defBody s__law_letter) (defScope s__law_letter) .none kV50 dc50 pm50 an50 cd50 ct50 | 51 => PySem.W.fnOf "_law_row" "_law_row" (defArgs s__law_row) (defBody s__law_row) (defScope s__law_row) .none kV51 dc51 pm51 an51 cd51 ct51 | 52 => PySem.W.fnOf "_law_list" "_law_list" (defArgs s__law_list) (defBody s__law_list) (defScope s__law_list) .none kV52 dc52 pm52 an52 cd52 ct52 | 53 => PySem.W.fnOf "_law_new" "_law_new" (defArgs s__law_new) (defBody s__law_new) (defScope s__law_new) .none kV53 dc53 pm53 an53 cd53 ct53 | 54 => PySem.W.fnOf "_law_old" "_law_old" (defArgs s__law_old) (defBody s__law_old) (defScope s__law_old) .none kV54 dc54 pm54 an54 cd54 ct54 | 55 => PySem.W.fnOf "_law_pays" "_law_pays" (defArgs s__law_pays) (defBody s__law_pays) (defScope s__law_pays) .none kV55 dc55 pm55 an55 cd55 ct55 | 56 => PySem.W.fnOf "_law_parted" "_law_parted" (defArgs s__law_parted) (defBody s__law_parted) (defScope s__law_parted) .none kV56 dc56 pm56 an56 cd56 ct56 | 57 => PySem.W.fnOf "_law_heaps" "_law_heaps" (defArgs s__law_heaps) (defBody s__law_heaps) (defScope s__law_heaps) .none kV57 dc57 pm57 an57 cd57 ct57 | 58 => PySem.W.fnOf "_law_part_one" "_law_part_one" (defArgs s__law_part_one) (defBody s__law_part_one) (defScope s__law_part_one) .none kV58 dc58 pm58 an58 cd58 ct58 | 59 => PySem.W.fnOf "_law_leads" "_law_leads" (defArgs s__law_leads) (defBody s__law_leads) (defScope s__law_leads) .none kV59 dc59 pm59 an59 cd59 ct59 | 60 => PySem.W.fnOf "_law_shown" "_law_shown" (defArgs s__law_shown) (defBody s__law_shown) (defScope s__law_shown) .none kV60 dc60 pm60 an60 cd60 ct60 | 61 => PySem.W.fnOf "_law_both_ways" "_law_both_ways" (defArgs s__law_both_ways) (defBody s__law_both_ways) (defScope s__law_both_ways) .none kV61 dc61 pm61 an61 cd61 ct61 | 62 => PySem.W.fnOf "gains" "Asks.gains" (defArgs s_Asks_gains) (defBody s_Asks_gains) (defScope s_Asks_gains) .none kV62 dc62 pm62 an62 cd62 ct62 | 63 => PySem.W.fnOf "from_on" "Tally.from_on" (defArgs s_Tally_from_on) (defBody s_Tally_from_on) (defScope s_Tally_from_on) .none kV63 dc63 pm63 an63 cd63 ct63 | 64 => PySem.W.fnOf "below" "Tally.below" (defArgs s_Tally_below) (defBody s_Tally_below) (defScope s_Tally_below) .none kV64 dc64 pm64 an64 cd64 ct64 | 65 => PySem.W.fnOf "window" "Asks.window" (defArgs s_Asks_window) (defBody s_Asks_window) (defScope s_Asks_window) .none kV65 dc65 pm65 an65 cd65 ct65 | 66 => PySem.W.fnOf "stretch" "Asks.stretch" (defArgs s_Asks_stretch) (defBody s_Asks_stretch) (defScope s_Asks_stretch) .none kV66 dc66 pm66 an66 cd66 ct66 | 67 => PySem.W.fnOf "table" "Asks.table" (defArgs s_Asks_table) (defBody s_Asks_table) (defScope s_Asks_table) .none kV67 dc67 pm67 an67 cd67 ct67 | 68 => PySem.W.fnOf "__init__" "Costs.__init__" (defArgs s_Costs_init) (defBody s_Costs_init) (defScope s_Costs_init) .none kV68 dc68 pm68 an68 cd68 ct68 | 69 => PySem.W.fnOf "of" "Costs.of" (defArgs s_Costs_of) (defBody s_Costs_of) (defScope s_Costs_of) .none kV69 dc69 pm69 an69 cd69 ct69 | 70 => PySem.W.fnOf "law" "law" (defArgs s_law) (defBody s_law) (defScope s_law) .none kV70 dc70 pm70 an70 cd70 ct70 | _ => PySem.W.fnOf "is_whole" "is_whole" (defArgs s_is_whole) (defBody s_is_whole) (defScope s_is_whole) .none kV0 dc0 pm0 an0 cd0 ct0) (fun i => match i with | 0 => t_0 | 1 => t_1 | 2 => t_2 | 3 => t_3 | 4 => t_4 | _ => t_0) base (fun i => match i with | 0 => (cc22, PT22) | _ => (cc22, PT22)) w := {
    d_is_whole := df_mk X G a0 l0 c0 k0 (fun _ _ _ _ _ _ us hl => match us, hl with | [_], _ => rfl)
    d_is_within := df_mk X G a1 l1 c1 k1 (fun _ _ _ _ _ _ us hl => match us, hl with | [_, _, _], _ => rfl)
    d_is_letter := df_mk X G a2 l2 c2 k2 (fun _ _ _ _ _ _ us hl => match us, hl with | [_], _ => rfl)
    d_is_row := df_mk X G a3 l3 c3 k3 (fun _ _ _ _ _ _ us hl => match us, hl with | [_], _ => rfl)
    d_is_plain := df_mk X G a4 l4 c4 k4 (fun _ _ _ _ _ _ us hl => match us, hl with | [_], _ => rfl)
    d_need_row := df_mk X G a5 l5 c5 k5 (fun _ _ _ _ _ _ us hl => match us, hl with | [_], _ => rfl)
    d_need_rows := df_mk X G a6 l6 c6 k6 (fun _ _ _ _ _ _ us hl => match us, hl with | [_, _], _ => rfl)
    d_need_plain := df_mk X G a7 l7 c7 k7 (fun _ _ _ _ _ _ us hl => match us, hl with | [_], _ => rfl)
    d_need_span := df_mk X G a8 l8 c8 k8 (fun _ _ _ _ _ _ us hl => match us, hl with | [_, _, _], _ => rfl)
    d_parted := df_mk X G a9 l9 c9 k9 (fun _ _ _ _ _ _ us hl => match us, hl with | [_], _ => rfl)
    d_places_of := df_mk X G a10 l10 c10 k10 (fun _ _ _ _ _ _ us hl => match us, hl with | [_], _ => rfl)
    d_led := df_mk X G a11 l11 c11 k11 (fun _ _ _ _ _ _ us hl => match us, hl with | [_, _, _], _ => rfl)
    d_is_turning := df_mk X G a12 l12 c12 k12 (fun _ _ _ _ _ _ us hl => match us, hl with | [_], _ => rfl)
    d_need_turning := df_mk X G a13 l13 c13 k13 (fun _ _ _ _ _ _ us hl => match us, hl with | [_], _ => rfl)
    d_need_place := df_mk X G a14 l14 c14 k14 (fun _ _ _ _ _ _ us hl => match us, hl with | [_, _], _ => rfl)
    d_opposite := df_mk X G a15 l15 c15 k15 (fun _ _ _ _ _ _ us hl => match us, hl with | [_], _ => rfl)
    d_mixed := df_mk X G a16 l16 c16 k16 (fun _ _ _ _ _ _ us hl => match us, hl with | [_, _], _ => rfl)
    d_floors_of := df_mk X G a17 l17 c17 k17 (fun _ _ _ _ _ _ us hl => match us, hl with | [_], _ => rfl)
    d_lesser := df_mk X G a18 l18 c18 k18 (fun _ _ _ _ _ _ us hl => match us, hl with | [_, _], _ => rfl)
    d_need_window := df_mk X G a19 l19 c19 k19 (fun _ _ _ _ _ _ us hl => match us, hl with | [_, _, _], _ => rfl)
    d_Tally_init := dm_mk a20 i20 l20 c20 k20 (fun _ _ _ _ _ _ us hl => match us, hl with | [_, _], _ => rfl)
    d_Asks_init := dm_mk a21 i21 l21 c21 k21 (fun _ _ _ _ _ _ us hl => match us, hl with | [_, _, _], _ => rfl)
    d_Board_init := dm_mk a22 i22 l22 c22 k22 (fun _ _ _ _ _ _ us hl => match us, hl with | [_, _, _], _ => rfl)
    fc_Board_init := ⟨⟨_, _, _, _, _, _, _, _, rfl, l22, c22⟩⟩
    tb_Board_init := hTB (cc22, PT22) (by simp)
    d_Board_lines := dm_mk a23 i23 l23 c23 k23 (fun _ _ _ _ _ _ us hl => match us, hl with | [_], _ => rfl)
    d_asks_of := df_mk X G a24 l24 c24 k24 (fun _ _ _ _ _ _ us hl => match us, hl with | [_, _], _ => rfl)
    d_is_change := df_mk X G a25 l25 c25 k25 (fun _ _ _ _ _ _ us hl => match us, hl with | [_], _ => rfl)
    d_is_changes := df_mk X G a26 l26 c26 k26 (fun _ _ _ _ _ _ us hl => match us, hl with | [_], _ => rfl)
    d_need_changes := df_mk X G a27 l27 c27 k27 (fun _ _ _ _ _ _ us hl => match us, hl with | [_], _ => rfl)
    d_old_of := df_mk X G a28 l28 c28 k28 (fun _ _ _ _ _ _ us hl => match us, hl with | [_], _ => rfl)
    d_new_of := df_mk X G a29 l29 c29 k29 (fun _ _ _ _ _ _ us hl => match us, hl with | [_], _ => rfl)
    d_old_row := df_mk X G a30 l30 c30 k30 (fun _ _ _ _ _ _ us hl => match us, hl with | [_], _ => rfl)
    d_new_row := df_mk X G a31 l31 c31 k31 (fun _ _ _ _ _ _ us hl => match us, hl with | [_], _ => rfl)
    d_come_to := df_mk X G a32 l32 c32 k32 (fun _ _ _ _ _ _ us hl => match us, hl with | [_, _], _ => rfl)
    d_paid := df_mk X G a33 l33 c33 k33 (fun _ _ _ _ _ _ us hl => match us, hl with | [_], _ => rfl)
    d_done := df_mk X G a34 l34 c34 k34 (fun _ _ _ _ _ _ us hl => match us, hl with | [_, _], _ => rfl)
    d_back := df_mk X G a35 l35 c35 k35 (fun _ _ _ _ _ _ us hl => match us, hl with | [_], _ => rfl)
    d_after := df_mk X G a36 l36 c36 k36 (fun _ _ _ _ _ _ us hl => match us, hl with | [_, _], _ => rfl)
    d_lengths := df_mk X G a37 l37 c37 k37 (fun _ _ _ _ _ _ us hl => match us, hl with | [_, _], _ => rfl)
    d_longest := df_mk X G a38 l38 c38 k38 (fun _ _ _ _ _ _ us hl => match us, hl with | [_, _], _ => rfl)
    d_is_pair := df_mk X G a39 l39 c39 k39 (fun _ _ _ _ _ _ us hl => match us, hl with | [_, _, _], _ => rfl)
    d_pairs_of := df_mk X G a40 l40 c40 k40 (fun _ _ _ _ _ _ us hl => match us, hl with | [_, _], _ => rfl)
    d_is_heap := df_mk X G a41 l41 c41 k41 (fun _ _ _ _ _ _ us hl => match us, hl with | [_, _, _], _ => rfl)
    d_are_heaps := df_mk X G a42 l42 c42 k42 (fun _ _ _ _ _ _ us hl => match us, hl with | [_, _, _], _ => rfl)
    d_need_plains := df_mk X G a43 l43 c43 k43 (fun _ _ _ _ _ _ us hl => match us, hl with | [_, _], _ => rfl)
    d_cost := df_mk X G a44 l44 c44 k44 (fun _ _ _ _ _ _ us hl => match us, hl with | [_, _], _ => rfl)
    d_cost_table := df_mk X G a45 l45 c45 k45 (fun _ _ _ _ _ _ us hl => match us, hl with | [_, _], _ => rfl)
    d_changes_of := df_mk X G a46 l46 c46 k46 (fun _ _ _ _ _ _ us hl => match us, hl with | [_, _], _ => rfl)
    d_shows_cost := df_mk X G a47 l47 c47 k47 (fun _ _ _ _ _ _ us hl => match us, hl with | [_, _, _], _ => rfl)
    d__law_cell_at := df_mk X G a48 l48 c48 k48 (fun _ _ _ _ _ _ us hl => match us, hl with | [_, _], _ => rfl)
    d__law_great := df_mk X G a49 l49 c49 k49 (fun _ _ _ _ _ _ us hl => match us, hl with | [_], _ => rfl)
    d__law_letter := df_mk X G a50 l50 c50 k50 (fun _ _ _ _ _ _ us hl => match us, hl with | [_], _ => rfl)
    d__law_row := df_mk X G a51 l51 c51 k51 (fun _ _ _ _ _ _ us hl => match us, hl with | [_, _], _ => rfl)
    d__law_list := df_mk X G a52 l52 c52 k52 (fun _ _ _ _ _ _ us hl => match us, hl with | [_, _, _], _ => rfl)
    d__law_new := df_mk X G a53 l53 c53 k53 (fun _ _ _ _ _ _ us hl => match us, hl with | [_], _ => rfl)
    d__law_old := df_mk X G a54 l54 c54 k54 (fun _ _ _ _ _ _ us hl => match us, hl with | [_], _ => rfl)
    d__law_pays := df_mk X G a55 l55 c55 k55 (fun _ _ _ _ _ _ us hl => match us, hl with | [_], _ => rfl)
    d__law_parted := df_mk X G a56 l56 c56 k56 (fun _ _ _ _ _ _ us hl => match us, hl with | [_], _ => rfl)
    d__law_heaps := df_mk X G a57 l57 c57 k57 (fun _ _ _ _ _ _ us hl => match us, hl with | [_, _], _ => rfl)
    d__law_part_one := df_mk X G a58 l58 c58 k58 (fun _ _ _ _ _ _ us hl => match us, hl with | [_, _], _ => rfl)
    d__law_leads := df_mk X G a59 l59 c59 k59 (fun _ _ _ _ _ _ us hl => match us, hl with | [_, _, _], _ => rfl)
    d__law_shown := df_mk X G a60 l60 c60 k60 (fun _ _ _ _ _ _ us hl => match us, hl with | [_, _, _, _], _ => rfl)
    d__law_both_ways := df_mk X G a61 l61 c61 k61 (fun _ _ _ _ _ _ us hl => match us, hl with | [_, _, _, _], _ => rfl)
    d_Asks_gains := dm_mk a62 i62 l62 c62 k62 (fun _ _ _ _ _ _ us hl => match us, hl with | [_, _], _ => rfl)
    d_Tally_from_on := dm_mk a63 i63 l63 c63 k63 (fun _ _ _ _ _ _ us hl => match us, hl with | [_, _, _], _ => rfl)
    d_Tally_below := dm_mk a64 i64 l64 c64 k64 (fun _ _ _ _ _ _ us hl => match us, hl with | [_, _, _], _ => rfl)
    d_Asks_window := dm_mk a65 i65 l65 c65 k65 (fun _ _ _ _ _ _ us hl => match us, hl with | [_, _, _, _, _], _ => rfl)
    d_Asks_stretch := dm_mk a66 i66 l66 c66 k66 (fun _ _ _ _ _ _ us hl => match us, hl with | [_, _, _], _ => rfl)
    d_Asks_table := dm_mk a67 i67 l67 c67 k67 (fun _ _ _ _ _ _ us hl => match us, hl with | [_], _ => rfl)
    d_Costs_init := dm_mk a68 i68 l68 c68 k68 (fun _ _ _ _ _ _ us hl => match us, hl with | [_, _, _], _ => rfl)
    d_Costs_of := dm_mk a69 i69 l69 c69 k69 (fun _ _ _ _ _ _ us hl => match us, hl with | [_, _, _], _ => rfl)
    d_law := df_mk X G a70 l70 c70 k70 (fun _ _ _ _ _ _ us hl => match us, hl with | [_], _ => rfl)
    c_LETTERS := PySem.W.mg_of X G cn0
    c_MOST_SIGNS := PySem.W.mg_of X G cn1
    c_MOST_LETTERS := PySem.W.mg_of X G cn2
    c_MOST_LINES := PySem.W.mg_of X G cn3
    c_MOST_CHANGES := PySem.W.mg_of X G cn4
    b_isinstance := PySem.W.mg_none_of X G z0
    b_int := PySem.W.mg_none_of X G z1
    b_bool := PySem.W.mg_none_of X G z2
    b_str := PySem.W.mg_none_of X G z3
    b_len := PySem.W.mg_none_of X G z4
    b_all := PySem.W.mg_none_of X G z5
    b_enumerate := PySem.W.mg_none_of X G z6
    b_list := PySem.W.mg_none_of X G z7
    b_range := PySem.W.mg_none_of X G z8
    b_tuple := PySem.W.mg_none_of X G z9
    b_zip := PySem.W.mg_none_of X G z10
    b_max := PySem.W.mg_none_of X G z11
    b_sorted := PySem.W.mg_none_of X G z12
    b_min := PySem.W.mg_none_of X G z13
    b_ord := PySem.W.mg_none_of X G z14
    b_abs := PySem.W.mg_none_of X G z15
    g_NoRow := PySem.W.mg_of X G g_NoRow
    o_NoRow := ⟨⟨_, _, _, _, _, _, _, _, _, _, _, _, _, _, _, lk_NoRow, rfl⟩, f_setattr_NoRow, sb_NoRow, ty_NoRow, k_NoRow⟩
    n_NoRow_found := f_found_NoRow
    i_NoRow := ini_mk ini_NoRow int_NoRow il_NoRow ic_NoRow ik_NoRow (fun _ _ _ _ _ _ us hl => match us, hl with | [_, _], _ => rfl)
    g_NoPlain := PySem.W.mg_of X G g_NoPlain
    o_NoPlain := ⟨⟨_, _, _, _, _, _, _, _, _, _, _, _, _, _, _, lk_NoPlain, rfl⟩, f_setattr_NoPlain, sb_NoPlain, ty_NoPlain, k_NoPlain⟩
    n_NoPlain_found := f_found_NoPlain
    i_NoPlain := ini_mk ini_NoPlain int_NoPlain il_NoPlain ic_NoPlain ik_NoPlain (fun _ _ _ _ _ _ us hl => match us, hl with | [_, _], _ => rfl)
    g_NoSpan := PySem.W.mg_of X G g_NoSpan
    o_NoSpan := ⟨⟨_, _, _, _, _, _, _, _, _, _, _, _, _, _, _, lk_NoSpan, rfl⟩, f_setattr_NoSpan, sb_NoSpan, ty_NoSpan, k_NoSpan⟩
    n_NoSpan_begin := f_begin_NoSpan
    n_NoSpan_end := f_end_NoSpan
    i_NoSpan := ini_mk ini_NoSpan int_NoSpan il_NoSpan ic_NoSpan ik_NoSpan (fun _ _ _ _ _ _ us hl => match us, hl with | [_, _, _], _ => rfl)
    g_NoTurning := PySem.W.mg_of X G g_NoTurning
    o_NoTurning := ⟨⟨_, _, _, _, _, _, _, _, _, _, _, _, _, _, _, lk_NoTurning, rfl⟩, f_setattr_NoTurning, sb_NoTurning, ty_NoTurning, k_NoTurning⟩
    n_NoTurning_found := f_found_NoTurning
    i_NoTurning := ini_mk ini_NoTurning int_NoTurning il_NoTurning ic_NoTurning ik_NoTurning (fun _ _ _ _ _ _ us hl => match us, hl with | [_, _], _ => rfl)
    g_NoPlace := PySem.W.mg_of X G g_NoPlace
    o_NoPlace := ⟨⟨_, _, _, _, _, _, _, _, _, _, _, _, _, _, _, lk_NoPlace, rfl⟩, f_setattr_NoPlace, sb_NoPlace, ty_NoPlace, k_NoPlace⟩
    n_NoPlace_found := f_found_NoPlace
    i_NoPlace := ini_mk ini_NoPlace int_NoPlace il_NoPlace ic_NoPlace ik_NoPlace (fun _ _ _ _ _ _ us hl => match us, hl with | [_, _], _ => rfl)
    g_NoChanges := PySem.W.mg_of X G g_NoChanges
    o_NoChanges := ⟨⟨_, _, _, _, _, _, _, _, _, _, _, _, _, _, _, lk_NoChanges, rfl⟩, f_setattr_NoChanges, sb_NoChanges, ty_NoChanges, k_NoChanges⟩
    n_NoChanges_found := f_found_NoChanges
    i_NoChanges := ini_mk ini_NoChanges int_NoChanges il_NoChanges ic_NoChanges ik_NoChanges (fun _ _ _ _ _ _ us hl => match us, hl with | [_, _], _ => rfl)
    g_Unlike := PySem.W.mg_of X G g_Unlike
    o_Unlike := ⟨⟨_, _, _, _, _, _, _, _, _, _, _, _, _, _, _, lk_Unlike, rfl⟩, f_setattr_Unlike, sb_Unlike, ty_Unlike, k_Unlike⟩
    n_Unlike_one := f_one_Unlike
    n_Unlike_other := f_other_Unlike
    i_Unlike := ini_mk ini_Unlike int_Unlike il_Unlike ic_Unlike ik_Unlike (fun _ _ _ _ _ _ us hl => match us, hl with | [_, _, _], _ => rfl)
    g_TooLong := PySem.W.mg_of X G g_TooLong
    o_TooLong := ⟨⟨_, _, _, _, _, _, _, _, _, _, _, _, _, _, _, lk_TooLong, rfl⟩, f_setattr_TooLong, sb_TooLong, ty_TooLong, k_TooLong⟩
    n_TooLong_found := f_found_TooLong
    i_TooLong := ini_mk ini_TooLong int_TooLong il_TooLong ic_TooLong ik_TooLong (fun _ _ _ _ _ _ us hl => match us, hl with | [_, _], _ => rfl)
    bi_PaneError := ⟨PySem.W.mg_of X G g_PaneError, ba_PaneError, br_PaneError, bf_PaneError⟩
    mg_Tally := PySem.W.mg_of X G g_Tally
    cl_Tally := ⟨pg_Tally, hd_Tally, po_Tally, sa_Tally⟩
    na_Tally_many := na_Tally_many
    na_Tally_floors := na_Tally_floors
    m_Tally := ⟨mk_Tally, a20, i20, kc_Tally⟩
    mg_Asks := PySem.W.mg_of X G g_Asks
    cl_Asks := ⟨pg_Asks, hd_Asks, po_Asks, sa_Asks⟩
    na_Asks_tall := na_Asks_tall
    na_Asks_wide := na_Asks_wide
    na_Asks_tally := na_Asks_tally
    na_Asks_goals := na_Asks_goals
    na_Asks_starts := na_Asks_starts
    m_Asks := ⟨mk_Asks, a21, i21, kc_Asks⟩
    mg_Board := PySem.W.mg_of X G g_Board
    cl_Board := ⟨pg_Board, hd_Board, po_Board, sa_Board⟩
    na_Board_left_row := na_Board_left_row
    na_Board_upper_row := na_Board_upper_row
    na_Board_meetings := na_Board_meetings
    na_Board_signs := na_Board_signs
    na_Board_goals := na_Board_goals
    m_Board := ⟨mk_Board, a22, i22, kc_Board⟩
    mg_Costs := PySem.W.mg_of X G g_Costs
    cl_Costs := ⟨pg_Costs, hd_Costs, po_Costs, sa_Costs⟩
    na_Costs_turned_row := na_Costs_turned_row
    na_Costs_goal_row := na_Costs_goal_row
    na_Costs_wide := na_Costs_wide
    na_Costs_costs := na_Costs_costs
    m_Costs := ⟨mk_Costs, a68, i68, kc_Costs⟩
    c_SIZES := PySem.W.mg_of X G g_SIZES
    gd_SIZES := ⟨gs_SIZES, _, _, gl_SIZES, gk_SIZES, gv_SIZES⟩
  }
  exact ok_law T
end My
open PySem PySem.W PyProof.Rows in
set_option maxRecDepth 100000 in
set_option maxHeartbeats 0 in
theorem PySem.Challenge.cw_panethread_k66_whole_no_changes_pay_less_holds : PySem.Challenge.rw_panethread_k66_whole_no_changes_pay_less.Holds := by
  refine hdK ?_
  refine HdQ.head_km (q := HdR.q9) (loose := HdR.l9) (M := 40000) (d := HandSHeadRun.topDef HdR.R9.prog 90) (kwd := []) (by kernel_rfl) (fun s => by kernel_rfl) HdR.run9 (by kernel_rfl) (by kernel_rfl) (by kernel_rfl) (by rfl) (by first | assumption | decide +kernel) (by decide +kernel) ⟨rfl, rfl, rfl, rfl, rfl, by decide +kernel⟩ ?hw ?hc
  (case hw => w_witness2)
  k_fill
  refine LamX.walk_ofTs (l := PySem.Challenge.rw_panethread_k66_whole_no_changes_pay_less) (n := 63) (k := 12) (x := "_law_script") (CX := fun _ => L2.CX0) rfl (by decide) (by kernel_rfl) ⟨rfl, by decide, by decide⟩ (fun w h Y => PySem.W.km_in_of Y) ?F (fun _ _ _ _ _ z => z)
  case F =>
    intro w mg fa h Y KX G hmg0
    have hmg : mg ("law" : PySem.Str) = some (.ref fa) := by
      rw [← HdR.n9]
      exact hmg0
    refine' My.all_mk KX G hmg ?a0 ?l0 ?c0 ?k0 ?a1 ?l1 ?c1 ?k1 ?a2 ?l2 ?c2 ?k2 ?a3 ?l3 ?c3 ?k3 ?a4 ?l4 ?c4 ?k4 ?a5 ?l5 ?c5 ?k5 ?a6 ?l6 ?c6 ?k6 ?a7 ?l7 ?c7 ?k7 ?a8 ?l8 ?c8 ?k8 ?a9 ?l9 ?c9 ?k9 ?a10 ?l10 ?c10 ?k10 ?a11 ?l11 ?c11 ?k11 ?a12 ?l12 ?c12 ?k12 ?a13 ?l13 ?c13 ?k13 ?a14 ?l14 ?c14 ?k14 ?a15 ?l15 ?c15 ?k15 ?a16 ?l16 ?c16 ?k16 ?a17 ?l17 ?c17 ?k17 ?a18 ?l18 ?c18 ?k18 ?a19 ?l19 ?c19 ?k19 ?a20 ?i20 ?l20 ?c20 ?k20 ?a21 ?i21 ?l21 ?c21 ?k21 ?a22 ?i22 ?l22 ?c22 ?k22 ?h22 ?p22 ?g22 ?n22 ?t22 ?a23 ?i23 ?l23 ?c23 ?k23 ?a24 ?l24 ?c24 ?k24 ?a25 ?l25 ?c25 ?k25 ?a26 ?l26 ?c26 ?k26 ?a27 ?l27 ?c27 ?k27 ?a28 ?l28 ?c28 ?k28 ?a29 ?l29 ?c29 ?k29 ?a30 ?l30 ?c30 ?k30 ?a31 ?l31 ?c31 ?k31 ?a32 ?l32 ?c32 ?k32 ?a33 ?l33 ?c33 ?k33 ?a34 ?l34 ?c34 ?k34 ?a35 ?l35 ?c35 ?k35 ?a36 ?l36 ?c36 ?k36 ?a37 ?l37 ?c37 ?k37 ?a38 ?l38 ?c38 ?k38 ?a39 ?l39 ?c39 ?k39 ?a40 ?l40 ?c40 ?k40 ?a41 ?l41 ?c41 ?k41 ?a42 ?l42 ?c42 ?k42 ?a43 ?l43 ?c43 ?k43 ?a44 ?l44 ?c44 ?k44 ?a45 ?l45 ?c45 ?k45 ?a46 ?l46 ?c46 ?k46 ?a47 ?l47 ?c47 ?k47 ?a48 ?l48 ?c48 ?k48 ?a49 ?l49 ?c49 ?k49 ?a50 ?l50 ?c50 ?k50 ?a51 ?l51 ?c51 ?k51 ?a52 ?l52 ?c52 ?k52 ?a53 ?l53 ?c53 ?k53 ?a54 ?l54 ?c54 ?k54 ?a55 ?l55 ?c55 ?k55 ?a56 ?l56 ?c56 ?k56 ?a57 ?l57 ?c57 ?k57 ?a58 ?l58 ?c58 ?k58 ?a59 ?l59 ?c59 ?k59 ?a60 ?l60 ?c60 ?k60 ?a61 ?l61 ?c61 ?k61 ?a62 ?i62 ?l62 ?c62 ?k62 ?a63 ?i63 ?l63 ?c63 ?k63 ?a64 ?i64 ?l64 ?c64 ?k64 ?a65 ?i65 ?l65 ?c65 ?k65 ?a66 ?i66 ?l66 ?c66 ?k66 ?a67 ?i67 ?l67 ?c67 ?k67 ?a68 ?i68 ?l68 ?c68 ?k68 ?a69 ?i69 ?l69 ?c69 ?k69 ?a70 ?l70 ?c70 ?k70 ?cn0 ?cn1 ?cn2 ?cn3 ?cn4 ?z0 ?z1 ?z2 ?z3 ?z4 ?z5 ?z6 ?z7 ?z8 ?z9 ?z10 ?z11 ?z12 ?z13 ?z14 ?z15 ?g_NoRow ?g_NoPlain ?g_NoSpan ?g_NoTurning ?g_NoPlace ?g_NoChanges ?g_Unlike ?g_TooLong ?g_PaneError ?lk_NoRow ?f_setattr_NoRow ?sb_NoRow ?ty_NoRow ?k_NoRow ?f_found_NoRow ?ini_NoRow ?int_NoRow ?il_NoRow ?ic_NoRow ?ik_NoRow ?lk_NoPlain ?f_setattr_NoPlain ?sb_NoPlain ?ty_NoPlain ?k_NoPlain ?f_found_NoPlain ?ini_NoPlain ?int_NoPlain ?il_NoPlain ?ic_NoPlain ?ik_NoPlain ?lk_NoSpan ?f_setattr_NoSpan ?sb_NoSpan ?ty_NoSpan ?k_NoSpan ?f_begin_NoSpan ?f_end_NoSpan ?ini_NoSpan ?int_NoSpan ?il_NoSpan ?ic_NoSpan ?ik_NoSpan ?lk_NoTurning ?f_setattr_NoTurning ?sb_NoTurning ?ty_NoTurning ?k_NoTurning ?f_found_NoTurning ?ini_NoTurning ?int_NoTurning ?il_NoTurning ?ic_NoTurning ?ik_NoTurning ?lk_NoPlace ?f_setattr_NoPlace ?sb_NoPlace ?ty_NoPlace ?k_NoPlace ?f_found_NoPlace ?ini_NoPlace ?int_NoPlace ?il_NoPlace ?ic_NoPlace ?ik_NoPlace ?lk_NoChanges ?f_setattr_NoChanges ?sb_NoChanges ?ty_NoChanges ?k_NoChanges ?f_found_NoChanges ?ini_NoChanges ?int_NoChanges ?il_NoChanges ?ic_NoChanges ?ik_NoChanges ?lk_Unlike ?f_setattr_Unlike ?sb_Unlike ?ty_Unlike ?k_Unlike ?f_one_Unlike ?f_other_Unlike ?ini_Unlike ?int_Unlike ?il_Unlike ?ic_Unlike ?ik_Unlike ?lk_TooLong ?f_setattr_TooLong ?sb_TooLong ?ty_TooLong ?k_TooLong ?f_found_TooLong ?ini_TooLong ?int_TooLong ?il_TooLong ?ic_TooLong ?ik_TooLong ?ba_PaneError ?br_PaneError ?bf_PaneError ?g_Tally ?pg_Tally ?hd_Tally ?po_Tally ?sa_Tally ?na_Tally_many ?na_Tally_floors ?mk_Tally ?kc_Tally ?g_Asks ?pg_Asks ?hd_Asks ?po_Asks ?sa_Asks ?na_Asks_tall ?na_Asks_wide ?na_Asks_tally ?na_Asks_goals ?na_Asks_starts ?mk_Asks ?kc_Asks ?g_Board ?pg_Board ?hd_Board ?po_Board ?sa_Board ?na_Board_left_row ?na_Board_upper_row ?na_Board_meetings ?na_Board_signs ?na_Board_goals ?mk_Board ?kc_Board ?g_Costs ?pg_Costs ?hd_Costs ?po_Costs ?sa_Costs ?na_Costs_turned_row ?na_Costs_goal_row ?na_Costs_wide ?na_Costs_costs ?mk_Costs ?kc_Costs ?g_SIZES ?gl_SIZES ?gk_SIZES ?gv_SIZES ?gs_SIZES
    (case g_NoRow => k_is)
    (case g_NoPlain => k_is)
    (case g_NoSpan => k_is)
    (case g_NoTurning => k_is)
    (case g_NoPlace => k_is)
    (case g_NoChanges => k_is)
    (case g_Unlike => k_is)
    (case g_TooLong => k_is)
    (case g_PaneError => k_is)
    (case g_Tally => k_is)
    (case g_Asks => k_is)
    (case g_Board => k_is)
    (case g_Costs => k_is)
    (case g_SIZES => k_is)
    (case gl_SIZES => k_is)
    (case a0 => k_is)
    (case l0 => k_is)
    (case c0 => k_is)
    (case k0 => k_is)
    (case a1 => k_is)
    (case l1 => k_is)
    (case c1 => k_is)
    (case k1 => k_is)
    (case a2 => k_is)
    (case l2 => k_is)
    (case c2 => k_is)
    (case k2 => k_is)
    (case a3 => k_is)
    (case l3 => k_is)
    (case c3 => k_is)
    (case k3 => k_is)
    (case a4 => k_is)
    (case l4 => k_is)
    (case c4 => k_is)
    (case k4 => k_is)
    (case a5 => k_is)
    (case l5 => k_is)
    (case c5 => k_is)
    (case k5 => k_is)
    (case a6 => k_is)
    (case l6 => k_is)
    (case c6 => k_is)
    (case k6 => k_is)
    (case a7 => k_is)
    (case l7 => k_is)
    (case c7 => k_is)
    (case k7 => k_is)
    (case a8 => k_is)
    (case l8 => k_is)
    (case c8 => k_is)
    (case k8 => k_is)
    (case a9 => k_is)
    (case l9 => k_is)
    (case c9 => k_is)
    (case k9 => k_is)
    (case a10 => k_is)
    (case l10 => k_is)
    (case c10 => k_is)
    (case k10 => k_is)
    (case a11 => k_is)
    (case l11 => k_is)
    (case c11 => k_is)
    (case k11 => k_is)
    (case a12 => k_is)
    (case l12 => k_is)
    (case c12 => k_is)
    (case k12 => k_is)
    (case a13 => k_is)
    (case l13 => k_is)
    (case c13 => k_is)
    (case k13 => k_is)
    (case a14 => k_is)
    (case l14 => k_is)
    (case c14 => k_is)
    (case k14 => k_is)
    (case a15 => k_is)
    (case l15 => k_is)
    (case c15 => k_is)
    (case k15 => k_is)
    (case a16 => k_is)
    (case l16 => k_is)
    (case c16 => k_is)
    (case k16 => k_is)
    (case a17 => k_is)
    (case l17 => k_is)
    (case c17 => k_is)
    (case k17 => k_is)
    (case a18 => k_is)
    (case l18 => k_is)
    (case c18 => k_is)
    (case k18 => k_is)
    (case a19 => k_is)
    (case l19 => k_is)
    (case c19 => k_is)
    (case k19 => k_is)
    (case a20 => k_is)
    (case i20 => k_is)
    (case l20 => k_is)
    (case c20 => k_is)
    (case k20 => k_is)
    (case a21 => k_is)
    (case i21 => k_is)
    (case l21 => k_is)
    (case c21 => k_is)
    (case k21 => k_is)
    (case a22 => k_is)
    (case i22 => k_is)
    (case l22 => k_is)
    (case c22 => k_is)
    (case k22 => k_is)
    (case h22 => k_is)
    (case p22 => exact rfl)
    (case g22 => kernel_rfl)
    (case n22 => kernel_rfl)
    (case t22 => exact PySem.W.km_tabs_of Y _ (by decide))
    (case a23 => k_is)
    (case i23 => k_is)
    (case l23 => k_is)
    (case c23 => k_is)
    (case k23 => k_is)
    (case a24 => k_is)
    (case l24 => k_is)
    (case c24 => k_is)
    (case k24 => k_is)
    (case a25 => k_is)
    (case l25 => k_is)
    (case c25 => k_is)
    (case k25 => k_is)
    (case a26 => k_is)
    (case l26 => k_is)
    (case c26 => k_is)
    (case k26 => k_is)
    (case a27 => k_is)
    (case l27 => k_is)
    (case c27 => k_is)
    (case k27 => k_is)
    (case a28 => k_is)
    (case l28 => k_is)
    (case c28 => k_is)
    (case k28 => k_is)
    (case a29 => k_is)
    (case l29 => k_is)
    (case c29 => k_is)
    (case k29 => k_is)
    (case a30 => k_is)
    (case l30 => k_is)
    (case c30 => k_is)
    (case k30 => k_is)
    (case a31 => k_is)
    (case l31 => k_is)
    (case c31 => k_is)
    (case k31 => k_is)
    (case a32 => k_is)
    (case l32 => k_is)
    (case c32 => k_is)
    (case k32 => k_is)
    (case a33 => k_is)
    (case l33 => k_is)
    (case c33 => k_is)
    (case k33 => k_is)
    (case a34 => k_is)
    (case l34 => k_is)
    (case c34 => k_is)
    (case k34 => k_is)
    (case a35 => k_is)
    (case l35 => k_is)
    (case c35 => k_is)
    (case k35 => k_is)
    (case a36 => k_is)
    (case l36 => k_is)
    (case c36 => k_is)
    (case k36 => k_is)
    (case a37 => k_is)
    (case l37 => k_is)
    (case c37 => k_is)
    (case k37 => k_is)
    (case a38 => k_is)
    (case l38 => k_is)
    (case c38 => k_is)
    (case k38 => k_is)
    (case a39 => k_is)
    (case l39 => k_is)
    (case c39 => k_is)
    (case k39 => k_is)
    (case a40 => k_is)
    (case l40 => k_is)
    (case c40 => k_is)
    (case k40 => k_is)
    (case a41 => k_is)
    (case l41 => k_is)
    (case c41 => k_is)
    (case k41 => k_is)
    (case a42 => k_is)
    (case l42 => k_is)
    (case c42 => k_is)
    (case k42 => k_is)
    (case a43 => k_is)
    (case l43 => k_is)
    (case c43 => k_is)
    (case k43 => k_is)
    (case a44 => k_is)
    (case l44 => k_is)
    (case c44 => k_is)
    (case k44 => k_is)
    (case a45 => k_is)
    (case l45 => k_is)
    (case c45 => k_is)
    (case k45 => k_is)
    (case a46 => k_is)
    (case l46 => k_is)
    (case c46 => k_is)
    (case k46 => k_is)
    (case a47 => k_is)
    (case l47 => k_is)
    (case c47 => k_is)
    (case k47 => k_is)
    (case a48 => k_is)
    (case l48 => k_is)
    (case c48 => k_is)
    (case k48 => k_is)
    (case a49 => k_is)
    (case l49 => k_is)
    (case c49 => k_is)
    (case k49 => k_is)
    (case a50 => k_is)
    (case l50 => k_is)
    (case c50 => k_is)
    (case k50 => k_is)
    (case a51 => k_is)
    (case l51 => k_is)
    (case c51 => k_is)
    (case k51 => k_is)
    (case a52 => k_is)
    (case l52 => k_is)
    (case c52 => k_is)
    (case k52 => k_is)
    (case a53 => k_is)
    (case l53 => k_is)
    (case c53 => k_is)
    (case k53 => k_is)
    (case a54 => k_is)
    (case l54 => k_is)
    (case c54 => k_is)
    (case k54 => k_is)
    (case a55 => k_is)
    (case l55 => k_is)
    (case c55 => k_is)
    (case k55 => k_is)
    (case a56 => k_is)
    (case l56 => k_is)
    (case c56 => k_is)
    (case k56 => k_is)
    (case a57 => k_is)
    (case l57 => k_is)
    (case c57 => k_is)
    (case k57 => k_is)
    (case a58 => k_is)
    (case l58 => k_is)
    (case c58 => k_is)
    (case k58 => k_is)
    (case a59 => k_is)
    (case l59 => k_is)
    (case c59 => k_is)
    (case k59 => k_is)
    (case a60 => k_is)
    (case l60 => k_is)
    (case c60 => k_is)
    (case k60 => k_is)
    (case a61 => k_is)
    (case l61 => k_is)
    (case c61 => k_is)
    (case k61 => k_is)
    (case a62 => k_is)
    (case i62 => k_is)
    (case l62 => k_is)
    (case c62 => k_is)
    (case k62 => k_is)
    (case a63 => k_is)
    (case i63 => k_is)
    (case l63 => k_is)
    (case c63 => k_is)
    (case k63 => k_is)
    (case a64 => k_is)
    (case i64 => k_is)
    (case l64 => k_is)
    (case c64 => k_is)
    (case k64 => k_is)
    (case a65 => k_is)
    (case i65 => k_is)
    (case l65 => k_is)
    (case c65 => k_is)
    (case k65 => k_is)
    (case a66 => k_is)
    (case i66 => k_is)
    (case l66 => k_is)
    (case c66 => k_is)
    (case k66 => k_is)
    (case a67 => k_is)
    (case i67 => k_is)
    (case l67 => k_is)
    (case c67 => k_is)
    (case k67 => k_is)
    (case a68 => k_is)
    (case i68 => k_is)
    (case l68 => k_is)
    (case c68 => k_is)
    (case k68 => k_is)
    (case a69 => k_is)
    (case i69 => k_is)
    (case l69 => k_is)
    (case c69 => k_is)
    (case k69 => k_is)
    (case a70 => k_is)
    (case l70 => k_is)
    (case c70 => k_is)
    (case k70 => k_is)
    (case cn0 => k_is)
    (case cn1 => k_is)
    (case cn2 => k_is)
    (case cn3 => k_is)
    (case cn4 => k_is)
    (case z0 => k_is)
    (case z1 => k_is)
    (case z2 => k_is)
    (case z3 => k_is)
    (case z4 => k_is)
    (case z5 => k_is)
    (case z6 => k_is)
    (case z7 => k_is)
    (case z8 => k_is)
    (case z9 => k_is)
    (case z10 => k_is)
    (case z11 => k_is)
    (case z12 => k_is)
    (case z13 => k_is)
    (case z14 => k_is)
    (case z15 => k_is)
    (case lk_NoRow => k_is)
    (case f_setattr_NoRow => k_is)
    (case sb_NoRow => k_is)
    (case ty_NoRow => k_is)
    (case k_NoRow => k_is)
    (case f_found_NoRow => k_is)
    (case ini_NoRow => k_is)
    (case int_NoRow => k_is)
    (case il_NoRow => k_is)
    (case ic_NoRow => k_is)
    (case ik_NoRow => k_is)
    (case lk_NoPlain => k_is)
    (case f_setattr_NoPlain => k_is)
    (case sb_NoPlain => k_is)
    (case ty_NoPlain => k_is)
    (case k_NoPlain => k_is)
    (case f_found_NoPlain => k_is)
    (case ini_NoPlain => k_is)
    (case int_NoPlain => k_is)
    (case il_NoPlain => k_is)
    (case ic_NoPlain => k_is)
    (case ik_NoPlain => k_is)
    (case lk_NoSpan => k_is)
    (case f_setattr_NoSpan => k_is)
    (case sb_NoSpan => k_is)
    (case ty_NoSpan => k_is)
    (case k_NoSpan => k_is)
    (case f_begin_NoSpan => k_is)
    (case f_end_NoSpan => k_is)
    (case ini_NoSpan => k_is)
    (case int_NoSpan => k_is)
    (case il_NoSpan => k_is)
    (case ic_NoSpan => k_is)
    (case ik_NoSpan => k_is)
    (case lk_NoTurning => k_is)
    (case f_setattr_NoTurning => k_is)
    (case sb_NoTurning => k_is)
    (case ty_NoTurning => k_is)
    (case k_NoTurning => k_is)
    (case f_found_NoTurning => k_is)
    (case ini_NoTurning => k_is)
    (case int_NoTurning => k_is)
    (case il_NoTurning => k_is)
    (case ic_NoTurning => k_is)
    (case ik_NoTurning => k_is)
    (case lk_NoPlace => k_is)
    (case f_setattr_NoPlace => k_is)
    (case sb_NoPlace => k_is)
    (case ty_NoPlace => k_is)
    (case k_NoPlace => k_is)
    (case f_found_NoPlace => k_is)
    (case ini_NoPlace => k_is)
    (case int_NoPlace => k_is)
    (case il_NoPlace => k_is)
    (case ic_NoPlace => k_is)
    (case ik_NoPlace => k_is)
    (case lk_NoChanges => k_is)
    (case f_setattr_NoChanges => k_is)
    (case sb_NoChanges => k_is)
    (case ty_NoChanges => k_is)
    (case k_NoChanges => k_is)
    (case f_found_NoChanges => k_is)
    (case ini_NoChanges => k_is)
    (case int_NoChanges => k_is)
    (case il_NoChanges => k_is)
    (case ic_NoChanges => k_is)
    (case ik_NoChanges => k_is)
    (case lk_Unlike => k_is)
    (case f_setattr_Unlike => k_is)
    (case sb_Unlike => k_is)
    (case ty_Unlike => k_is)
    (case k_Unlike => k_is)
    (case f_one_Unlike => k_is)
    (case f_other_Unlike => k_is)
    (case ini_Unlike => k_is)
    (case int_Unlike => k_is)
    (case il_Unlike => k_is)
    (case ic_Unlike => k_is)
    (case ik_Unlike => k_is)
    (case lk_TooLong => k_is)
    (case f_setattr_TooLong => k_is)
    (case sb_TooLong => k_is)
    (case ty_TooLong => k_is)
    (case k_TooLong => k_is)
    (case f_found_TooLong => k_is)
    (case ini_TooLong => k_is)
    (case int_TooLong => k_is)
    (case il_TooLong => k_is)
    (case ic_TooLong => k_is)
    (case ik_TooLong => k_is)
    (case ba_PaneError => k_is)
    (case br_PaneError => k_is)
    (case bf_PaneError => k_is)
    (case pg_Tally => k_is)
    (case hd_Tally => k_is)
    (case po_Tally => k_is)
    (case sa_Tally => k_is)
    (case na_Tally_many => k_is)
    (case na_Tally_floors => k_is)
    (case mk_Tally => k_is)
    (case kc_Tally => k_is)
    (case pg_Asks => k_is)
    (case hd_Asks => k_is)
    (case po_Asks => k_is)
    (case sa_Asks => k_is)
    (case na_Asks_tall => k_is)
    (case na_Asks_wide => k_is)
    (case na_Asks_tally => k_is)
    (case na_Asks_goals => k_is)
    (case na_Asks_starts => k_is)
    (case mk_Asks => k_is)
    (case kc_Asks => k_is)
    (case pg_Board => k_is)
    (case hd_Board => k_is)
    (case po_Board => k_is)
    (case sa_Board => k_is)
    (case na_Board_left_row => k_is)
    (case na_Board_upper_row => k_is)
    (case na_Board_meetings => k_is)
    (case na_Board_signs => k_is)
    (case na_Board_goals => k_is)
    (case mk_Board => k_is)
    (case kc_Board => k_is)
    (case pg_Costs => k_is)
    (case hd_Costs => k_is)
    (case po_Costs => k_is)
    (case sa_Costs => k_is)
    (case na_Costs_turned_row => k_is)
    (case na_Costs_goal_row => k_is)
    (case na_Costs_wide => k_is)
    (case na_Costs_costs => k_is)
    (case mk_Costs => k_is)
    (case kc_Costs => k_is)
    (case gk_SIZES => exact ⟨⟨_, _, rfl, rfl⟩, ⟨_, _, rfl, rfl⟩, ⟨_, _, rfl, rfl⟩, ⟨_, _, rfl, rfl⟩, trivial⟩)
    (case gv_SIZES => kernel_rfl)
    (case gs_SIZES => kernel_rfl)
#print axioms PySem.Challenge.cw_panethread_k66_whole_no_changes_pay_less_holds
