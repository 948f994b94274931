import PyProof.Rows.All
import Wide.All
import OpenK.AllK
import Wide.FinOn
import PyProof.StrBlock2
import HandS.ForMost
import HandS.Style
import HandS.IsInst
import HandS.NoneIn
import HandS.Codes
import HandS.Walk
import HandS.TupLe
import HandS.Flt
import HandS.Replace
import HandS.Text
import HandS.TupAny
import HandS.Zip
import HandS.ForList
import KE.GoesZip
import KE.GoesMore
import KE.GoesEnum
import KE.KRevSl
import HandS.Small
import HandS.Dict
import HandS.Ends
import KE.SortKeyHeap
import HandS.SortKw
import HandS.More
import HandS.ExcCtx
import HandS.ExcInit
import HandS.ExcIs
import HandS.ExcField
import HandS.HotCalls
import HandS.ForExc
import HandS.Defaults
import HandS.Lambda
import HandS.EndTab
import KE.KNestM
import KE.SortData
import PySem.Challenge.RW_backseen_k05_whole_beginnings_of_samples
set_option Elab.async false
set_option linter.all false
set_option maxRecDepth 100000
set_option maxHeartbeats 4000000
namespace G
open PySem PySem.Spec L2
/-! texts as lists of codes -/
def sv (l : List Nat) : V := .str ⟨l.toArray⟩
theorem sv_inj {a b : List Nat} : sv a = sv b ↔ a = b := by
  constructor
  · intro h
    have h1 := V.str.inj h
    have h2 : a.toArray = b.toArray := by injection h1
    have h3 := congrArg Array.toList h2
    simpa using h3
  · intro h; rw [h]
theorem sv_dec {a b : List Nat} : decide (sv a = sv b) = decide (a = b) := decide_eq_decide.mpr sv_inj
theorem str_sv (z : Str) : V.str z = sv z.cps.toList := by cases z; simp [sv]
theorem sl_is : sizeLine = 16777216 := by decide
theorem strL (l : List Nat) : (Str.mk l.toArray).length = l.length := by simp [Str.length]
theorem sv_ne_int {l : List Nat} {i : Int} : sv l ≠ .int i := fun h => by cases h
/-- cut of a list, as Python's slices do -/
def cutL (l : List Nat) (lo hi : Option Int) : List Nat := (l.drop (HT.sIx l.length 0 lo)).take (HT.sIx l.length l.length hi - HT.sIx l.length 0 lo)
theorem cutL_from (l : List Nat) (n : Nat) : cutL l (some (n : Int)) none = l.drop n := by
  unfold cutL
  rw [HT.sIx_nat, HT.sIx_none]
  by_cases h : n ≤ l.length
  · rw [Nat.min_eq_left h]
    exact List.take_of_length_le (by rw [List.length_drop]; omega)
  · rw [Nat.min_eq_right (by omega), List.drop_of_length_le (by omega), List.drop_of_length_le (by omega)]
    simp
theorem cutL_to (l : List Nat) (n : Nat) : cutL l none (some (n : Int)) = l.take n := by
  unfold cutL
  rw [HT.sIx_nat, HT.sIx_none, List.drop_zero, Nat.sub_zero]
  by_cases h : n ≤ l.length
  · rw [Nat.min_eq_left h]
  · rw [Nat.min_eq_right (by omega), List.take_of_length_le (by omega), List.take_of_length_le (by omega)]
theorem cutL_len (l : List Nat) (lo hi : Option Int) : (cutL l lo hi).length ≤ l.length := by
  unfold cutL
  rw [List.length_take, List.length_drop]; omega
theorem cutL_fromI (l : List Nat) {d : Int} (h : 0 ≤ d) : cutL l (some d) none = l.drop d.toNat := by
  have e : d = ((d.toNat : Nat) : Int) := by omega
  conv => lhs; rw [e]
  exact cutL_from l _
theorem cutL_toI (l : List Nat) {d : Int} (h : 0 ≤ d) : cutL l none (some d) = l.take d.toNat := by
  have e : d = ((d.toNat : Nat) : Int) := by omega
  conv => lhs; rw [e]
  exact cutL_to l _
theorem lt1 {a b : Nat} : ([a] < [b]) = (a < b) := by simp [List.cons_lt_cons_iff]
/-! readings -/
abbrev rII (f : Int → Int → V) : R2 := fun x y H Q => ∃ i j, x = .int i ∧ y = .int j ∧ Q (f i j) H
abbrev rBB (f : Bool → Bool → V) : R2 := fun x y H Q => ∃ i j, x = .bl i ∧ y = .bl j ∧ Q (f i j) H
abbrev rSS (f : List Nat → List Nat → V) : R2 := fun x y H Q => ∃ a b, x = sv a ∧ y = sv b ∧ Q (f a b) H
section
variable {X : Cx}
theorem op_eqI : OpR X (compareOp .Eq) (rII fun i j => .bl (decide (i = j))) := by
  intro pins s σ H x y v u Q I rx ry h
  obtain ⟨i, j, rfl, rfl, q⟩ := h
  refine op_eq pins s σ H _ _ v u Q I rx ry ⟨rfl, ?_⟩
  rw [show decide (V.int i = V.int j) = decide (i = j) from decide_eq_decide.mpr (by simp)]
  exact q
theorem op_neI : OpR X (compareOp .NotEq) (rII fun i j => .bl (!decide (i = j))) := by
  intro pins s σ H x y v u Q I rx ry h
  obtain ⟨i, j, rfl, rfl, q⟩ := h
  refine op_ne pins s σ H _ _ v u Q I rx ry ⟨rfl, ?_⟩
  rw [show decide (V.int i = V.int j) = decide (i = j) from decide_eq_decide.mpr (by simp)]
  exact q
theorem op_eqB : OpR X (compareOp .Eq) (rBB fun i j => .bl (decide (i = j))) := by
  intro pins s σ H x y v u Q I rx ry h
  obtain ⟨i, j, rfl, rfl, q⟩ := h
  refine op_eq pins s σ H _ _ v u Q I rx ry ⟨rfl, ?_⟩
  rw [show decide (V.bl i = V.bl j) = decide (i = j) from decide_eq_decide.mpr (by simp)]
  exact q
theorem op_neB : OpR X (compareOp .NotEq) (rBB fun i j => .bl (!decide (i = j))) := by
  intro pins s σ H x y v u Q I rx ry h
  obtain ⟨i, j, rfl, rfl, q⟩ := h
  refine op_ne pins s σ H _ _ v u Q I rx ry ⟨rfl, ?_⟩
  rw [show decide (V.bl i = V.bl j) = decide (i = j) from decide_eq_decide.mpr (by simp)]
  exact q
theorem op_eqS : OpR X (compareOp .Eq) (rSS fun i j => .bl (decide (i = j))) := by
  intro pins s σ H x y v u Q I rx ry h
  obtain ⟨i, j, rfl, rfl, q⟩ := h
  refine op_eq pins s σ H _ _ v u Q I rx ry ⟨rfl, ?_⟩
  rw [sv_dec]
  exact q
theorem op_neS : OpR X (compareOp .NotEq) (rSS fun i j => .bl (!decide (i = j))) := by
  intro pins s σ H x y v u Q I rx ry h
  obtain ⟨i, j, rfl, rfl, q⟩ := h
  refine op_ne pins s σ H _ _ v u Q I rx ry ⟨rfl, ?_⟩
  rw [sv_dec]
  exact q
theorem op_ltS : OpR X (compareOp .Lt) (rSS fun i j => .bl (decide (i < j))) := by
  intro pins s σ H x y v u Q I rx ry h
  obtain ⟨i, j, rfl, rfl, q⟩ := h
  exact op_lt_str pins s σ H _ _ v u Q I rx ry ⟨_, _, rfl, rfl, by simpa using q⟩
theorem op_leS : OpR X (compareOp .LtE) (rSS fun i j => .bl (!decide (j < i))) := by
  intro pins s σ H x y v u Q I rx ry h
  obtain ⟨i, j, rfl, rfl, q⟩ := h
  exact op_le_str pins s σ H _ _ v u Q I rx ry ⟨_, _, rfl, rfl, by simpa using q⟩
theorem op_geS : OpR X (compareOp .GtE) (rSS fun i j => .bl (!decide (i < j))) := by
  intro pins s σ H x y v u Q I rx ry h
  obtain ⟨i, j, rfl, rfl, q⟩ := h
  exact op_ge_str pins s σ H _ _ v u Q I rx ry ⟨_, _, rfl, rfl, by simpa using q⟩
theorem op_inS : OpR X (compareOp .In) (fun x y H Q => ∃ (c : Nat) (l : List Nat), x = sv [c] ∧ y = sv l ∧ Q (.bl (decide (c ∈ l))) H) := by
  intro pins s σ H x y v u Q I rx ry h
  obtain ⟨c, l, rfl, rfl, q⟩ := h
  exact op_in_sign pins s σ H _ _ v u Q I rx ry ⟨c, _, rfl, rfl, by simpa using q⟩
theorem op_notInS : OpR X (compareOp .NotIn) (fun x y H Q => ∃ (c : Nat) (l : List Nat), x = sv [c] ∧ y = sv l ∧ Q (.bl (!decide (c ∈ l))) H) := by
  intro pins s σ H x y v u Q I rx ry h
  obtain ⟨c, l, rfl, rfl, q⟩ := h
  exact op_notIn_sign pins s σ H _ _ v u Q I rx ry ⟨c, _, rfl, rfl, by simpa using q⟩
theorem op_addS : OpR X (binaryOp .Add) (fun x y H Q => ∃ a b, x = sv a ∧ y = sv b ∧ a.length + b.length ≤ sizeLine ∧ Q (sv (a ++ b)) H) := by
  intro pins s σ H x y v u Q I rx ry h
  obtain ⟨a, b, rfl, rfl, hl, q⟩ := h
  refine op_add_str pins s σ H _ _ v u Q I rx ry ⟨_, _, rfl, rfl, by rw [strL, strL]; exact hl, ?_⟩
  have e : (Str.mk a.toArray) ++ (Str.mk b.toArray) = Str.mk (a ++ b).toArray := by
    show Str.append _ _ = _
    simp [Str.append]
  rw [e]; exact q
/-- text times int -/
def repL (l : List Nat) (k : Int) : List Nat := (List.replicate k.toNat l).flatten
theorem foldl_app (n : Nat) (a b : Array Nat) : (List.replicate n a).foldl (· ++ ·) b = b ++ ((List.replicate n a.toList).flatten).toArray := by
  induction n generalizing b with
  | zero => simp
  | succ n ih =>
    rw [List.replicate_succ, List.foldl_cons, ih, List.replicate_succ, List.flatten_cons]
    apply Array.ext'
    simp
theorem mulStr_eq (l : List Nat) (k : Int) : PySem.Txt.mul ⟨l.toArray⟩ k = ⟨(repL l k).toArray⟩ := by
  unfold PySem.Txt.mul repL
  by_cases h : k < 1
  · rw [if_pos h]
    have : k.toNat = 0 := by omega
    rw [this]; rfl
  · rw [if_neg h]
    by_cases h2 : (k == 1 || (Str.mk l.toArray).length == 0) = true
    · rw [if_pos h2]
      rw [strL] at h2
      simp only [Bool.or_eq_true, beq_iff_eq] at h2
      rcases h2 with h2 | h2
      · subst h2; simp
      · have : l = [] := List.length_eq_zero_iff.mp h2
        subst this; simp
    · rw [if_neg h2, foldl_app]
      simp
theorem Txtfit {n : Nat} (h : n ≤ sizeLine) : Builtin.Str.tooLong n = false := by
  unfold Builtin.Str.tooLong
  exact decide_eq_false (by omega)
theorem op_mulS : OpR X (binaryOp .Mult) (fun x y H Q => ∃ a k, x = sv a ∧ y = .int k ∧ (0 ≤ k ∧ k ≤ 1000000 ∧ a.length * k.toNat ≤ sizeLine) ∧ Q (sv (repL a k)) H) := by
  intro pins s σ H x y v u Q I rx ry h
  obtain ⟨a, k, rfl, rfl, ⟨hk, hk2, hl⟩, q⟩ := h
  obtain ⟨t, rfl⟩ := rx
  obtain ⟨t', rfl⟩ := ry
  have hsz : (sizeLine : Nat) = 16777216 := by decide
  have hmul : ¬ k < 1 → ((Str.mk a.toArray).length : Int) * k ≤ 16777216 := fun h1 => by
    rw [strL]
    have e : k = ((k.toNat : Nat) : Int) := by omega
    rw [e]
    have h3 : a.length * k.toNat ≤ 16777216 := Nat.le_trans hl (Nat.le_of_eq hsz)
    have h4 := Int.ofNat_le.mpr h3
    rw [Int.natCast_mul] at h4
    exact h4
  refine PySem.SB.mul ⟨?_, fun h1 h2 => ?_, fun h1 h2 => ?_⟩ fun t' tk => ⟨sv (repL a k), H, I.tok _, ?_, q⟩
  · rw [Bool.or_eq_false_iff]
    exact ⟨decide_eq_false (by omega), decide_eq_false (by omega)⟩
  · have hm := hmul h1
    have hkp : 0 < k := by omega
    intro hgt
    have h3 : (2 ^ 63 - 1) / k < ((Str.mk a.toArray).length : Int) := hgt
    have h4 := (Int.ediv_lt_iff_lt_mul hkp).mp h3
    omega
  · rw [strL]
    exact Txtfit (by omega)
  · refine ⟨t', ?_⟩
    rw [mulStr_eq]
/-- a slice of a text -/
theorem sl_S : SlR X (fun x lo hi H Q => ∃ l, x = sv l ∧ l.length ≤ sizeLine ∧ Q (sv (cutL l lo hi)) H) := by
  intro pins s σ H x v vl vu lo hi sl Q I rx hs pl pu h
  obtain ⟨l, rfl, hl, q⟩ := h
  refine sl_str pins s σ H _ v vl vu lo hi sl Q I rx hs pl pu ⟨_, rfl, by rw [strL]; exact hl, ?_⟩
  have e : cutS ⟨l.toArray⟩ lo hi = ⟨(cutL l lo hi).toArray⟩ := by
    unfold cutS cutL
    rw [strL]
  rw [e]; exact q
theorem ix_S : IxR X (fun x y H Q => ∃ l i c, x = sv l ∧ y = .int i ∧ l.length ≤ sizeLine ∧ atI l i = some c ∧ Q (sv [c]) H) := by
  intro value slice pins s σ H x y v u Q I rx ry h hs
  obtain ⟨l, i, c, rfl, rfl, hl, hc, q⟩ := h
  exact ix_str value slice pins s σ H _ _ v u Q I rx ry ⟨_, i, c, rfl, rfl, by rw [strL]; exact hl, by simpa using hc, q⟩ hs
theorem call_lenS : CallR X (.builtin "len") (fun xs H Q => ∃ l, xs = [sv l] ∧ l.length ≤ sizeLine ∧ Q (.int l.length) H) := by
  intro pins s σ H vs us Q I r h
  obtain ⟨l, rfl, hl, q⟩ := h
  exact call_len_str pins s σ H _ us Q I r ⟨_, rfl, by rw [strL]; exact hl, by rw [strL]; exact q⟩
theorem pe_strS {x : Str} {j : Nat} {pos : Pos} {l : List Nat} (h : x = ⟨l.toArray⟩) : PE X (.Constant (.str x) j pos) (tC (sv l)) := by
  subst h; exact pe_str
theorem pe_gint {x : Str} {i : Int} {pos : Pos} (hg : Gl X x) (hm : ∃ t, X.mg x = some (.int i t)) (hd : (x == ("__debug__" : Str)) = false := by decide) : PE X (.Name x pos) (tC (.int i)) := by
  obtain ⟨t, hm⟩ := hm
  exact pe_glob hg hm ⟨t, rfl⟩ hd
theorem pe_gstr {x z : Str} {l : List Nat} {pos : Pos} (hg : Gl X x) (hm : ∃ t, X.mg x = some (.str z t)) (hz : z = ⟨l.toArray⟩) (hd : (x == ("__debug__" : Str)) = false := by decide) : PE X (.Name x pos) (tC (sv l)) := by
  obtain ⟨t, hm⟩ := hm
  subst hz
  exact pe_glob hg hm ⟨t, rfl⟩ hd
theorem pe_ty {x : Str} {n : String} {pos : Pos} (hg : Gl X x) (hm : X.mg x = none) (hv : bootBuiltins x = some (.type n) := by decide +kernel) (hn : x ≠ "__name__" := by decide) (hd : (x == ("__debug__" : Str)) = false := by decide) : PE X (.Name x pos) (tC (.ty n)) :=
  pe_bltn hg hm hv rfl hn hd
/-- loops, their readings closed -/
def LoopOk (J : It) (g : TG) (tb : TS) (D : Ends) (σ : St) (H1 : Hp) : Prop := ∃ W : Nat → Nat → St → Hp → Prop, (∃ m, W 0 m σ H1) ∧ ∀ i m σ H, W i m σ H →
  ((J.stop i H ∧ D.nx σ H) ∨ (J.go i H ∧ ∃ N : St → Hp → Prop, (∀ σ' H', N σ' H' → ∃ m', m' < m ∧ W (i + 1) m' σ' H') ∧ ∀ x H', J.yld i H x H' → g x σ H' fun σ2 H2 => tb { D with nx := N, ct := N, bk := D.nx } σ2 H2))
theorem tFor_eq (wi : TI) (g : TG) (tb : TS) : tFor wi g tb = fun D σ H => wi σ H fun J H1 => LoopOk J g tb D σ H1 := rfl
def LcOk (J : It) (g : TG) (tt : TT) (te : TE) (vs : List Nat) (σ : St) (H1 : Hp) (Q : VK) : Prop := ∀ D, H1 D = none → ∃ W : Nat → Nat → Hp → Prop, (∃ m, W 0 m (upd H1 D (.lst []))) ∧ ∀ i m H, W i m H →
  (J.stop i H ∧ Q (.ref D) H) ∨ (J.go i H ∧ ∃ Nx : Hp → Prop, (∀ H', Nx H' → ∃ m', m' < m ∧ W (i + 1) m' H') ∧ ∀ x H', J.yld i H x H' → g x (wipe σ vs) H' fun σ2 H2 => wipe σ2 vs = wipe σ vs ∧ tt σ2 H2 fun b H3 =>
    if b = true then te σ2 H3 fun y H4 => ∃ acc, H4 D = some (.lst acc) ∧ acc.length < sizeLine ∧ Nx (upd H4 D (.lst (acc ++ [y]))) else Nx H3)
theorem tLc_eq (wi : TI) (g : TG) (tt : TT) (te : TE) (vs : List Nat) : tLc wi g tt te vs = fun σ H Q => wi σ H fun J H1 => LcOk J g tt te vs σ H1 Q := rfl
theorem loop_range {lo : Int} {n : Nat} {g : TG} {tb : TS} {D : Ends} {σ : St} {H : Hp} (Pv : Nat → St → Hp → Prop) (h0 : Pv 0 σ H)
    (hs : ∀ M, M = Pv → ∀ i σ H, i < n → Pv i σ H → g (.int (lo + i)) σ H fun σ2 H2 => tb { D with nx := M (i + 1), ct := M (i + 1), bk := D.nx } σ2 H2) (hd : ∀ σ H, Pv n σ H → D.nx σ H) :
    LoopOk (Itr lo n) g tb D σ H := for_range Pv h0 (hs Pv rfl) hd
theorem loop_list {K : PySem.W.Frag} {a : Addr} {xs : List V} {g : TG} {tb : TS} {D : Ends} {σ : St} {H : Hp} (Pv : Nat → St → Hp → Prop) (h0 : Pv 0 σ H) (hl : ∀ i σ H, i ≤ xs.length → Pv i σ H → SqL K H a xs)
    (hs : ∀ M, M = Pv → ∀ i x σ H, xs[i]? = some x → Pv i σ H → g x σ H fun σ2 H2 => tb { D with nx := M (i + 1), ct := M (i + 1), bk := D.nx } σ2 H2) (hd : ∀ σ H, Pv xs.length σ H → D.nx σ H) :
    LoopOk (Itl K a) g tb D σ H := for_list Pv h0 hl (hs Pv rfl) hd
theorem loop_tup {K : PySem.W.Frag} {a : Addr} {xs : List V} {g : TG} {tb : TS} {D : Ends} {σ : St} {H : Hp} (Pv : Nat → St → Hp → Prop) (h0 : Pv 0 σ H) (hl : ∀ i σ H, i ≤ xs.length → Pv i σ H → SqT K H a xs)
    (hs : ∀ M, M = Pv → ∀ i x σ H, xs[i]? = some x → Pv i σ H → g x σ H fun σ2 H2 => tb { D with nx := M (i + 1), ct := M (i + 1), bk := D.nx } σ2 H2) (hd : ∀ σ H, Pv xs.length σ H → D.nx σ H) :
    LoopOk (Itt K a) g tb D σ H := for_tup Pv h0 hl (hs Pv rfl) hd
/-- a while's turn: the body, from here, brings the word back with a lesser measure -/
def WT (Pv : St → Hp → Prop) (μ : St → Hp → Nat) (n : Nat) (tb : TS) (D : Ends) (σ : St) (H : Hp) : Prop := ∃ N : St → Hp → Prop, (∀ σ' H', N σ' H' → ∃ m', m' < n ∧ m' = μ σ' H' ∧ Pv σ' H') ∧ tb { D with nx := N, ct := N, bk := D.nx } σ H
theorem loop_while {c : TT} {tb : TS} {D : Ends} {σ : St} {H : Hp} (Pv : St → Hp → Prop) (μ : St → Hp → Nat) (h0 : Pv σ H)
    (hs : ∀ σ H n, n = μ σ H → Pv σ H → c σ H fun b H1 => if b = true then WT Pv μ n tb D σ H1 else D.nx σ H1) : tWhile c tb D σ H := by
  refine ⟨fun m σ H => m = μ σ H ∧ Pv σ H, ⟨_, rfl, h0⟩, ?_⟩
  rintro m σ H ⟨rfl, p⟩
  exact hs σ H _ rfl p
theorem WT.mk {tb : TS} {D : Ends} {σ : St} {H1 : Hp} {Pv : St → Hp → Prop} {μ : St → Hp → Nat} {n : Nat} (h : ∀ M : St → Hp → Prop, (M = fun σ' H' => Pv σ' H' ∧ μ σ' H' < n) → tb { D with nx := M, ct := M, bk := D.nx } σ H1) : WT Pv μ n tb D σ H1 :=
  ⟨_, fun σ' H' ⟨p, l⟩ => ⟨_, l, rfl, p⟩, h _ rfl⟩
theorem cutM {t u : TS} {D : Ends} {σ : St} {H : Hp} (M0 : St → Hp → Prop) (h1 : ∀ M, M = M0 → t { D with nx := M } σ H) (h2 : ∀ σ H, M0 σ H → u D σ H) : C8.tCut t u D σ H := ⟨M0, h1 M0 rfl, h2⟩
/-- a comprehension whose element (and test) only read: over range -/
theorem comp_range {lo : Int} {n : Nat} {g : TG} {tt : TT} {te : TE} {vs : List Nat} {σ : St} {H1 : Hp} {Q : VK} (Pv : Addr → Nat → Hp → Prop) (h0 : ∀ D, H1 D = none → Pv D 0 (upd H1 D (.lst [])))
    (hs : ∀ M, M = Pv → ∀ D, H1 D = none → ∀ i H, i < n → Pv D i H → g (.int (lo + i)) (wipe σ vs) H fun σ2 H2 => wipe σ2 vs = wipe σ vs ∧ tt σ2 H2 fun b H3 =>
      if b = true then te σ2 H3 fun y H4 => ∃ acc, H4 D = some (.lst acc) ∧ acc.length < sizeLine ∧ M D (i + 1) (upd H4 D (.lst (acc ++ [y]))) else M D (i + 1) H3) (hd : ∀ D, H1 D = none → ∀ H, Pv D n H → Q (.ref D) H) :
    LcOk (Itr lo n) g tt te vs σ H1 Q := fun D hD => lc_range (Pv D) (h0 D hD) (hs Pv rfl D hD) (hd D hD)
theorem comp_list {K : PySem.W.Frag} {a : Addr} {xs : List V} {g : TG} {tt : TT} {te : TE} {vs : List Nat} {σ : St} {H1 : Hp} {Q : VK} (Pv : Addr → Nat → Hp → Prop) (h0 : ∀ D, H1 D = none → Pv D 0 (upd H1 D (.lst [])))
    (hl : ∀ D, H1 D = none → ∀ i H, i ≤ xs.length → Pv D i H → SqL K H a xs)
    (hs : ∀ M, M = Pv → ∀ D, H1 D = none → ∀ i x H, xs[i]? = some x → Pv D i H → g x (wipe σ vs) H fun σ2 H2 => wipe σ2 vs = wipe σ vs ∧ tt σ2 H2 fun b H3 =>
      if b = true then te σ2 H3 fun y H4 => ∃ acc, H4 D = some (.lst acc) ∧ acc.length < sizeLine ∧ M D (i + 1) (upd H4 D (.lst (acc ++ [y]))) else M D (i + 1) H3) (hd : ∀ D, H1 D = none → ∀ H, Pv D xs.length H → Q (.ref D) H) :
    LcOk (Itl K a) g tt te vs σ H1 Q := fun D hD => lc_list (Pv D) (h0 D hD) (hl D hD) (hs Pv rfl D hD) (hd D hD)
/-- a text, sign by sign -/
theorem walkS (l : List Nat) : Walk (Its ⟨l.toArray⟩) l.length (fun _ => True) (fun i H v H' => H' = H ∧ ∃ c, l[i]? = some c ∧ v = sv [c]) := by
  refine ⟨fun i H hi _ => ?_, fun H _ => ?_, fun i H x H' hi _ hy => ?_⟩
  · show i < l.toArray.size
    simpa using hi
  · show l.toArray.size ≤ l.length
    simp
  · obtain ⟨e, c, hc, hv⟩ := hy
    exact ⟨e, c, by simpa using hc, hv⟩
theorem loop_str {l : List Nat} {g : TG} {tb : TS} {D : Ends} {σ : St} {H : Hp} (Pv : Nat → St → Hp → Prop) (h0 : Pv 0 σ H)
    (hs : ∀ M, M = Pv → ∀ i c σ H, l[i]? = some c → Pv i σ H → g (sv [c]) σ H fun σ2 H2 => tb { D with nx := M (i + 1), ct := M (i + 1), bk := D.nx } σ2 H2) (hd : ∀ σ H, Pv l.length σ H → D.nx σ H) :
    LoopOk (Its ⟨l.toArray⟩) g tb D σ H := for_it (walkS l) Pv h0 (fun _ _ _ _ _ => trivial) (fun i x σ H H' hi p hy => by
      obtain ⟨e, c, hc, hv⟩ := hy
      subst e; subst hv
      exact hs Pv rfl i c σ _ hc p) hd
theorem comp_str {l : List Nat} {g : TG} {tt : TT} {te : TE} {vs : List Nat} {σ : St} {H1 : Hp} {Q : VK} (Pv : Addr → Nat → Hp → Prop) (h0 : ∀ D, H1 D = none → Pv D 0 (upd H1 D (.lst [])))
    (hs : ∀ M, M = Pv → ∀ D, H1 D = none → ∀ i c H, l[i]? = some c → Pv D i H → g (sv [c]) (wipe σ vs) H fun σ2 H2 => wipe σ2 vs = wipe σ vs ∧ tt σ2 H2 fun b H3 =>
      if b = true then te σ2 H3 fun y H4 => ∃ acc, H4 D = some (.lst acc) ∧ acc.length < sizeLine ∧ M D (i + 1) (upd H4 D (.lst (acc ++ [y]))) else M D (i + 1) H3) (hd : ∀ D, H1 D = none → ∀ H, Pv D l.length H → Q (.ref D) H) :
    LcOk (Its ⟨l.toArray⟩) g tt te vs σ H1 Q := fun D hD => lc_it (walkS l) (Pv D) (h0 D hD) (fun _ _ _ _ => trivial) (fun i x H H' hi p hy => by
      obtain ⟨e, c, hc, hv⟩ := hy
      subst e; subst hv
      exact hs Pv rfl D hD i c _ hc p) (hd D hD)
/-- the comprehension over a text of an element that only reads: f of each sign; all else as it was -/
theorem comp_strF {l : List Nat} {g : TG} {te : TE} {vs : List Nat} {σ : St} {H1 : Hp} {Q : VK} (f : Nat → V) (hl : l.length ≤ sizeLine)
    (hs : ∀ c H, c ∈ l → Same H1 H → ∀ R : VK, R (f c) H → g (sv [c]) (wipe σ vs) H fun σ2 H2 => wipe σ2 vs = wipe σ vs ∧ te σ2 H2 R)
    (hd : ∀ D H, H1 D = none → Same H1 H → H D = some (.lst (l.map f)) → Q (.ref D) H) : LcOk (Its ⟨l.toArray⟩) g tYes te vs σ H1 Q := by
  refine comp_str (fun D i H => Same H1 H ∧ H D = some (.lst ((l.take i).map f))) (fun D hD => ⟨fun b x e => by rw [upd_ne (ne_of_none e hD)]; exact e, by rw [upd_same]; rfl⟩) (fun M hM D hD i c H hc hP => ?_) (fun D hD H hP => hd D H hD hP.1 (by rw [List.take_length] at hP; exact hP.2))
  have hi : i < l.length := (List.getElem?_eq_some_iff.mp hc).1
  have h1 := hs c H (List.mem_of_getElem? hc) hP.1 (fun y H4 => ∃ acc, H4 D = some (.lst acc) ∧ acc.length < sizeLine ∧ M D (i + 1) (upd H4 D (.lst (acc ++ [y])))) ⟨_, hP.2, by rw [List.length_map, List.length_take]; omega, by
    rw [hM]
    refine ⟨fun b x e => by rw [upd_ne (ne_of_none e hD)]; exact hP.1 b x e, ?_⟩
    rw [upd_same, List.take_add_one, hc, List.map_append]; rfl⟩
  simpa only [tYes, if_true] using h1
end
/-! lists and tuples that are tracked -/
section
variable {X : Cx}
theorem ix_lst : IxR X (fun x y H Q => ∃ p i xs v, x = .ref p ∧ y = .int i ∧ H p = some (.lst xs) ∧ atI xs i = some v ∧ Q v H) := by
  intro value slice pins s σ H x y v u Q I rx ry h hs
  obtain ⟨p, i, xs, w, rfl, rfl, hp, hi, q⟩ := h
  exact ix_list value slice pins s σ H _ _ v u Q I rx ry ⟨p, xs, i, w, rfl, rfl, .inl (.inl hp), hi, q⟩ hs
theorem ix_tpl : IxR X (fun x y H Q => ∃ p i xs v, x = .ref p ∧ y = .int i ∧ H p = some (.tup xs) ∧ atI xs i = some v ∧ Q v H) := by
  intro value slice pins s σ H x y v u Q I rx ry h hs
  obtain ⟨p, i, xs, w, rfl, rfl, hp, hi, q⟩ := h
  exact ix_tup value slice pins s σ H _ _ v u Q I rx ry ⟨p, xs, i, w, rfl, rfl, .inl (.inl hp), hi, q⟩ hs
theorem call_lenL : CallR X (.builtin "len") (fun xs H Q => ∃ p ys, xs = [.ref p] ∧ H p = some (.lst ys) ∧ Q (.int ys.length) H) := by
  intro pins s σ H vs us Q I r h
  obtain ⟨p, ys, rfl, hp, q⟩ := h
  exact call_len_seq pins s σ H _ us Q I r ⟨p, ys, rfl, .inl (.inl (.inl hp)), q⟩
theorem call_lenT : CallR X (.builtin "len") (fun xs H Q => ∃ p ys, xs = [.ref p] ∧ H p = some (.tup ys) ∧ Q (.int ys.length) H) := by
  intro pins s σ H vs us Q I r h
  obtain ⟨p, ys, rfl, hp, q⟩ := h
  exact call_len_seq pins s σ H _ us Q I r ⟨p, ys, rfl, .inr (.inl (.inl hp)), q⟩
theorem PE.imp {e : Expr} {t t' : TE} (h : PE X e t) (i : ∀ σ H Q, t' σ H Q → t σ H Q) : PE X e t' := ⟨fun pins s σ H Q I q => h.run pins s σ H Q I (i σ H Q q)⟩
theorem tyL {K : PySem.W.Frag} {p : Addr} {xs : List V} {H : Hp} (h : H p = some (.lst xs)) : tyV K "list" (.ref p) H := Or.inl ⟨rfl, xs, .inl (.inl h)⟩
theorem atI0 {α : Type} {x : α} {l : List α} : atI (x :: l) 0 = some x := by
  unfold atI ixN
  simp
theorem atI1 {α : Type} {x y : α} {l : List α} : atI (x :: y :: l) 1 = some y := by
  unfold atI ixN
  rw [if_pos (by decide), if_pos (by simp only [List.length_cons]; omega)]
  rfl
theorem atI2 {α : Type} {x y z : α} {l : List α} : atI (x :: y :: z :: l) 2 = some z := by
  unfold atI ixN
  rw [if_pos (by decide), if_pos (by simp only [List.length_cons]; omega)]
  rfl
theorem ixN31 : ixN 3 1 = some 1 := by decide
theorem ixN32 : ixN 3 2 = some 2 := by decide
theorem ixN30 : ixN 3 0 = some 0 := by decide
end
section
variable {X : Cx}
theorem op_mulC {c : Int} (h : -(2 ^ 64) < c ∧ c < 2 ^ 64) : OpR X (binaryOp .Mult) (fun x y H Q => ∃ i, x = .int i ∧ y = .int c ∧ Q (.int (i * c)) H) := by
  intro pins s σ H x y v u Q I rx ry q
  obtain ⟨i, rfl, rfl, q⟩ := q
  exact op_mul pins s σ H _ _ v u Q I rx ry ⟨i, c, rfl, rfl, .inr h, q⟩
theorem op_mulI : OpR X (binaryOp .Mult) (fun x y H Q => ∃ i j, x = .int i ∧ y = .int j ∧ (-(2 ^ 64) < i ∧ i < 2 ^ 64) ∧ Q (.int (i * j)) H) := by
  intro pins s σ H x y v u Q I rx ry q
  obtain ⟨i, j, rfl, rfl, h, q⟩ := q
  exact op_mul pins s σ H _ _ v u Q I rx ry ⟨i, j, rfl, rfl, .inl h, q⟩
theorem op_modC {c : Int} (h : 0 < c) : OpR X (binaryOp .Mod) (fun x y H Q => ∃ i, x = .int i ∧ y = .int c ∧ Q (.int (i % c)) H) := by
  intro pins s σ H x y v u Q I rx ry q
  obtain ⟨i, rfl, rfl, q⟩ := q
  refine op_modN pins s σ H _ _ v u Q I rx ry ⟨i, c, rfl, rfl, by omega, ?_⟩
  show Q (.int (i.fmod c)) H
  rw [Int.fmod_eq_emod_of_nonneg i (by omega)]
  exact q
theorem op_modP : OpR X (binaryOp .Mod) (fun x y H Q => ∃ i j, x = .int i ∧ y = .int j ∧ 0 < j ∧ Q (.int (i % j)) H) := by
  intro pins s σ H x y v u Q I rx ry q
  obtain ⟨i, j, rfl, rfl, h, q⟩ := q
  refine op_modN pins s σ H _ _ v u Q I rx ry ⟨i, j, rfl, rfl, by omega, ?_⟩
  show Q (.int (i.fmod j)) H
  rw [Int.fmod_eq_emod_of_nonneg i (by omega)]
  exact q
theorem op_divC {c : Int} (h : 0 < c ∧ c < 1073741824) : OpR X (binaryOp .FloorDiv) (fun x y H Q => ∃ i, x = .int i ∧ y = .int c ∧ Q (.int (i / c)) H) := by
  intro pins s σ H x y v u Q I rx ry q
  obtain ⟨i, rfl, rfl, q⟩ := q
  refine op_fdivN pins s σ H _ _ v u Q I rx ry ⟨i, c, rfl, rfl, ⟨by omega, by omega⟩, ?_⟩
  show Q (.int (i.fdiv c)) H
  rw [Int.fdiv_eq_ediv_of_nonneg i (by omega)]
  exact q
theorem op_divP : OpR X (binaryOp .FloorDiv) (fun x y H Q => ∃ i j, x = .int i ∧ y = .int j ∧ (0 < j ∧ j < 1073741824) ∧ Q (.int (i / j)) H) := by
  intro pins s σ H x y v u Q I rx ry q
  obtain ⟨i, j, rfl, rfl, h, q⟩ := q
  refine op_fdivN pins s σ H _ _ v u Q I rx ry ⟨i, j, rfl, rfl, ⟨by omega, by omega⟩, ?_⟩
  show Q (.int (i.fdiv j)) H
  rw [Int.fdiv_eq_ediv_of_nonneg i (by omega)]
  exact q
theorem op_powC {a b v : Int} (h : CPow a b) (hv : a ^ b.toNat = v) : OpR X (binaryOp .Pow) (fun x y H Q => x = .int a ∧ y = .int b ∧ Q (.int v) H) := by
  intro pins s σ H x y v u Q I rx ry q
  obtain ⟨rfl, rfl, q⟩ := q
  refine op_pow pins s σ H _ _ _ _ Q I rx ry ⟨a, b, rfl, rfl, h, ?_⟩
  show Q (.int (a ^ b.toNat)) H
  rw [hv]; exact q
theorem call_intI : CallR X (.type "int") (fun xs H Q => ∃ i, xs = [.int i] ∧ Q (.int i) H) := by
  intro pins s σ H vs us Q I r h
  obtain ⟨i, rfl, q⟩ := h
  exact call_int1 pins s σ H _ us Q I r (.inl ⟨i, rfl, q⟩)
end
/-- the items of a tracked list or tuple -/
def items (H : Hp) (a : Addr) : Option (List V) := match H a with
  | some (.lst xs) => some xs
  | some (.tup xs) => some xs
  | _ => none
theorem items_lst {H : Hp} {a : Addr} {xs : List V} (h : H a = some (.lst xs)) : items H a = some xs := by unfold items; rw [h]
theorem items_tup {H : Hp} {a : Addr} {xs : List V} (h : H a = some (.tup xs)) : items H a = some xs := by unfold items; rw [h]
theorem items_cases {H : Hp} {a : Addr} {xs : List V} (h : items H a = some xs) : H a = some (.lst xs) ∨ H a = some (.tup xs) := by
  unfold items at h
  split at h
  · next e => cases h; exact .inl e
  · next e => cases h; exact .inr e
  · cases h
theorem last_get {α : Type} {l : List α} {a : α} : (l ++ [a])[(l ++ [a]).length - 1]? = some a := by simp
section
variable {X : Cx}
theorem call_lenA : CallR X (.builtin "len") (fun xs H Q => ∃ p ys, xs = [.ref p] ∧ items H p = some ys ∧ Q (.int ys.length) H) := by
  intro pins s σ H vs us Q I r h
  obtain ⟨p, ys, rfl, hp, q⟩ := h
  rcases items_cases hp with hp | hp
  · exact call_len_seq pins s σ H _ us Q I r ⟨p, ys, rfl, .inl (.inl (.inl hp)), q⟩
  · exact call_len_seq pins s σ H _ us Q I r ⟨p, ys, rfl, .inr (.inl (.inl hp)), q⟩
theorem ix_any : IxR X (fun x y H Q => ∃ p i xs v, x = .ref p ∧ y = .int i ∧ items H p = some xs ∧ atI xs i = some v ∧ Q v H) := by
  intro value slice pins s σ H x y v u Q I rx ry h hs
  obtain ⟨p, i, xs, w, rfl, rfl, hp, hi, q⟩ := h
  rcases items_cases hp with hp | hp
  · exact ix_seq value slice pins s σ H _ _ v u Q I rx ry (.inl ⟨p, xs, i, w, rfl, rfl, .inl (.inl hp), hi, q⟩) hs
  · exact ix_seq value slice pins s σ H _ _ v u Q I rx ry (.inr (.inl ⟨p, xs, i, w, rfl, rfl, .inl (.inl hp), hi, q⟩)) hs
def gTupT (n : Nat) (t : TGs) : TG := fun v σ H Q => ∃ a xs, v = .ref a ∧ H a = some (.tup xs) ∧ xs.length = n ∧ t xs σ H Q
def gUnlT (n : Nat) (t : TGs) : TG := fun v σ H Q => ∃ a xs, v = .ref a ∧ H a = some (.lst xs) ∧ xs.length = n ∧ t xs σ H Q
theorem PG.imp {e : Expr} {t t' : TG} (h : PG X e t) (i : ∀ v σ H Q, t' v σ H Q → t v σ H Q) : PG X e t' := ⟨fun pins s σ H v u Q I r q => h.run pins s σ H v u Q I r (i v σ H Q q)⟩
theorem pg_tupT {es : List Expr} {k : Nat} {t : TGs} {pos : Pos} (n : Nat) (hc : X.calm = true) (h : PGs X es t)
    (hn : (assignEach es X.env).length = n := by rfl) (hst : (assignEach es X.env).findIdx? (·.1) = none := by rfl) : PG X (.Tuple es k pos) (gTupT n t) :=
  G.PG.imp (pg_tup hc h hn hst) fun v σ H Q ⟨a, xs, e, h1, h2, h3⟩ => ⟨a, xs, e, .inl (.inl h1), h2, h3⟩
theorem pg_unlT {es : List Expr} {k : Nat} {t : TGs} {pos : Pos} (n : Nat) (hc : X.calm = true) (h : PGs X es t)
    (hn : (assignEach es X.env).length = n := by rfl) (hst : (assignEach es X.env).findIdx? (·.1) = none := by rfl) : PG X (.Tuple es k pos) (gUnlT n t) :=
  G.PG.imp (pg_unl hc h hn hst) fun v σ H Q ⟨a, xs, e, h1, h2, h3⟩ => ⟨a, xs, e, .inl (.inl h1), h2, h3⟩
end
/-! isinstance, by what a value shows -/
def isI : V → Bool | .int _ => true | .bl _ => true | _ => false
def isB : V → Bool | .bl _ => true | _ => false
def isS : V → Bool | .str _ => true | _ => false
def isT (H : Hp) : V → Bool
  | .ref a => match H a with | some (.tup _) => true | _ => false
  | _ => false
def isL (H : Hp) : V → Bool
  | .ref a => match H a with | some (.lst _) => true | _ => false
  | _ => false
def Kn (H : Hp) : V → Prop
  | .non => True
  | .bl _ => True
  | .int _ => True
  | .str _ => True
  | .ref a => (∃ xs, H a = some (.lst xs)) ∨ (∃ xs, H a = some (.tup xs)) ∨ ∃ kvs, H a = some (.dK kvs)
  | _ => False
section
variable {X : Cx}
theorem isi_any {c : String} {f : Hp → V → Bool} (hf : ∀ (K : PySem.W.Frag) (H : Hp) (x : V), Kn H x → ∃ t, TyX K H x t ∧ PySem.W.kitOne K t (.type c) = some (f H x)) :
    CallR X (.builtin "isinstance") (fun xs H Q => ∃ x, xs = [x, .ty c] ∧ Kn H x ∧ Q (.bl (f H x)) H) := by
  intro pins s σ H vs us Q I r h
  obtain ⟨x, rfl, hk, q⟩ := h
  obtain ⟨t, h1, h2⟩ := hf X.K H x hk
  exact call_isi pins s σ H _ us Q I r ⟨x, .ty c, t, _, f H x, rfl, .ty c, h1, h2, q⟩
theorem kit_int (K : PySem.W.Frag) (H : Hp) (x : V) (h : Kn H x) : ∃ t, TyX K H x t ∧ PySem.W.kitOne K t (.type "int") = some (isI x) := by
  cases x with
  | non => exact ⟨_, .base .non, (kit_ty (r := false) (by decide +kernel) : PySem.W.kitOne K (.type "NoneType") (.type "int") = some false)⟩
  | bl b => exact ⟨_, .base (.bl b), (kit_ty (r := true) (by decide +kernel) : PySem.W.kitOne K (.type "bool") (.type "int") = some true)⟩
  | int i => exact ⟨_, .base (.int i), (kit_ty (r := true) (by decide +kernel) : PySem.W.kitOne K (.type "int") (.type "int") = some true)⟩
  | str z => exact ⟨_, .base (.str z), (kit_ty (r := false) (by decide +kernel) : PySem.W.kitOne K (.type "str") (.type "int") = some false)⟩
  | byt b => exact h.elim
  | flt b => exact h.elim
  | ty n => exact h.elim
  | ref a =>
    rcases h with ⟨xs, e⟩ | ⟨xs, e⟩ | ⟨kvs, e⟩
    · exact ⟨_, .base (.lst e), (kit_ty (r := false) (by decide +kernel) : PySem.W.kitOne K (.type "list") (.type "int") = some false)⟩
    · exact ⟨_, .base (.tup e), (kit_ty (r := false) (by decide +kernel) : PySem.W.kitOne K (.type "tuple") (.type "int") = some false)⟩
    · exact ⟨_, .base (.dK e), (kit_ty (r := false) (by decide +kernel) : PySem.W.kitOne K (.type "dict") (.type "int") = some false)⟩
theorem kit_bool (K : PySem.W.Frag) (H : Hp) (x : V) (h : Kn H x) : ∃ t, TyX K H x t ∧ PySem.W.kitOne K t (.type "bool") = some (isB x) := by
  cases x with
  | non => exact ⟨_, .base .non, (kit_ty (r := false) (by decide +kernel) : PySem.W.kitOne K (.type "NoneType") (.type "bool") = some false)⟩
  | bl b => exact ⟨_, .base (.bl b), (kit_ty (r := true) (by decide +kernel) : PySem.W.kitOne K (.type "bool") (.type "bool") = some true)⟩
  | int i => exact ⟨_, .base (.int i), (kit_ty (r := false) (by decide +kernel) : PySem.W.kitOne K (.type "int") (.type "bool") = some false)⟩
  | str z => exact ⟨_, .base (.str z), (kit_ty (r := false) (by decide +kernel) : PySem.W.kitOne K (.type "str") (.type "bool") = some false)⟩
  | byt b => exact h.elim
  | flt b => exact h.elim
  | ty n => exact h.elim
  | ref a =>
    rcases h with ⟨xs, e⟩ | ⟨xs, e⟩ | ⟨kvs, e⟩
    · exact ⟨_, .base (.lst e), (kit_ty (r := false) (by decide +kernel) : PySem.W.kitOne K (.type "list") (.type "bool") = some false)⟩
    · exact ⟨_, .base (.tup e), (kit_ty (r := false) (by decide +kernel) : PySem.W.kitOne K (.type "tuple") (.type "bool") = some false)⟩
    · exact ⟨_, .base (.dK e), (kit_ty (r := false) (by decide +kernel) : PySem.W.kitOne K (.type "dict") (.type "bool") = some false)⟩
theorem kit_str (K : PySem.W.Frag) (H : Hp) (x : V) (h : Kn H x) : ∃ t, TyX K H x t ∧ PySem.W.kitOne K t (.type "str") = some (isS x) := by
  cases x with
  | non => exact ⟨_, .base .non, (kit_ty (r := false) (by decide +kernel) : PySem.W.kitOne K (.type "NoneType") (.type "str") = some false)⟩
  | bl b => exact ⟨_, .base (.bl b), (kit_ty (r := false) (by decide +kernel) : PySem.W.kitOne K (.type "bool") (.type "str") = some false)⟩
  | int i => exact ⟨_, .base (.int i), (kit_ty (r := false) (by decide +kernel) : PySem.W.kitOne K (.type "int") (.type "str") = some false)⟩
  | str z => exact ⟨_, .base (.str z), (kit_ty (r := true) (by decide +kernel) : PySem.W.kitOne K (.type "str") (.type "str") = some true)⟩
  | byt b => exact h.elim
  | flt b => exact h.elim
  | ty n => exact h.elim
  | ref a =>
    rcases h with ⟨xs, e⟩ | ⟨xs, e⟩ | ⟨kvs, e⟩
    · exact ⟨_, .base (.lst e), (kit_ty (r := false) (by decide +kernel) : PySem.W.kitOne K (.type "list") (.type "str") = some false)⟩
    · exact ⟨_, .base (.tup e), (kit_ty (r := false) (by decide +kernel) : PySem.W.kitOne K (.type "tuple") (.type "str") = some false)⟩
    · exact ⟨_, .base (.dK e), (kit_ty (r := false) (by decide +kernel) : PySem.W.kitOne K (.type "dict") (.type "str") = some false)⟩
theorem kit_tup (K : PySem.W.Frag) (H : Hp) (x : V) (h : Kn H x) : ∃ t, TyX K H x t ∧ PySem.W.kitOne K t (.type "tuple") = some (isT H x) := by
  cases x with
  | non => exact ⟨_, .base .non, (kit_ty (r := false) (by decide +kernel) : PySem.W.kitOne K (.type "NoneType") (.type "tuple") = some false)⟩
  | bl b => exact ⟨_, .base (.bl b), (kit_ty (r := false) (by decide +kernel) : PySem.W.kitOne K (.type "bool") (.type "tuple") = some false)⟩
  | int i => exact ⟨_, .base (.int i), (kit_ty (r := false) (by decide +kernel) : PySem.W.kitOne K (.type "int") (.type "tuple") = some false)⟩
  | str z => exact ⟨_, .base (.str z), (kit_ty (r := false) (by decide +kernel) : PySem.W.kitOne K (.type "str") (.type "tuple") = some false)⟩
  | byt b => exact h.elim
  | flt b => exact h.elim
  | ty n => exact h.elim
  | ref a =>
    rcases h with ⟨xs, e⟩ | ⟨xs, e⟩ | ⟨kvs, e⟩
    · exact ⟨_, .base (.lst e), by simp only [isT, e]; exact (kit_ty (r := false) (by decide +kernel) : PySem.W.kitOne K (.type "list") (.type "tuple") = some false)⟩
    · exact ⟨_, .base (.tup e), by simp only [isT, e]; exact (kit_ty (r := true) (by decide +kernel) : PySem.W.kitOne K (.type "tuple") (.type "tuple") = some true)⟩
    · exact ⟨_, .base (.dK e), by simp only [isT, e]; exact (kit_ty (r := false) (by decide +kernel) : PySem.W.kitOne K (.type "dict") (.type "tuple") = some false)⟩
theorem kit_lst (K : PySem.W.Frag) (H : Hp) (x : V) (h : Kn H x) : ∃ t, TyX K H x t ∧ PySem.W.kitOne K t (.type "list") = some (isL H x) := by
  cases x with
  | non => exact ⟨_, .base .non, (kit_ty (r := false) (by decide +kernel) : PySem.W.kitOne K (.type "NoneType") (.type "list") = some false)⟩
  | bl b => exact ⟨_, .base (.bl b), (kit_ty (r := false) (by decide +kernel) : PySem.W.kitOne K (.type "bool") (.type "list") = some false)⟩
  | int i => exact ⟨_, .base (.int i), (kit_ty (r := false) (by decide +kernel) : PySem.W.kitOne K (.type "int") (.type "list") = some false)⟩
  | str z => exact ⟨_, .base (.str z), (kit_ty (r := false) (by decide +kernel) : PySem.W.kitOne K (.type "str") (.type "list") = some false)⟩
  | byt b => exact h.elim
  | flt b => exact h.elim
  | ty n => exact h.elim
  | ref a =>
    rcases h with ⟨xs, e⟩ | ⟨xs, e⟩ | ⟨kvs, e⟩
    · exact ⟨_, .base (.lst e), by simp only [isL, e]; exact (kit_ty (r := true) (by decide +kernel) : PySem.W.kitOne K (.type "list") (.type "list") = some true)⟩
    · exact ⟨_, .base (.tup e), by simp only [isL, e]; exact (kit_ty (r := false) (by decide +kernel) : PySem.W.kitOne K (.type "tuple") (.type "list") = some false)⟩
    · exact ⟨_, .base (.dK e), by simp only [isL, e]; exact (kit_ty (r := false) (by decide +kernel) : PySem.W.kitOne K (.type "dict") (.type "list") = some false)⟩
theorem is_int : CallR X (.builtin "isinstance") (fun xs H Q => ∃ x, xs = [x, .ty "int"] ∧ Kn H x ∧ Q (.bl (isI x)) H) := isi_any (f := fun _ x => isI x) kit_int
theorem is_bool : CallR X (.builtin "isinstance") (fun xs H Q => ∃ x, xs = [x, .ty "bool"] ∧ Kn H x ∧ Q (.bl (isB x)) H) := isi_any (f := fun _ x => isB x) kit_bool
theorem is_str : CallR X (.builtin "isinstance") (fun xs H Q => ∃ x, xs = [x, .ty "str"] ∧ Kn H x ∧ Q (.bl (isS x)) H) := isi_any (f := fun _ x => isS x) kit_str
theorem is_tup : CallR X (.builtin "isinstance") (fun xs H Q => ∃ x, xs = [x, .ty "tuple"] ∧ Kn H x ∧ Q (.bl (isT H x)) H) := isi_any (f := isT) kit_tup
theorem is_lst : CallR X (.builtin "isinstance") (fun xs H Q => ∃ x, xs = [x, .ty "list"] ∧ Kn H x ∧ Q (.bl (isL H x)) H) := isi_any (f := isL) kit_lst
theorem Kn_sv {H : Hp} {l : List Nat} : Kn H (sv l) = True := rfl
theorem Kn_int {H : Hp} {i : Int} : Kn H (.int i) = True := rfl
theorem Kn_bl {H : Hp} {i : Bool} : Kn H (.bl i) = True := rfl
theorem Kn_non {H : Hp} : Kn H .non = True := rfl
theorem isI_int {i : Int} : isI (.int i) = true := rfl
theorem isI_bl {i : Bool} : isI (.bl i) = true := rfl
theorem isI_sv {l : List Nat} : isI (sv l) = false := rfl
theorem isI_ref {a : Addr} : isI (.ref a) = false := rfl
theorem isI_non : isI .non = false := rfl
theorem isB_int {i : Int} : isB (.int i) = false := rfl
theorem isB_bl {i : Bool} : isB (.bl i) = true := rfl
theorem isB_sv {l : List Nat} : isB (sv l) = false := rfl
theorem isB_ref {a : Addr} : isB (.ref a) = false := rfl
theorem isB_non : isB .non = false := rfl
theorem isS_int {i : Int} : isS (.int i) = false := rfl
theorem isS_bl {i : Bool} : isS (.bl i) = false := rfl
theorem isS_sv {l : List Nat} : isS (sv l) = true := rfl
theorem isS_ref {a : Addr} : isS (.ref a) = false := rfl
theorem isS_non : isS .non = false := rfl
theorem isT_int {H : Hp} {i : Int} : isT H (.int i) = false := rfl
theorem isT_bl {H : Hp} {i : Bool} : isT H (.bl i) = false := rfl
theorem isT_sv {H : Hp} {l : List Nat} : isT H (sv l) = false := rfl
theorem isT_non {H : Hp} : isT H .non = false := rfl
theorem isL_int {H : Hp} {i : Int} : isL H (.int i) = false := rfl
theorem isL_bl {H : Hp} {i : Bool} : isL H (.bl i) = false := rfl
theorem isL_sv {H : Hp} {l : List Nat} : isL H (sv l) = false := rfl
theorem isL_non {H : Hp} : isL H .non = false := rfl
theorem isT_tup {H : Hp} {a : Addr} {xs : List V} (h : H a = some (.tup xs)) : isT H (.ref a) = true := by simp only [isT, h]
theorem isT_lst {H : Hp} {a : Addr} {xs : List V} (h : H a = some (.lst xs)) : isT H (.ref a) = false := by simp only [isT, h]
theorem isL_tup {H : Hp} {a : Addr} {xs : List V} (h : H a = some (.tup xs)) : isL H (.ref a) = false := by simp only [isL, h]
theorem isL_lst {H : Hp} {a : Addr} {xs : List V} (h : H a = some (.lst xs)) : isL H (.ref a) = true := by simp only [isL, h]
theorem Kn_tup {H : Hp} {a : Addr} {xs : List V} (h : H a = some (.tup xs)) : Kn H (.ref a) := .inr (.inl ⟨xs, h⟩)
theorem Kn_lst {H : Hp} {a : Addr} {xs : List V} (h : H a = some (.lst xs)) : Kn H (.ref a) := .inl ⟨xs, h⟩
theorem scal_bl {a b : Bool} : scal (.bl a) (.bl b) = true := rfl
theorem scal_int {a b : Int} : scal (.int a) (.int b) = true := rfl
theorem scal_sv {a b : List Nat} : scal (sv a) (sv b) = true := rfl
theorem sv_str {l : List Nat} {x : Str} : (sv l = V.str x) = (Str.mk l.toArray = x) := propext ⟨fun h => V.str.inj h, fun h => by rw [← h]; rfl⟩
theorem call_allL (hc : X.calm = true) : CallR X (.builtin "all") (fun vs H Q => ∃ (a : Addr) (bs : List Bool), vs = [.ref a] ∧ H a = some (.lst (bs.map V.bl)) ∧ Q (.bl (bs.all id)) H) := by
  intro pins s σ H vs us Q I r h
  obtain ⟨a, bs, rfl, ha, q⟩ := h
  exact cr_all hc pins s σ H _ us Q I r ⟨a, bs, rfl, .inl (.inl ha), q⟩
theorem call_anyL (hc : X.calm = true) : CallR X (.builtin "any") (fun vs H Q => ∃ (a : Addr) (bs : List Bool), vs = [.ref a] ∧ H a = some (.lst (bs.map V.bl)) ∧ Q (.bl (bs.any id)) H) := by
  intro pins s σ H vs us Q I r h
  obtain ⟨a, bs, rfl, ha, q⟩ := h
  exact cr_any hc pins s σ H _ us Q I r ⟨a, bs, rfl, .inl (.inl ha), q⟩
end
theorem ite_i {c A B : Prop} [Decidable c] (h1 : c → A) (h2 : ¬ c → B) : if c then A else B := by
  by_cases h : c
  · rw [if_pos h]; exact h1 h
  · rw [if_neg h]; exact h2 h
theorem atI_of {α : Type} {xs : List α} {i : Int} {v : α} (h : xs[i.toNat]? = some v) (h0 : 0 ≤ i) : atI xs i = some v := by
  have e : i = ((i.toNat : Nat) : Int) := by omega
  rw [e]; exact atI_nat h
/-! a def of the top -/
structure DefC (K : PySem.W.Frag) (mg : Str → Option Value) (x : Str) (st : Stmt) (ps : List Str) where
  f : Addr
  fd : FuncData
  g : mg x = some (.ref f)
  F : Fun K x x st f fd
  b : Binds K fd ps []
  bt : ∀ (s : Shared) (us : List Value), us.length = ps.length → BindsTo s fd ⟨us, []⟩ (ps.zip us)
abbrev DefC.Ok {K : PySem.W.Frag} {mg : Str → Option Value} {x : Str} {st : Stmt} {ps : List Str} (D : DefC K mg x st ps) (P : Program) (w : World) (base : Heap) (CX : CXT) (k : Nat) (sp : Sp) : Prop := FnOk P w K mg base CX k D.f D.fd ps sp
def mkDef {K : PySem.W.Frag} {mg : Str → Option Value} {h : Heap} {x : Str} {st : Stmt} {ps : List Str} {f : Addr} {oc : Value} {od an : Option Addr} {osl : Array (Option Value)} {kV doc pm cdv ct : Value} (KX : K.In h) (G : h.Ns mainGlobals mg)
    (a : PySem.W.nsIn K mainGlobals x = some (some (.ref f))) (l : K.lookup f = some ⟨oc, od, .func (PySem.W.fnOf x x (defArgs st) (defBody st) (defScope st) .none kV doc pm an cdv ct), osl⟩)
    (c : PySem.W.codeIn K cdv x = true) (k : PySem.W.keepIn K (.ref f) = true)
    (hb : ∀ (kV doc pm : Value) (an : Option Addr) (cdv ct : Value) (us : List Value), us.length = ps.length → bindArgs (PySem.W.fnOf x x (defArgs st) (defBody st) (defScope st) .none kV doc pm an cdv ct) ⟨us, []⟩ = pure (ps.zip us)) : DefC K mg x st ps :=
  ⟨f, _, PySem.W.mg_of KX G a, fun_mk (st := st) l c k, (fun_mk (st := st) l c k).binds hb, fun s us hl => .of_eq (hb kV doc pm an cdv ct us hl)⟩
section
variable {X : Cx} {x : Str} {st : Stmt} {ps : List Str} {k : Nat} {sp : Sp} {p pos : Pos} {e : Expr} {es : List Expr} {t : TA}
theorem pe_callD (D : DefC X.K X.mg x st ps) (F : FnOk X.prog X.w X.K X.mg X.base CX0 k D.f D.fd ps sp) (hr : Room k X.A) (ha : PA X (e :: es) t) (hg : Gl X x := by rfl) (hdb : (x == ("__debug__" : Str)) = false := by decide)
    (he : starEach (e :: es) X.env = (false, eval e X.env) :: starEach es X.env := by rfl) (hpl : (backTo pos (starEach es X.env)).any (·.1) = false := by rfl) : PE X (.Call (.Name x p) (e :: es) [] pos) (tCall sp [] E0 t) :=
  pe_call F hr hg D.g D.F.kp D.b .nil pass0 ha hdb he hpl
end
end G

namespace G
open PySem PySem.Spec L2
/-! the stream of drawn numbers: a list [script, cell, place] -/
def Strm (H : Hp) (st : Addr) : Prop := ∃ (sc : Addr) (c k : Int) (ns : List Int), H st = some (.lst [.ref sc, .int c, .int k]) ∧ H sc = some (.lst (ns.map V.int)) ∧ 0 ≤ c ∧ 0 ≤ k
/-- all but the stream is as it was -/
structure Adv (st : Addr) (H H' : Hp) : Prop where
  k : ∀ b o, b ≠ st → H b = some o → H' b = some o
  s : Strm H' st
  h : ∀ sc r, H st = some (.lst (sc :: r)) → ∃ r', H' st = some (.lst (sc :: r'))
theorem Strm.ne {H : Hp} {st sc : Addr} {c k : Int} {ns : List Int} (h1 : H st = some (.lst [.ref sc, .int c, .int k])) (h2 : H sc = some (.lst (ns.map V.int))) : sc ≠ st := by
  intro e
  rw [e, h1] at h2
  have h3 := HO.lst.inj (Option.some.inj h2)
  cases ns with
  | nil => cases h3
  | cons n r => cases h3
theorem Strm.same {H H' : Hp} {st : Addr} (h : Strm H st) (e : Same H H') : Strm H' st := by
  obtain ⟨sc, c, k, ns, h1, h2, h3, h4⟩ := h
  exact ⟨sc, c, k, ns, e _ _ h1, e _ _ h2, h3, h4⟩
theorem Strm.adv {H H' : Hp} {st : Addr} (h : Strm H st) (e : Same H H') : Adv st H H' := ⟨fun b o _ q => e b o q, h.same e, fun sc r q => ⟨r, e _ _ q⟩⟩
theorem Adv.refl {H : Hp} {st : Addr} (h : Strm H st) : Adv st H H := ⟨fun _ _ _ q => q, h, fun sc r q => ⟨r, q⟩⟩
theorem Adv.trans {H H1 H2 : Hp} {st : Addr} (a : Adv st H H1) (b : Adv st H1 H2) : Adv st H H2 := ⟨fun c o n q => b.1 c o n (a.1 c o n q), b.2, fun sc r q => by
  obtain ⟨r', q'⟩ := a.h sc r q
  exact b.h sc r' q'⟩
theorem Adv.same {H H1 H2 : Hp} {st : Addr} (a : Adv st H H1) (b : Same H1 H2) : Adv st H H2 := ⟨fun c o n q => b c o (a.1 c o n q), a.2.same b, fun sc r q => by
  obtain ⟨r', q'⟩ := a.h sc r q
  exact ⟨r', b _ _ q'⟩⟩
theorem Adv.free {H H' : Hp} {st b : Addr} (a : Adv st H H') (h : H' b = none) : H b = none := by
  cases e : H b with
  | none => rfl
  | some o =>
    by_cases n : b = st
    · obtain ⟨sc, c, k, ns, h1, _⟩ := a.2
      rw [n, h1] at h; cases h
    · rw [a.1 b o n e] at h; cases h
/-- what is new since H may be changed -/
theorem Adv.set {H H' : Hp} {st p : Addr} {o : HO} (a : Adv st H H') (hS : Strm H st) (np : H p = none) : Adv st H (upd H' p o) := by
  obtain ⟨sc, c, k, ns, h1, h2, _, _⟩ := hS
  have hst : p ≠ st := fun e => by rw [e, h1] at np; cases np
  have hsc : sc ≠ p := fun e => by rw [e, np] at h2; cases h2
  obtain ⟨r', q⟩ := a.h _ _ h1
  obtain ⟨sc2, c2, k2, ns2, g1, g2, g3, g4⟩ := a.s
  rw [q] at g1
  have e1 := List.cons.inj (HO.lst.inj (Option.some.inj g1))
  have e2 : sc = sc2 := V.ref.inj e1.1
  subst e2
  refine ⟨fun b o hb e => by rw [upd_ne (ne_of_none e np)]; exact a.k b o hb e, ⟨sc, c2, k2, ns2, by rw [upd_ne (Ne.symm hst), q, e1.2], by rw [upd_ne hsc]; exact g2, g3, g4⟩, fun sc3 r3 q3 => ?_⟩
  obtain ⟨r4, q4⟩ := a.h sc3 r3 q3
  exact ⟨r4, by rw [upd_ne (Ne.symm hst)]; exact q4⟩
theorem Strm.some {H : Hp} {st : Addr} (h : Strm H st) : H st ≠ none := by
  obtain ⟨sc, c, k, ns, h1, _⟩ := h
  rw [h1]; intro z; cases z
theorem Strm.neNew {H : Hp} {st p : Addr} (h : Strm H st) (n : H p = none) : p ≠ st := fun e => h.some (e ▸ n)
theorem same_upd {H : Hp} {p : Addr} {o : HO} (h : H p = none) : Same H (upd H p o) := fun b x e => by
  rw [upd_ne (ne_of_none e h)]
  exact e
/-- a list at p is changed, all else as it was (p is new since H) -/
theorem same_set {H H' : Hp} {p : Addr} {o : HO} (e : Same H H') (n : H p = none) : Same H (upd H' p o) := fun b x q => by
  rw [upd_ne (ne_of_none q n)]
  exact e b x q
def spNext : Sp := fun vs H Q _ => ∃ (st : Addr) (m : Int), vs = [.ref st, .int m] ∧ Strm H st ∧ 0 < m ∧ m < 1073741824 ∧ ∀ (d : Int) (H' : Hp), 0 ≤ d → d < m → Adv st H H' → Q (.int d) H'
def spStream (K : PySem.W.Frag) : Sp := fun vs H Q _ => ∃ (a : Addr) (ns : List Int), vs = [.ref a] ∧ SqL K H a (ns.map V.int) ∧ ∀ (st : Addr) (H' : Hp), Same H H' → H st = none → Strm H' st → Q (.ref st) H'
def spLaw (K : PySem.W.Frag) : Sp := fun vs H Q _ => ∃ (a : Addr) (ns : List Int), vs = [.ref a] ∧ SqL K H a (ns.map V.int) ∧ ∀ H', Q (.bl true) H'
theorem cx_K {CX : CXT} {P : Program} {w : World} {K : PySem.W.Frag} {mg : Str → Option Value} {base : Heap} {N : List Str} {qual : Str} {scope : Scope} {f : Addr} {cd : Value} {A : Around} {outer : List Env} {s : Shared} {H : Hp} {E : XK} : (cxOf CX P w K mg base N qual scope f cd A outer s H E).K = K := rfl
end G

namespace G
/-! mathematics of words as lists of codes -/
def lcp : List Nat → List Nat → List Nat
  | x :: a, y :: b => if x = y then x :: lcp a b else []
  | _, _ => []
/-- the common ending -/
def endL (a b : List Nat) : List Nat := (lcp a.reverse b.reverse).reverse
theorem lcp_self : ∀ a, lcp a a = a
  | [] => rfl
  | x :: a => by simp [lcp, lcp_self a]
theorem lcp_comm : ∀ a b, lcp a b = lcp b a
  | [], [] => rfl
  | [], _ :: _ => rfl
  | _ :: _, [] => rfl
  | x :: a, y :: b => by
    unfold lcp
    by_cases h : x = y
    · subst h; simp [lcp_comm a b]
    · rw [if_neg h, if_neg (fun e => h e.symm)]
theorem lcp_app : ∀ c a b, lcp (c ++ a) (c ++ b) = c ++ lcp a b
  | [], _, _ => rfl
  | x :: c, a, b => by simp [lcp, lcp_app c a b]
theorem lcp_len : ∀ a b, (lcp a b).length ≤ a.length
  | [], _ => by simp [lcp]
  | x :: a, [] => by simp [lcp]
  | x :: a, y :: b => by
    unfold lcp
    split
    · have := lcp_len a b; simp; omega
    · simp
theorem lcp_take : ∀ a b n, n ≤ (lcp a b).length ↔ (n ≤ a.length ∧ n ≤ b.length ∧ a.take n = b.take n)
  | [], b, n => by simp [lcp]; rintro rfl; simp
  | x :: a, [], n => by simp [lcp]; intro h; omega
  | x :: a, y :: b, 0 => by simp
  | x :: a, y :: b, n + 1 => by
    unfold lcp
    by_cases h : x = y
    · subst h
      simp [lcp_take a b n]
    · simp [h]
theorem endL_self (a : List Nat) : endL a a = a := by simp [endL, lcp_self]
theorem endL_comm (a b : List Nat) : endL a b = endL b a := by simp [endL, lcp_comm]
theorem endL_app (a b c : List Nat) : endL (a ++ c) (b ++ c) = endL a b ++ c := by simp [endL, lcp_app]
theorem endL_len (a b : List Nat) : (endL a b).length ≤ a.length := by
  have := lcp_len a.reverse b.reverse
  simpa [endL] using this
theorem endL_trans {a b c : List Nat} {k : Nat} (h1 : k ≤ (endL a b).length) (h2 : k ≤ (endL b c).length) : k ≤ (endL a c).length := by
  simp only [endL, List.length_reverse] at *
  rw [lcp_take] at *
  exact ⟨h1.1, h2.2.1, h1.2.2.trans h2.2.2⟩
theorem endL_drop (a b : List Nat) : endL a b = a.drop (a.length - (endL a b).length) := by
  have h := (lcp_take a.reverse b.reverse (lcp a.reverse b.reverse).length).mp (Nat.le_refl _)
  have e : lcp a.reverse b.reverse = a.reverse.take (lcp a.reverse b.reverse).length := by
    have : ∀ a b : List Nat, lcp a b = a.take (lcp a b).length := by
      intro a
      induction a with
      | nil => intro b; simp [lcp]
      | cons x a ih =>
        intro b
        cases b with
        | nil => simp [lcp]
        | cons y b =>
          unfold lcp
          by_cases h : x = y
          · rw [if_pos h]; simp only [List.length_cons, List.take_succ_cons]; rw [← ih b]
          · rw [if_neg h]; simp
    exact this _ _
  unfold endL
  rw [List.length_reverse]
  conv => lhs; rw [e]
  rw [List.reverse_take]
  simp
/-- the next sign from the end: whether the common ending is longer than n -/
theorem lcp_step {a b : List Nat} {n : Nat} (h : n ≤ (lcp a b).length) : n < (lcp a b).length ↔ ∃ x, a[n]? = some x ∧ b[n]? = some x := by
  have h0 := (lcp_take a b n).mp h
  constructor
  · intro hn
    have h1 := (lcp_take a b (n + 1)).mp hn
    have ha : n < a.length := by omega
    have hb : n < b.length := by omega
    refine ⟨a[n], by simp [ha], ?_⟩
    have e : (a.take (n + 1))[n]? = (b.take (n + 1))[n]? := by rw [h1.2.2]
    rw [List.getElem?_take_of_lt (by omega), List.getElem?_take_of_lt (by omega)] at e
    rw [← e]; simp [ha]
  · rintro ⟨x, ha, hb⟩
    have la : n < a.length := (List.getElem?_eq_some_iff.mp ha).1
    have lb : n < b.length := (List.getElem?_eq_some_iff.mp hb).1
    refine (lcp_take a b (n + 1)).mpr ⟨by omega, by omega, ?_⟩
    rw [List.take_add_one, List.take_add_one, h0.2.2, ha, hb]
theorem rev_get {a : List Nat} {n : Nat} (h : n < a.length) : a.reverse[n]? = a[a.length - 1 - n]? := by
  rw [List.getElem?_reverse h]
theorem endL_step {a b : List Nat} {n : Nat} (h : n ≤ (endL a b).length) : n < (endL a b).length ↔ (n < a.length ∧ n < b.length ∧ a[a.length - 1 - n]? = b[b.length - 1 - n]?) := by
  simp only [endL, List.length_reverse] at *
  rw [lcp_step h]
  constructor
  · rintro ⟨x, ha, hb⟩
    have la : n < a.length := by have := (List.getElem?_eq_some_iff.mp ha).1; simpa using this
    have lb : n < b.length := by have := (List.getElem?_eq_some_iff.mp hb).1; simpa using this
    rw [rev_get la] at ha
    rw [rev_get lb] at hb
    exact ⟨la, lb, ha.trans hb.symm⟩
  · rintro ⟨la, lb, e⟩
    refine ⟨a[a.length - 1 - n], ?_, ?_⟩
    · rw [rev_get la]; simp [show a.length - 1 - n < a.length by omega]
    · rw [rev_get lb, ← e]; simp [show a.length - 1 - n < a.length by omega]
/-- letters a to z, at most 500 -/
def Az (l : List Nat) : Prop := ∀ c ∈ l, 97 ≤ c ∧ c ≤ 122
def Plain (l : List Nat) : Prop := l.length ≤ 500 ∧ Az l
theorem Az.app {a b : List Nat} (h : Az a) (h' : Az b) : Az (a ++ b) := fun c hc => by
  rcases List.mem_append.mp hc with hc | hc
  · exact h c hc
  · exact h' c hc
theorem Az.drop {a : List Nat} (h : Az a) (n : Nat) : Az (a.drop n) := fun c hc => h c (List.mem_of_mem_drop hc)
theorem Az.take {a : List Nat} (h : Az a) (n : Nat) : Az (a.take n) := fun c hc => h c (List.mem_of_mem_take hc)
theorem repL_len (l : List Nat) (k : Int) : (repL l k).length = k.toNat * l.length := by
  unfold repL
  rw [List.length_flatten, List.map_replicate, List.sum_replicate_nat]
theorem repL_mem {l : List Nat} {k : Int} {c : Nat} (h : c ∈ repL l k) : c ∈ l := by
  unfold repL at h
  obtain ⟨x, hx, hc⟩ := List.mem_flatten.mp h
  rw [List.eq_of_mem_replicate hx] at hc
  exact hc
theorem Az.rep {l : List Nat} (h : Az l) (k : Int) : Az (repL l k) := fun c hc => h c (repL_mem hc)
end G

namespace G
open PySem PySem.Spec L2
def spWord : Sp := fun vs H Q _ => ∃ (st : Addr) (L : List Nat) (a b : Int), vs = [.ref st, sv L, .int a, .int b] ∧ Strm H st ∧ L ≠ [] ∧ L.length ≤ 1000000 ∧ 0 ≤ a ∧ a ≤ b ∧ b ≤ 1000000 ∧
  ∀ (wd : List Nat) (H' : Hp), a ≤ wd.length → (wd.length : Int) ≤ b → (∀ c ∈ wd, c ∈ L) → Adv st H H' → Q (sv wd) H'
def spSays : Sp := fun vs H Q _ => ∃ a b : Bool, vs = [.bl a, .bl b] ∧ Q (.bl (decide (a = b))) H
/-! plain data -/
inductive Dat where
  | non | bl (b : Bool) | int (i : Int) | str (l : List Nat) | tup (ds : List Dat) | lst (ds : List Dat)
mutual
def Rp (H : Hp) : Dat → V → Prop
  | .non, v => v = .non
  | .bl b, v => v = .bl b
  | .int i, v => v = .int i
  | .str l, v => v = sv l
  | .tup ds, v => ∃ a xs, v = .ref a ∧ H a = some (.tup xs) ∧ RpL H ds xs
  | .lst ds, v => ∃ a xs, v = .ref a ∧ H a = some (.lst xs) ∧ RpL H ds xs
def RpL (H : Hp) : List Dat → List V → Prop
  | [], xs => xs = []
  | d :: ds, xs => ∃ x r, xs = x :: r ∧ Rp H d x ∧ RpL H ds r
end
mutual
theorem Rp.same {H H' : Hp} (s : Same H H') : ∀ {d : Dat} {v : V}, Rp H d v → Rp H' d v
  | .non, _, h => h
  | .bl _, _, h => h
  | .int _, _, h => h
  | .str _, _, h => h
  | .tup ds, _, h => by
    obtain ⟨a, xs, e, h1, h2⟩ := h
    exact ⟨a, xs, e, s _ _ h1, RpL.same s h2⟩
  | .lst ds, _, h => by
    obtain ⟨a, xs, e, h1, h2⟩ := h
    exact ⟨a, xs, e, s _ _ h1, RpL.same s h2⟩
theorem RpL.same {H H' : Hp} (s : Same H H') : ∀ {ds : List Dat} {xs : List V}, RpL H ds xs → RpL H' ds xs
  | [], _, h => h
  | _ :: _, _, h => by
    obtain ⟨x, r, e, h1, h2⟩ := h
    exact ⟨x, r, e, Rp.same s h1, RpL.same s h2⟩
end
mutual
def Dat.sz : Dat → Nat
  | .tup ds => 1 + Dat.szL ds
  | .lst ds => 1 + Dat.szL ds
  | _ => 1
def Dat.szL : List Dat → Nat
  | [] => 0
  | d :: ds => d.sz + Dat.szL ds
end
theorem Dat.sz_pos : ∀ d : Dat, 0 < d.sz
  | .non => by simp [Dat.sz]
  | .bl _ => by simp [Dat.sz]
  | .int _ => by simp [Dat.sz]
  | .str _ => by simp [Dat.sz]
  | .tup _ => by simp [Dat.sz]; omega
  | .lst _ => by simp [Dat.sz]; omega
theorem Dat.szL_app : ∀ a b, Dat.szL (a ++ b) = Dat.szL a + Dat.szL b
  | [], b => by simp [Dat.szL]
  | d :: a, b => by simp [Dat.szL, Dat.szL_app a b]; omega
theorem RpL.len {H : Hp} : ∀ {ds : List Dat} {xs : List V}, RpL H ds xs → xs.length = ds.length
  | [], _, h => by rw [show _ = [] from h]; rfl
  | _ :: _, _, h => by
    obtain ⟨x, r, rfl, h1, h2⟩ := h
    simp [RpL.len h2]
theorem RpL.get {H : Hp} : ∀ {ds : List Dat} {xs : List V} {i : Nat} {d : Dat}, RpL H ds xs → ds[i]? = some d → ∃ x, xs[i]? = some x ∧ Rp H d x
  | [], _, _, _, _, e => by simp at e
  | d' :: ds, _, 0, d, h, e => by
    obtain ⟨x, r, rfl, h1, h2⟩ := h
    simp at e; subst e
    exact ⟨x, rfl, h1⟩
  | d' :: ds, _, i + 1, d, h, e => by
    obtain ⟨x, r, rfl, h1, h2⟩ := h
    simpa using RpL.get h2 (by simpa using e)
theorem Rp.kn {H : Hp} : ∀ {d : Dat} {v : V}, Rp H d v → Kn H v
  | .non, _, h => by rw [show _ = V.non from h]; trivial
  | .bl _, _, h => by rw [show _ = V.bl _ from h]; trivial
  | .int _, _, h => by rw [show _ = V.int _ from h]; trivial
  | .str _, _, h => by rw [show _ = sv _ from h]; trivial
  | .tup ds, _, h => by
    obtain ⟨a, xs, rfl, h1, h2⟩ := h
    exact .inr (.inl ⟨_, h1⟩)
  | .lst ds, _, h => by
    obtain ⟨a, xs, rfl, h1, h2⟩ := h
    exact .inl ⟨_, h1⟩
/-- the list of pairs that are to be compared: each of one datum twice (the data as in H0, the pairs as in H) -/
def Pr (H0 : Hp) (L : Addr) (H : Hp) (p : V) (d : Dat) : Prop := ∃ t x y, p = .ref t ∧ t ≠ L ∧ H t = some (.tup [x, y]) ∧ Rp H0 d x ∧ Rp H0 d y
def Prs (H0 : Hp) (L : Addr) (H : Hp) : List V → List Dat → Prop
  | [], ds => ds = []
  | p :: ps, ds => ∃ d r, ds = d :: r ∧ Pr H0 L H p d ∧ Prs H0 L H ps r
theorem Prs.app {H0 : Hp} {L : Addr} {H : Hp} : ∀ {ps qs : List V} {ds es : List Dat}, Prs H0 L H ps ds → Prs H0 L H qs es → Prs H0 L H (ps ++ qs) (ds ++ es)
  | [], _, _, _, h, h' => by rw [show _ = [] from h]; exact h'
  | _ :: _, _, _, _, h, h' => by
    obtain ⟨d, r, rfl, h1, h2⟩ := h
    exact ⟨d, r ++ _, rfl, h1, Prs.app h2 h'⟩
theorem Prs.split {H0 : Hp} {L : Addr} {H : Hp} : ∀ {ps qs : List V} {ds : List Dat}, Prs H0 L H (ps ++ qs) ds → ∃ a b, ds = a ++ b ∧ Prs H0 L H ps a ∧ Prs H0 L H qs b
  | [], _, ds, h => ⟨[], ds, rfl, rfl, h⟩
  | p :: ps, qs, ds, h => by
    obtain ⟨d, r, rfl, h1, h2⟩ := h
    obtain ⟨a, b, rfl, h3, h4⟩ := Prs.split h2
    exact ⟨d :: a, b, rfl, ⟨d, a, rfl, h1, h3⟩, h4⟩
theorem Prs.last {H0 : Hp} {L : Addr} {H : Hp} {ps : List V} {ds : List Dat} (h : Prs H0 L H ps ds) : (ps = [] ∧ ds = []) ∨ ∃ ps' p ds' d, ps = ps' ++ [p] ∧ ds = ds' ++ [d] ∧ ∃ t x y, p = .ref t ∧ t ≠ L ∧ H t = some (.tup [x, y]) ∧ Rp H0 d x ∧ Rp H0 d y ∧ Prs H0 L H ps' ds' := by
  rcases List.eq_nil_or_concat ps with rfl | ⟨ps', p, rfl⟩
  · exact .inl ⟨rfl, h⟩
  · have h := (show Prs H0 L H (ps' ++ [p]) ds by rw [← List.concat_eq_append]; exact h)
    obtain ⟨a, b, rfl, h1, d, r, rfl, ⟨t, x, y, e1, e2, e3, e4, e5⟩, hr⟩ := Prs.split h
    rw [show r = [] from hr]
    exact .inr ⟨ps', p, a, d, List.concat_eq_append, rfl, t, x, y, e1, e2, e3, e4, e5, h1⟩
theorem Prs.keep {H0 : Hp} {L : Addr} {H H' : Hp} (s : ∀ b o, b ≠ L → H b = some o → H' b = some o) : ∀ {ps : List V} {ds : List Dat}, Prs H0 L H ps ds → Prs H0 L H' ps ds
  | [], _, h => h
  | _ :: _, _, h => by
    obtain ⟨d, r, rfl, ⟨t, x, y, e1, e2, e3, e4, e5⟩, h2⟩ := h
    exact ⟨d, r, rfl, ⟨t, x, y, e1, e2, s _ _ e2 e3, e4, e5⟩, Prs.keep s h2⟩
theorem Prs.keep0 {H0 : Hp} {L : Addr} {H H' : Hp} (s : ∀ b xs, H b = some (.tup xs) → H' b = some (.tup xs)) : ∀ {ps : List V} {ds : List Dat}, Prs H0 L H ps ds → Prs H0 L H' ps ds
  | [], _, h => h
  | _ :: _, _, h => by
    obtain ⟨d, r, rfl, ⟨t, x, y, e1, e2, e3, e4, e5⟩, h2⟩ := h
    exact ⟨d, r, rfl, ⟨t, x, y, e1, e2, s _ _ e3, e4, e5⟩, Prs.keep0 s h2⟩
theorem Prs.len {H0 : Hp} {L : Addr} {H : Hp} : ∀ {ps : List V} {ds : List Dat}, Prs H0 L H ps ds → ps.length = ds.length
  | [], _, h => by rw [show _ = [] from h]; rfl
  | _ :: _, _, h => by
    obtain ⟨d, r, rfl, _, h2⟩ := h
    simp [Prs.len h2]
theorem Dat.szL_len : ∀ ds : List Dat, ds.length ≤ Dat.szL ds
  | [] => Nat.le_refl _
  | d :: ds => by
    have h1 := Dat.szL_len ds
    have h2 := Dat.sz_pos d
    simp only [Dat.szL, List.length_cons]; omega
def spSame : Sp := fun vs H Q _ => ∃ (x y : V) (d : Dat), vs = [x, y] ∧ Rp H d x ∧ Rp H d y ∧ d.sz ≤ 1000000 ∧ ∀ H', Same H H' → Q (.bl true) H'
end G

namespace G
open PySem PySem.Spec L2
/-- the order of words: by length, then letter by letter -/
def wlt (a b : List Nat) : Prop := a.length < b.length ∨ (a.length = b.length ∧ a < b)
instance (a b : List Nat) : Decidable (wlt a b) := by unfold wlt; exact inferInstance
section
variable {X : Cx}
/-- (len, text) < (len, text) -/
theorem op_ltK (hu : X.A.units < cLine) : OpR X (compareOp .Lt) (fun x y H Q => ∃ (p q : Addr) (a b : List Nat), x = .ref p ∧ y = .ref q ∧ H p = some (.tup [.int a.length, sv a]) ∧ H q = some (.tup [.int b.length, sv b]) ∧ Q (.bl (decide (wlt a b))) H) := by
  intro pins s σ H x y v u Q I rx ry h
  obtain ⟨p, q, a, b, rfl, rfl, hp, hq, k⟩ := h
  cases rx
  cases ry
  obtain ⟨its, r1, p1, _⟩ := I.tuple (.inl (.inl hp))
  obtain ⟨its2, r2, p2, _⟩ := I.tuple (.inl (.inl hq))
  cases r1 with
  | cons ra r1 =>
  cases r1 with
  | cons rb r1 =>
  cases r1
  cases r2 with
  | cons rc r2 =>
  cases r2 with
  | cons rd r2 =>
  cases r2
  obtain ⟨t1, rfl⟩ := ra
  obtain ⟨t2, rfl⟩ := rb
  obtain ⟨t3, rfl⟩ := rc
  obtain ⟨t4, rfl⟩ := rd
  have R := Ob.RcOp.tuples_lt (A := X.A) (s := s) (e := fun j => if j = 0 then decide (a.length = b.length) else decide (a = b)) (r := fun j => if j = 0 then decide (a.length < b.length) else decide (a < b)) p1 p2 hu (fun j h1 h2 => by
    match j, h1 with
    | 0, _ =>
      have z : ((a.length : Int) == (b.length : Int)) = decide (a.length = b.length) := by
        by_cases q : a.length = b.length
        · rw [decide_eq_true q]; exact beq_iff_eq.mpr (by omega)
        · rw [decide_eq_false q]; exact beq_eq_false_iff_ne.mpr (by omega)
      simp only [if_pos]
      rw [← z]
      exact SeqAt.EqAt.int_int _ _ _ _
    | 1, _ =>
      have z : ((Str.mk a.toArray) == (Str.mk b.toArray)) = decide (a = b) := by
        by_cases q : a = b
        · rw [decide_eq_true q, q]; exact beq_iff_eq.mpr rfl
        · rw [decide_eq_false q]; exact beq_eq_false_iff_ne.mpr (fun e => q (sv_inj.mp (congrArg V.str e)))
      show SeqAt.EqAt _ _ _ _ (if 1 = 0 then _ else decide (a = b))
      rw [if_neg (by decide), ← z]
      exact SeqAt.EqAt.str_str _ _ _ _
    | j + 2, h => exact absurd h (by simp)) (fun j h1 h2 _ => by
    match j, h1 with
    | 0, _ =>
      have z : decide ((a.length : Int) < (b.length : Int)) = decide (a.length < b.length) := decide_eq_decide.mpr (by omega)
      simp only [if_pos]
      rw [← z]
      exact Ob.RcOp.lt_int _ _ _ _
    | 1, _ =>
      show Ob.RcOp .Lt _ _ _ _ (if 1 = 0 then _ else decide (a < b))
      rw [if_neg (by decide)]
      exact fun _ _ _ _ h => PyProof.Rows.lt_str h
    | j + 2, h => exact absurd h (by simp))
  have e : Ob.lexAt (fun j => if j = 0 then decide (a.length = b.length) else decide (a = b)) (fun j => if j = 0 then decide (a.length < b.length) else decide (a < b)) (decide (2 < 2)) 0 2 = decide (wlt a b) := by
    simp only [Ob.lexAt_succ, Ob.lexAt_zero]
    unfold wlt
    by_cases h1 : a.length = b.length
    · by_cases h2 : a = b
      · subst h2; simp
      · simp [h1, h2]
    · simp [h1]
  have z : wpAny (model X.prog X.w) X.A (compareOp .Lt (.ref p) (.ref q)) (EP X pins σ Q) X.xe s := R X.prog X.w X.xe (EP X pins σ Q) ⟨.bl _, H, I, rfl, by
    have e2 : ∀ (u v w x : Value), Ob.lexAt (fun j => if j = 0 then decide (a.length = b.length) else decide (a = b)) (fun j => if j = 0 then decide (a.length < b.length) else decide (a < b)) (decide ([u, v].toArray.size < [w, x].toArray.size)) 0 (min [u, v].toArray.size [w, x].toArray.size) = decide (wlt a b) := fun u v w x => e
    rw [e2]; exact k⟩
  exact z
/-- min of three ints -/
theorem call_min3I (hc : X.calm = true) : CallR X (.builtin "min") (fun xs H Q => ∃ i j k, xs = [.int i, .int j, .int k] ∧ Q (.int (if k < (if j < i then j else i) then k else (if j < i then j else i))) H) := by
  intro pins s σ H vs us Q I r h
  obtain ⟨i, j, k, rfl, q⟩ := h
  refine call_min3Nu hc pins s σ H _ us Q I r ⟨_, _, _, _, rfl, ?_, q⟩
  by_cases h1 : j < i
  · by_cases h2 : k < j
    · simp [nuMin3, nuMin2, nuLt, nuCB, h1, h2]
    · simp [nuMin3, nuMin2, nuLt, nuCB, h1, h2]
  · by_cases h2 : k < i
    · simp [nuMin3, nuMin2, nuLt, nuCB, h1, h2]
    · simp [nuMin3, nuMin2, nuLt, nuCB, h1, h2]
/-- text.join(list of texts) -/
theorem Txtjoin (a : List Nat) (ys : List (List Nat)) : Txt.join ⟨a.toArray⟩ (ys.map fun l => ⟨l.toArray⟩) = ⟨(TL.joinL a ys).toArray⟩ := SX.join_S a ys
theorem joinL_nil : ∀ ys : List (List Nat), TL.joinL [] ys = ys.flatten
  | [] => rfl
  | [p] => by simp [TL.joinL]
  | p :: q :: r => by
    have ih := joinL_nil (q :: r)
    simp only [TL.joinL, List.nil_append, ih, List.flatten_cons]
def rJoinS : V → List V → Hp → VK → Prop := fun x xs H Q => ∃ p, ∃ ys : List (List Nat), x = sv [] ∧ xs = [.ref p] ∧ H p = some (.lst (ys.map sv)) ∧ (ys.map (·.length)).sum ≤ 16777216 ∧ Q (sv ys.flatten) H
theorem mt_joinS : MtR X "str.join" rJoinS := by
  intro pins s σ H x xs v us Q I rx rs h
  obtain ⟨p, ys, rfl, rfl, hp, hl, q⟩ := h
  refine mt_join pins s σ H _ _ v us Q I rx rs ⟨_, p, ys.map SX.S, rfl, rfl, .inl (.inl (.inl ?_)), ?_, ?_⟩
  · rw [hp, List.map_map]; rfl
  · rw [SX.lens, List.length_map]
    show _ + _ * (SX.S []).length ≤ _
    rw [SX.S_len]; simpa using hl
  · have e := SX.join_S [] ys
    rw [joinL_nil] at e
    show Q (.str (Txt.join (SX.S []) (ys.map SX.S))) H
    rw [e]; exact q
theorem pe_joinS {o e : Expr} {to te : TE} {apos pos : Pos} (ho : PE X o to) (he : PE X e te) (hs : starEach [e] X.env = [(false, eval e X.env)] := by rfl) (hbase : attributeBase o "join" X.env (eval o X.env) = eval o X.env := by rfl) (hline : (apos.endLine == pos.line) = true := by rfl) :
    PE X (.Call (.Attribute o "join" apos) [e] [] pos) (tM1 rJoinS to te) := pe_m1 F.slot_str_join F.type_str_join mt_joinS ho he hs hbase hline
/-- sorted(list of one-sign texts) -/
theorem call_sorted1 : CallR X (.builtin "sorted") (fun vs H Q => ∃ (a : Addr) (cs : List Nat), vs = [V.ref a] ∧ H a = some (.lst (cs.map fun c => sv [c])) ∧ cs.length < 64 ∧
    ∀ (ys : List Nat) (p : Addr), ys.Perm cs → ys.Pairwise (· ≤ ·) → H p = none → Q (.ref p) (upd H p (.lst (ys.map fun c => sv [c])))) := by
  intro pins s σ H vs us Q I r h
  obtain ⟨a, cs, rfl, ha, h64, q⟩ := h
  refine cr_sortedS pins s σ H _ us Q I r ⟨a, cs.map fun c => ⟨[c].toArray⟩, rfl, ?_, by simpa using h64, fun ys p hp hs hn => ?_⟩
  · refine .inl (.inl ?_)
    rw [ha, List.map_map]; rfl
  · have hm : ∀ y ∈ ys, ∃ c, y = (⟨[c].toArray⟩ : Str) := fun y hy => by
      obtain ⟨c, _, e⟩ := List.mem_map.mp (hp.mem_iff.mp hy)
      exact ⟨c, e.symm⟩
    obtain ⟨zs, hz⟩ : ∃ zs : List Nat, ys = zs.map fun c => (⟨[c].toArray⟩ : Str) := by
      clear hp hs
      induction ys with
      | nil => exact ⟨[], rfl⟩
      | cons y r ih =>
        obtain ⟨c, rfl⟩ := hm y List.mem_cons_self
        obtain ⟨zs, rfl⟩ := ih fun y hy => hm y (List.mem_cons_of_mem _ hy)
        exact ⟨c :: zs, rfl⟩
    subst hz
    have hperm : zs.Perm cs := by
      have := hp.map (fun s : Str => s.cps.toList.headD 0)
      rw [List.map_map, List.map_map] at this
      have e : ∀ l : List Nat, List.map ((fun s : Str => s.cps.toList.headD 0) ∘ fun c => (⟨[c].toArray⟩ : Str)) l = l := fun l => by
        conv => rhs; rw [← List.map_id l]
        exact List.map_congr_left fun c _ => rfl
      rw [e, e] at this; exact this
    have h1 : (List.map (fun c => (⟨[c].toArray⟩ : Str)) zs).map V.str = zs.map fun c => sv [c] := by rw [List.map_map]; rfl
    rw [h1]
    refine q zs _ hperm ?_ hn
    have key : ∀ (zs : List Nat) (p : Nat), PyProof.Rows.risingS (⟨[p].toArray⟩ : Str) (zs.map fun c => (⟨[c].toArray⟩ : Str)) = true → (p :: zs).Pairwise (· ≤ ·) := by
      intro zs
      induction zs with
      | nil => intro p _; simp
      | cons z r ih =>
        intro p h
        simp only [List.map_cons, PyProof.Rows.risingS, Bool.and_eq_true, Bool.not_eq_true'] at h
        have h2 := ih z h.2
        have h3 : p ≤ z := by
          have h4 := h.1
          rw [PyProof.Rows.ltCps_eq] at h4; simp [List.cons_lt_cons_iff] at h4
          omega
        refine List.pairwise_cons.mpr ⟨fun x hx => ?_, h2⟩
        rcases List.mem_cons.mp hx with rfl | hx
        · exact h3
        · exact Nat.le_trans h3 ((List.pairwise_cons.mp h2).1 x hx)
    cases zs with
    | nil => exact List.Pairwise.nil
    | cons z r => exact key r z hs
theorem occ_az {c : Nat} (h1 : 97 ≤ c) (h2 : c ≤ 122) : ∃ rest, Builtin.Str.occurrences ⟨[97,98,99,100,101,102,103,104,105,106,107,108,109,110,111,112,113,114,115,116,117,118,119,120,121,122].toArray⟩ ⟨[c].toArray⟩ 0 26 1 = (c - 97) :: rest := by
  have key : ∀ c, c < 123 → 97 ≤ c → Builtin.Str.occurrences ⟨[97,98,99,100,101,102,103,104,105,106,107,108,109,110,111,112,113,114,115,116,117,118,119,120,121,122].toArray⟩ ⟨[c].toArray⟩ 0 26 1 = [c - 97] := by decide +kernel
  exact ⟨[], key c (by omega) h1⟩
def azs : List Nat := [97,98,99,100,101,102,103,104,105,106,107,108,109,110,111,112,113,114,115,116,117,118,119,120,121,122]
def rIndexAz : V → List V → Hp → VK → Prop := fun x xs H Q => ∃ c : Nat, x = sv azs ∧ xs = [sv [c]] ∧ 97 ≤ c ∧ c ≤ 122 ∧ Q (.int ((c - 97 : Nat) : Int)) H
theorem mt_indexAz : MtR X "str.index" rIndexAz := by
  intro pins s σ H x xs v us Q I rx rs h
  obtain ⟨c, rfl, rfl, h1, h2, q⟩ := h
  obtain ⟨rest, e⟩ := occ_az h1 h2
  exact mt_sindex pins s σ H _ _ v us Q I rx rs ⟨_, _, _, rest, rfl, rfl, e, q⟩
theorem pe_indexAz {o e : Expr} {to te : TE} {apos pos : Pos} (ho : PE X o to) (he : PE X e te) (hs : starEach [e] X.env = [(false, eval e X.env)] := by rfl) (hbase : attributeBase o "index" X.env (eval o X.env) = eval o X.env := by rfl) (hline : (apos.endLine == pos.line) = true := by rfl) :
    PE X (.Call (.Attribute o "index" apos) [e] [] pos) (tM1 rIndexAz to te) := pe_m1 F.slot_str_index F.type_str_index mt_indexAz ho he hs hbase hline
end
/-! a slice of a tuple -/
theorem cutV_from (xs : List V) (n : Nat) : cutV xs (some (n : Int)) none = xs.drop n := by
  unfold cutV
  rw [HT.sIx_nat, HT.sIx_none]
  by_cases h : n ≤ xs.length
  · rw [Nat.min_eq_left h]
    exact List.take_of_length_le (by rw [List.length_drop]; omega)
  · rw [Nat.min_eq_right (by omega), List.drop_of_length_le (by omega), List.drop_of_length_le (by omega)]
    simp
theorem cutV_to (xs : List V) (n : Nat) : cutV xs none (some (n : Int)) = xs.take n := by
  unfold cutV
  rw [HT.sIx_nat, HT.sIx_none, List.drop_zero, Nat.sub_zero]
  by_cases h : n ≤ xs.length
  · rw [Nat.min_eq_left h]
  · rw [Nat.min_eq_right (by omega), List.take_of_length_le (by omega), List.take_of_length_le (by omega)]
def rSlA1 : V → Option Int → Option Int → Hp → VK → Prop := fun x lo hi H Q => ∃ a xs, x = .ref a ∧ H a = some (.tup xs) ∧ ∀ p H', Same H H' → H' p = some (.tup (cutV xs lo hi)) → Q (.ref p) H'
theorem sl_T {X : Cx} : SlR X rSlA1 := by
  intro pins s σ H x v vl vu lo hi sl Q I rx hs pl pu h
  obtain ⟨a, xs, rfl, hx, q⟩ := h
  refine sl_tupA pins s σ H _ v vl vu lo hi sl Q I rx hs pl pu ⟨a, xs, rfl, .inl (.inl hx), fun hw => ?_, fun hw p hp => ?_⟩
  · refine q a H (Same.refl _) ?_
    unfold cutV
    rw [hw.1, hw.2, hx, List.drop_zero, Nat.sub_zero, List.take_length]
  · exact q p _ (same_upd hp) upd_same
/-! a comprehension of two for's -/
def InOk (J1 : It) (g1 : TG) (tt1 : TT) (te : TE) (vs1 : List Nat) (D : Addr) (σ2 : St) (H4 : Hp) (Nx : Hp → Prop) : Prop := ∃ W1 : Nat → Nat → Hp → Prop, (∃ m, W1 0 m H4) ∧ ∀ j k H, W1 j k H →
  (J1.stop j H ∧ Nx H) ∨ (J1.go j H ∧ ∃ Nx1 : Hp → Prop, (∀ H', Nx1 H' → ∃ k', k' < k ∧ W1 (j + 1) k' H') ∧ ∀ x H', J1.yld j H x H' → g1 x (wipe σ2 vs1) H' fun σ3 H5 => wipe σ3 vs1 = wipe σ2 vs1 ∧ tt1 σ3 H5 fun b H6 =>
    if b = true then te σ3 H6 fun y H7 => ∃ acc, H7 D = some (.lst acc) ∧ acc.length < sizeLine ∧ Nx1 (upd H7 D (.lst (acc ++ [y]))) else Nx1 H6)
def Lc2Ok (J : It) (g : TG) (tt : TT) (wi1 : TI) (g1 : TG) (tt1 : TT) (te : TE) (vs vs1 : List Nat) (σ : St) (H1 : Hp) (Q : VK) : Prop := ∀ D, H1 D = none → ∃ W : Nat → Nat → Hp → Prop, (∃ m, W 0 m (upd H1 D (.lst []))) ∧ ∀ i m H, W i m H →
  (J.stop i H ∧ Q (.ref D) H) ∨ (J.go i H ∧ ∃ Nx : Hp → Prop, (∀ H', Nx H' → ∃ m', m' < m ∧ W (i + 1) m' H') ∧ ∀ x H', J.yld i H x H' → g x (wipe σ vs) H' fun σ2 H2 => wipe σ2 vs = wipe σ vs ∧ tt σ2 H2 fun b H3 =>
    if b = true then wi1 σ2 H3 fun J1 H4 => InOk J1 g1 tt1 te vs1 D σ2 H4 Nx else Nx H3)
theorem tLc2_eq (wi : TI) (g : TG) (tt : TT) (wi1 : TI) (g1 : TG) (tt1 : TT) (te : TE) (vs vs1 : List Nat) : tLc2 wi g tt wi1 g1 tt1 te vs vs1 = fun σ H Q => wi σ H fun J H1 => Lc2Ok J g tt wi1 g1 tt1 te vs vs1 σ H1 Q := rfl
section
variable {J : It} {n : Nat} {GG : Hp → Prop} {Y : Nat → Hp → V → Hp → Prop}
theorem in_it (w : Walk J n GG Y) {g1 : TG} {tt1 : TT} {te : TE} {vs1 : List Nat} {D : Addr} {σ2 : St} {H4 : Hp} {Nx : Hp → Prop} (Pv : Nat → Hp → Prop) (h0 : Pv 0 H4) (hG : ∀ i H, i ≤ n → Pv i H → GG H)
    (hs : ∀ M, M = Pv → ∀ i x H H', i < n → Pv i H → Y i H x H' → g1 x (wipe σ2 vs1) H' fun σ3 H5 => wipe σ3 vs1 = wipe σ2 vs1 ∧ tt1 σ3 H5 fun b H6 =>
      if b = true then te σ3 H6 fun y H7 => ∃ acc, H7 D = some (.lst acc) ∧ acc.length < sizeLine ∧ M (i + 1) (upd H7 D (.lst (acc ++ [y]))) else M (i + 1) H6) (hd : ∀ H, Pv n H → Nx H) : InOk J g1 tt1 te vs1 D σ2 H4 Nx := by
  refine ⟨fun i m H => m = n - i ∧ i ≤ n ∧ Pv i H, ⟨n, by simp, Nat.zero_le _, h0⟩, ?_⟩
  rintro i m H ⟨rfl, hi, p⟩
  have q := hG i H hi p
  by_cases hlt : i < n
  · refine .inr ⟨w.goes i H hlt q, Pv (i + 1), fun H' p' => ⟨n - (i + 1), by omega, rfl, hlt, p'⟩, fun x H' y => hs Pv rfl i x H H' hlt p (w.yields i H x H' hlt q y)⟩
  · have e : i = n := by omega
    subst e
    exact .inl ⟨w.stops H q, hd H p⟩
theorem lc2_it (w : Walk J n GG Y) {g : TG} {tt : TT} {wi1 : TI} {g1 : TG} {tt1 : TT} {te : TE} {vs vs1 : List Nat} {σ : St} {H1 : Hp} {Q : VK} (Pv : Addr → Nat → Hp → Prop) (h0 : ∀ D, H1 D = none → Pv D 0 (upd H1 D (.lst []))) (hG : ∀ D, H1 D = none → ∀ i H, i ≤ n → Pv D i H → GG H)
    (hs : ∀ M, M = Pv → ∀ D, H1 D = none → ∀ i x H H', i < n → Pv D i H → Y i H x H' → g x (wipe σ vs) H' fun σ2 H2 => wipe σ2 vs = wipe σ vs ∧ tt σ2 H2 fun b H3 =>
      if b = true then wi1 σ2 H3 fun J1 H4 => InOk J1 g1 tt1 te vs1 D σ2 H4 (M D (i + 1)) else M D (i + 1) H3) (hd : ∀ D, H1 D = none → ∀ H, Pv D n H → Q (.ref D) H) : Lc2Ok J g tt wi1 g1 tt1 te vs vs1 σ H1 Q := fun D hD => by
  refine ⟨fun i m H => m = n - i ∧ i ≤ n ∧ Pv D i H, ⟨n, by simp, Nat.zero_le _, h0 D hD⟩, ?_⟩
  rintro i m H ⟨rfl, hi, p⟩
  have q := hG D hD i H hi p
  by_cases hlt : i < n
  · refine .inr ⟨w.goes i H hlt q, Pv D (i + 1), fun H' p' => ⟨n - (i + 1), by omega, rfl, hlt, p'⟩, fun x H' y => hs Pv rfl D hD i x H H' hlt p (w.yields i H x H' hlt q y)⟩
  · have e : i = n := by omega
    subst e
    exact .inl ⟨w.stops H q, hd D hD H p⟩
end
/-- the two for's over a list of texts and a text: what is added only reads -/
theorem comp2_ls {K : PySem.W.Frag} {a : Addr} {ws : List (List Nat)} {l : List Nat} {g : TG} {wi1 : TI} {g1 : TG} {te : TE} {vs vs1 : List Nat} {σ : St} {H1 : Hp} {Q : VK} (f : List Nat → Nat → V) (hws : H1 a = some (.lst (ws.map sv)))
    (hsz : ws.length * l.length ≤ sizeLine)
    (hs : ∀ w H, w ∈ ws → Same H1 H → ∀ (N : Hp → Prop) (D : Addr), (∀ σ2, wipe σ2 vs = wipe σ vs → (∀ c H5, c ∈ l → Same H1 H5 → ∀ R : VK, R (f w c) H5 → g1 (sv [c]) (wipe σ2 vs1) H5 fun σ3 H6 => wipe σ3 vs1 = wipe σ2 vs1 ∧ te σ3 H6 R) → InOk (Its ⟨l.toArray⟩) g1 tYes te vs1 D σ2 H N) →
      g (sv w) (wipe σ vs) H fun σ2 H2 => wipe σ2 vs = wipe σ vs ∧ wi1 σ2 H2 fun J1 H4 => InOk J1 g1 tYes te vs1 D σ2 H4 N)
    (hd : ∀ D H, H1 D = none → Same H1 H → H D = some (.lst (ws.flatMap fun w => l.map (f w))) → Q (.ref D) H) : Lc2Ok (Itl K a) g tYes wi1 g1 tYes te vs vs1 σ H1 Q := by
  have key : ∀ i, i ≤ ws.length → ((ws.take i).flatMap fun w => l.map (f w)).length = i * l.length := fun i hi => by
    rw [List.length_flatMap]
    simp only [List.length_map, List.map_const', List.sum_replicate_nat, List.length_take]
    rw [Nat.min_eq_left hi]
  refine lc2_it (walk_list (K := K) (a := a) (xs := ws.map sv)) (fun D i H => Same H1 H ∧ H D = some (.lst ((ws.take i).flatMap fun w => l.map (f w)))) (fun D hD => ⟨same_upd hD, by rw [upd_same]; rfl⟩) (fun D hD i H hi hP => .inl (.inl (hP.1 _ _ hws))) (fun M hM D hD i x H H' hi hP hy => ?_) (fun D hD H hP => hd D H hD hP.1 (by rw [List.length_map, List.take_length] at hP; exact hP.2))
  obtain ⟨rfl, hx⟩ := hy
  rw [List.length_map] at hi
  rw [List.getElem?_map, List.getElem?_eq_getElem hi] at hx
  obtain rfl := Option.some.inj hx
  refine hs ws[i] H' (List.getElem_mem hi) hP.1 (M D (i + 1)) D fun σ2 hw hstep => ?_
  refine in_it (walkS l) (fun j H => Same H1 H ∧ H D = some (.lst (((ws.take i).flatMap fun w => l.map (f w)) ++ (l.take j).map (f ws[i])))) ⟨hP.1, by rw [hP.2]; simp⟩ (fun _ _ _ _ => trivial) (fun M1 hM1 j x H5 H6 hj hP2 hy2 => ?_) fun H5 hP2 => ?_
  · obtain ⟨rfl, c, hc, rfl⟩ := hy2
    have h1 := hstep c H6 (List.mem_of_getElem? hc) hP2.1 (fun y H4 => ∃ acc, H4 D = some (.lst acc) ∧ acc.length < sizeLine ∧ M1 (j + 1) (upd H4 D (.lst (acc ++ [y])))) ⟨_, hP2.2, by
      rw [List.length_append, key i (by omega), List.length_map, List.length_take]
      have : (i + 1) * l.length ≤ ws.length * l.length := Nat.mul_le_mul_right _ hi
      rw [Nat.add_mul] at this
      omega, by
      rw [hM1]
      refine ⟨same_set hP2.1 hD, ?_⟩
      rw [upd_same, List.take_add_one, hc, List.map_append, List.append_assoc]; rfl⟩
    simpa only [tYes, if_true] using h1
  · rw [hM]
    refine ⟨hP2.1, ?_⟩
    rw [hP2.2, List.take_length, List.take_add_one, List.getElem?_eq_getElem hi, List.flatMap_append]
    simp
theorem filt_true {α β : Type} (xs : List α) (a : β) : (xs.filter fun _ => true).map (fun _ => a) = List.replicate xs.length a := by
  rw [List.filter_eq_self.mpr (fun _ _ => rfl), List.map_const']
theorem filt_all {α : Type} (xs : List α) : (xs.filter fun _ => true) = xs := List.filter_eq_self.mpr (fun _ _ => rfl)
theorem walk_rangeN {n : Nat} : Walk (Itr 0 n) n (fun _ => True) (fun i H v H' => H' = H ∧ v = .int (i : Nat)) :=
  ⟨fun _ _ hi _ => hi, fun _ _ => Nat.le_refl _, fun i H x H' _ _ y => ⟨y.1, by rw [y.2, Int.zero_add]⟩⟩
/-- a comprehension over anything: B tells which turns are kept, F what is added; the parts may lay new things -/
theorem comp_itF {J : It} {n : Nat} {GG : Hp → Prop} {Y : Nat → Hp → V → Hp → Prop} (w : Walk J n GG Y) {g : TG} {tt : TT} {te : TE} {vs : List Nat} {σ : St} {H1 : Hp} {Q : VK} (B : Nat → Bool) (F : Nat → V) (hn : n ≤ sizeLine)
    (hG : ∀ H, Same H1 H → GG H) (hY : ∀ i H x H', Y i H x H' → Same H H')
    (hs : ∀ i x H H', i < n → Same H1 H → Y i H x H' → ∀ (Z : Hp → Prop) (W : VK), (∀ H2, Same H' H2 → B i = false → Z H2) → (∀ H2, Same H' H2 → B i = true → W (F i) H2) →
      g x (wipe σ vs) H' fun σ2 H2 => wipe σ2 vs = wipe σ vs ∧ tt σ2 H2 fun b H3 => if b = true then te σ2 H3 W else Z H3)
    (hd : ∀ D H, H1 D = none → Same H1 H → H D = some (.lst (((List.range n).filter B).map F)) → Q (.ref D) H) : LcOk J g tt te vs σ H1 Q := by
  intro D hD
  refine lc_it w (fun i H => Same H1 H ∧ H D = some (.lst (((List.range i).filter B).map F))) ⟨same_upd hD, by rw [upd_same]; rfl⟩ (fun i H _ hP => hG H hP.1) (fun i x H H' hi hP hy => ?_) (fun H hP => hd D H hD hP.1 hP.2)
  have hs1 := hY _ _ _ _ hy
  refine hs i x H H' hi hP.1 hy (fun H6 => Same H1 H6 ∧ H6 D = some (.lst (((List.range (i + 1)).filter B).map F))) (fun y H4 => ∃ acc, H4 D = some (.lst acc) ∧ acc.length < sizeLine ∧ (Same H1 (upd H4 D (.lst (acc ++ [y]))) ∧ (upd H4 D (.lst (acc ++ [y]))) D = some (.lst (((List.range (i + 1)).filter B).map F)))) (fun H2 s2 hb => ?_) (fun H2 s2 hb => ?_)
  · refine ⟨(hP.1.trans hs1).trans s2, ?_⟩
    rw [s2 _ _ (hs1 _ _ hP.2), List.range_succ, List.filter_append]
    simp [hb]
  · refine ⟨_, s2 _ _ (hs1 _ _ hP.2), ?_, same_set ((hP.1.trans hs1).trans s2) hD, ?_⟩
    · rw [List.length_map]
      have := List.length_filter_le B (List.range i)
      rw [List.length_range] at this
      omega
    · rw [upd_same, List.range_succ, List.filter_append]
      simp [hb]
section
variable {X : Cx}
theorem inV_sv {a : List Nat} {ls : List (List Nat)} : inV (sv a) (ls.map sv) = decide (a ∈ ls) := by
  induction ls with
  | nil => rfl
  | cons l r ih =>
    have e : inV (sv a) ((l :: r).map sv) = (eqV (sv l) (sv a) || inV (sv a) (r.map sv)) := rfl
    have e2 : eqV (sv l) (sv a) = decide (a = l) := by
      show ((Str.mk l.toArray) == (Str.mk a.toArray)) = _
      by_cases q : a = l
      · rw [decide_eq_true q, q]; exact beq_iff_eq.mpr rfl
      · rw [decide_eq_false q]; exact beq_eq_false_iff_ne.mpr (fun e => q (sv_inj.mp (congrArg V.str e)).symm)
    rw [e, e2, ih]
    simp
theorem flat_sv (ls : List (List Nat)) : (ls.map sv).all flatV = true := by
  rw [List.all_eq_true]; intro x hx
  obtain ⟨l, _, rfl⟩ := List.mem_map.mp hx
  rfl
theorem op_inTx : OpR X (compareOp .In) (fun x y H Q => ∃ (p : Addr) (a : List Nat) (ls : List (List Nat)), x = sv a ∧ y = .ref p ∧ H p = some (.lst (ls.map sv)) ∧ Q (.bl (decide (a ∈ ls))) H) := by
  intro pins s σ H x y v u Q I rx ry h
  obtain ⟨p, a, ls, rfl, rfl, hp, q⟩ := h
  refine op_in_seq pins s σ H _ _ v u Q I rx ry ⟨p, _, rfl, .inl (.inl (.inl hp)), rfl, flat_sv ls, ?_⟩
  rw [inV_sv]; exact q
theorem op_notInTx : OpR X (compareOp .NotIn) (fun x y H Q => ∃ (p : Addr) (a : List Nat) (ls : List (List Nat)), x = sv a ∧ y = .ref p ∧ H p = some (.lst (ls.map sv)) ∧ Q (.bl (!decide (a ∈ ls))) H) := by
  intro pins s σ H x y v u Q I rx ry h
  obtain ⟨p, a, ls, rfl, rfl, hp, q⟩ := h
  refine op_notIn_seq pins s σ H _ _ v u Q I rx ry ⟨p, _, rfl, .inl (.inl (.inl hp)), rfl, flat_sv ls, ?_⟩
  rw [inV_sv]; exact q
end
end G

namespace G
open PySem PySem.Spec L2
/-! zip and enumerate over lists, tuples and texts -/
inductive Hs
  | lst (a : Addr)
  | tup (a : Addr)
  | txt (l : List Nat)
def Hs.fp : Hs → Addr → List Addr
  | .lst a, it => [it, a]
  | .tup a, it => [it, a]
  | .txt _, it => [it]
/-- what the source stands on, but for the iterator -/
def Hs.src : Hs → List Addr
  | .lst a => [a]
  | .tup a => [a]
  | .txt _ => []
theorem Hs.fp_eq (k : Hs) (it : Addr) : k.fp it = it :: k.src := by cases k <;> rfl
def Hs.it : Hs → Tok → Addr → Nat → Heap → Prop
  | .lst a, _, it, i, h => h.IsListIter it a i
  | .tup a, _, it, i, h => h.IsTupleIter it a i
  | .txt l, t, it, i, h => h.IsStrIter it (strIterType ⟨l.toArray⟩) ⟨l.toArray⟩ t i
def Hs.at (K : PySem.W.Frag) (H : Hp) : Hs → List V → Prop
  | .lst a, xs => SqL K H a xs
  | .tup a, xs => SqT K H a xs
  | .txt l, xs => xs = l.map fun c => sv [c]
theorem at_lst {K : PySem.W.Frag} {H : Hp} {a : Addr} {xs : List V} : Hs.at K H (.lst a) xs = SqL K H a xs := rfl
theorem at_tup {K : PySem.W.Frag} {H : Hp} {a : Addr} {xs : List V} : Hs.at K H (.tup a) xs = SqT K H a xs := rfl
theorem at_txt {K : PySem.W.Frag} {H : Hp} {l : List Nat} {xs : List V} : Hs.at K H (.txt l) xs = (xs = l.map fun c => sv [c]) := rfl
def Hs.off (k : Hs) (it : Addr) : Prop := it ∉ k.src
section
variable {X : Cx} {pins : List (Addr × Obj)} {σ : St} {H : Hp} {s : Shared}
theorem Hs.draws {k : Hs} {xs : List V} {A : Around} {it : Addr} {t : Tok} (I : Inv X pins σ H s) (hk : k.at X.K H xs) (ho : k.off it) (hh : A.handled = none) :
    ∃ (P : Nat → Value → Prop) (St : Nat → Heap → Prop), Draws X.prog X.w A it (k.fp it) xs.length P St ∧ (∀ i, k.it t it i s.heap → St i s.heap) ∧ (∀ i h, St i h → k.it t it i h) ∧ ∀ i v, P i v → ∃ x, xs[i]? = some x ∧ RelV x v := by
  cases k with
  | lst a =>
    obtain ⟨its, rv, p, _⟩ := I.list hk
    have hl : its.toArray.size = xs.length := by rw [List.size_toArray, rv.length]
    refine ⟨_, _, hl ▸ Draws.list hh it a (fun e => ho (by rw [e]; exact List.mem_cons_self)) its.toArray, fun i hi => ⟨hi, p.isList⟩, fun i h z => z.1, fun i v hv => ?_⟩
    have hi : i < xs.length := by
      have := (Array.getElem?_eq_some_iff.mp hv).1
      omega
    obtain ⟨u, hu, ru⟩ := rv.get (List.getElem?_eq_getElem hi)
    refine ⟨_, List.getElem?_eq_getElem hi, ?_⟩
    have : its[i]? = some v := by simpa using hv
    rw [this] at hu
    rw [Option.some.inj hu]; exact ru
  | tup a =>
    obtain ⟨its, rv, p, _⟩ := I.tuple hk
    have hl : its.toArray.size = xs.length := by rw [List.size_toArray, rv.length]
    refine ⟨_, _, hl ▸ Draws.tuple hh it a (fun e => ho (by rw [e]; exact List.mem_cons_self)) its.toArray, fun i hi => ⟨hi, p⟩, fun i h z => z.1, fun i v hv => ?_⟩
    have hi : i < xs.length := by
      have := (Array.getElem?_eq_some_iff.mp hv).1
      omega
    obtain ⟨u, hu, ru⟩ := rv.get (List.getElem?_eq_getElem hi)
    refine ⟨_, List.getElem?_eq_getElem hi, ?_⟩
    have : its[i]? = some v := by simpa using hv
    rw [this] at hu
    rw [Option.some.inj hu]; exact ru
  | txt l =>
    have e : xs = l.map fun c => sv [c] := hk
    subst e
    have hl : (Str.mk l.toArray).cps.size = (l.map fun c => sv [c]).length := by simp
    refine ⟨_, _, hl ▸ Draws.text hh it ⟨l.toArray⟩ t, fun i hi => hi, fun i h z => z, fun i v hv => ?_⟩
    obtain ⟨c, u, hc, rfl⟩ := hv
    refine ⟨sv [c], ?_, u, rfl⟩
    have : l[i]? = some c := by simpa using hc
    rw [List.getElem?_map, this]; rfl
end
theorem Hs.inj {X : Cx} {pins : List (Addr × Obj)} {σ : St} {H : Hp} {s : Shared} {k : Hs} {xs ys : List V} (I : Inv X pins σ H s) (h1 : k.at X.K H xs) (h2 : k.at X.K H ys) : xs = ys := by
  cases k with
  | lst a => exact I.list_inj h1 h2
  | tup a => exact I.tuple_inj h1 h2
  | txt l => exact h1.trans h2.symm
/-- an iterator that hands out tuples, told by the library's walk -/
theorem turn_ofT {P : Program} {w : World} {K : PySem.W.Frag} {elts : List Expr} {kk : Nat} {tpos : Pos} {J : It} {ch wr : List Addr} {it : Addr} {tn : Nat → Heap → Prop} (mem : it ∈ ch) (sub : ∀ b ∈ wr, b ∈ ch)
    (obj : ∀ i h, tn i h → ∀ b ∈ ch, ∃ o, h.get? b = some o ∧ ∀ v, o.data ≠ .cell v)
    (keep : ∀ i h h', tn i h → (∀ b ∈ ch, ∀ o, h.get? b = some o → h'.get? b = some o) → tn i h')
    (self : ∀ (A : Around) (i : Nat) (s : Shared) (Q : Value → Shared → Prop) (E : Value → Shared → Prop), tn i s.heap → Q (.ref it) s → wpAny (model P w) A (pyIter (.ref it)) Q E s)
    (item : ∀ (X : Cx), X.prog = P → X.w = w → X.K = K → X.A.handled = none → ∀ (i : Nat) (pins : List (Addr × Obj)) (s : Shared) (σ : St) (H : Hp), Inv X pins σ H s → tn i s.heap → J.go i H →
      ∃ fp n Pt St Mid, WalksT P w X.A it fp wr n Pt St Mid ∧ i < n ∧ St i s.heap ∧ (∀ h, St (i + 1) h → tn (i + 1) h) ∧ ∀ vals, Pt i vals → ∃ xs, Vals xs vals.toList ∧ xs.length ≤ sizeLine ∧ ∀ T, H T = none → J.yld i H (.ref T) (upd H T (.tup xs)))
    (done : ∀ (X : Cx), X.prog = P → X.w = w → X.K = K → X.A.handled = none → ∀ (i : Nat) (pins : List (Addr × Obj)) (s : Shared) (σ : St) (H : Hp), Inv X pins σ H s → tn i s.heap → J.stop i H →
      ∀ (Q : Option Value → Shared → Prop) (E : Value → Shared → Prop), (∀ h' tk, (∀ b o, b ∉ wr → s.heap.get? b = some o → h'.get? b = some o) → Q none { s with heap := h', toks := tk }) → wpAny (model P w) X.A (pyNext (.ref it)) Q E s) :
    Turn P w K (.Tuple elts kk tpos) J ch it tn where
  mem := mem
  obj := obj
  keep := keep
  self := self
  item := by
    intro X hP hw hK hc i pins s σ H E I hf st hg
    obtain ⟨fp, n, Pt, St, Mid, W, hi, hst, hnext, hval⟩ := item X hP hw hK (I.ok.hd hc) i pins s σ H I st hg
    refine W.item i s _ _ hi hst fun T vals h' tk hPt hTs hT hM hk => ⟨_, rfl, ?_⟩
    refine W.go elts kk tpos i T { s with heap := h', toks := tk } _ _ hM fun h'' hst' hk2 => ?_
    obtain ⟨xs, rv, hsz, hy⟩ := hval vals hPt
    have hTw : T ∉ wr := W.apart i T _ hM
    have hT2 : h''.IsTuple T vals := by
      obtain ⟨o, ho, hc2, hd2⟩ := hT
      exact ⟨o, hk2 T o hTw ho, hc2, hd2⟩
    have hTn : H T = none := I.hok.fresh hTs
    have new : ObjOk X.prog X.w (upd H T (.tup xs)) h'' T (.tup xs) := by
      obtain ⟨o, ho, hc2, n2, hd2⟩ := hT2
      refine ⟨hsz, vals.toList, rv, ⟨o, ho, hc2, n2, ?_⟩⟩
      rw [hd2]
    have I1 : Inv X pins σ (upd H T (.tup xs)) { s with heap := h'', toks := tk } :=
      I.turnedNew (ch := ch) (fun c o hb q => hk2 c o (fun z => hb (sub c z)) (hk c o (fun z => hb (sub c z)) q)) hf hTs new
    refine ⟨.ref T, _, I1, rfl, hy T hTn, hnext _ hst', fun c hcm => ?_⟩
    have hlt : c < s.heap.objs.size := by
      obtain ⟨o, e, _⟩ := obj i s.heap st c hcm
      exact Heap.lt_size e
    rw [upd_ne (Nat.ne_of_lt (Nat.lt_of_lt_of_le hlt hTs))]
    exact (hf c hcm).1
  done := by
    intro X hP hw hK hc i pins s σ H E I hf st hg
    exact done X hP hw hK (I.ok.hd hc) i pins s σ H I st hg _ _ fun h' tk hk => ⟨rfl, I.turnedL (ch := ch) (fun c o hb q => hk c o (fun z => hb (sub c z)) q) hf⟩
/-! ### zip of two -/
def Iz2 (K : PySem.W.Frag) (k1 k2 : Hs) : It :=
  ⟨fun i H => ∃ (xs ys : List V) (x y : V), k1.at K H xs ∧ k2.at K H ys ∧ xs[i]? = some x ∧ ys[i]? = some y,
    fun i H v H' => ∃ T x y, v = .ref T ∧ H T = none ∧ H' = upd H T (.tup [x, y]) ∧ (∀ xs, k1.at K H xs → xs[i]? = some x) ∧ ∀ ys, k2.at K H ys → ys[i]? = some y,
    fun i H => ∃ xs ys : List V, k1.at K H xs ∧ k2.at K H ys ∧ i = min xs.length ys.length⟩
theorem it_obj {k : Hs} {t : Tok} {it : Addr} {i : Nat} {h : Heap} (z : k.it t it i h) : ∃ o, h.get? it = some o ∧ ∀ v, o.data ≠ .cell v := by
  cases k <;> obtain ⟨o, e, _, d⟩ := z <;> exact ⟨o, e, fun v q => by rw [d] at q; cases q⟩
theorem it_keep {k : Hs} {t : Tok} {it : Addr} {i : Nat} {h h' : Heap} (z : k.it t it i h) (hk : ∀ o, h.get? it = some o → h'.get? it = some o) : k.it t it i h' := by
  cases k <;> obtain ⟨o, e, c, d⟩ := z <;> exact ⟨o, hk o e, c, d⟩
theorem turn_z2 {P : Program} {w : World} {K : PySem.W.Frag} {elts : List Expr} {kk : Nat} {tpos : Pos} {k1 k2 : Hs} {t1 t2 : Tok} {z TI TO i1 i2 : Addr} (S : ZipSep2 z TI TO i1 i2 (k1.fp i1) (k2.fp i2)) (o1 : k1.off i1) (o2 : k2.off i2) :
    Turn P w K (.Tuple elts kk tpos) (Iz2 K k1 k2) [z, TI, TO, i1, i2] z (fun i h => IsZip h z TI TO .none ∧ IsTupOf2 h TI (.ref i1) (.ref i2) ∧ (∃ x y, IsTupOf2 h TO x y) ∧ k1.it t1 i1 i h ∧ k2.it t2 i2 i h) := by
  refine turn_ofT (wr := [z, TO, i1, i2]) (by simp) (by simp) (fun i h st c hc => ?_) (fun i h h' st k => ?_) (fun A i s Q E st h => wpAny_pyIter_zip st.1 h) (fun X hP hw hK hh i pins s σ H I st hg => ?_) (fun X hP hw hK hh i pins s σ H I st hg Q E hQ => ?_)
  · obtain ⟨hz, hTI, ⟨x, y, hTO⟩, h1, h2⟩ := st
    have e' : c = z ∨ c = TI ∨ c = TO ∨ c = i1 ∨ c = i2 := by simpa using hc
    rcases e' with q | q | q | q | q
    · rw [q]; exact ⟨_, hz, fun v q => nomatch q⟩
    · rw [q]; exact ⟨_, hTI, fun v q => nomatch q⟩
    · rw [q]; exact ⟨_, hTO, fun v q => nomatch q⟩
    · rw [q]; exact it_obj h1
    · rw [q]; exact it_obj h2
  · obtain ⟨hz, hTI, ⟨x, y, hTO⟩, h1, h2⟩ := st
    exact ⟨k z (by simp) _ hz, k TI (by simp) _ hTI, ⟨x, y, k TO (by simp) _ hTO⟩, it_keep h1 (k i1 (by simp)), it_keep h2 (k i2 (by simp))⟩
  · subst hP hw hK
    obtain ⟨hz, hTI, hTO, h1, h2⟩ := st
    obtain ⟨xs, ys, x, y, hx, hy, ex, ey⟩ := hg
    obtain ⟨P1, St1, D1, a1, b1, c1⟩ := Hs.draws (t := t1) I hx o1 (A := X.A.in1) hh
    obtain ⟨P2, St2, D2, a2, b2, c2⟩ := Hs.draws (t := t2) I hy o2 (A := X.A.in1) hh
    have l1 := (List.getElem?_eq_some_iff.mp ex).1
    have l2 := (List.getElem?_eq_some_iff.mp ey).1
    refine ⟨_, _, _, _, _, WalksT.zipD2 S D1 D2, by omega, ⟨hz, hTI, hTO, a1 i h1, a2 i h2⟩, fun h ⟨q1, q2, q3, q4, q5⟩ => ⟨q1, q2, q3, b1 _ _ q4, b2 _ _ q5⟩, fun vals ⟨u1, u2, p1, p2, e⟩ => ?_⟩
    obtain ⟨x', ex', r1⟩ := c1 _ _ p1
    obtain ⟨y', ey', r2⟩ := c2 _ _ p2
    subst e
    refine ⟨[x', y'], .cons r1 (.cons r2 .nil), by show 2 ≤ sizeLine; decide, fun T hT => ⟨T, x', y', rfl, hT, rfl, fun zs hz => by rw [Hs.inj I hz hx]; exact ex', fun zs hz => by rw [Hs.inj I hz hy]; exact ey'⟩⟩
  · subst hP hw hK
    obtain ⟨hz, hTI, hTO, h1, h2⟩ := st
    obtain ⟨xs, ys, hx, hy, e⟩ := hg
    obtain ⟨P1, St1, D1, a1, b1, c1⟩ := Hs.draws (t := t1) I hx o1 (A := X.A.in1) hh
    obtain ⟨P2, St2, D2, a2, b2, c2⟩ := Hs.draws (t := t2) I hy o2 (A := X.A.in1) hh
    subst e
    exact (WalksT.zipD2 S D1 D2).done s Q E ⟨hz, hTI, hTO, a1 _ h1, a2 _ h2⟩ hQ
/-- the iterator's first cell -/
def Hs.obj : Hs → Tok → Obj
  | .lst a, _ => { cls := .type "list_iterator", data := .fields #[.ref a, .int 0 0] }
  | .tup a, _ => { cls := .type "tuple_iterator", data := .fields #[.ref a, .int 0 0] }
  | .txt l, t => { cls := .type (strIterType ⟨l.toArray⟩), data := .fields #[.str ⟨l.toArray⟩ t, .int 0 0] }
theorem Hs.it0 {k : Hs} {t : Tok} {it : Addr} {h : Heap} (e : h.get? it = some (k.obj t)) : k.it t it 0 h := by
  cases k <;> exact ⟨_, e, rfl, rfl⟩
/-- kinds of sources, by the value's form -/
inductive Kd | S | L | T
def Kd.is : Kd → V → Hs → Prop
  | .S, x, k => ∃ l, x = sv l ∧ k = .txt l
  | .L, x, k => ∃ a, x = .ref a ∧ k = .lst a
  | .T, x, k => ∃ a, x = .ref a ∧ k = .tup a
theorem Kd.begins {X : Cx} {pins : List (Addr × Obj)} {σ : St} {H : Hp} {s : Shared} {d : Kd} {x : V} {k : Hs} {xs : List V} {v : Value} (I : Inv X pins σ H s) (hd : d.is x k) (hk : k.at X.K H xs) (r : RelV x v) :
    ∃ (t : Tok) (F : Heap → Prop), Begins v (k.obj t) F ∧ F s.heap ∧ ∀ b ∈ k.src, b < s.heap.objs.size := by
  cases d with
  | S =>
    obtain ⟨l, rfl, rfl⟩ := hd
    obtain ⟨t, rfl⟩ := r
    exact ⟨t, _, begins_text _ t, trivial, fun b hb => by cases hb⟩
  | L =>
    obtain ⟨a, rfl, rfl⟩ := hd
    cases r
    obtain ⟨its, rv, p, _⟩ := I.list hk
    exact ⟨0, _, begins_list a its.toArray, p.isList, fun b hb => by rw [List.mem_singleton.mp hb]; exact p.lt⟩
  | T =>
    obtain ⟨a, rfl, rfl⟩ := hd
    cases r
    obtain ⟨its, rv, p, _⟩ := I.tuple hk
    refine ⟨0, _, begins_tuple a its.toArray, p, fun b hb => ?_⟩
    rw [List.mem_singleton.mp hb]
    obtain ⟨o, ho, _⟩ := id p
    exact Heap.lt_size ho
def iZ2 (K : PySem.W.Frag) (d1 d2 : Kd) (ta : TA) : TI := fun σ H R => ta σ H fun vs H1 => ∃ x y k1 k2 xs ys, vs = [x, y] ∧ d1.is x k1 ∧ d2.is y k2 ∧ k1.at K H1 xs ∧ k2.at K H1 ys ∧ R (Iz2 K k1 k2) H1
theorem pi_z2 (d1 d2 : Kd) {X : Cx} {e e2 : Expr} {ta : TA} {p pos tpos : Pos} {elts : List Expr} {kk : Nat} (hg : Gl X "zip") (hm : X.mg "zip" = none) (ha : PA X [e, e2] ta)
    (hs : starEach [e, e2] X.env = (false, eval e X.env) :: starEach [e2] X.env := by rfl) (hpl : (backTo pos (starEach [e2] X.env)).any (·.1) = false := by rfl) :
    PI X (.Tuple elts kk tpos) (.Call (.Name "zip" p) [e, e2] [] pos) (iZ2 X.K d1 d2 ta) := by
  refine ⟨fun pins s σ H R I h => ?_⟩
  refine PyProof.Rows.Call_ (ld_blt I hg hm PyProof.Rows.boot_zip (PyProof.Rows.callWith_type1 (thn (ha.run pos pins s σ H _ I h) fun us s1 ⟨vs, H1, I1, r1, q1⟩ => ?_) hs hpl))
  obtain ⟨x, y, k1, k2, xs, ys, ex, i1, i2, hx, hy, q⟩ := q1
  subst ex
  cases r1 with
  | cons ra rr =>
    cases rr with
    | cons rb rr =>
      cases rr
      obtain ⟨t1, F1, B1, f1, l1⟩ := Kd.begins I1 i1 hx ra
      obtain ⟨t2, F2, B2, f2, l2⟩ := Kd.begins I1 i2 hy rb
      refine zip_begins2 B1 B2 f1 f2 fun h' hz hTI hTO g1 g2 hsz hk => wpAny_pyIter_zip hz ?_
      have I2 : Inv X pins σ H1 { s1 with heap := h' } := I1.kept (t' := s1.toks) hk
      have S : ZipSep2 (s1.heap.objs.size + 4) (s1.heap.objs.size + 2) (s1.heap.objs.size + 3) s1.heap.objs.size (s1.heap.objs.size + 1) (k1.fp s1.heap.objs.size) (k2.fp (s1.heap.objs.size + 1)) := by
        rw [Hs.fp_eq, Hs.fp_eq]; exact zip_sep2 l1 l2
      refine ⟨s1.heap.objs.size + 4, [s1.heap.objs.size + 4, s1.heap.objs.size + 2, s1.heap.objs.size + 3, s1.heap.objs.size, s1.heap.objs.size + 1], _, _, H1, rfl, I2,
        turn_z2 (t1 := t1) (t2 := t2) S (fun z => Nat.lt_irrefl _ (l1 _ z)) (fun z => by have q : s1.heap.objs.size + 1 < s1.heap.objs.size := l2 _ z; omega), ⟨hz, hTI, ⟨_, _, hTO⟩, Hs.it0 g1, Hs.it0 g2⟩, fun c hcm => ?_, q⟩
      have e' : c = s1.heap.objs.size + 4 ∨ c = s1.heap.objs.size + 2 ∨ c = s1.heap.objs.size + 3 ∨ c = s1.heap.objs.size ∨ c = s1.heap.objs.size + 1 := by simpa using hcm
      have hle : s1.heap.objs.size ≤ c := by
        rcases e' with z | z | z | z | z
        · rw [z]; exact Nat.le_add_right _ _
        · rw [z]; exact Nat.le_add_right _ _
        · rw [z]; exact Nat.le_add_right _ _
        · rw [z]; exact Nat.le_refl _
        · rw [z]; exact Nat.le_add_right _ _
      exact I1.fpOk hle (I1.hok.fresh hle)
theorem walk_z2 {K : PySem.W.Frag} {k1 k2 : Hs} {xs ys : List V} : Walk (Iz2 K k1 k2) (min xs.length ys.length) (fun H => k1.at K H xs ∧ k2.at K H ys) (YPair (fun i => xs[i]?) fun i => ys[i]?) := by
  refine ⟨fun i H hi h => ?_, fun H h => ⟨xs, ys, h.1, h.2, rfl⟩, fun i H x H' hi h hy => ?_⟩
  · have h1 : i < xs.length := by omega
    have h2 : i < ys.length := by omega
    exact ⟨xs, ys, xs[i], ys[i], h.1, h.2, List.getElem?_eq_getElem h1, List.getElem?_eq_getElem h2⟩
  · obtain ⟨T, x', y', rfl, hT, rfl, ex, ey⟩ := hy
    exact ⟨T, x', y', rfl, hT, rfl, ex xs h.1, ey ys h.2⟩
/-! ### enumerate -/
def IzE (K : PySem.W.Frag) (k : Hs) : It :=
  ⟨fun i H => ∃ (xs : List V) (x : V), k.at K H xs ∧ xs[i]? = some x,
    fun i H v H' => ∃ T x, v = .ref T ∧ H T = none ∧ H' = upd H T (.tup [.int (i : Nat), x]) ∧ ∀ xs, k.at K H xs → xs[i]? = some x,
    fun i H => ∃ xs : List V, k.at K H xs ∧ i = xs.length⟩
theorem turn_eN {P : Program} {w : World} {K : PySem.W.Frag} {elts : List Expr} {kk : Nat} {tpos : Pos} {k : Hs} {t : Tok} {e it : Addr} (hne : e ≠ it) (ho : k.off it) (he2 : e ∉ k.fp it) :
    Turn P w K (.Tuple elts kk tpos) (IzE K k) [e, it] e (fun i h => (∃ old, IsEnum h e it ((0 : Int) + (i : Int)) old) ∧ k.it t it i h) := by
  refine turn_ofT (wr := [e, it]) (by simp) (by simp) (fun i h st c hc => ?_) (fun i h h' st k => ?_) (fun A i s Q E st h => let ⟨⟨_, he⟩, _⟩ := st; wpAny_pyIter_enum he h) (fun X hP hw hK hh i pins s σ H I st hg => ?_) (fun X hP hw hK hh i pins s σ H I st hg Q E hQ => ?_)
  · obtain ⟨⟨old, he⟩, h1⟩ := st
    have e' : c = e ∨ c = it := by simpa using hc
    rcases e' with q | q
    · rw [q]; exact ⟨_, he, fun v q => nomatch q⟩
    · rw [q]; exact it_obj h1
  · obtain ⟨⟨old, he⟩, h1⟩ := st
    exact ⟨⟨old, k e (by simp) _ he⟩, it_keep h1 (k it (by simp))⟩
  · subst hP hw hK
    obtain ⟨he, h1⟩ := st
    obtain ⟨xs, x, hx, ex⟩ := hg
    obtain ⟨P1, St1, D1, a1, b1, c1⟩ := Hs.draws (t := t) I hx ho (A := X.A.in1) hh
    refine ⟨_, _, _, _, _, WalksT.enumFrom 0 D1 e hne he2 (by rw [Hs.fp_eq]; exact List.mem_cons_self), (List.getElem?_eq_some_iff.mp ex).1, ⟨he, a1 i h1⟩, fun h ⟨q1, q2⟩ => ⟨q1, b1 _ _ q2⟩, fun vals ⟨t1, u1, p1, e⟩ => ?_⟩
    obtain ⟨x', ex', r1⟩ := c1 _ _ p1
    subst e
    refine ⟨[.int (i : Nat), x'], .cons ⟨t1, by rw [Int.zero_add]⟩ (.cons r1 .nil), by show 2 ≤ sizeLine; decide, fun T hT => ⟨T, x', rfl, hT, rfl, fun zs hz => by rw [Hs.inj I hz hx]; exact ex'⟩⟩
  · subst hP hw hK
    obtain ⟨he, h1⟩ := st
    obtain ⟨xs, hx, e⟩ := hg
    obtain ⟨P1, St1, D1, a1, b1, c1⟩ := Hs.draws (t := t) I hx ho (A := X.A.in1) hh
    subst e
    exact (WalksT.enumFrom 0 D1 _ hne he2 (by rw [Hs.fp_eq]; exact List.mem_cons_self)).done s Q E ⟨he, a1 _ h1⟩ hQ
theorem meets_enumerate_newB1 {v : Value} {o : Obj} {H : Heap → Prop} (B : Begins v o H) :
    Meets (Builtin.«enumerate.__new__» ⟨[.type "enumerate", v], []⟩) (fun _ R s => H s.heap ∧
      R (.ok (.ret (.ref (s.heap.push o).objs.size))) { s with heap := (s.heap.push o).push { cls := .type "enumerate", data := .fields #[.none, .bool false, .ref s.heap.objs.size, rawInt 0, .none, .none] } }) :=
  .of_wp fun prog w A R s h => by
    obtain ⟨hp, g, d, tk, os⟩ := s; obtain ⟨h1, h⟩ := h
    have hsub := sub_enumerate
    have q1 : ∀ {A' : Around} {E : Value → Shared → Prop} {Q : Value → Shared → Prop}, Q (.ref hp.objs.size) ⟨hp.push o, g, d, tk, os⟩ → wpAny (model prog w) A' (pyIter v) Q E ⟨hp, g, d, tk, os⟩ :=
      fun q => B.iter prog w _ _ ⟨hp, g, d, tk, os⟩ _ h1 q
    wp_walk using q1
    refine wpAny_stack_any fun st => wpAny_pure ?_
    split
    · rename_i c _ _ _ _ _
      cases (c == Value.type "enumerate")
      · wp_walk using q1
        exact ⟨_, rfl, h⟩
      · wp_walk using q1
        exact ⟨_, rfl, h⟩
    · wp_walk using q1
      exact ⟨_, rfl, h⟩
section
variable {prog : Program} {w : World} {A : Around} {E : Value → Shared → Prop} {s : Shared}
theorem enum_begins1 {v : Value} {o : Obj} {H : Heap → Prop} {Q : Value → Shared → Prop} (B : Begins v o H) (h1 : H s.heap)
    (h : ∀ h', IsEnum h' (s.heap.objs.size + 1) s.heap.objs.size 0 .none → h'.get? s.heap.objs.size = some o → h'.objs.size = s.heap.objs.size + 2 →
      (∀ b o, s.heap.get? b = some o → h'.get? b = some o) → Q (.ref (s.heap.objs.size + 1)) { s with heap := h' }) :
    wpAny (model prog w) A (call (.type "enumerate") [v]) Q E s := by
  refine callType_new F.called_enumerate (by decide) (F.typeCall_enumerate_1 _) (F.newCall_enumerate_1 _) (fun obj => F.args_object_init_2 obj _) F.entry_enumerate_new
    (meets_enumerate_newB1 B) ⟨h1, ?_⟩
  have hz : (s.heap.push o).objs.size = s.heap.objs.size + 1 := Heap.size_push ..
  show _ ∧ _
  rw [hz]
  have he : IsEnum ((s.heap.push o).push { cls := .type "enumerate", data := .fields #[.none, .bool false, .ref s.heap.objs.size, rawInt 0, .none, .none] }) (s.heap.objs.size + 1) s.heap.objs.size 0 .none := by
    have := Heap.get?_push_size (s.heap.push o) (o := { cls := .type "enumerate", data := .fields #[.none, .bool false, .ref s.heap.objs.size, rawInt 0, .none, .none] }) rfl
    rw [hz] at this; exact this
  refine ⟨⟨_, he, rfl⟩, h _ he (Heap.get?_push_of_some _ (Heap.get?_push_size _ B.free)) (by rw [Heap.size_push, hz]) fun b o x => Heap.get?_push_of_some _ (Heap.get?_push_of_some _ x)⟩
end
def iZE (K : PySem.W.Frag) (d : Kd) (ta : TA) : TI := fun σ H R => ta σ H fun vs H1 => ∃ x k xs, vs = [x] ∧ d.is x k ∧ k.at K H1 xs ∧ R (IzE K k) H1
theorem pi_eN (d : Kd) {X : Cx} {e : Expr} {ta : TA} {p pos tpos : Pos} {elts : List Expr} {kk : Nat} (hg : Gl X "enumerate") (hm : X.mg "enumerate" = none) (ha : PA X [e] ta) (hs : starEach [e] X.env = [(false, eval e X.env)] := by rfl) :
    PI X (.Tuple elts kk tpos) (.Call (.Name "enumerate" p) [e] [] pos) (iZE X.K d ta) := by
  refine ⟨fun pins s σ H R I h => ?_⟩
  refine PyProof.Rows.Call_ (ld_blt I hg hm PyProof.Rows.boot_enumerate (PyProof.Rows.callWith_type1 (thn (ha.run pos pins s σ H _ I h) fun us s1 ⟨vs, H1, I1, r1, q1⟩ => ?_) hs rfl))
  obtain ⟨x, k, xs, ex, i1, hx, q⟩ := q1
  subst ex
  cases r1 with
  | cons ra rr =>
    cases rr
    obtain ⟨t1, F1, B1, f1, l1⟩ := Kd.begins I1 i1 hx ra
    refine enum_begins1 B1 f1 fun h' he g1 hsz hk => wpAny_pyIter_enum he ?_
    have I2 : Inv X pins σ H1 { s1 with heap := h' } := I1.kept (t' := s1.toks) hk
    refine ⟨s1.heap.objs.size + 1, [s1.heap.objs.size + 1, s1.heap.objs.size], _, _, H1, rfl, I2,
      turn_eN (t := t1) (Nat.succ_ne_self _) (fun z => Nat.lt_irrefl _ (l1 _ z)) (fun z => by
        rw [Hs.fp_eq] at z
        rcases List.mem_cons.mp z with z | z
        · exact Nat.succ_ne_self _ z
        · have q : s1.heap.objs.size + 1 < s1.heap.objs.size := l1 _ z
          omega), ⟨⟨.none, he⟩, Hs.it0 g1⟩, fun c hcm => ?_, q⟩
    have e' : c = s1.heap.objs.size + 1 ∨ c = s1.heap.objs.size := by simpa using hcm
    have hle : s1.heap.objs.size ≤ c := by
      rcases e' with z | z
      · rw [z]; exact Nat.le_add_right _ _
      · rw [z]; exact Nat.le_refl _
    exact I1.fpOk hle (I1.hok.fresh hle)
def YEn (xs : Nat → Option V) : Nat → Hp → V → Hp → Prop := fun i H v H' => ∃ T x, v = .ref T ∧ H T = none ∧ H' = upd H T (.tup [.int (i : Nat), x]) ∧ xs i = some x
theorem walk_eN {K : PySem.W.Frag} {k : Hs} {xs : List V} : Walk (IzE K k) xs.length (fun H => k.at K H xs) (YEn fun i => xs[i]?) := by
  refine ⟨fun i H hi h => ⟨xs, xs[i], h, List.getElem?_eq_getElem hi⟩, fun H h => ⟨xs, h, rfl⟩, fun i H x H' hi h hy => ?_⟩
  obtain ⟨T, x', rfl, hT, rfl, ex⟩ := hy
  exact ⟨T, x', rfl, hT, rfl, ex xs h⟩
/-! ### zip of three -/
def Iz3 (K : PySem.W.Frag) (k1 k2 k3 : Hs) : It :=
  ⟨fun i H => ∃ (xs ys zs : List V) (x y z : V), k1.at K H xs ∧ k2.at K H ys ∧ k3.at K H zs ∧ xs[i]? = some x ∧ ys[i]? = some y ∧ zs[i]? = some z,
    fun i H v H' => ∃ T x y z, v = .ref T ∧ H T = none ∧ H' = upd H T (.tup [x, y, z]) ∧ (∀ xs, k1.at K H xs → xs[i]? = some x) ∧ (∀ ys, k2.at K H ys → ys[i]? = some y) ∧ ∀ zs, k3.at K H zs → zs[i]? = some z,
    fun i H => ∃ xs ys zs : List V, k1.at K H xs ∧ k2.at K H ys ∧ k3.at K H zs ∧ i = min (min xs.length ys.length) zs.length⟩
theorem turn_z3 {P : Program} {w : World} {K : PySem.W.Frag} {elts : List Expr} {kk : Nat} {tpos : Pos} {k1 k2 k3 : Hs} {t1 t2 t3 : Tok} {z TI TO i1 i2 i3 : Addr} (S : ZipSep3 z TI TO i1 i2 i3 (k1.fp i1) (k2.fp i2) (k3.fp i3)) (o1 : k1.off i1) (o2 : k2.off i2) (o3 : k3.off i3) :
    Turn P w K (.Tuple elts kk tpos) (Iz3 K k1 k2 k3) [z, TI, TO, i1, i2, i3] z (fun i h => IsZip h z TI TO .none ∧ IsTupOf3 h TI (.ref i1) (.ref i2) (.ref i3) ∧ (∃ x y u, IsTupOf3 h TO x y u) ∧ k1.it t1 i1 i h ∧ k2.it t2 i2 i h ∧ k3.it t3 i3 i h) := by
  refine turn_ofT (wr := [z, TO, i1, i2, i3]) (by simp) (by simp) (fun i h st c hc => ?_) (fun i h h' st k => ?_) (fun A i s Q E st h => wpAny_pyIter_zip st.1 h) (fun X hP hw hK hh i pins s σ H I st hg => ?_) (fun X hP hw hK hh i pins s σ H I st hg Q E hQ => ?_)
  · obtain ⟨hz, hTI, ⟨x, y, u, hTO⟩, h1, h2, h3⟩ := st
    have e' : c = z ∨ c = TI ∨ c = TO ∨ c = i1 ∨ c = i2 ∨ c = i3 := by simpa using hc
    rcases e' with q | q | q | q | q | q
    · rw [q]; exact ⟨_, hz, fun v q => nomatch q⟩
    · rw [q]; exact ⟨_, hTI, fun v q => nomatch q⟩
    · rw [q]; exact ⟨_, hTO, fun v q => nomatch q⟩
    · rw [q]; exact it_obj h1
    · rw [q]; exact it_obj h2
    · rw [q]; exact it_obj h3
  · obtain ⟨hz, hTI, ⟨x, y, u, hTO⟩, h1, h2, h3⟩ := st
    exact ⟨k z (by simp) _ hz, k TI (by simp) _ hTI, ⟨x, y, u, k TO (by simp) _ hTO⟩, it_keep h1 (k i1 (by simp)), it_keep h2 (k i2 (by simp)), it_keep h3 (k i3 (by simp))⟩
  · subst hP hw hK
    obtain ⟨hz, hTI, hTO, h1, h2, h3⟩ := st
    obtain ⟨xs, ys, zs, x, y, u, hx, hy, hu, ex, ey, eu⟩ := hg
    obtain ⟨P1, St1, D1, a1, b1, c1⟩ := Hs.draws (t := t1) I hx o1 (A := X.A.in1) hh
    obtain ⟨P2, St2, D2, a2, b2, c2⟩ := Hs.draws (t := t2) I hy o2 (A := X.A.in1) hh
    obtain ⟨P3, St3, D3, a3, b3, c3⟩ := Hs.draws (t := t3) I hu o3 (A := X.A.in1) hh
    have l1 := (List.getElem?_eq_some_iff.mp ex).1
    have l2 := (List.getElem?_eq_some_iff.mp ey).1
    have l3 := (List.getElem?_eq_some_iff.mp eu).1
    refine ⟨_, _, _, _, _, WalksT.zipD3 S D1 D2 D3, by omega, ⟨hz, hTI, hTO, a1 i h1, a2 i h2, a3 i h3⟩, fun h ⟨q1, q2, q3, q4, q5, q6⟩ => ⟨q1, q2, q3, b1 _ _ q4, b2 _ _ q5, b3 _ _ q6⟩, fun vals ⟨u1, u2, u3, p1, p2, p3, e⟩ => ?_⟩
    obtain ⟨x', ex', r1⟩ := c1 _ _ p1
    obtain ⟨y', ey', r2⟩ := c2 _ _ p2
    obtain ⟨u', eu', r3⟩ := c3 _ _ p3
    subst e
    refine ⟨[x', y', u'], .cons r1 (.cons r2 (.cons r3 .nil)), by show 3 ≤ sizeLine; decide, fun T hT => ⟨T, x', y', u', rfl, hT, rfl, fun qs hz => by rw [Hs.inj I hz hx]; exact ex', fun qs hz => by rw [Hs.inj I hz hy]; exact ey', fun qs hz => by rw [Hs.inj I hz hu]; exact eu'⟩⟩
  · subst hP hw hK
    obtain ⟨hz, hTI, hTO, h1, h2, h3⟩ := st
    obtain ⟨xs, ys, zs, hx, hy, hu, e⟩ := hg
    obtain ⟨P1, St1, D1, a1, b1, c1⟩ := Hs.draws (t := t1) I hx o1 (A := X.A.in1) hh
    obtain ⟨P2, St2, D2, a2, b2, c2⟩ := Hs.draws (t := t2) I hy o2 (A := X.A.in1) hh
    obtain ⟨P3, St3, D3, a3, b3, c3⟩ := Hs.draws (t := t3) I hu o3 (A := X.A.in1) hh
    subst e
    exact (WalksT.zipD3 S D1 D2 D3).done s Q E ⟨hz, hTI, hTO, a1 _ h1, a2 _ h2, a3 _ h3⟩ hQ
def iZ3 (K : PySem.W.Frag) (d1 d2 d3 : Kd) (ta : TA) : TI := fun σ H R => ta σ H fun vs H1 => ∃ x y u k1 k2 k3 xs ys us, vs = [x, y, u] ∧ d1.is x k1 ∧ d2.is y k2 ∧ d3.is u k3 ∧ k1.at K H1 xs ∧ k2.at K H1 ys ∧ k3.at K H1 us ∧ R (Iz3 K k1 k2 k3) H1
theorem pi_z3 (d1 d2 d3 : Kd) {X : Cx} {e e2 e3 : Expr} {ta : TA} {p pos tpos : Pos} {elts : List Expr} {kk : Nat} (hg : Gl X "zip") (hm : X.mg "zip" = none) (ha : PA X [e, e2, e3] ta)
    (hs : starEach [e, e2, e3] X.env = (false, eval e X.env) :: starEach [e2, e3] X.env := by rfl) (hpl : (backTo pos (starEach [e2, e3] X.env)).any (·.1) = false := by rfl) :
    PI X (.Tuple elts kk tpos) (.Call (.Name "zip" p) [e, e2, e3] [] pos) (iZ3 X.K d1 d2 d3 ta) := by
  refine ⟨fun pins s σ H R I h => ?_⟩
  refine PyProof.Rows.Call_ (ld_blt I hg hm PyProof.Rows.boot_zip (PyProof.Rows.callWith_type1 (thn (ha.run pos pins s σ H _ I h) fun us s1 ⟨vs, H1, I1, r1, q1⟩ => ?_) hs hpl))
  obtain ⟨x, y, u, k1, k2, k3, xs, ys, zs, ex, i1, i2, i3, hx, hy, hu, q⟩ := q1
  subst ex
  cases r1 with
  | cons ra rr =>
    cases rr with
    | cons rb rr =>
      cases rr with
      | cons rc rr =>
        cases rr
        obtain ⟨t1, F1, B1, f1, l1⟩ := Kd.begins I1 i1 hx ra
        obtain ⟨t2, F2, B2, f2, l2⟩ := Kd.begins I1 i2 hy rb
        obtain ⟨t3, F3, B3, f3, l3⟩ := Kd.begins I1 i3 hu rc
        refine zip_begins3 B1 B2 B3 f1 f2 f3 fun h' hz hTI hTO g1 g2 g3 hsz hk => wpAny_pyIter_zip hz ?_
        have I2 : Inv X pins σ H1 { s1 with heap := h' } := I1.kept (t' := s1.toks) hk
        have S : ZipSep3 (s1.heap.objs.size + 5) (s1.heap.objs.size + 3) (s1.heap.objs.size + 4) s1.heap.objs.size (s1.heap.objs.size + 1) (s1.heap.objs.size + 2) (k1.fp s1.heap.objs.size) (k2.fp (s1.heap.objs.size + 1)) (k3.fp (s1.heap.objs.size + 2)) := by
          rw [Hs.fp_eq, Hs.fp_eq, Hs.fp_eq]; exact zip_sep3 l1 l2 l3
        refine ⟨s1.heap.objs.size + 5, [s1.heap.objs.size + 5, s1.heap.objs.size + 3, s1.heap.objs.size + 4, s1.heap.objs.size, s1.heap.objs.size + 1, s1.heap.objs.size + 2], _, _, H1, rfl, I2,
          turn_z3 (t1 := t1) (t2 := t2) (t3 := t3) S (fun z => Nat.lt_irrefl _ (l1 _ z)) (fun z => by have q : s1.heap.objs.size + 1 < s1.heap.objs.size := l2 _ z; omega) (fun z => by have q : s1.heap.objs.size + 2 < s1.heap.objs.size := l3 _ z; omega),
          ⟨hz, hTI, ⟨_, _, _, hTO⟩, Hs.it0 g1, Hs.it0 g2, Hs.it0 g3⟩, fun c hcm => ?_, q⟩
        have e' : c = s1.heap.objs.size + 5 ∨ c = s1.heap.objs.size + 3 ∨ c = s1.heap.objs.size + 4 ∨ c = s1.heap.objs.size ∨ c = s1.heap.objs.size + 1 ∨ c = s1.heap.objs.size + 2 := by simpa using hcm
        have hle : s1.heap.objs.size ≤ c := by
          rcases e' with z | z | z | z | z | z
          · rw [z]; exact Nat.le_add_right _ _
          · rw [z]; exact Nat.le_add_right _ _
          · rw [z]; exact Nat.le_add_right _ _
          · rw [z]; exact Nat.le_refl _
          · rw [z]; exact Nat.le_add_right _ _
          · rw [z]; exact Nat.le_add_right _ _
        exact I1.fpOk hle (I1.hok.fresh hle)
def YTr (xs ys zs : Nat → Option V) : Nat → Hp → V → Hp → Prop := fun i H v H' => ∃ T x y z, v = .ref T ∧ H T = none ∧ H' = upd H T (.tup [x, y, z]) ∧ xs i = some x ∧ ys i = some y ∧ zs i = some z
theorem walk_z3 {K : PySem.W.Frag} {k1 k2 k3 : Hs} {xs ys zs : List V} : Walk (Iz3 K k1 k2 k3) (min (min xs.length ys.length) zs.length) (fun H => k1.at K H xs ∧ k2.at K H ys ∧ k3.at K H zs) (YTr (fun i => xs[i]?) (fun i => ys[i]?) fun i => zs[i]?) := by
  refine ⟨fun i H hi h => ?_, fun H h => ⟨xs, ys, zs, h.1, h.2.1, h.2.2, rfl⟩, fun i H x H' hi h hy => ?_⟩
  · have h1 : i < xs.length := by omega
    have h2 : i < ys.length := by omega
    have h3 : i < zs.length := by omega
    exact ⟨xs, ys, zs, xs[i], ys[i], zs[i], h.1, h.2.1, h.2.2, List.getElem?_eq_getElem h1, List.getElem?_eq_getElem h2, List.getElem?_eq_getElem h3⟩
  · obtain ⟨T, x', y', z', rfl, hT, rfl, ex, ey, ez⟩ := hy
    exact ⟨T, x', y', z', rfl, hT, rfl, ex xs h.1, ey ys h.2.1, ez zs h.2.2⟩
end G

namespace G
open PySem PySem.Spec L2
/-! text[::-1] -/
theorem rev_ix (n : Nat) : Builtin.Str.strSliceIndices none none (-1) n = (List.range n).reverse := by
  have e : Builtin.Str.strSliceIndices none none (-1) n = sliceRange ((n : Int) - 1) (-1) (-1) := rfl
  rw [e, PySem.W.krv_sliceRange, PySem.W.krv_range]
def tRevS (te : TE) : TE := fun σ H Q => te σ H fun x H1 => ∃ l, x = sv l ∧ l.length ≤ sizeLine ∧ Q (sv l.reverse) H1
theorem pe_revS {X : Cx} {e : Expr} {te : TE} {k : Nat} {p1 p2 p3 pos : Pos} (he : PE X e te) : PE X (.Subscript e (.Slice none none (some (.UnaryOp .USub (.Constant (.int 1) k p1) p2)) p3) pos) (tRevS te) := by
  refine ⟨fun pins s σ H Q I h => ?_⟩
  refine PyProof.Rows.Subscript_ (thn (he.run pins s σ H _ I h) fun v s1 ⟨x, H1, I1, r1, q1⟩ => ?_)
  obtain ⟨a, ex, hx, q⟩ := q1
  subst ex
  obtain ⟨t, rfl⟩ := r1
  have hst : PO X (some (.UnaryOp .USub (.Constant (.int 1) k p1) p2)) (tPart (tUn (rU fun i => .int (-i)) (tC (.int 1)))) := po_some (pe_un un_neg pe_int)
  refine wpAny_Slice (thn (po_none.run pins s1 σ H1 (fun o H2 => o = none ∧ H2 = H1) I1 ⟨rfl, rfl⟩) fun vl s2 ⟨l, H2, I2, pl, el, e2⟩ => ?_)
  subst el e2
  refine thn (po_none.run pins s2 σ H2 (fun o H3 => o = none ∧ H3 = H2) I2 ⟨rfl, rfl⟩) fun vu s3 ⟨u, H3, I3, pu, eu, e3⟩ => ?_
  subst eu e3
  refine thn (hst.run pins s3 σ H3 (fun o H4 => o = some (-1) ∧ H4 = H3) I3 ⟨1, rfl, -1, rfl, rfl, rfl⟩) fun vs s4 ⟨o, H4, I4, ps, eo, e4⟩ => ?_
  subst eo e4
  have I5 : Inv X pins σ H4 { s4 with heap := s4.heap.push { cls := .type "slice", data := .fields #[vl, vu, vs] } } := I4.kept (t' := s4.toks) fun b ob q => Heap.get?_push_of_some _ q
  show wpAny (model X.prog X.w) X.A (PyProof.Rows.subscriptTail e (.Slice none none (some (.UnaryOp .USub (.Constant (.int 1) k p1) p2)) p3) (.str _ t) (.ref s4.heap.objs.size)) (EP X pins σ Q) X.xe { s4 with heap := s4.heap.push { cls := .type "slice", data := .fields #[vl, vu, vs] } }
  refine PyProof.Rows.tail_any (ops := [.str _ t, .ref s4.heap.objs.size]) (typeIs_str _ _ _) (PySem.F.slot_str_getitem.lookup) ?_ (by with_unfolding_all rfl)
  obtain ⟨l0, rfl, e0⟩ := IsPart.raw pl
  obtain ⟨u0, rfl, e1⟩ := IsPart.raw pu
  obtain ⟨st0, rfl, e2⟩ := IsPart.raw ps
  refine wpAny_getItem_str_slice (l := l0) (u := u0) (st := st0) ⟨_, Heap.get?_push_size _ rfl, rfl, rfl⟩ (by rw [e2]; rfl) ?_
  unfold sliceMade slicePicked
  rw [e0, e1, e2]
  have h1 : ((Option.getD (some (-1 : Int)) 1 == 1) && (Builtin.Str.strSliceIndices none none (Option.getD (some (-1 : Int)) 1) (Str.mk a.toArray).length).length == (Str.mk a.toArray).length) = false := rfl
  rw [if_neg (by rw [h1]; exact Bool.false_ne_true)]
  have h2 : (Builtin.Str.strSliceIndices none none (Option.getD (some (-1 : Int)) 1) (Str.mk a.toArray).length).filterMap ((Str.mk a.toArray).cps[·]?) = a.reverse := by
    show (Builtin.Str.strSliceIndices none none (-1) (Str.mk a.toArray).length).filterMap (a.toArray[·]?) = a.reverse
    rw [rev_ix, strL, List.filterMap_reverse]
    have := PySem.W.krv_all a.toArray
    rw [List.size_toArray] at this
    rw [this]
  rw [h2]
  have hl : (Str.mk a.reverse.toArray).length ≤ sizeLine := by rw [strL, List.length_reverse]; exact hx
  exact ⟨hl, .str _, _, I5.tok _, ⟨_, rfl⟩, q⟩
end G

namespace G
open PySem PySem.Spec L2
/-- letters: one to four, ascending -/
def Ltr (L : List Nat) : Prop := L ≠ [] ∧ L.length ≤ 4 ∧ (∀ c ∈ L, 97 ≤ c ∧ c ≤ 122) ∧ L.Pairwise (· < ·)
def spInt : Sp := fun vs H Q _ => ∃ i : Int, vs = [.int i] ∧ Q (.bl true) H
def spFromTo : Sp := fun vs H Q _ => ∃ i a b : Int, vs = [.int i, .int a, .int b] ∧ Q (.bl (decide (a ≤ i ∧ i ≤ b))) H
def spIsLtr : Sp := fun vs H Q _ => ∃ l, vs = [sv l] ∧ Ltr l ∧ ∀ H', Same H H' → Q (.bl true) H'
def spChLtr : Sp := fun vs H Q _ => ∃ l, vs = [sv l] ∧ Ltr l ∧ ∀ H', Same H H' → Q .non H'
def spPick : Sp := fun vs H Q _ => ∃ (st rows : Addr) (xs : List V), vs = [.ref st, .ref rows] ∧ Strm H st ∧ H rows = some (.lst xs) ∧ rows ≠ st ∧ xs ≠ [] ∧ xs.length < 1073741824 ∧ ∀ v H', v ∈ xs → Adv st H H' → Q v H'
def spLetters : Sp := fun vs H Q _ => ∃ st, vs = [.ref st] ∧ Strm H st ∧ ∀ L H', Ltr L → Adv st H H' → Q (sv L) H'
end G

namespace G
open PySem PySem.Spec L2
theorem flat1 : ∀ l : List Nat, (l.map fun c => [c]).flatten = l
  | [] => rfl
  | c :: l => by simp [flat1 l]
theorem map_sv1 (l : List Nat) : (l.map fun c => [c]).map sv = l.map fun c => sv [c] := by rw [List.map_map]; rfl
theorem azs_at : ∀ i, i < 26 → azs[i]? = some (i + 97) := by decide
theorem azs_is : (List.range 26).map (· + 97) = azs := by decide
theorem azs_mem {c : Nat} : c ∈ azs ↔ 97 ≤ c ∧ c ≤ 122 := by
  unfold azs
  simp only [List.mem_cons, List.not_mem_nil, or_false]
  omega
/-- the letters that are left -/
def left (cs : List Nat) : List Nat := azs.filter fun c => !decide (c ∈ cs)
theorem left_len (cs : List Nat) : ∀ A : List Nat, A.Nodup → A.length ≤ (A.filter fun c => !decide (c ∈ cs)).length + cs.length := by
  induction cs with
  | nil => intro A _; rw [List.filter_eq_self.mpr (fun _ _ => by simp)]; simp
  | cons c r ih =>
    intro A hA
    have h1 := ih A hA
    have hB : (A.filter fun c => !decide (c ∈ r)).Nodup := List.Pairwise.filter _ hA
    have e : (A.filter fun x => !decide (x ∈ c :: r)) = (A.filter fun c => !decide (c ∈ r)).erase c := by
      rw [List.Nodup.erase_eq_filter hB, List.filter_filter]
      refine List.filter_congr fun x _ => ?_
      by_cases h : x = c <;> by_cases h2 : x ∈ r <;> simp [h, h2]
    rw [e, List.length_erase]
    split <;> simp only [List.length_cons] <;> omega
theorem left_ne {cs : List Nat} (h : cs.length < 26) : left cs ≠ [] := by
  intro e
  have h1 := left_len cs azs (by decide)
  unfold left at e
  rw [e] at h1
  have : azs.length = 26 := rfl
  simp at h1; omega
theorem left_mem {cs : List Nat} {c : Nat} (h : c ∈ left cs) : (97 ≤ c ∧ c ≤ 122) ∧ c ∉ cs := by
  unfold left at h
  rw [List.mem_filter] at h
  exact ⟨azs_mem.mp h.1, by simpa using h.2⟩
theorem left_range (cs : List Nat) : ((List.range 26).filter fun i => !decide (i + 97 ∈ cs)).map (fun i => sv [i + 97]) = (left cs).map fun c => sv [c] := by
  unfold left
  rw [← azs_is, List.filter_map, List.map_map]; rfl
theorem sort_ltr {cs ys : List Nat} (hp : ys.Perm cs) (hs : ys.Pairwise (· ≤ ·)) (hn : cs.Nodup) : ys.Pairwise (· < ·) := by
  have h1 : ys.Nodup := hp.nodup_iff.mpr hn
  exact (hs.and h1).imp fun ⟨a, b⟩ => Nat.lt_of_le_of_ne a b
end G

namespace G
open PySem PySem.Spec L2
theorem ex_str {l : List Nat} : (∃ a, sv l = V.str a) = True := propext ⟨fun _ => trivial, fun _ => ⟨_, rfl⟩⟩
end G

namespace G
open PySem PySem.Spec L2
theorem op_ltKR {X : Cx} {k : Nat} (hr : Room k X.A) : OpR X (compareOp .Lt) (fun x y H Q => ∃ (p q : Addr) (a b : List Nat), x = .ref p ∧ y = .ref q ∧ H p = some (.tup [.int a.length, sv a]) ∧ H q = some (.tup [.int b.length, sv b]) ∧ Q (.bl (decide (wlt a b))) H) := op_ltK (by have := hr.un; omega)
end G

namespace G
open PySem PySem.Spec L2
def atD {α β : Type} (xs : List α) (g : α → β) (d : β) (i : Nat) : β := match xs[i]? with | some p => g p | none => d
theorem map_range_get {α β : Type} (xs : List α) (g : α → β) (d : β) : (List.range xs.length).map (atD xs g d) = xs.map g := by
  refine List.ext_getElem (by simp) fun i h1 h2 => ?_
  have hi : i < xs.length := by simpa using h2
  simp [atD, hi]
theorem all_bls (xs : List Bool) : xs.all id = xs.all (fun b => b) := rfl
end G

namespace G
open PySem PySem.Spec L2
/-! dicts with texts as keys -/
def kS (l : List Nat) : Key := .inr ⟨l.toArray⟩
theorem kS_inj {a b : List Nat} : kS a = kS b ↔ a = b := by
  constructor
  · intro h
    have h1 : (⟨a.toArray⟩ : Str) = ⟨b.toArray⟩ := Sum.inr.inj h
    exact sv_inj.mp (congrArg V.str h1)
  · intro h; rw [h]
theorem kV_kS (l : List Nat) : kV (kS l) = sv l := rfl
/-- the dict of texts that all have the value v -/
def kAll (v : V) (ws : List (List Nat)) : List (Key × V) := ws.map fun w => (kS w, v)
theorem kAll_len (v : V) (ws : List (List Nat)) : (kAll v ws).length = ws.length := by simp [kAll]
theorem kAll_any (v : V) (ws : List (List Nat)) (w : List Nat) : ((kAll v ws).any fun kv => decide (kv.1 = kS w)) = decide (w ∈ ws) := by
  induction ws with
  | nil => rfl
  | cons x r ih =>
    show (decide (kS x = kS w) || ((kAll v r).any fun kv => decide (kv.1 = kS w))) = _
    have e : decide (kS x = kS w) = decide (x = w) := decide_eq_decide.mpr kS_inj
    rw [ih, e]
    by_cases h : x = w
    · subst h; simp
    · have h2 : ¬ w = x := fun e => h e.symm
      simp [h, h2]
theorem kAll_val (v : V) (ws : List (List Nat)) (w : List Nat) : (valV (kAll v ws) (kS w)).isSome = decide (w ∈ ws) := by
  rw [← valV_any, kAll_any]
theorem kAll_put (v : V) (ws : List (List Nat)) (w : List Nat) : putK (kAll v ws) (kS w) v = kAll v (if w ∈ ws then ws else ws ++ [w]) := by
  unfold putK
  rw [kAll_any]
  by_cases h : w ∈ ws
  · rw [if_pos (decide_eq_true h), if_pos h]
    unfold kAll
    rw [List.map_map]
    refine List.map_congr_left fun x _ => ?_
    show (if kS x = kS w then (kS x, v) else (kS x, v)) = (kS x, v)
    split <;> rfl
  · rw [if_neg (by simp [h]), if_neg h]
    unfold kAll
    rw [List.map_append]; rfl
/-- d[text] = v -/
def rSetS : TSet := fun o i v H Q => ∃ (a : Addr) (kvs : List (Key × V)) (w : List Nat), o = .ref a ∧ i = sv w ∧ H a = some (.dK kvs) ∧ kvs.length < 16777216 ∧ Q (upd H a (.dK (putK kvs (kS w) v)))
theorem set_dS {X : Cx} {k : Nat} (hr : Room k X.A) : PSet X rSetS := by
  intro pins s σ H o i v ov iv u Q I ro ri rv h
  obtain ⟨a, kvs, w, rfl, rfl, ha, hl, q⟩ := h
  exact set_dict (hu_of hr) pins s σ H _ _ v ov iv u Q I ro ri rv ⟨a, _, rfl, .k (k := kS w) ha (by rw [sl_is]; exact hl), q⟩
/-- the words of the beginnings, in the order in which they are met -/
def addW (ws : List (List Nat)) (w : List Nat) : List (List Nat) := if w ∈ ws then ws else ws ++ [w]
theorem addW_mem {ws : List (List Nat)} {w x : List Nat} : x ∈ addW ws w ↔ x ∈ ws ∨ x = w := by
  unfold addW
  split
  · next h => exact ⟨.inl, fun z => z.elim id fun e => e ▸ h⟩
  · simp
theorem addW_nodup {ws : List (List Nat)} {w : List Nat} (h : ws.Nodup) : (addW ws w).Nodup := by
  unfold addW
  split
  · exact h
  · next hn =>
    rw [List.nodup_append]
    exact ⟨h, by simp, fun a ha b hb e => hn (by rw [List.mem_singleton.mp hb] at e; exact e ▸ ha)⟩
theorem addW_len {ws : List (List Nat)} {w : List Nat} : (addW ws w).length ≤ ws.length + 1 := by
  unfold addW
  split <;> simp
end G

namespace G
open PySem PySem.Spec L2
def spPlain : Sp := fun vs H Q _ => ∃ l, vs = [sv l] ∧ Plain l ∧ ∀ H', Same H H' → Q (.bl true) H'
def spChPlain : Sp := fun vs H Q _ => ∃ l n, vs = [sv l, sv n] ∧ Plain l ∧ ∀ H', Same H H' → Q .non H'
end G

namespace G
open PySem PySem.Spec L2
def scW : Scope := { kind := .function, names := [(PySem.Str.ofString "word", .local), (PySem.Str.ofString "len", .globalImplicit)], isGenerator := false, isCoroutine := false, more := [] }
def keyD (w : List Nat) : PyData := .tuple [.int w.length, .str ⟨w.toArray⟩]
theorem order_key {X : Cx} {pins : List (Addr × Obj)} {σ : L2.St} {H : Hp} {s : Shared} (I : Inv X pins σ H s) {x : Str} {st : Stmt} {f : Addr} {fd : FuncData} (F : Fun X.K x x st f fd) {p1 p2 p3 p4 p5 p6 : Pos} {k : Nat}
    (hb : defBody st = [.Return (some (.Tuple [.Call (.Name "len" p1) [.Name "word" p2] [] p3, .Name "word" p4] k p5)) p6]) (hs : defScope st = scW)
    (hbd : ∀ (kV doc pm : Value) (an : Option Addr) (cdv ct : Value) (u : Value), bindArgs (PySem.W.fnOf x x (defArgs st) (defBody st) (defScope st) .none kV doc pm an cdv ct) ⟨[u], []⟩ = pure [(("word" : Str), u)])
    (hm : X.mg "len" = none) {w : List Nat} {t : Tok} (hl : w.length ≤ sizeLine) {A : Around} (hroom : A.depth < recursionLimit) {h : Heap} {tk : Nat} (hk : ∀ b o, s.heap.get? b = some o → h.get? b = some o) :
    wpAny (model X.prog X.w) A (call (.ref f) [.str ⟨w.toArray⟩ t]) (PySem.W.KeyPure (keyD w) { s with heap := h, toks := tk }) (fun _ _ => False) { s with heap := h, toks := tk } := by
  have I2 : Inv X pins σ H { s with heap := h, toks := tk } := I.kept hk
  obtain ⟨oc, od, kV, doc, pm, an, cdv, ct, osl, rfl, looked, coded⟩ := F.ex
  refine wpAny_call ?_
  refine Att.call_fn (binds := [(("word" : Str), .str ⟨w.toArray⟩ t)]) I2.kIn I2.nolimit looked coded hroom (BindsTo.of_eq (hbd _ _ _ _ _ _ _)) ?_ (fun s₁ IC => ?_) ?_ ?_ ?_
  · rw [hs]; rfl
  · obtain ⟨h₁, tk₁, rfl⟩ := IC.toInCall.same
    have k2 : ∀ b o, h.get? b = some o → h₁.get? b = some o := IC.toInCall.keep
    have hn := IC.toInCall.ns
    have bk : ∀ b o, X.base.get? b = some o → h₁.get? b = some o := fun b o e => k2 b o (I2.bk b o e)
    obtain ⟨mb, h1, h2⟩ := I.mod.blt
    rw [hb]
    refine wpAny_execs_cons (wpAny_Return_some (PyProof.Rows.Tuple_ ?_))
    have lw : ∀ {s' : Shared} {pos : Pos} {Q : Value → Shared → Prop} {E : Value → Shared → Prop} {A' : Around}, s'.heap = h₁ → Q (.str ⟨w.toArray⟩ t) s' → wpAny (model X.prog X.w) A' (eval (.Name "word" pos) (PyProof.Rows.envOfC x (defScope st) h.objs.size f cdv)) Q E s' := fun {s' pos Q E A'} e q => by
      refine wpAny_Name (wpAny_loadName_local (by rw [hs]; rfl) (by rw [hs]; rfl) (by rw [e]; exact hn) ?_ q) (by decide)
      rw [hs]; rfl
    refine PyProof.Rows.args_cons ?_ rfl
    refine PyProof.Rows.Call_ (Calls.Name_function_global (by rw [hs]; rfl) (by rw [hs]; rfl) (Calls.loadGlobal_builtin (mg := X.mg) (mb := mb) ?_ hm ?_ ((h2 "len" (by decide)).trans PySem.boot_len) ?_))
    · exact I.mod.glob.keeps bk
    · exact h1.keeps bk
    refine PyProof.Rows.callWith_builtin1 (PyProof.Rows.args_cons (lw rfl (PyProof.Rows.args_nil ?_)) rfl) rfl rfl
    refine PySem.P.len_str ?_ ?_
    · show ¬ ((Str.mk w.toArray).length : Int) ≥ 2 ^ 63
      rw [strL]
      have : (sizeLine : Nat) = 16777216 := sl_is
      omega
    refine PyProof.Rows.args_cons (lw rfl (PyProof.Rows.args_nil (wpAny_newTuple ?_ (by show 2 ≤ sizeLine; decide)))) rfl
    refine ⟨_, _, rfl, fun b o e => Heap.get?_push_of_some _ (k2 b o e), ?_⟩
    exact .tuple (as := []) (Heap.get?_push_size _ rfl) rfl rfl (.cons (as := []) (bs := []) (.int _ _) (.cons (as := []) (bs := []) (.str _ _) .nil))
  · rw [hs]; rfl
  · rw [hs]; rfl
  · rw [hs]; rfl
/-! sorted(list of texts, key=order_of) -/
theorem keyLt (x y : List Nat) : PyProof.Rows.lexLt PyProof.Rows.itemOrd (PySem.W.keyToks (keyD x)) (PySem.W.keyToks (keyD y)) = decide (wlt x y) := by
  have hx : PySem.W.keyToks (keyD x) = [.inl 1, .inl (x.length : Int), .inl 1, .inr x, .inl 0] := rfl
  have hy : PySem.W.keyToks (keyD y) = [.inl 1, .inl (y.length : Int), .inl 1, .inr y, .inl 0] := rfl
  rw [hx, hy]
  have h1 : ∀ (r t : List (Int ⊕ List Nat)) (a : Int), PyProof.Rows.lexLt PyProof.Rows.itemOrd (.inl a :: r) (.inl a :: t) = PyProof.Rows.lexLt PyProof.Rows.itemOrd r t := fun r t a => by
    show (decide (a < a) || (!decide (a < a) && PyProof.Rows.lexLt PyProof.Rows.itemOrd r t)) = _
    simp
  have h2 : ∀ (r t : List (Int ⊕ List Nat)) (a b : Int), PyProof.Rows.lexLt PyProof.Rows.itemOrd (.inl a :: r) (.inl b :: t) = (decide (a < b) || (!decide (b < a) && PyProof.Rows.lexLt PyProof.Rows.itemOrd r t)) := fun r t a b => rfl
  have h3 : PyProof.Rows.lexLt PyProof.Rows.itemOrd [.inr x, .inl 0] [.inr y, .inl 0] = decide (x < y) := by
    show (decide (x < y) || (!decide (y < x) && (decide ((0 : Int) < 0) || (!decide ((0 : Int) < 0) && false)))) = _
    simp
  rw [h1, h2, h1, h3]
  unfold wlt
  by_cases c1 : x.length < y.length
  · simp [c1]
  · by_cases c2 : y.length < x.length
    · have : ¬ x.length = y.length := by omega
      simp [c1, c2, this]
    · have : x.length = y.length := by omega
      simp [this]
theorem keys_alike (ws : List (List Nat)) : PySem.W.AllAlike (ws.map keyD) := by
  intro d hd d' hd'
  obtain ⟨a, _, rfl⟩ := List.mem_map.mp hd
  obtain ⟨b, _, rfl⟩ := List.mem_map.mp hd'
  rfl
theorem keys_sortable (ws : List (List Nat)) : PySem.W.Sortable (ws.map keyD) := .inl fun d hd => by
  obtain ⟨a, _, rfl⟩ := List.mem_map.mp hd
  exact ⟨_, _, rfl⟩
def rSortKey (f : Addr) : List V → List V → Hp → VK → Prop := fun vs zs H Q => ∃ (a : Addr) (ws : List (List Nat)), vs = [.ref a] ∧ zs = [.ref f] ∧ H a = some (.lst (ws.map sv)) ∧ (∀ w ∈ ws, w.length ≤ sizeLine) ∧
  ∀ (ys : List (List Nat)) (p : Addr), ys.Perm ws → ys.Pairwise (fun x y => ¬ wlt y x) → H p = none → Q (.ref p) (upd H p (.lst (ys.map sv)))
theorem txt_vals {ws : List (List Nat)} {its : List Value} (r : Vals (ws.map sv) its) : PySem.W.EachIs (fun v w => RelV (sv w) v) its ws := by
  induction ws generalizing its with
  | nil => cases r; exact .nil
  | cons w ws ih => cases r with | cons r1 r2 => exact .cons r1 (ih r2)
theorem vals_txt {ws : List (List Nat)} {its : List Value} (r : PySem.W.EachIs (fun v w => RelV (sv w) v) its ws) : Vals (ws.map sv) its := by
  induction r with
  | nil => exact .nil
  | cons h _ ih => exact .cons h ih
theorem cr_sortKey {X : Cx} {k : Nat} (hr : Room k X.A) {x : Str} {st : Stmt} {f : Addr} {fd : FuncData} (F : Fun X.K x x st f fd) {p1 p2 p3 p4 p5 p6 : Pos} {kk : Nat}
    (hb : defBody st = [.Return (some (.Tuple [.Call (.Name "len" p1) [.Name "word" p2] [] p3, .Name "word" p4] kk p5)) p6]) (hs : defScope st = scW)
    (hbd : ∀ (kV doc pm : Value) (an : Option Addr) (cdv ct : Value) (u : Value), bindArgs (PySem.W.fnOf x x (defArgs st) (defBody st) (defScope st) .none kV doc pm an cdv ct) ⟨[u], []⟩ = pure [(("word" : Str), u)])
    (hm : X.mg "len" = none) : CallRK X (.builtin "sorted") [Str.ofString "key"] (rSortKey f) := by
  intro pins s σ H vs zs us ws Q I r rz h
  obtain ⟨a, ts, rfl, rfl, ha, hl, q⟩ := h
  obtain rfl := Vals.ref1 r
  obtain rfl := Vals.ref1 rz
  obtain ⟨its, rv, pl, hz⟩ := I.list (.inl (.inl ha))
  have hlen := rv.length
  rw [List.length_map] at hlen
  have hz2 : ts.length ≤ sizeLine := by rw [List.length_map] at hz; exact hz
  refine PySem.W.sorted_key_data (b := false) keyD pl.isList (txt_vals rv) (keys_alike ts) (keys_sortable ts) hz2 (fun w _ => ?_) (PyProof.Rows.ksk_s1 _ _) (fun _ => PyProof.Rows.ksk_l1 _ _) (fun y => PyProof.Rows.ksk_t1 _ _) (fun v w hR hw h tk hk => ?_) fun out c h' tk hk hf ho hol he => ?_
  · have := hr.un
    show X.A.units + 2 + 1 < cLine
    omega
  · obtain ⟨t, rfl⟩ := hR
    exact order_key I F hb hs hbd hm (hl w hw) (by have := hr.dp; show X.A.depth < recursionLimit; omega) hk
  · have hperm := List.mergeSort_perm ts (PySem.W.dataLe false keyD)
    have hsrt : (ts.mergeSort (PySem.W.dataLe false keyD)).Pairwise (fun x y => ¬ wlt y x) := by
      have z := PySem.W.sort_pairwise (PySem.W.sortLe_total (PyProof.Rows.listOrd PyProof.Rows.itemOrd) false fun b => PySem.W.keyToks (keyD b)) ts
      refine z.imp fun {u v} h => ?_
      have h2 : (!PyProof.Rows.lexLt PyProof.Rows.itemOrd (PySem.W.keyToks (keyD v)) (PySem.W.keyToks (keyD u))) = true := h
      rw [keyLt] at h2
      simpa using h2
    generalize ts.mergeSort (PySem.W.dataLe false keyD) = ys at *
    have hn : H (s.heap.objs.size + 1) = none := I.hok.fresh (Nat.le_succ _)
    have hlen2 : (ys.map sv).length ≤ sizeLine := by rw [List.length_map, hperm.length_eq]; exact hz2
    exact ⟨.ref _, upd H (s.heap.objs.size + 1) (.lst (ys.map sv)), I.laid (t' := tk) hk (Nat.le_succ _) ⟨hlen2, out, c, vals_txt he, ho⟩, rfl, q ys _ hperm hsrt hn⟩
/-! sorted(dict with texts as keys, key=order_of) -/
def rSortKeyD (f : Addr) : List V → List V → Hp → VK → Prop := fun vs zs H Q => ∃ (a : Addr) (kvs : List (Key × V)) (ts : List (List Nat)), vs = [.ref a] ∧ zs = [.ref f] ∧ H a = some (.dK kvs) ∧ kvs.map (·.1) = (ts.map fun w => (Sum.inr (⟨w.toArray⟩ : Str) : Key)) ∧ (∀ w ∈ ts, w.length ≤ sizeLine) ∧ ts.length ≤ sizeLine ∧
  ∀ (ys : List (List Nat)) (p : Addr), ys.Perm ts → ys.Pairwise (fun x y => ¬ wlt y x) → H p = none → Q (.ref p) (upd H p (.lst (ys.map sv)))
theorem strs_each {ts : List (List Nat)} {its : List Value} (r : PyProof.Rows.StrsAre its (ts.map fun w => (⟨w.toArray⟩ : Str))) : PySem.W.EachIs (fun v w => RelV (sv w) v) its ts := by
  induction ts generalizing its with
  | nil => cases r; exact .nil
  | cons w ws ih => cases r with | cons t k r2 => exact .cons ⟨_, rfl⟩ (ih r2)
theorem cr_sortKeyD {X : Cx} {k : Nat} (hr : Room k X.A) (hcalm : X.calm = true) {x : Str} {st : Stmt} {f : Addr} {fd : FuncData} (F : Fun X.K x x st f fd) {p1 p2 p3 p4 p5 p6 : Pos} {kk : Nat}
    (hb : defBody st = [.Return (some (.Tuple [.Call (.Name "len" p1) [.Name "word" p2] [] p3, .Name "word" p4] kk p5)) p6]) (hs : defScope st = scW)
    (hbd : ∀ (kV doc pm : Value) (an : Option Addr) (cdv ct : Value) (u : Value), bindArgs (PySem.W.fnOf x x (defArgs st) (defBody st) (defScope st) .none kV doc pm an cdv ct) ⟨[u], []⟩ = pure [(("word" : Str), u)])
    (hm : X.mg "len" = none) : CallRK X (.builtin "sorted") [Str.ofString "key"] (rSortKeyD f) := by
  intro pins s σ H us0 zs us ws Q I r rz h
  obtain ⟨a, kvs, ts, rfl, rfl, ha, hks, hl, htl, q⟩ := h
  obtain rfl := Vals.ref1 r
  obtain rfl := Vals.ref1 rz
  obtain ⟨z, lo, vs, rel, dd⟩ := dk_rd I.hok (.inl ha)
  obtain ⟨ep, hat⟩ := dd.dictAt
  have hkeys : vs.map (·.1) = (ts.map fun w => (Sum.inr (⟨w.toArray⟩ : Str) : Key)) := rel.keys.symm.trans hks
  have hlen : vs.length = ts.length := by
    have e := congrArg List.length hkeys
    rw [List.length_map, List.length_map] at e
    exact e
  have h16 : vs.length ≤ sizeLine := by rw [hlen]; exact htl
  refine PyProof.Rows.call_function_entry_kw PyProof.Rows.kind_sorted PyProof.Rows.plain_sorted PyProof.Rows.entry_sorted (PyProof.Rows.ksk_s1 _ _) ?_
  unfold Builtin.«sorted»
  refine wpAny_bind (m := checkCount "sorted" 1 1 _) (wpAny_pure ?_)
  refine wpAny_bind (PySem.W.kdu_collect (A := X.A.in1) (PySem.W.kdl_dict (knd := mixKind X.prog X.w) (kvs := vs) (ep := ep) lo) (I.ok.hd hcalm) hat h16 fun h' tk acc hk hacc => ?_)
  have hal : acc.toList.length = ts.length := by rw [Array.length_toList, hacc.1, hlen]
  have hS : PyProof.Rows.StrsAre acc.toList (ts.map fun w => (⟨w.toArray⟩ : Str)) := strs_at (by rw [hal, List.length_map]) fun j v e => by
    obtain ⟨k, x, e1, e2⟩ := hacc.2 j v (by rw [← Array.getElem?_toList]; exact e)
    have e3 : (vs.map (·.1))[j]? = some k := by rw [List.getElem?_map, e1]; all_goals rfl
    rw [hkeys, List.getElem?_map] at e3
    cases e4 : ts[j]? with
    | none => rw [e4] at e3; cases e3
    | some y =>
      rw [e4] at e3
      have e5 : (Sum.inr (⟨y.toArray⟩ : Str) : Key) = k := Option.some.inj e3
      subst e5
      obtain ⟨t, ev⟩ := Value.isStrOf_shape (x := (⟨y.toArray⟩ : Str)) (v := v) e2
      exact ⟨_, t, by rw [List.getElem?_map, e4]; rfl, ev⟩
  have I1 : Inv X pins σ H { s with heap := h', toks := tk } := I.kept hk
  have hE := strs_each hS
  refine wpAny_bind (wpAny_newList ?_ (by rw [hal]; exact htl))
  have hoL : (h'.push (PyProof.Rows.seqObj "list" acc.toList.toArray 0)).get? h'.objs.size = some (PyProof.Rows.seqObj "list" acc.toList.toArray 0) := Heap.get?_push_size _ rfl
  have hup : ∀ b o, s.heap.get? b = some o → b ≠ h'.objs.size ∧ (h'.push (PyProof.Rows.seqObj "list" acc.toList.toArray 0)).get? b = some o := fun b o e => ⟨Nat.ne_of_lt (Heap.lt_size (hk b o e)), Heap.get?_push_of_some _ (hk b o e)⟩
  show wpAny _ _ _ _ _ { s with heap := h'.push (PyProof.Rows.seqObj "list" acc.toList.toArray 0), toks := tk }
  refine wpAny_bind (wpAny_holding (PyProof.Rows.wpAny_call_entry_kw PyProof.Rows.slot_list_sort ⟨_, hoL, rfl⟩ PyProof.Rows.entry_list_sort ?body (PyProof.Rows.ksk_l1 _ _)))
  case body =>
    show wpAny _ _ (Builtin.«list.sort» ⟨[Value.ref h'.objs.size], [(Str.ofString "key", Value.ref f)]⟩) _ _ _
    rw [PyProof.Rows.ksk_t1]
    refine PySem.W.keyH_tree (kz := ts.map keyD) (vs := acc.toList) (s := { s with heap := h'.push (PyProof.Rows.seqObj "list" acc.toList.toArray 0), toks := tk }) hoL (by rw [List.length_map, hal]) (by rw [hal]; exact htl) (keys_alike ts) (keys_sortable ts) (fun d hd => ?_)
      (PySem.W.keyH_turns (s := { s with heap := h'.push (PyProof.Rows.seqObj "list" acc.toList.toArray 0), toks := tk }) hE fun v w hR hw h tk2 kp => ?_) fun h2 tk2 out c kp hD ko => ⟨_, rfl, ?_⟩
    · obtain ⟨w, _, rfl⟩ := List.mem_map.mp hd
      have := hr.un
      show X.A.units + 1 + 1 + 1 < cLine
      omega
    · obtain ⟨t, rfl⟩ := hR
      exact order_key I F hb hs hbd hm (hl w hw) (by have := hr.dp; show X.A.depth < recursionLimit; omega) (fun b o e => kp b o (hup b o e).1 (hup b o e).2)
    · have he := PySem.W.keyedOut_each keyD ko hE
      have hperm := List.mergeSort_perm ts (PySem.W.dataLe false keyD)
      have hsrt : (ts.mergeSort (PySem.W.dataLe false keyD)).Pairwise (fun x y => ¬ wlt y x) := by
        have z := PySem.W.sort_pairwise (PySem.W.sortLe_total (PyProof.Rows.listOrd PyProof.Rows.itemOrd) false fun b => PySem.W.keyToks (keyD b)) ts
        refine z.imp fun {u v} h => ?_
        have h2 : (!PyProof.Rows.lexLt PyProof.Rows.itemOrd (PySem.W.keyToks (keyD v)) (PySem.W.keyToks (keyD u))) = true := h
        rw [keyLt] at h2
        simpa using h2
      generalize ts.mergeSort (PySem.W.dataLe false keyD) = ys at *
      have hn : H h'.objs.size = none := I1.hok.fresh (Nat.le_refl _)
      have hlen2 : (ys.map sv).length ≤ sizeLine := by rw [List.length_map, hperm.length_eq]; exact htl
      refine wpAny_pure ⟨_, rfl, .ref h'.objs.size, upd H h'.objs.size (.lst (ys.map sv)), I1.laid (t' := tk2) (fun b u e => ?_) (Nat.le_refl _) ⟨hlen2, out, c, vals_txt he, hD⟩, rfl, q ys _ hperm hsrt hn⟩
      exact kp b u (Nat.ne_of_lt (Heap.lt_size e)) (Heap.get?_push_of_some _ e)
end G

namespace G
open PySem PySem.Spec L2
/-! the order of words; the words by number -/
theorem lt_app (c a b : List Nat) : c ++ a < c ++ b ↔ a < b := by
  induction c with
  | nil => simp
  | cons x c ih => simp [List.cons_lt_cons_iff, ih]
theorem lt_app_right {a b c : List Nat} (h : a.length = b.length) : a ++ c < b ++ c ↔ a < b := by
  induction a generalizing b with
  | nil =>
    have : b = [] := List.length_eq_zero_iff.mp h.symm
    subst this
    simp
  | cons x a ih =>
    cases b with
    | nil => simp at h
    | cons y b =>
      simp only [List.cons_append, List.cons_lt_cons_iff]
      rw [ih (by simpa using h)]
theorem wlt_app (c a b : List Nat) : wlt (c ++ a) (c ++ b) ↔ wlt a b := by
  unfold wlt
  rw [lt_app, List.length_append, List.length_append]
  constructor
  · rintro (h | ⟨h, k⟩)
    · exact .inl (by omega)
    · exact .inr ⟨by omega, k⟩
  · rintro (h | ⟨h, k⟩)
    · exact .inl (by omega)
    · exact .inr ⟨by omega, k⟩
theorem wlt_app_right (a b c : List Nat) : wlt (a ++ c) (b ++ c) ↔ wlt a b := by
  unfold wlt
  rw [List.length_append, List.length_append]
  constructor
  · rintro (h | ⟨h, k⟩)
    · exact .inl (by omega)
    · have e : a.length = b.length := by omega
      exact .inr ⟨e, (lt_app_right e).mp k⟩
  · rintro (h | ⟨h, k⟩)
    · exact .inl (by omega)
    · exact .inr ⟨by omega, (lt_app_right h).mpr k⟩
theorem wlt_irr (a : List Nat) : ¬ wlt a a := by
  rintro (h | ⟨_, h⟩)
  · omega
  · exact List.lt_irrefl a h
theorem wlt_asymm {a b : List Nat} (h : wlt a b) : ¬ wlt b a := by
  rintro (h' | ⟨e', h'⟩)
  · rcases h with h | ⟨e, h⟩ <;> omega
  · rcases h with h | ⟨e, h⟩
    · omega
    · exact List.lt_asymm h h'
theorem wlt_total {a b : List Nat} (h : a ≠ b) (h' : ¬ wlt a b) : wlt b a := by
  unfold wlt at *
  by_cases e : a.length = b.length
  · refine .inr ⟨e.symm, ?_⟩
    have h2 : ¬ a < b := fun z => h' (.inr ⟨e, z⟩)
    rcases Std.lt_trichotomy a b with z | z | z
    · exact absurd z h2
    · exact absurd z h
    · exact z
  · by_cases l : a.length < b.length
    · exact absurd (.inl l) h'
    · exact .inl (by omega)
/-- where the words first differ -/
theorem wlt_at {a b : List Nat} {i x y : Nat} (hl : a.length = b.length) (ht : a.take i = b.take i) (hx : a[i]? = some x) (hy : b[i]? = some y) (hne : x ≠ y) : wlt a b ↔ x < y := by
  obtain ⟨i1, e1⟩ := List.getElem?_eq_some_iff.mp hx
  obtain ⟨i2, e2⟩ := List.getElem?_eq_some_iff.mp hy
  have ea : a = a.take i ++ (x :: a.drop (i + 1)) := by
    rw [← e1, ← List.drop_eq_getElem_cons i1, List.take_append_drop]
  have eb : b = a.take i ++ (y :: b.drop (i + 1)) := by
    rw [ht, ← e2, ← List.drop_eq_getElem_cons i2, List.take_append_drop]
  have hlt : a < b ↔ x < y := by
    conv => lhs; rw [ea, eb]
    rw [lt_app, List.cons_lt_cons_iff]
    constructor
    · rintro (h | ⟨h, _⟩)
      · exact h
      · exact absurd h hne
    · exact .inl
  unfold wlt
  rw [hlt]
  constructor
  · rintro (h | ⟨_, h⟩)
    · omega
    · exact h
  · exact fun h => .inr ⟨hl, h⟩
/-- the word with this number -/
def wordAt (L : List Nat) : Nat → List Nat
  | 0 => []
  | k + 1 => wordAt L (k / L.length) ++ [L.getD (k % L.length) 0]
termination_by k => k
decreasing_by
  have := Nat.div_le_self k L.length
  omega
/-- how many words have fewer than k letters -/
def cnt (n : Nat) : Nat → Nat
  | 0 => 0
  | k + 1 => n * cnt n k + 1
theorem cnt_add (n : Nat) : ∀ k, cnt n (k + 1) = cnt n k + n ^ k
  | 0 => by simp [cnt]
  | k + 1 => by
    have ih := cnt_add n k
    have e1 : cnt n (k + 1) = n * cnt n k + 1 := rfl
    have e2 : cnt n (k + 1 + 1) = n * cnt n (k + 1) + 1 := rfl
    have e3 : n * cnt n (k + 1) = n * cnt n k + n ^ (k + 1) := by rw [ih, Nat.mul_add, Nat.pow_succ, Nat.mul_comm n (n ^ k)]
    omega
theorem cnt_mono {n : Nat} {i j : Nat} (h : i ≤ j) : cnt n i ≤ cnt n j := by
  induction j with
  | zero => rw [Nat.le_zero.mp h]; exact Nat.le_refl _
  | succ j ih =>
    by_cases e : i ≤ j
    · have := ih e
      rw [cnt_add]; omega
    · rw [show i = j + 1 by omega]; exact Nat.le_refl _
theorem wordAt_step {L : List Nat} {j c : Nat} (hc : c < L.length) : wordAt L (j * L.length + c + 1) = wordAt L j ++ [L[c]] := by
  have hp : 0 < L.length := by omega
  rw [wordAt]
  have h1 : (j * L.length + c) / L.length = j := by
    rw [Nat.mul_comm, Nat.mul_add_div hp, Nat.div_eq_of_lt hc, Nat.add_zero]
  have h2 : (j * L.length + c) % L.length = c := by
    rw [Nat.mul_comm, Nat.mul_add_mod, Nat.mod_eq_of_lt hc]
  rw [h1, h2]
  simp [List.getD, hc]
/-- the words with number a to a + m - 1 -/
def wordsOf (L : List Nat) (a m : Nat) : List (List Nat) := (List.range m).map fun i => wordAt L (a + i)
theorem wordsOf_app (L : List Nat) (a m k : Nat) : wordsOf L a m ++ wordsOf L (a + m) k = wordsOf L a (m + k) := by
  unfold wordsOf
  rw [List.range_add, List.map_append, List.map_map]
  congr 1
  refine List.map_congr_left fun i _ => ?_
  show _ = wordAt L (a + (m + i))
  rw [Nat.add_assoc]
theorem wordsOf_len (L : List Nat) (a m : Nat) : (wordsOf L a m).length = m := by simp [wordsOf]
theorem words0 (L : List Nat) : wordsOf L 0 1 = [[]] := by
  simp [wordsOf, wordAt]
theorem wordsOf_next (L : List Nat) (a : Nat) : ∀ m, (wordsOf L a m).flatMap (fun w => L.map fun c => w ++ [c]) = wordsOf L (a * L.length + 1) (m * L.length)
  | 0 => by simp [wordsOf]
  | m + 1 => by
    have ih := wordsOf_next L a m
    have e1 : wordsOf L a (m + 1) = wordsOf L a m ++ [wordAt L (a + m)] := by
      unfold wordsOf
      rw [List.range_succ, List.map_append]; rfl
    rw [e1, List.flatMap_append, ih, Nat.succ_mul, ← wordsOf_app]
    congr 1
    have e2 : (a * L.length + 1 + m * L.length) = (a + m) * L.length + 1 := by rw [Nat.add_mul]; omega
    rw [e2]
    unfold wordsOf
    refine List.ext_getElem (by simp) fun i h1 h2 => ?_
    simp only [List.flatMap_cons, List.flatMap_nil, List.append_nil, List.getElem_map, List.getElem_range]
    have hi : i < L.length := by simpa using h2
    rw [show (a + m) * L.length + 1 + i = (a + m) * L.length + i + 1 by omega, wordAt_step hi]
theorem wordAt_len {L : List Nat} (hL : 0 < L.length) : ∀ k i, i < cnt L.length k → (wordAt L i).length < k
  | 0, i, h => by simp [cnt] at h
  | k + 1, 0, h => by rw [wordAt]; simp
  | k + 1, i + 1, h => by
    rw [wordAt, List.length_append]
    have h1 : i / L.length < cnt L.length k := by
      rw [Nat.div_lt_iff_lt_mul hL]
      have : cnt L.length (k + 1) = L.length * cnt L.length k + 1 := rfl
      rw [Nat.mul_comm]; omega
    have := wordAt_len hL k _ h1
    simp only [List.length_cons, List.length_nil]; omega
theorem rpl_str {H : Hp} : ∀ ws : List (List Nat), RpL H (ws.map Dat.str) (ws.map sv)
  | [] => rfl
  | wd :: ws => ⟨_, _, rfl, rfl, rpl_str ws⟩
theorem sz_str : ∀ ws : List (List Nat), Dat.szL (ws.map Dat.str) = ws.length
  | [] => rfl
  | wd :: ws => by simp [Dat.szL, Dat.sz, sz_str ws]; omega
def spOrder : Sp := fun vs H Q _ => ∃ a, vs = [sv a] ∧ a.length ≤ 16777216 ∧ ∀ p, H p = none → Q (.ref p) (upd H p (.tup [.int a.length, sv a]))
def spBefore : Sp := fun vs H Q _ => ∃ a b, vs = [sv a, sv b] ∧ Plain a ∧ Plain b ∧ ∀ H', Same H H' → Q (.bl (decide (wlt a b))) H'
def spWordAt : Sp := fun vs H Q _ => ∃ (L : List Nat) (i : Int), vs = [sv L, .int i] ∧ L ≠ [] ∧ L.length ≤ 1000000 ∧ 0 ≤ i ∧ i < 4000 ∧ Q (sv (wordAt L i.toNat)) H
end G

namespace G
open PySem PySem.Spec L2
/-! values of any kind, as the forms look at them -/
def txt : V → Option (List Nat)
  | .str z => some z.cps.toList
  | _ => none
theorem txt_sv (l : List Nat) : txt (sv l) = some l := by simp [txt, sv]
theorem v_cases (v : V) : (∃ l, v = sv l) ∨ (isS v = false ∧ txt v = none) := by
  cases v with
  | str z => exact .inl ⟨_, str_sv z⟩
  | _ => exact .inr ⟨rfl, rfl⟩
def isLtr (l : List Nat) : Bool := decide (1 ≤ l.length ∧ l.length ≤ 4) && l.all (fun c => decide (97 ≤ c ∧ c ≤ 122)) && (l.zip (l.drop 1)).all (fun p => decide (p.1 < p.2))
def ltrV (v : V) : Bool := match txt v with | some l => isLtr l | none => false
def over (L l : List Nat) : Bool := l.all fun c => decide (c ∈ L)
def overV (L : List Nat) (v : V) : Bool := match txt v with | some l => over L l | none => false
def lenOk (v : V) (n : Nat) : Prop := ∀ l, v = sv l → l.length ≤ n
def inR (a b : Int) : V → Bool
  | .int i => decide (a ≤ i ∧ i ≤ b)
  | _ => false
theorem isLtr_of {L : List Nat} (h : Ltr L) : isLtr L = true := by
  obtain ⟨h0, h4, hz, hp⟩ := h
  have := List.length_pos_iff.mpr h0
  unfold isLtr
  rw [Bool.and_eq_true, Bool.and_eq_true]
  refine ⟨⟨decide_eq_true ⟨by omega, h4⟩, ?_⟩, ?_⟩
  · rw [List.all_eq_true]; intro c hc; exact decide_eq_true (hz c hc)
  · rw [List.all_eq_true]; intro p hp2
    obtain ⟨i, hi, e⟩ := List.mem_iff_getElem.mp hp2
    subst e
    simp only [List.getElem_zip, List.getElem_drop]
    refine decide_eq_true ?_
    exact List.pairwise_iff_getElem.mp hp _ _ _ _ (by omega)
theorem isLtr_head {l : List Nat} (h : isLtr l = true) : l ≠ [] ∧ l.length ≤ 4 ∧ Az l := by
  unfold isLtr at h
  rw [Bool.and_eq_true, Bool.and_eq_true] at h
  obtain ⟨⟨h1, h2⟩, _⟩ := h
  have := of_decide_eq_true h1
  refine ⟨fun e => by subst e; simp at this, this.2, fun c hc => ?_⟩
  rw [List.all_eq_true] at h2
  exact of_decide_eq_true (h2 c hc)
theorem Kn.same {H H' : Hp} {v : V} (s : Same H H') (h : Kn H v) : Kn H' v := by
  cases v with
  | ref a =>
    rcases h with ⟨xs, e⟩ | ⟨xs, e⟩ | ⟨xs, e⟩
    · exact .inl ⟨xs, s _ _ e⟩
    · exact .inr (.inl ⟨xs, s _ _ e⟩)
    · exact .inr (.inr ⟨xs, s _ _ e⟩)
  | _ => exact h
theorem Kn.adv {H H' : Hp} {st : Addr} {v : V} (h : Kn H v) (a : Adv st H H') : Kn H' v := by
  cases v with
  | ref b =>
    by_cases e : b = st
    · obtain ⟨sc, c, k, ns, h1, _⟩ := a.s
      rw [e]; exact .inl ⟨_, h1⟩
    · rcases h with ⟨xs, q⟩ | ⟨xs, q⟩ | ⟨xs, q⟩
      · exact .inl ⟨xs, a.k _ _ e q⟩
      · exact .inr (.inl ⟨xs, a.k _ _ e q⟩)
      · exact .inr (.inr ⟨xs, a.k _ _ e q⟩)
  | _ => exact h
def okW (L : List Nat) (n : Int) (v : V) : Bool := match txt v with | some l => over L l && decide ((l.length : Int) ≤ n) | none => false
def ltV (x y : V) : Bool := match txt x, txt y with | some a, some b => decide (wlt a b) | _, _ => false
def formB (L : List Nat) (most longest : Int) (xs : List V) : Bool := decide ((xs.length : Int) ≤ most) && xs.all (okW L longest) && (xs.zip (xs.drop 1)).all fun p => ltV p.1 p.2
theorem okW_txt {L : List Nat} {n : Int} {v : V} (h : okW L n v = true) : ∃ l, v = sv l ∧ over L l = true ∧ (l.length : Int) ≤ n := by
  rcases v_cases v with ⟨l, rfl⟩ | ⟨_, e⟩
  · unfold okW at h
    rw [txt_sv] at h
    rw [Bool.and_eq_true] at h
    exact ⟨l, rfl, h.1, of_decide_eq_true h.2⟩
  · unfold okW at h; rw [e] at h; cases h
theorem okW_sv {L l : List Nat} {n : Int} : okW L n (sv l) = (over L l && decide ((l.length : Int) ≤ n)) := by unfold okW; rw [txt_sv]
def spForm : Sp := fun vs H Q _ => ∃ (L : List Nat) (u : V) (most longest : Int), vs = [sv L, u, .int most, .int longest] ∧ longest ≤ 16777216 ∧ most ≤ 16777216 ∧
  ((Kn H u ∧ isT H u = false ∧ Q (.bl false) H) ∨ ∃ p xs, u = .ref p ∧ H p = some (.tup xs) ∧ (∀ x ∈ xs, Kn H x ∧ lenOk x 16777216) ∧ ∀ H', Same H H' → Q (.bl (formB L most longest xs)) H')
theorem cutV_fromI (xs : List V) {d : Int} (h : 0 ≤ d) : cutV xs (some d) none = xs.drop d.toNat := by
  have e : d = ((d.toNat : Nat) : Int) := by omega
  conv => lhs; rw [e]
  exact cutV_from xs _
theorem cutV_toI (xs : List V) {d : Int} (h : 0 ≤ d) : cutV xs none (some d) = xs.take d.toNat := by
  have e : d = ((d.toNat : Nat) : Int) := by omega
  conv => lhs; rw [e]
  exact cutV_to xs _
theorem sum_one (l : List Nat) : ((l.map fun c => [c]).map (·.length)).sum = l.length := by
  induction l with
  | nil => rfl
  | cons c r ih => simp at ih ⊢; omega
def spIntD : Sp := fun vs H Q _ => ∃ v, vs = [v] ∧ Kn H v ∧ Q (.bl (isI v && !isB v)) H
def spFromToD : Sp := fun vs H Q _ => ∃ (v : V) (a b : Int), vs = [v, .int a, .int b] ∧ Kn H v ∧ Q (.bl (inR a b v)) H
def spLookD : Sp := fun vs H Q _ => ∃ v, vs = [v] ∧ Kn H v ∧ Q (.bl (inR 0 12 v)) H
def spLtrD : Sp := fun vs H Q _ => ∃ v, vs = [v] ∧ Kn H v ∧ lenOk v 16777216 ∧ ∀ H', Same H H' → Q (.bl (ltrV v)) H'
def spTextOf : Sp := fun vs H Q _ => ∃ (L : List Nat) (v : V), vs = [sv L, v] ∧ Kn H v ∧ lenOk v 16777216 ∧ ∀ H', Same H H' → Q (.bl (overV L v)) H'
theorem kn_int {H : Hp} {v : V} (h : Kn H v) (e : (isI v && !isB v) = true) : ∃ i, v = .int i := by
  cases v with
  | int i => exact ⟨i, rfl⟩
  | bl b => simp [isI, isB] at e
  | _ => simp [isI] at e
theorem inR_not {H : Hp} {a b : Int} {v : V} (h : Kn H v) (e : (isI v && !isB v) = false) : inR a b v = false := by
  cases v with
  | int i => simp [isI, isB] at e
  | _ => rfl
end G

/-! isinstance of a handled error that has its own dict; calls and a comprehension while an error is handled -/
namespace PySem.W
open PySem PySem.Spec PySem.Calls PyProof.Rows
section
variable {prog : Program} {w : World} {A : Around} {E : Value → Shared → Prop} {K : Frag} {y D : Addr} {oy : Obj}
/-- the class of an error with a dict is read through BaseException's own getattribute -/
theorem g_class {st : Shared} {Q : Option Value → Shared → Prop} (C : L2.ExcC K D) (KI : K.In st.heap) {od} (J : InstAt st.heap y oy D (some od)) (fin : Q (some (.ref D)) { st with toks := st.toks + 1 }) :
    wpAny (model prog w) A (getAttr? (.ref y) "__class__") Q E st := by
  have isD : (clsIn K D).isSome = true := by
    obtain ⟨cd, e, _⟩ := any_some C.hd
    rw [e]; rfl
  have found := findObj_data (od := od) isD C.ha C.hn C.ht
  obtain ⟨hp, gs, dr, tk, os⟩ := st
  have ty := J.type (M := model prog w)
  have fGet := looks_findIn (M := model prog w) KI C.hg
  have fMiss := looks_findIn (M := model prog w) KI C.hk
  have fCls := looks_find (M := model prog w) KI J found
  have below : Looks (model prog w) hp (isInstance (.ref y) (.type "BaseException")) true := ty.andThen (looks_subIn KI C.hs)
  have n1 : (Value.builtin "BaseException.__getattribute__" == Value.builtin "object.__getattribute__") = false := by decide +kernel
  have n2 : (onTheHeap (Value.ref D) && Value.builtin "BaseException.__getattribute__" == Value.builtin "object.__getattribute__") = false := by rw [n1]; rfl
  unfold getAttr?
  unfold getAttrBy?
  unfold getAttrBy
  refine wpAny_bind (wpAny_mkText (wpAny_bind (wpAny_attempt (wpAny_holding (wpAny_bind (ty.at (wpAny_bind (fGet.at ?a))))))))
  case a =>
  show wpAny _ _ (if (onTheHeap (Value.ref D) && Value.builtin "BaseException.__getattribute__" == Value.builtin "object.__getattribute__") = true then _ else _) _ _ _
  rw [n2]
  rw [if_neg Bool.false_ne_true]
  unfold getAttrByItsOwn
  unfold hookBefore
  refine wpAny_bind ?b
  case b =>
  have heapD : onTheHeap (Value.ref D) = true := rfl
  rw [if_pos heapD]
  refine fMiss.at (wpAny_bind (wpAny_attempt (wpAny_holding ?c)))
  case c =>
  unfold callGetattribute
  rw [show (false && onTheHeap (Value.builtin "BaseException.__getattribute__")) = false from rfl]
  rw [if_neg Bool.false_ne_true]
  unfold boundAndCalled
  rw [PySem.F.excAttr_ValueError.ga.bind (.ref y)]
  refine wpAny_bind (wpAny_pure (show wpAny _ _ (call (.builtin "BaseException.__getattribute__") [.ref y, .str "__class__" tk]) _ _ _ from wpAny_call (codeAny_call_builtin PySem.F.excAttr_ValueError.ga.plain PySem.F.entry_bexc_ga ?d)))
  case d =>
  refine @check_slot (model prog w) _ _ ⟨hp, gs, dr, tk + 1, os⟩ "BaseException.__getattribute__" "BaseException" "__getattribute__" (.ref y) [.str "__class__" tk] [] _ (by decide +kernel) (by decide +kernel) below (PySem.F.args_bexc_ga (.ref y) (.str "__class__" tk)) ?e
  case e =>
  unfold Builtin.«object.__getattribute__»
  refine wpAny_bind (wpAny_of_eq (a := ((Value.ref y : Value), [Value.str "__class__" tk])) (by first | rfl | (simp only [slotArgs]; rfl)) (wpAny_bind (wpAny_pure (wpAny_bind (ty.at (wpAny_bind (fCls.at ?f)))))))
  case f =>
  show wpAny _ _ (holding [Value.builtin "object.__class__"] (call (.builtin "getset_descriptor.__get__") [.builtin "object.__class__", .ref y, .ref D]) >>= ret) _ _ _
  refine wpAny_bind (wpAny_holding (wpAny_call (class_get (s := ⟨hp, gs, dr, tk + 1, os⟩) (ox := oy) (od := some od) KI J C.hm ?g)))
  case g =>
  refine wpAny_pure ?h
  case h =>
  show wpAny _ _ (handedOut (.ref D)) _ _ _
  rw [handedOut_of (v := .ref D) rfl]
  first
    | exact wpAny_pure (wpAny_pure fin)
    | exact wpAny_pure fin
    | exact wpAny_pure (wpAny_bind (wpAny_pure (wpAny_pure fin)))
theorem g_kit (C : L2.ExcC K D) : KitX K (.ref y) (.ref D) (fun h => ∃ od, InstAt h y oy D (some od)) := by
  have isD := any_some C.hd
  obtain ⟨cdD, hcD, _⟩ := isD
  refine { ty := fun _ _ _ ⟨od, J⟩ => J.type, it := fun _ _ KI _ => ?_, ne := fun h tp dd its n sl KI htp => ?_, ca := fun KI ⟨od, J⟩ k => g_class C KI J k }
  · unfold clsIn at hcD
    split at hcD
    · rename_i c1 d1 cd1 sl1 ho
      intro A1 Q1 E1 s1 k q
      unfold isType
      unfold loadHead
      exact wpAny_bind (wpAny_loadPart (k _ _ (KI _ _ ho)) (wpAny_pure q))
    · cases hcD
  · refine Bool.eq_false_iff.mpr fun q => ?_
    have eD : D = tp := Value.ref.inj (beq_iff_eq.mp q)
    subst eD
    unfold clsIn at hcD
    split at hcD
    · rename_i c1 d1 cd1 sl1 ho
      have z := (KI _ _ ho).symm.trans htp
      cases z
    · cases hcD
end
end PySem.W
namespace XH
open PySem PySem.Spec L2 L2H
abbrev Pin := Addr × Obj
/-- e, the handled error, is asked for its class -/
theorem call_isX {X : Cx} {p : Pin} {D d : Addr} (C : ExcC X.K D) (here : p ∈ X.pn) (hz : Zc (.ref D) (some d) p.2) (hf : ∃ vs, p.2.data = .fields vs) :
    CallR X (.builtin "isinstance") (fun xs H Q => ∃ (c : V) (cv : Value) (b : Bool), xs = [.ref p.1, c] ∧ ClsV c cv ∧ (∃ fs, H d = some (.xd fs)) ∧ PySem.W.kitOne X.K (.ref D) cv = some b ∧ Q (.bl b) H) := by
  intro pins st σ H args us Q I rel want
  obtain ⟨c, cv, b, rfl, hc, ⟨fs, hd⟩, kit, q⟩ := want
  obtain ⟨u1, u2, rfl, r1, r2⟩ := Vals.two rel
  cases r1
  have e2 := hc.eq r2
  subst e2
  obtain ⟨at1, _⟩ := I.pin p (List.mem_append.mpr (Or.inl here))
  obtain ⟨vs, hv⟩ := hf
  obtain ⟨mA, named, _⟩ := (show ObjOk X.prog X.w H st.heap d (.xd fs) from I.hok d _ hd)
  obtain ⟨od, ho, _⟩ := lookIn_ns named
  have J : PySem.W.InstAt st.heap p.1 p.2 D (some od) := ⟨at1, hz.1, by unfold PySem.W.notCls; rw [hv] <;> rfl, by rw [hz.2]; exact ho⟩
  exact PySem.W.kia_one (PySem.W.g_kit C) I.kIn ⟨od, J⟩ kit (fun z => nomatch z) fun tk => ⟨.bl b, H, I.kept (t' := tk) fun _ _ z => z, rfl, q⟩
/-- a def called while p's error is handled; its promise may speak of p -/
structure FnP (P : Program) (w : World) (K : PySem.W.Frag) (mg : Str → Option Value) (base : Heap) (k : Nat) (f : Addr) (fd : FuncData) (ps : List Str) (sp : Pin → Sp) : Prop where
  len : ∀ p vs H Q E, sp p vs H Q E → vs.length = ps.length
  run : ∀ (A : Around) (outer : List Env) (st : Shared) (H : Hp) (args : Args) (us : List Value) (vs : List V) (Q : VK) (p : Pin), RoomH k A → Hot1 A p → PinOk outer H st p → Env0 P w K mg base A outer st H → BindsTo st fd args (ps.zip us) → Vals vs us → sp p vs H Q E0 →
    codeAny (model P w) A (.call (.ref f) args) (CR CX0 outer P w H st Q E0) st
section
variable {P : Program} {w : World} {K : PySem.W.Frag} {mg : Str → Option Value} {base : Heap}
theorem fnP_of {k : Nat} {x qual : Str} {stm : Stmt} {f : Addr} {fd : FuncData} {N ps : List Str} {sp : Pin → Sp} (F : Fun K x qual stm f fd) (S : FnScope N ps (defScope stm)) (len : ∀ p vs H Q E, sp p vs H Q E → vs.length = ps.length)
    (body : ∀ (cdv : Value) (A : Around) (outer : List Env) (st : Shared) (H : Hp) (vs : List V) (Q : VK) (p : Pin), Hot1 A p → RoomH k (A.deeper (PyProof.Rows.envOfC qual (defScope stm) st.heap.objs.size f cdv)) → sp p vs H Q E0 →
      ∃ t, PSs (cxH CX0 P w K mg base N qual (defScope stm) f cdv A outer st H E0 p) (defBody stm) t ∧ t { nx := fun _ H' => Q .non H', rt := Q } (L2.start N vs) H) : FnP P w K mg base (k + 1) f fd ps sp := by
  obtain ⟨oc, od, kV, doc, pm, an, cdv, ct, osl, rfl, looked, coded⟩ := F.ex
  refine ⟨len, fun A outer st H args us vs Q p room hot pinned e0 binds rel want => ?_⟩
  have many := len _ _ _ _ _ want
  have held : ∀ b o, base.get? b = some o → st.heap.get? b = some o := fun b o e => (e0.bs b o e).1
  have KI : K.In st.heap := e0.mod.kin.keeps held
  have kinds : ∀ y ∈ ps.zip us, (defScope stm).names.lookup y.1 = some .local ∨ ((defScope stm).names.lookup y.1 = some .cell ∧ ((cellsFrom (st.heap.objs.size + 1) (defScope stm).names []).lookup y.1).isSome = true) := by
    rintro ⟨n, v⟩ hy
    refine (S.par n (List.of_mem_zip hy).1).imp id fun q => ⟨q, PySem.W.cellsFrom_some _ _ _ (Or.inl q)⟩
  refine codeAny_call_function room.depth (KI _ _ looked) rfl S.co S.gen rfl (PySem.W.codeRec_of KI coded) (binds _ _ _ _ (wpAny_newFunctionEnv_cells S.kind kinds fun env he s1 entered => ?_))
  subst he
  refine ⟨(e0.mod.nolimit.keeps held).keeps entered.toInCall.keep, codeAny_func ?_⟩
  obtain ⟨t, derived, reads⟩ := body cdv A outer st H vs Q p hot (room.deeper _) want
  have J0 : Inv (cxH CX0 P w K mg base N qual (defScope stm) f cdv A outer st H E0 p) [] (L2.start N vs) H s1 := inv_startH S pinned e0 many rel entered
  refine wpAny_mono (derived.run [] s1 (L2.start N vs) H _ J0 reads) (fun way s' ended => ?_) fun _ _ q => q
  match way, ended with
  | .ret u, ⟨v, σ', H', J, rv, q⟩ => exact ⟨v, H', J.os, J.bare, J.base, J.hok, rv, q⟩
  | .next, ⟨σ', H', J, q⟩ => exact ⟨V.non, H', J.os, J.bare, J.base, J.hok, rfl, q⟩
  | .brk, ⟨_, _, _, q⟩ => exact q.elim
  | .cont, ⟨_, _, _, q⟩ => exact q.elim
end
section
variable {X : Cx} {k : Nat} {f : Addr} {fd : FuncData} {ps : List Str} {sp : Pin → Sp} {x : Str} {q pos : Pos} {e : Expr} {es : List Expr} {t : TA} {p : Pin}
def tCallP (sp : Sp) (t : TA) : TE := fun σ H Q => t σ H fun vs H1 => sp vs H1 Q E0
/-- f(e, ..) while p's error is handled -/
theorem pe_callP (F : FnP X.prog X.w X.K X.mg X.base k f fd ps sp) (room : RoomH k X.A) (hot : Hot1 X.A p) (here : p ∈ X.pn) (hg : Gl X x) (hm : X.mg x = some (.ref f)) (hk : PySem.W.keepIn X.K (.ref f) = true) (hb : Binds X.K fd ps [])
    (ha : PA X (e :: es) t) (hdb : (x == ("__debug__" : Str)) = false := by decide) (he : starEach (e :: es) X.env = (false, eval e X.env) :: starEach es X.env := by rfl) (hpl : (backTo pos (starEach es X.env)).any (·.1) = false := by rfl) :
    PE X (.Call (.Name x q) (e :: es) [] pos) (tCallP (sp p) t) := by
  refine ⟨fun pins st σ H Q I want => wpAny_Call_Name_kw (ld_glob I hg hm ?_ hdb)⟩
  refine PySem.W.callWith_K (h₀ := X.base) I.ok.mod.kin hk (thn (ha.run pos pins st σ H _ I want) fun us s1 ⟨vs, H1, I1, rel, need⟩ => ⟨I1.kIn, ?_⟩) he hpl
  have many : us.length = ps.length := rel.length ▸ F.len _ _ _ _ _ need
  have bound := hb s1 us I1.kIn (by rw [List.append_nil]; exact many)
  rw [List.append_nil] at bound
  obtain ⟨g1, g2, g3, g4, g5⟩ := I1.pin p (List.mem_append.mpr (Or.inl here))
  have pinned : PinOk X.stack H1 s1 p := ⟨g1, g2, fun hm => Or.elim (List.mem_cons.mp (I1.stkSub p.1 hm)) g3 g4, g5⟩
  refine wpAny_call (codeAny_mono (F.run X.A X.stack s1 H1 ⟨us, []⟩ us vs Q p room hot pinned I1.env0 bound rel need) fun res s' ended => ?_)
  match res, ended with
  | .error _, z => exact False.elim z
  | .ok (.ret u), z => exact I1.after z
end
end XH
namespace XH
open PySem PySem.Spec L2 L2H
section
variable {X : Cx}
/-- a block's context that bears the handled error -/
abbrev hotBlk (X : Cx) (st : Shared) (H : Hp) (scope : Scope) (ce : Env) (fp : List Addr) (p : Pin) : Cx := { X.blk st H scope ce fp with pn := [p] }
theorem to_hot {st s' : Shared} {H H' : Hp} {scope : Scope} {ce : Env} {fp : List Addr} {p : Pin} {σ : L2.St} (I : Inv (X.blk st H scope ce fp) [] σ H' s')
    (hp : s'.heap.get? p.1 = some p.2 ∧ H' p.1 = none ∧ p.1 ≠ ce.locals ∧ p.1 ∉ frs X.stack ∧ ∀ v, p.2.data ≠ .cell v) : Inv (hotBlk X st H scope ce fp p) [] σ H' s' := by
  have okay : (hotBlk X st H scope ce fp p).Ok := ⟨I.ok.mod, I.ok.kind, I.ok.glob, I.ok.blt, I.ok.above, I.ok.inj, I.ok.has, I.ok.cab, I.ok.hd, I.ok.frames, I.ok.stk, I.ok.exf, I.ok.bs, I.ok.bsz, I.ok.noex, I.ok.exfs, I.ok.funs, I.ok.frf⟩
  refine ⟨okay, I.os, I.bare, I.base, I.loc, I.cell, I.free, I.freeC, fun q hq => ?_, I.hok, I.len⟩
  obtain rfl : q = p := by simpa using hq
  exact hp
/-- [e for x in range(..)] while an error is handled -/
theorem pe_lcH {elt tg iter : Expr} {ifs : List Expr} {scope : Scope} {own : List (Str × Nat)} {pos : Pos} {wi : TI} {g : TG} {tt : TT} {te : TE} {p : Pin} (hot : Hot1 X.A p) (here : p ∈ X.pn) (hN : X.N.Nodup) (hi : PIH X tg iter wi) (bk : BlkOk X.N X.env.scope scope own)
    (hg : ∀ (st : Shared) (H : Hp) (C : Addr) (cl : List (Str × Addr)) (fp : List Addr), PG (hotBlk X st H scope (compEnvC scope cl C X.env) fp p) tg g) (ht : ∀ (st : Shared) (H : Hp) (C : Addr) (cl : List (Str × Addr)) (fp : List Addr), PTs (hotBlk X st H scope (compEnvC scope cl C X.env) fp p) ifs tt)
    (he : ∀ (st : Shared) (H : Hp) (C : Addr) (cl : List (Str × Addr)) (fp : List Addr), PE (hotBlk X st H scope (compEnvC scope cl C X.env) fp p) elt te) (hs : ∀ x, foldedSetIterable iter X.env x = pure x := by intro _; rfl) :
    PE X (.ListComp elt [⟨tg, iter, ifs, 0⟩] scope pos) (tLc wi g tt te (own.map (·.2))) := by
  refine ⟨fun pins st σ H Q I want => ?_⟩
  rw [eval_ListComp]
  have frees : ∀ y ∈ scope.names, y.2 = .free → ∃ c, X.env.cells.lookup y.1 = some c := fun y hy e => I.ok.has _ (bk.free y hy e)
  refine wpAny_comprehension_free (use := none) rfl hs (closure_ok frees) bk.kind (fun y hy e => by rw [bk.uniq y hy, e]) (thn (hi.run pins st σ H _ I want) fun xv s1 hx => thn hx fun itv s2 made => ?_)
  obtain ⟨it, fp, tn, J, H2, rfl, J2, T, at2, free2, rest⟩ := made
  refine wpAny_newObj_type (newEnv_comp ?_) (Nat.zero_le _)
  have newL : H2 s2.heap.objs.size = none := J2.hok.fresh (Nat.le_refl _)
  obtain ⟨W, ⟨n0, w0⟩, turn⟩ := rest _ newL
  generalize eL : s2.heap.objs.size = L at newL turn w0 ⊢
  -- the new list stands
  obtain ⟨s3, es3⟩ : ∃ z : Shared, z = { s2 with heap := s2.heap.push { cls := .type "list", data := .seq ([] : List Value).toArray } } := ⟨_, rfl⟩
  rw [← es3]
  have push3 : s3.heap = s2.heap.push { cls := .type "list", data := .seq ([] : List Value).toArray } := by rw [es3]
  have kept3 : ∀ b o, s2.heap.get? b = some o → s3.heap.get? b = some o := fun b o e => by rw [push3]; exact Heap.get?_push_of_some _ e
  have J3 : Inv X pins σ (upd H2 L (.lst [])) s3 := by
    rw [es3]
    exact J2.laid (t' := s2.toks) (fun b o e => Heap.get?_push_of_some _ e) (Nat.le_of_eq eL) ⟨Nat.zero_le _, [], 0, .nil, eL ▸ Heap.get?_push_size _ rfl⟩
  have old : ∀ b ∈ fp, b < s2.heap.objs.size := fun b hb => by
    obtain ⟨o, e, _⟩ := T.obj _ _ at2 b hb
    exact Heap.lt_size e
  have free3 : ∀ b ∈ fp, FpOk X pins (upd H2 L (.lst [])) b ∧ b < s3.heap.objs.size := fun b hb =>
    ⟨⟨(upd_ne (eL ▸ Nat.ne_of_lt (old b hb))).trans (free2 b hb).1, (free2 b hb).2⟩, by rw [push3, Heap.size_push]; exact Nat.lt_succ_of_lt (old b hb)⟩
  have at3 : tn 0 s3.heap := T.keep _ _ _ at2 fun b _ o e => kept3 b o e
  have B := block_start J3 bk hN free3
  have dG := hg s3 (upd H2 L (.lst [])) s3.heap.objs.size (cellsFrom (s3.heap.objs.size + 1) scope.names (cloFrom X.env.cells scope.names [])) fp
  have dT := ht s3 (upd H2 L (.lst [])) s3.heap.objs.size (cellsFrom (s3.heap.objs.size + 1) scope.names (cloFrom X.env.cells scope.names [])) fp
  have dE := he s3 (upd H2 L (.lst [])) s3.heap.objs.size (cellsFrom (s3.heap.objs.size + 1) scope.names (cloFrom X.env.cells scope.names [])) fp
  obtain ⟨ce, hce⟩ : ∃ z : Env, z = compEnvC scope (cellsFrom (s3.heap.objs.size + 1) scope.names (cloFrom X.env.cells scope.names [])) s3.heap.objs.size X.env := ⟨_, rfl⟩
  have ceL : ce.locals = s3.heap.objs.size := by rw [hce]; rfl
  rw [← hce] at B dG dT dE
  show codeAny _ _ (.compStart (.ListComp elt [⟨tg, iter, ifs, 0⟩] scope pos) 0 (.ref it) (.ref L) (compEnvC scope (cellsFrom (s3.heap.objs.size + 1) scope.names (cloFrom X.env.cells scope.names [])) s3.heap.objs.size X.env)) (compPost (model X.prog X.w) X.A X.xe none _ (.ref L) s3.heap.objs.size) { s3 with heap := pushCells (s3.heap.push { cls := .type "dict", data := .dict #[] }) scope.names }
  rw [← hce]
  obtain ⟨s4, es4⟩ : ∃ z : Shared, z = { s3 with heap := pushCells (s3.heap.push { cls := .type "dict", data := .dict #[] }) scope.names } := ⟨_, rfl⟩
  rw [← es4] at B ⊢
  have kept4 : ∀ b o, s3.heap.get? b = some o → s4.heap.get? b = some o := fun b o e => by rw [es4]; exact pushCells_keeps _ _ _ _ (Heap.get?_push_of_some _ e)
  have at4 : tn 0 s4.heap := T.keep _ _ _ at3 fun b _ o e => kept4 b o e
  -- the handled error stands apart
  obtain ⟨g1, g2, g3, g4, g5⟩ := J3.pin p (List.mem_append.mpr (Or.inl here))
  have apart : p.1 ∉ frs X.stack := fun hm => Or.elim (List.mem_cons.mp (J3.stkSub p.1 hm)) g3 g4
  have B4 : Inv (hotBlk X s3 (upd H2 L (.lst [])) scope ce fp p) [] (wipe σ (own.map (·.2))) (upd H2 L (.lst [])) s4 := to_hot B ⟨kept4 _ _ g1, g2, ceL ▸ Nat.ne_of_lt (Heap.lt_size g1), apart, g5⟩
  obtain ⟨H3, eH3⟩ : ∃ z : Hp, z = upd H2 L (.lst []) := ⟨_, rfl⟩
  rw [← eH3] at J3 B4 dG dT dE w0 free3
  have hotB : HotC (hotBlk X s3 H3 scope ce fp p) := ⟨p, hot, List.mem_cons_self⟩
  have still : ∀ {σ' : L2.St} {H' : Hp} {s' : Shared}, Inv (hotBlk X s3 H3 scope ce fp p) [] σ' H' s' → (∀ b ∈ fp, H' b = none) → ∀ b ∈ fp, FpOk (hotBlk X s3 H3 scope ce fp p) [] H' b := fun {σ' H' s'} I' no b hb => by
    refine ⟨no b hb, (I'.ok.exf b hb).1, I'.ok.exfs b hb, Or.inl hb, fun y c e => (I'.ok.exf b hb).2 y c e, fun q hq => ?_⟩
    obtain rfl : q = p := by simpa using hq
    exact (free3 b hb).1.2.2.2.2.2 q (List.mem_append.mpr (Or.inl here))
  have loop : codeAny (model X.prog X.w) X.A (.compLoop (.ListComp elt [⟨tg, iter, ifs, 0⟩] scope pos) 0 (.ref it) (.ref L) ce) (compPost (model X.prog X.w) X.A X.xe none (EP X pins σ Q) (.ref L) s3.heap.objs.size) s4 := by
    refine compLoop_any (fun m s' => ∃ i H', Inv (hotBlk X s3 H3 scope ce fp p) [] (wipe σ (own.map (·.2))) H' s' ∧ tn i s'.heap ∧ (∀ b ∈ fp, H' b = none) ∧ W i m H') ?_ n0 ⟨0, H3, B4, at4, fun b hb => (free3 b hb).1.1, w0⟩
    rintro m s5 ⟨i, H5, B5, at5, no5, w5⟩
    rcases turn i m H5 w5 with ⟨stop, done⟩ | ⟨go, Nx, next, step⟩
    · refine thnF (T.done (hotBlk X s3 H3 scope ce fp p) rfl rfl rfl hotB i [] s5 _ H5 (fun _ _ => False) B5 (still B5 no5) at5 stop) fun r s6 ⟨hr, B6⟩ => ?_
      subst hr
      have J6 : Inv X pins σ H5 s6 := J3.call' (ch := fp) B6.os B6.base B6.hok B6.bare fun b hb => ⟨(free3 b hb).1.2.2.2.1, (free3 b hb).1.2.1, (free3 b hb).1.2.2.2.2.1, (free3 b hb).1.2.2.2.2.2⟩
      have noC : H5 s3.heap.objs.size = none := ceL ▸ (show H5 ce.locals = none from B6.free)
      obtain ⟨mm, named, _⟩ := B6.loc
      have named' : s6.heap.Ns s3.heap.objs.size mm := ceL ▸ (show s6.heap.Ns ce.locals mm from named)
      refine ⟨mm, named', fun h'' sb => ?_⟩
      obtain ⟨f0, f1, f2, f3, f4, f5⟩ := J3.fpOk (Nat.le_refl _) noC
      exact ⟨.ref L, H5, J6.turned (t' := s6.toks) (fun b o hb e => (sb.2 b hb).trans e) f0 f1 f3 f4 f5, rfl, done⟩
    · refine thnF (T.item (hotBlk X s3 H3 scope ce fp p) rfl rfl rfl hotB i [] s5 _ H5 (fun _ _ => False) B5 (still B5 no5) at5 go) fun r s6 ⟨u, hr, more⟩ => ?_
      subst hr
      refine thnF more fun _ s7 ⟨x, H7, B7, r7, y7, at7, no7⟩ => ?_
      have P7 := B7.pinned (still B7 no7) (T.obj _ _ at7)
      refine thnF (dG.run _ s7 _ H7 x u _ P7 r7 (step x H7 y7)) fun _ s8 ⟨σ8, H8, B8, wiped, q8⟩ => thnF (dT.run _ s8 σ8 H8 _ B8 q8) fun b s9 ⟨H9, B9, q9⟩ => ?_
      have again : ∀ {s' : Shared} {H' : Hp}, Inv (hotBlk X s3 H3 scope ce fp p) ([] ++ pinsAt fp s7.heap) σ8 H' s' → Nx H' → ∃ m', m' < m ∧ ∃ i H', Inv (hotBlk X s3 H3 scope ce fp p) [] (wipe σ (own.map (·.2))) H' s' ∧ tn i s'.heap ∧ (∀ b ∈ fp, H' b = none) ∧ W i m' H' := fun {s' H'} I' nx => by
        obtain ⟨m', less, w'⟩ := next H' nx
        have stays : ∀ b ∈ fp, ∀ o, s7.heap.get? b = some o → s'.heap.get? b = some o ∧ H' b = none := fun b hb o e =>
          have z := I'.pin (b, o) (List.mem_append.mpr (Or.inr (List.mem_append.mpr (Or.inr (mem_pinsAt hb e)))))
          ⟨z.1, z.2.1⟩
        refine ⟨m', less, i + 1, H', (I'.unpinned (pins := [])).weak (by rw [← wiped, wipe_length]) (fun j v e => (wipe_some (wiped ▸ e)).1), T.keep _ _ _ at7 fun b hb o e => (stays b hb o e).1, fun b hb => ?_, w'⟩
        obtain ⟨o, e, _⟩ := T.obj _ _ at7 b hb
        exact (stays b hb o e).2
      cases b with
      | false => exact again B9 (by simpa using q9)
      | true =>
        refine thnF (dE.run _ s9 σ8 H9 (fun y H4 => ∃ acc, H4 L = some (.lst acc) ∧ acc.length < sizeLine ∧ Nx (upd H4 L (.lst (acc ++ [y])))) B9 (by simpa using q9)) fun z s10 hh => ?_
        obtain ⟨yv, H10, B10, r10, acc, inL, room, nx⟩ := hh
        exact app_ok (X := hotBlk X s3 H3 scope ce fp p) B10 inL room r10 fun s11 B11 => again B11 nx
  exact codeAny_compStart_list loop (T.self X.A 0 _ _ _ at4 loop)
end
end XH

namespace XH
open PySem PySem.Spec L2 L2H
theorem kit_ref {K : PySem.W.Frag} {D C : Addr} {b : Bool} (hs : PySem.W.subIn K (.ref D) (.ref C) = some b) (hd : PySem.W.hasDictIn K C = true) (ht : PySem.W.typeIn K (.ref C) = some (.type "type")) (hb : D = C → b = true) : PySem.W.kitOne K (.ref D) (.ref C) = some b := by
  obtain ⟨cd, hc, _⟩ := PySem.W.any_some hd
  unfold PySem.W.kitOne
  by_cases e : (Value.ref D == Value.ref C) = true
  · rw [if_pos e, hb (Value.ref.inj (beq_iff_eq.mp e))]
  · rw [if_neg e]
    unfold PySem.W.kitCls
    have h1 : ((PySem.W.clsIn K C).isSome && PySem.W.typeIn K (.ref C) == some (.type "type")) = true := by rw [hc, ht]; rfl
    show (if _ then PySem.W.subIn K (.ref D) (.ref C) else none) = _
    rw [if_pos h1]; exact hs
theorem kit_val {K : PySem.W.Frag} {D : Addr} {T : String} {b : Bool} (hs : PySem.W.subIn K (.ref D) (.type T) = some b) (hm : PySem.W.kitMeta T = true) : PySem.W.kitOne K (.ref D) (.type T) = some b := by
  unfold PySem.W.kitOne
  rw [if_neg (by intro h; cases beq_iff_eq.mp h)]
  unfold PySem.W.kitCls
  show (if PySem.W.kitMeta T = true then PySem.W.subIn K (.ref D) (.type T) else none) = _
  rw [if_pos hm]; exact hs
section
variable {P : Program} {w : World} {K : PySem.W.Frag} {mg : Str → Option Value} {base : Heap}
/-- a def that may raise -/
theorem okX {x qual : Str} {stm : Stmt} {f : Addr} {fd : FuncData} {N ps : List Str} {k : Nat} {sp : Sp} (F : Fun K x qual stm f fd) (S : FnScope N ps (defScope stm)) (len : ∀ vs H Q E, sp vs H Q E → vs.length = ps.length)
    (body : ∀ (cdv : Value) (A : Around) (outer : List Env) (st : Shared) (H : Hp) (vs : List V) (Q : VK) (E : XK), Room k (A.deeper (PyProof.Rows.envOfC qual (defScope stm) st.heap.objs.size f cdv)) → sp vs H Q E →
      ∃ t, PSs (cxOf (L2N.CX P w) P w K mg base N qual (defScope stm) f cdv A outer st H E) (defBody stm) t ∧ t { nx := fun _ H' => Q .non H', rt := Q } (L2.start N vs) H) : FnOk P w K mg base (L2N.CX P w) (k + 1) f fd ps sp := by
  obtain ⟨oc, od, kV, doc, pm, an, cdv, ct, osl, rfl, looked, coded⟩ := F.ex
  exact fn_of looked coded S len fun A outer st H vs Q E room want => body cdv A outer st H vs Q E room want
end
section
variable {X : Cx} {x : Str} {st : Stmt} {ps : List Str} {k : Nat} {sp : Sp} {p pos : Pos} {e : Expr} {es : List Expr} {t : TA} {E : XK}
/-- a call that may raise, in a def that lets it through -/
theorem pe_callX (D : G.DefC X.K X.mg x st ps) (F : FnOk X.prog X.w X.K X.mg X.base (L2N.CX X.prog X.w) k D.f D.fd ps sp) (hr : Room k X.A) (hx : L2N.Takes X (fun cls d _ H => E cls d H)) (ha : PA X (e :: es) t) (hg : Gl X x := by rfl) (hdb : (x == ("__debug__" : Str)) = false := by decide)
    (he : starEach (e :: es) X.env = (false, eval e X.env) :: starEach es X.env := by rfl) (hpl : (backTo pos (starEach es X.env)).any (·.1) = false := by rfl) : PE X (.Call (.Name x p) (e :: es) [] pos) (tCall sp [] E t) :=
  pe_call F hr hg D.g D.F.kp D.b .nil (L2N.passes_call hx fun _ _ _ _ z => z) ha hdb he hpl
/-- in a try's body -/
theorem pe_callT (D : G.DefC X.K X.mg x st ps) (F : FnOk X.prog X.w X.K X.mg X.base (L2N.CX X.prog X.w) k D.f D.fd ps sp) (hr : Room k X.A) {W : WX} (tk : L2N.Takes X W) (ha : PA X (e :: es) t) (hg : Gl X x := by rfl) (hdb : (x == ("__debug__" : Str)) = false := by decide)
    (he : starEach (e :: es) X.env = (false, eval e X.env) :: starEach es X.env := by rfl) (hpl : (backTo pos (starEach es X.env)).any (·.1) = false := by rfl) : PE X (.Call (.Name x p) (e :: es) [] pos) (tCallS sp (WE W) t) :=
  pe_callS F hr hg D.g D.F.kp D.b (fun σ => L2N.passAt tk σ) ha hdb he hpl
theorem takes0N {X : Cx} : L2N.Takes X (fun _ _ _ _ => False) := fun _ _ ⟨_, _, _, _, _, _, _, _, _, _, _, _, _, _, _, _, z⟩ => z.elim
end
end XH

namespace PySem
namespace LowX_BadValue
open PySem.W PySem.Calls PyProof.Rows PySem.HandSPX
/-! ### the text of __init__ -/
def iA (p1 p2 : Pos) : Arguments := { posonlyargs := [], args := [{ arg := "self", annotation := none, pos := p1 }, { arg := "name", annotation := none, pos := p2 }], vararg := none, kwonlyargs := [], kw_defaults := [], kwarg := none, defaults := [] }
def iB (q1 q2 q3 q4 : Pos) : List Stmt := [.Assign [.Attribute (.Name "self" q1) "name" q2] (.Name "name" q3) q4]
def iS : Scope := { kind := .function, names := [(PySem.Str.ofString "self", .local), (PySem.Str.ofString "name", .local)], isGenerator := false, isCoroutine := false, more := [] }
structure LowTxt (K : Frag) (mg : Str → Option Value) (C fI : Addr) : Prop where
  gC : mg "BadValue" = some (.ref C)
  cls : ∃ nm q N bs bm sn sub ab col dd k0 k1 k2 k3 k5, K.lookup C = some (excClassObj nm q C N bs bm true sn sub ab col dd k0 k1 k2 k3 k5 "ValueError.__new__") ∧ refsVE bm = true
  sa : findIn K (.ref C) "__setattr__" = some (some (.builtin "object.__setattr__"))
  ga : findIn K (.ref C) "__getattribute__" = some (some (.builtin "BaseException.__getattribute__"))
  gg : findIn K (.ref C) "__getattr__" = some none
  noN : findIn K (.ref C) "name" = some none
  iC : findIn K (.ref C) "__init__" = some (some (.ref fI))
  tC : typeIn K (.ref fI) = some (.type "function")
  kC : keepIn K (.ref C) = true
  exC : subIn K (.ref C) (.type "BaseException") = some true
  tyC : typeIn K (.ref C) = some (.type "type")
  hdC : hasDictIn K C = true
  te : exmOne K (.ref C) (.ref C) = some true
  fn : ∃ (oc : Value) (od : Option Addr) (doc pm : Value) (an : Option Addr) (cdv ct : Value) (osl : Array (Option Value)) (p1 p2 q1 q2 q3 q4 : Pos),
    K.lookup fI = some ⟨oc, od, .func (fnOf "__init__" "BadValue.__init__" (iA p1 p2) (iB q1 q2 q3 q4) iS .none .none doc pm an cdv ct), osl⟩ ∧ codeIn K cdv "BadValue.__init__" = true
theorem one_size (v : Value) : [v].length ≤ sizeLine := by
  rw [sizeLine_eq]
  exact (by decide : 1 ≤ 16777216)
theorem kept_but {K : Frag} {h h' : Heap} {x : Addr} (X : K.In h) (hx : K.lookup x = none) (k : ∀ b o, b ≠ x → h.get? b = some o → h'.get? b = some o) : K.In h' := fun a o e =>
  k a o (fun z => by rw [z, hx] at e; cases e) (X a o e)
theorem ldC {M : Model} {s : Shared} {name : Str} {scope : Scope} {L a : Addr} {cd : Value} {m : Str → Option Value} {x : Str} {pos : Pos} {v : Value} {Q : Value → Shared → Prop} {A : Around} {E : Value → Shared → Prop} (hn : s.heap.Ns L m) (hv : m x = some v) (h : Q v s)
    (hk : scope.kind = .function := by rfl) (hl : (envOfC name scope L a cd).kindOf x = some .local := by rfl) (hd : (x == ("__debug__" : Str)) = false := by decide) :
    wpAny M A (eval (.Name x pos) (envOfC name scope L a cd)) Q E s := wpAny_Name (wpAny_loadName_local hk hl hn hv h) hd
/-- what __init__ leaves of a fresh exception at x -/
structure InitEnd (h h' : Heap) (x C dx t1 : Addr) (v : Value) : Prop where
  keep : ∀ b o, b ≠ x → h.get? b = some o → h'.get? b = some o
  obj : h'.get? x = some { cls := .ref C, dict := some dx, data := .fields #[.ref t1, .none, .none, .none, .bool false, .none] }
  dbig : h.objs.size ≤ dx
  dne : dx ≠ x
  ns : h'.Ns1 dx (fun y => if y = "name" then some v else none)
/-- a made Low -/
structure OwnMade (h h' : Heap) (e C d : Addr) (v : Value) : Prop where
  keep : ∀ b o, h.get? b = some o → h'.get? b = some o
  new : h.objs.size ≤ e
  obj : ∃ oe vs, h'.get? e = some oe ∧ oe.cls = .ref C ∧ oe.dict = some d ∧ oe.data = .fields vs ∧ vs[1]? = some .none ∧ vs[2]? = some .none
  dbig : h.objs.size ≤ d
  dne : d ≠ e
  ns : h'.Ns1 d (fun y => if y = "name" then some v else none)
section
variable {prog : Program} {w : World} {A : Around} {E : Value → Shared → Prop} {R : Result → Shared → Prop} {s : Shared} {K : Frag} {mg : Str → Option Value} {C fI : Addr}
theorem init_BadValue (T : LowTxt K mg C fI) {x t0 : Addr} {v : Value} (X : K.In s.heap) (hlim : s.heap.NoLimit) (hx : s.heap.get? x = some (excO C t0)) (hnx : K.lookup x = none) (hroom : A.depth < recursionLimit)
    (hq : ∀ h' tk dx, InitEnd s.heap h' x C dx t0 v → R (.ok (.ret .none)) { s with heap := h', toks := tk }) :
    codeAny (model prog w) A (.call (.ref fI) ⟨[.ref x, v], []⟩) R s := by
  obtain ⟨oc, od, doc, pm, an, cdv, ct, osl, p1, p2, q1, q2, q3, q4, ho, hcd⟩ := T.fn
  obtain ⟨nm, q, N, bs, bm, sn, sub, ab, col, dd, k0, k1, k2, k3, k5, hC, hbm⟩ := T.cls
  have hcl : clsIn K C = some { name := nm, bases := bs, mro := .ref C :: bm, ns := N, qualname := q, hasDict := true, slotNames := sn, subclasses := sub, abstract := ab, collection := col, hasDel := false } := by unfold clsIn; rw [hC] <;> rfl
  refine Att.call_fn (binds := [("self", .ref x), ("name", v)]) X hlim ho hcd hroom (BindsTo.of_eq (by first | rfl | with_unfolding_all rfl)) (by first | rfl | decide | with_unfolding_all rfl) (fun s₁ IC => ?_) rfl rfl rfl
  obtain ⟨h₁, tk₁, rfl⟩ := IC.toInCall.same
  have k : ∀ b o, s.heap.get? b = some o → h₁.get? b = some o := IC.toInCall.keep
  have hn := IC.toInCall.ns
  have hxL : s.heap.objs.size ≠ x := Nat.ne_of_gt (Heap.lt_size hx)
  have X₁ : K.In h₁ := X.keeps k
  have hx₁ := k _ _ hx
  -- self.by = by
  show wpAny _ _ (execs _ _) _ _ _
  refine wpAny_execs_cons (plainObj_wpAny_Assign_Attribute ?_)
  refine ldC (v := v) hn (by first | rfl | with_unfolding_all rfl | kernel_rfl) (ldC (v := .ref x) hn (by first | rfl | with_unfolding_all rfl | kernel_rfl) ?_)
  refine set_plain X₁ (ox := excO C t0) (od := none) ⟨hx₁, rfl, rfl, trivial⟩ T.sa ?_
  refine exc_osa X₁ hx₁ hcl (show refsVE (.ref C :: bm) = true from hbm) rfl T.noN (fun h₃ tk₃ dx k₃ dn dne hx₃ hn₃ => ?_)
  show wpAny _ _ (execs _ _) _ _ _
  have z : s.heap.objs.size < h₁.objs.size := hn.lt
  exact wpAny_execs_nil (hq h₃ tk₃ dx ⟨fun b o hb e => k₃ b o hb (k b o e), hx₃, Nat.le_of_lt (Nat.lt_of_lt_of_le z dn), dne, hn₃⟩)
theorem made_BadValue (T : LowTxt K mg C fI) {v : Value} (X : K.In s.heap) (hlim : s.heap.NoLimit) (hroom : A.depth + 1 < recursionLimit)
    (hq : ∀ h' tk e d, OwnMade s.heap h' e C d v → R (.ok (.ret (.ref e))) { s with heap := h', toks := tk }) :
    codeAny (model prog w) A (.call (.ref C) ⟨[v], []⟩) R s := by
  obtain ⟨nm, q, N, bs, bm, sn, sub, ab, col, dd, k0, k1, k2, k3, k5, hC, hbm⟩ := T.cls
  obtain ⟨hp, g, dr, tk, os⟩ := s
  have k : ∀ b o, hp.get? b = some o → ((hp.push (kdv_tup [v])).push (excO C hp.objs.size)).get? b = some o := fun b o e => Heap.get?_push_of_some _ (Heap.get?_push_of_some _ e)
  have hget : ((hp.push (kdv_tup [v])).push (excO C hp.objs.size)).get? (hp.objs.size + 1) = some (excO C hp.objs.size) := by heap_get
  have hnx : K.lookup (hp.objs.size + 1) = none := by
    cases e : K.lookup (hp.objs.size + 1) with
    | none => rfl
    | some o =>
      have z : hp.get? (hp.objs.size + 1) = some o := X _ _ e
      exact absurd (Nat.lt_of_succ_lt (Heap.lt_size z)) (Nat.lt_irrefl _)
  refine call_own F.excBase_ValueError (fun X => refsVE_contains X bm hbm) (X _ _ hC) (looks_findIn X T.iC) (fun self => bind_fn X self T.tC) (one_size v) ?_
  refine init_BadValue (s := ⟨(hp.push (kdv_tup [v])).push (excO C hp.objs.size), g, dr, tk, os⟩) T (X.keeps k) (hlim.keeps k) hget hnx ?_ fun h' tk' dx ⟨k', hx, dn, dne, hns⟩ => ?_
  · show A.depth + 1 < recursionLimit
    exact hroom
  · have old : ∀ b o, hp.get? b = some o → h'.get? b = some o := fun b o e => k' b o (Nat.ne_of_lt (Nat.lt_succ_of_lt (Heap.lt_size e))) (k b o e)
    have z : hp.objs.size + 1 + 1 ≤ dx := by
      first
        | (simpa only [Heap.size_push] using dn)
        | exact dn
        | (have q := dn; rw [Heap.size_push, Heap.size_push] at q; exact q)
    exact ⟨rfl, hq h' tk' (hp.objs.size + 1) dx ⟨old, Nat.le_succ _, ⟨_, _, hx, rfl, rfl, rfl, rfl, rfl⟩, Nat.le_trans (Nat.le_trans (Nat.le_succ _) (Nat.le_succ _)) z, dne, hns⟩⟩
end
theorem exm_self {K : PySem.W.Frag} {S : Addr} (h1 : PySem.W.subIn K (.ref S) (.type "BaseException") = some true) (hd : PySem.W.hasDictIn K S = true) (h3 : PySem.W.typeIn K (.ref S) = some (.type "type")) (h4 : PySem.W.subIn K (.ref S) (.ref S) = some true) :
    PySem.W.exmOne K (.ref S) (.ref S) = some true := PySem.W.exm_ref h1 hd h3 h4
theorem mk_low {K : Frag} {mg : Str → Option Value} {C f1 : Addr} {nm q : Str} {N : Addr} {bs bm : List Value} {sn : List Str} {sub : List Value} {ab : Bool} {col : Option Bool} {dd : Option Addr} {m0 m1 m2 m3 m5 : Option Value}
    {od1 an1 : Option Addr} {sl1 : Array (Option Value)} {oc1 dc1 pm1 cd1 ct1 : Value} {p1 p2 q1 q2 q3 q4 : Pos} (gC : mg "BadValue" = some (.ref C))
    (xL : K.lookup C = some (excClassObj nm q C N bs bm true sn sub ab col dd m0 m1 m2 m3 m5 "ValueError.__new__")) (hbm : refsVE bm = true)
    (sa : findIn K (.ref C) "__setattr__" = some (some (.builtin "object.__setattr__"))) (ga : findIn K (.ref C) "__getattribute__" = some (some (.builtin "BaseException.__getattribute__"))) (gg : findIn K (.ref C) "__getattr__" = some none) (nb : findIn K (.ref C) "name" = some none)
    (a1 : findIn K (.ref C) "__init__" = some (some (.ref f1))) (t1 : typeIn K (.ref f1) = some (.type "function"))
    (l1 : K.lookup f1 = some ⟨oc1, od1, .func (fnOf "__init__" "BadValue.__init__" (iA p1 p2) (iB q1 q2 q3 q4) iS .none .none dc1 pm1 an1 cd1 ct1), sl1⟩) (c1 : codeIn K cd1 "BadValue.__init__" = true)
    (kC : keepIn K (.ref C) = true) (eC : subIn K (.ref C) (.type "BaseException") = some true) (tC : typeIn K (.ref C) = some (.type "type")) (hC : hasDictIn K C = true) (sC : subIn K (.ref C) (.ref C) = some true) : LowTxt K mg C f1 :=
  { gC := gC, cls := ⟨nm, q, N, bs, bm, sn, sub, ab, col, dd, m0, m1, m2, m3, m5, xL, hbm⟩, sa := sa, ga := ga, gg := gg, noN := nb, iC := a1, tC := t1, kC := kC, exC := eC, tyC := tC, hdC := hC, te := exm_self eC hC tC sC,
    fn := ⟨_, _, _, _, _, _, _, _, _, _, _, _, _, _, l1, c1⟩ }
end LowX_BadValue
end PySem
namespace L2
open PySem PySem.Spec PyProof.Rows
theorem relO_BadValue {v : V} {v' : Value} (r : RelV v v') (f : Str) : RelO (List.lookup f [(("name" : Str), v)]) (if f = "name" then some v' else none) := by
  by_cases hw : f = "name"
  · subst hw
    rw [if_pos rfl]
    have q : List.lookup ("name" : Str) [(("name" : Str), v)] = some v := by simp [List.lookup]
    rw [q]
    exact r
  · rw [if_neg hw]
    have qw : (f == ("name" : Str)) = false := by simpa using hw
    have q2 : List.lookup f [(("name" : Str), v)] = none := by simp [List.lookup, qw]
    rw [q2]
    trivial
section
variable {X : Cx} {C fI : Addr}
def tMk_BadValue (C : Addr) (ta : TA) : St → Hp → XK → Prop := fun σ H Q => ta σ H fun vs H1 => ∃ v, vs = [v] ∧ ∀ d, H1 d = none → Q (.ref C) (some d) (upd H1 d (.xd [(("name" : Str), v)]))
theorem pmk_BadValue {a : Expr} {ta : TA} {p pos : Pos} {k : Nat} (T : PySem.LowX_BadValue.LowTxt X.K X.mg C fI) (hr : Room k X.A) (ha : PA X [a] ta) (hg : Gl X "BadValue" := by rfl)
    (he : starEach (a :: []) X.env = (false, eval a X.env) :: starEach [] X.env := by rfl) (hpl : (backTo pos (starEach [] X.env)).any (·.1) = false := by rfl) :
    L2N.PMk X (.Call (.Name "BadValue" p) [a] [] pos) (tMk_BadValue C ta) := by
  intro pins s σ H Q I h
  refine wpAny_Call_Name_kw (ld_glob I hg T.gC ?_)
  refine PySem.W.callWith_K (h₀ := X.base) I.ok.mod.kin T.kC (thn (ha.run pos pins s σ H _ I h) fun us s1 hh => ?_) he hpl
  obtain ⟨vs, H1, I1, r1, v, ev, q1⟩ := hh
  subst ev
  refine ⟨I1.kIn, ?_⟩
  cases r1 with
  | cons rv rn =>
    rename_i v' us'
    cases rn
    show wpAny _ _ (call (.ref C) [v']) _ _ _
    have hlim := I1.nolimit
    obtain ⟨hp, g, dr, tk, os⟩ := s1
    refine wpAny_call (PySem.LowX_BadValue.made_BadValue T I1.kIn hlim (by have := hr.dp; omega) fun h' tk' e d M => ?_)
    show L2N.MkP X pins σ Q (.ref e) ⟨h', g, dr, tk', os⟩
    obtain ⟨oe, fv, hoe, hc, hd, hdat, h1, h2⟩ := M.obj
    have hns := M.ns
    obtain ⟨G', g1, g2⟩ := restrict h' fun b => decide (b ≠ e)
    have gk : ∀ b, b ≠ e → G'.get? b = h'.get? b := fun b hb => g1 b (decide_eq_true hb)
    have ge : G'.get? e = none := g2 e (by simp)
    have old : ∀ b o, hp.get? b = some o → G'.get? b = some o := fun b o q => (gk b (Nat.ne_of_lt (Nat.lt_of_lt_of_le (Heap.lt_size q) M.new))).trans (M.keep b o q)
    have ob : ObjOk X.prog X.w (upd H1 d (.xd [(("name" : Str), v)])) G' d (.xd [(("name" : Str), v)]) :=
      ⟨_, hns.at (fun o q => (gk d M.dne).trans q), fun f => relO_BadValue rv f⟩
    have J : Inv X pins σ (upd H1 d (.xd [(("name" : Str), v)])) ⟨G', g, dr, tk', os⟩ := I1.laid (t' := tk') old M.dbig ob
    refine ⟨e, oe, fv, ⟨G', g, dr, tk', os⟩, _, .ref C, some d, rfl, J, fun b o q => ?_, ge, hoe, ⟨hc, hd, fun w e => by rw [hdat] at e; cases e; exact h2⟩, hdat, h1, ?_, rfl, I1.bare, raises_own T.exC T.tyC, q1 d (I1.hok.fresh M.dbig)⟩
    · by_cases hb : b = e
      · have q' : G'.get? b = some o := q
        rw [hb, ge] at q'; cases q'
      · exact (gk b hb).symm.trans q
    · rw [upd_ne (Ne.symm M.dne)]
      exact I1.hok.fresh M.new
def tRaise_BadValue (C : Addr) (W : WX) (ta : TA) : TS := fun _ σ H => tMk_BadValue C ta σ H fun cls d H' => W cls d σ H'
theorem ps_raise_BadValue {a : Expr} {ta : TA} {W : WX} {p pos pos2 : Pos} {k : Nat} (hc : X.calm = true) (T : PySem.LowX_BadValue.LowTxt X.K X.mg C fI) (hr : Room k X.A) (tk : L2N.Takes X W) (ha : PA X [a] ta) (hg : Gl X "BadValue" := by rfl)
    (he : starEach (a :: []) X.env = (false, eval a X.env) :: starEach [] X.env := by rfl) (hpl : (backTo pos (starEach [] X.env)).any (·.1) = false := by rfl) :
    PS X (.Raise (some (.Call (.Name "BadValue" p) [a] [] pos)) none pos2) (tRaise_BadValue C W ta) := L2N.ps_raise hc tk (pmk_BadValue T hr ha hg he hpl)
def tBy_BadValue (C : Addr) (a : Addr) (cls : Value) (d : Option Addr) (te : TE) : TE := fun σ H Q => te σ H fun x H1 => x = .ref a ∧ cls = .ref C ∧ ∃ (dd : Addr) (v : V), d = some dd ∧ H1 dd = some (.xd [(("name" : Str), v)]) ∧ Q v H1
theorem pe_by_BadValue {a : Addr} {oe : Obj} {cls : Value} {d : Option Addr} {pn : List (Addr × Obj)} {e : Expr} {te : TE} {pos : Pos} (T : PySem.LowX_BadValue.LowTxt X.K X.mg C fI) (hz : Zc cls d oe) (hf : ∃ vs, oe.data = .fields vs) (he : PE (X.suite a ((a, oe) :: pn)) e te)
    (hb : attributeBase e "name" X.env (eval e X.env) = eval e X.env := by rfl) :
    PE (X.suite a ((a, oe) :: pn)) (.Attribute e "name" pos) (tBy_BadValue C a cls d te) := by
  refine ⟨fun pins s σ H Q I h => ?_⟩
  refine attr_of hb (thn (he.run pins s σ H _ I h) fun u s1 hh => ?_)
  obtain ⟨x, H1, I1, rx, ex, ec, dd, v, ed, ea, q⟩ := hh
  subst ex
  obtain rfl : u = Value.ref a := rx
  subst ec
  subst ed
  obtain ⟨ha, _⟩ := I1.pin (a, oe) (List.mem_append_left _ List.mem_cons_self)
  obtain ⟨vs, hd⟩ := hf
  have hx : ObjOk X.prog X.w H1 s1.heap dd (.xd [(("name" : Str), v)]) := I1.hok dd _ ea
  obtain ⟨mA, hns, hr⟩ := hx
  obtain ⟨od, ho, hl⟩ := lookIn_ns hns
  have l : List.lookup ("name" : Str) [(("name" : Str), v)] = some v := by simp [List.lookup]
  obtain ⟨u, hu, ru⟩ := RelO.some_of (v := v) (o := mA "name") (by rw [← l]; exact hr "name")
  have J : PySem.W.InstAt s1.heap a oe C (some od) := ⟨ha, hz.1, by unfold PySem.W.notCls; rw [hd] <;> rfl, by rw [hz.2]; exact ho⟩
  exact HandSPX.exc_get I1.kIn J T.ga T.gg T.exC (PySem.W.findObj_own T.hdC T.noN rfl (by rw [hl, hu])) (handed_of ru) ⟨v, H1, I1.tok _, ru, q⟩
end
end L2


namespace PySem
namespace LowX_TooLarge
open PySem.W PySem.Calls PyProof.Rows PySem.HandSPX
/-! ### the text of __init__ -/
def iA (p1 p2 : Pos) : Arguments := { posonlyargs := [], args := [{ arg := "self", annotation := none, pos := p1 }, { arg := "what", annotation := none, pos := p2 }], vararg := none, kwonlyargs := [], kw_defaults := [], kwarg := none, defaults := [] }
def iB (q1 q2 q3 q4 : Pos) : List Stmt := [.Assign [.Attribute (.Name "self" q1) "what" q2] (.Name "what" q3) q4]
def iS : Scope := { kind := .function, names := [(PySem.Str.ofString "self", .local), (PySem.Str.ofString "what", .local)], isGenerator := false, isCoroutine := false, more := [] }
structure LowTxt (K : Frag) (mg : Str → Option Value) (C fI : Addr) : Prop where
  gC : mg "TooLarge" = some (.ref C)
  cls : ∃ nm q N bs bm sn sub ab col dd k0 k1 k2 k3 k5, K.lookup C = some (excClassObj nm q C N bs bm true sn sub ab col dd k0 k1 k2 k3 k5 "ValueError.__new__") ∧ refsVE bm = true
  sa : findIn K (.ref C) "__setattr__" = some (some (.builtin "object.__setattr__"))
  ga : findIn K (.ref C) "__getattribute__" = some (some (.builtin "BaseException.__getattribute__"))
  gg : findIn K (.ref C) "__getattr__" = some none
  noN : findIn K (.ref C) "what" = some none
  iC : findIn K (.ref C) "__init__" = some (some (.ref fI))
  tC : typeIn K (.ref fI) = some (.type "function")
  kC : keepIn K (.ref C) = true
  exC : subIn K (.ref C) (.type "BaseException") = some true
  tyC : typeIn K (.ref C) = some (.type "type")
  hdC : hasDictIn K C = true
  te : exmOne K (.ref C) (.ref C) = some true
  fn : ∃ (oc : Value) (od : Option Addr) (doc pm : Value) (an : Option Addr) (cdv ct : Value) (osl : Array (Option Value)) (p1 p2 q1 q2 q3 q4 : Pos),
    K.lookup fI = some ⟨oc, od, .func (fnOf "__init__" "TooLarge.__init__" (iA p1 p2) (iB q1 q2 q3 q4) iS .none .none doc pm an cdv ct), osl⟩ ∧ codeIn K cdv "TooLarge.__init__" = true
theorem one_size (v : Value) : [v].length ≤ sizeLine := by
  rw [sizeLine_eq]
  exact (by decide : 1 ≤ 16777216)
theorem kept_but {K : Frag} {h h' : Heap} {x : Addr} (X : K.In h) (hx : K.lookup x = none) (k : ∀ b o, b ≠ x → h.get? b = some o → h'.get? b = some o) : K.In h' := fun a o e =>
  k a o (fun z => by rw [z, hx] at e; cases e) (X a o e)
theorem ldC {M : Model} {s : Shared} {name : Str} {scope : Scope} {L a : Addr} {cd : Value} {m : Str → Option Value} {x : Str} {pos : Pos} {v : Value} {Q : Value → Shared → Prop} {A : Around} {E : Value → Shared → Prop} (hn : s.heap.Ns L m) (hv : m x = some v) (h : Q v s)
    (hk : scope.kind = .function := by rfl) (hl : (envOfC name scope L a cd).kindOf x = some .local := by rfl) (hd : (x == ("__debug__" : Str)) = false := by decide) :
    wpAny M A (eval (.Name x pos) (envOfC name scope L a cd)) Q E s := wpAny_Name (wpAny_loadName_local hk hl hn hv h) hd
/-- what __init__ leaves of a fresh exception at x -/
structure InitEnd (h h' : Heap) (x C dx t1 : Addr) (v : Value) : Prop where
  keep : ∀ b o, b ≠ x → h.get? b = some o → h'.get? b = some o
  obj : h'.get? x = some { cls := .ref C, dict := some dx, data := .fields #[.ref t1, .none, .none, .none, .bool false, .none] }
  dbig : h.objs.size ≤ dx
  dne : dx ≠ x
  ns : h'.Ns1 dx (fun y => if y = "what" then some v else none)
/-- a made Low -/
structure OwnMade (h h' : Heap) (e C d : Addr) (v : Value) : Prop where
  keep : ∀ b o, h.get? b = some o → h'.get? b = some o
  new : h.objs.size ≤ e
  obj : ∃ oe vs, h'.get? e = some oe ∧ oe.cls = .ref C ∧ oe.dict = some d ∧ oe.data = .fields vs ∧ vs[1]? = some .none ∧ vs[2]? = some .none
  dbig : h.objs.size ≤ d
  dne : d ≠ e
  ns : h'.Ns1 d (fun y => if y = "what" then some v else none)
section
variable {prog : Program} {w : World} {A : Around} {E : Value → Shared → Prop} {R : Result → Shared → Prop} {s : Shared} {K : Frag} {mg : Str → Option Value} {C fI : Addr}
theorem init_TooLarge (T : LowTxt K mg C fI) {x t0 : Addr} {v : Value} (X : K.In s.heap) (hlim : s.heap.NoLimit) (hx : s.heap.get? x = some (excO C t0)) (hnx : K.lookup x = none) (hroom : A.depth < recursionLimit)
    (hq : ∀ h' tk dx, InitEnd s.heap h' x C dx t0 v → R (.ok (.ret .none)) { s with heap := h', toks := tk }) :
    codeAny (model prog w) A (.call (.ref fI) ⟨[.ref x, v], []⟩) R s := by
  obtain ⟨oc, od, doc, pm, an, cdv, ct, osl, p1, p2, q1, q2, q3, q4, ho, hcd⟩ := T.fn
  obtain ⟨nm, q, N, bs, bm, sn, sub, ab, col, dd, k0, k1, k2, k3, k5, hC, hbm⟩ := T.cls
  have hcl : clsIn K C = some { name := nm, bases := bs, mro := .ref C :: bm, ns := N, qualname := q, hasDict := true, slotNames := sn, subclasses := sub, abstract := ab, collection := col, hasDel := false } := by unfold clsIn; rw [hC] <;> rfl
  refine Att.call_fn (binds := [("self", .ref x), ("what", v)]) X hlim ho hcd hroom (BindsTo.of_eq (by first | rfl | with_unfolding_all rfl)) (by first | rfl | decide | with_unfolding_all rfl) (fun s₁ IC => ?_) rfl rfl rfl
  obtain ⟨h₁, tk₁, rfl⟩ := IC.toInCall.same
  have k : ∀ b o, s.heap.get? b = some o → h₁.get? b = some o := IC.toInCall.keep
  have hn := IC.toInCall.ns
  have hxL : s.heap.objs.size ≠ x := Nat.ne_of_gt (Heap.lt_size hx)
  have X₁ : K.In h₁ := X.keeps k
  have hx₁ := k _ _ hx
  -- self.by = by
  show wpAny _ _ (execs _ _) _ _ _
  refine wpAny_execs_cons (plainObj_wpAny_Assign_Attribute ?_)
  refine ldC (v := v) hn (by first | rfl | with_unfolding_all rfl | kernel_rfl) (ldC (v := .ref x) hn (by first | rfl | with_unfolding_all rfl | kernel_rfl) ?_)
  refine set_plain X₁ (ox := excO C t0) (od := none) ⟨hx₁, rfl, rfl, trivial⟩ T.sa ?_
  refine exc_osa X₁ hx₁ hcl (show refsVE (.ref C :: bm) = true from hbm) rfl T.noN (fun h₃ tk₃ dx k₃ dn dne hx₃ hn₃ => ?_)
  show wpAny _ _ (execs _ _) _ _ _
  have z : s.heap.objs.size < h₁.objs.size := hn.lt
  exact wpAny_execs_nil (hq h₃ tk₃ dx ⟨fun b o hb e => k₃ b o hb (k b o e), hx₃, Nat.le_of_lt (Nat.lt_of_lt_of_le z dn), dne, hn₃⟩)
theorem made_TooLarge (T : LowTxt K mg C fI) {v : Value} (X : K.In s.heap) (hlim : s.heap.NoLimit) (hroom : A.depth + 1 < recursionLimit)
    (hq : ∀ h' tk e d, OwnMade s.heap h' e C d v → R (.ok (.ret (.ref e))) { s with heap := h', toks := tk }) :
    codeAny (model prog w) A (.call (.ref C) ⟨[v], []⟩) R s := by
  obtain ⟨nm, q, N, bs, bm, sn, sub, ab, col, dd, k0, k1, k2, k3, k5, hC, hbm⟩ := T.cls
  obtain ⟨hp, g, dr, tk, os⟩ := s
  have k : ∀ b o, hp.get? b = some o → ((hp.push (kdv_tup [v])).push (excO C hp.objs.size)).get? b = some o := fun b o e => Heap.get?_push_of_some _ (Heap.get?_push_of_some _ e)
  have hget : ((hp.push (kdv_tup [v])).push (excO C hp.objs.size)).get? (hp.objs.size + 1) = some (excO C hp.objs.size) := by heap_get
  have hnx : K.lookup (hp.objs.size + 1) = none := by
    cases e : K.lookup (hp.objs.size + 1) with
    | none => rfl
    | some o =>
      have z : hp.get? (hp.objs.size + 1) = some o := X _ _ e
      exact absurd (Nat.lt_of_succ_lt (Heap.lt_size z)) (Nat.lt_irrefl _)
  refine call_own F.excBase_ValueError (fun X => refsVE_contains X bm hbm) (X _ _ hC) (looks_findIn X T.iC) (fun self => bind_fn X self T.tC) (one_size v) ?_
  refine init_TooLarge (s := ⟨(hp.push (kdv_tup [v])).push (excO C hp.objs.size), g, dr, tk, os⟩) T (X.keeps k) (hlim.keeps k) hget hnx ?_ fun h' tk' dx ⟨k', hx, dn, dne, hns⟩ => ?_
  · show A.depth + 1 < recursionLimit
    exact hroom
  · have old : ∀ b o, hp.get? b = some o → h'.get? b = some o := fun b o e => k' b o (Nat.ne_of_lt (Nat.lt_succ_of_lt (Heap.lt_size e))) (k b o e)
    have z : hp.objs.size + 1 + 1 ≤ dx := by
      first
        | (simpa only [Heap.size_push] using dn)
        | exact dn
        | (have q := dn; rw [Heap.size_push, Heap.size_push] at q; exact q)
    exact ⟨rfl, hq h' tk' (hp.objs.size + 1) dx ⟨old, Nat.le_succ _, ⟨_, _, hx, rfl, rfl, rfl, rfl, rfl⟩, Nat.le_trans (Nat.le_trans (Nat.le_succ _) (Nat.le_succ _)) z, dne, hns⟩⟩
end
theorem exm_self {K : PySem.W.Frag} {S : Addr} (h1 : PySem.W.subIn K (.ref S) (.type "BaseException") = some true) (hd : PySem.W.hasDictIn K S = true) (h3 : PySem.W.typeIn K (.ref S) = some (.type "type")) (h4 : PySem.W.subIn K (.ref S) (.ref S) = some true) :
    PySem.W.exmOne K (.ref S) (.ref S) = some true := PySem.W.exm_ref h1 hd h3 h4
theorem mk_low {K : Frag} {mg : Str → Option Value} {C f1 : Addr} {nm q : Str} {N : Addr} {bs bm : List Value} {sn : List Str} {sub : List Value} {ab : Bool} {col : Option Bool} {dd : Option Addr} {m0 m1 m2 m3 m5 : Option Value}
    {od1 an1 : Option Addr} {sl1 : Array (Option Value)} {oc1 dc1 pm1 cd1 ct1 : Value} {p1 p2 q1 q2 q3 q4 : Pos} (gC : mg "TooLarge" = some (.ref C))
    (xL : K.lookup C = some (excClassObj nm q C N bs bm true sn sub ab col dd m0 m1 m2 m3 m5 "ValueError.__new__")) (hbm : refsVE bm = true)
    (sa : findIn K (.ref C) "__setattr__" = some (some (.builtin "object.__setattr__"))) (ga : findIn K (.ref C) "__getattribute__" = some (some (.builtin "BaseException.__getattribute__"))) (gg : findIn K (.ref C) "__getattr__" = some none) (nb : findIn K (.ref C) "what" = some none)
    (a1 : findIn K (.ref C) "__init__" = some (some (.ref f1))) (t1 : typeIn K (.ref f1) = some (.type "function"))
    (l1 : K.lookup f1 = some ⟨oc1, od1, .func (fnOf "__init__" "TooLarge.__init__" (iA p1 p2) (iB q1 q2 q3 q4) iS .none .none dc1 pm1 an1 cd1 ct1), sl1⟩) (c1 : codeIn K cd1 "TooLarge.__init__" = true)
    (kC : keepIn K (.ref C) = true) (eC : subIn K (.ref C) (.type "BaseException") = some true) (tC : typeIn K (.ref C) = some (.type "type")) (hC : hasDictIn K C = true) (sC : subIn K (.ref C) (.ref C) = some true) : LowTxt K mg C f1 :=
  { gC := gC, cls := ⟨nm, q, N, bs, bm, sn, sub, ab, col, dd, m0, m1, m2, m3, m5, xL, hbm⟩, sa := sa, ga := ga, gg := gg, noN := nb, iC := a1, tC := t1, kC := kC, exC := eC, tyC := tC, hdC := hC, te := exm_self eC hC tC sC,
    fn := ⟨_, _, _, _, _, _, _, _, _, _, _, _, _, _, l1, c1⟩ }
end LowX_TooLarge
end PySem
namespace L2
open PySem PySem.Spec PyProof.Rows
theorem relO_TooLarge {v : V} {v' : Value} (r : RelV v v') (f : Str) : RelO (List.lookup f [(("what" : Str), v)]) (if f = "what" then some v' else none) := by
  by_cases hw : f = "what"
  · subst hw
    rw [if_pos rfl]
    have q : List.lookup ("what" : Str) [(("what" : Str), v)] = some v := by simp [List.lookup]
    rw [q]
    exact r
  · rw [if_neg hw]
    have qw : (f == ("what" : Str)) = false := by simpa using hw
    have q2 : List.lookup f [(("what" : Str), v)] = none := by simp [List.lookup, qw]
    rw [q2]
    trivial
section
variable {X : Cx} {C fI : Addr}
def tMk_TooLarge (C : Addr) (ta : TA) : St → Hp → XK → Prop := fun σ H Q => ta σ H fun vs H1 => ∃ v, vs = [v] ∧ ∀ d, H1 d = none → Q (.ref C) (some d) (upd H1 d (.xd [(("what" : Str), v)]))
theorem pmk_TooLarge {a : Expr} {ta : TA} {p pos : Pos} {k : Nat} (T : PySem.LowX_TooLarge.LowTxt X.K X.mg C fI) (hr : Room k X.A) (ha : PA X [a] ta) (hg : Gl X "TooLarge" := by rfl)
    (he : starEach (a :: []) X.env = (false, eval a X.env) :: starEach [] X.env := by rfl) (hpl : (backTo pos (starEach [] X.env)).any (·.1) = false := by rfl) :
    L2N.PMk X (.Call (.Name "TooLarge" p) [a] [] pos) (tMk_TooLarge C ta) := by
  intro pins s σ H Q I h
  refine wpAny_Call_Name_kw (ld_glob I hg T.gC ?_)
  refine PySem.W.callWith_K (h₀ := X.base) I.ok.mod.kin T.kC (thn (ha.run pos pins s σ H _ I h) fun us s1 hh => ?_) he hpl
  obtain ⟨vs, H1, I1, r1, v, ev, q1⟩ := hh
  subst ev
  refine ⟨I1.kIn, ?_⟩
  cases r1 with
  | cons rv rn =>
    rename_i v' us'
    cases rn
    show wpAny _ _ (call (.ref C) [v']) _ _ _
    have hlim := I1.nolimit
    obtain ⟨hp, g, dr, tk, os⟩ := s1
    refine wpAny_call (PySem.LowX_TooLarge.made_TooLarge T I1.kIn hlim (by have := hr.dp; omega) fun h' tk' e d M => ?_)
    show L2N.MkP X pins σ Q (.ref e) ⟨h', g, dr, tk', os⟩
    obtain ⟨oe, fv, hoe, hc, hd, hdat, h1, h2⟩ := M.obj
    have hns := M.ns
    obtain ⟨G', g1, g2⟩ := restrict h' fun b => decide (b ≠ e)
    have gk : ∀ b, b ≠ e → G'.get? b = h'.get? b := fun b hb => g1 b (decide_eq_true hb)
    have ge : G'.get? e = none := g2 e (by simp)
    have old : ∀ b o, hp.get? b = some o → G'.get? b = some o := fun b o q => (gk b (Nat.ne_of_lt (Nat.lt_of_lt_of_le (Heap.lt_size q) M.new))).trans (M.keep b o q)
    have ob : ObjOk X.prog X.w (upd H1 d (.xd [(("what" : Str), v)])) G' d (.xd [(("what" : Str), v)]) :=
      ⟨_, hns.at (fun o q => (gk d M.dne).trans q), fun f => relO_TooLarge rv f⟩
    have J : Inv X pins σ (upd H1 d (.xd [(("what" : Str), v)])) ⟨G', g, dr, tk', os⟩ := I1.laid (t' := tk') old M.dbig ob
    refine ⟨e, oe, fv, ⟨G', g, dr, tk', os⟩, _, .ref C, some d, rfl, J, fun b o q => ?_, ge, hoe, ⟨hc, hd, fun w e => by rw [hdat] at e; cases e; exact h2⟩, hdat, h1, ?_, rfl, I1.bare, raises_own T.exC T.tyC, q1 d (I1.hok.fresh M.dbig)⟩
    · by_cases hb : b = e
      · have q' : G'.get? b = some o := q
        rw [hb, ge] at q'; cases q'
      · exact (gk b hb).symm.trans q
    · rw [upd_ne (Ne.symm M.dne)]
      exact I1.hok.fresh M.new
def tRaise_TooLarge (C : Addr) (W : WX) (ta : TA) : TS := fun _ σ H => tMk_TooLarge C ta σ H fun cls d H' => W cls d σ H'
theorem ps_raise_TooLarge {a : Expr} {ta : TA} {W : WX} {p pos pos2 : Pos} {k : Nat} (hc : X.calm = true) (T : PySem.LowX_TooLarge.LowTxt X.K X.mg C fI) (hr : Room k X.A) (tk : L2N.Takes X W) (ha : PA X [a] ta) (hg : Gl X "TooLarge" := by rfl)
    (he : starEach (a :: []) X.env = (false, eval a X.env) :: starEach [] X.env := by rfl) (hpl : (backTo pos (starEach [] X.env)).any (·.1) = false := by rfl) :
    PS X (.Raise (some (.Call (.Name "TooLarge" p) [a] [] pos)) none pos2) (tRaise_TooLarge C W ta) := L2N.ps_raise hc tk (pmk_TooLarge T hr ha hg he hpl)
def tBy_TooLarge (C : Addr) (a : Addr) (cls : Value) (d : Option Addr) (te : TE) : TE := fun σ H Q => te σ H fun x H1 => x = .ref a ∧ cls = .ref C ∧ ∃ (dd : Addr) (v : V), d = some dd ∧ H1 dd = some (.xd [(("what" : Str), v)]) ∧ Q v H1
theorem pe_by_TooLarge {a : Addr} {oe : Obj} {cls : Value} {d : Option Addr} {pn : List (Addr × Obj)} {e : Expr} {te : TE} {pos : Pos} (T : PySem.LowX_TooLarge.LowTxt X.K X.mg C fI) (hz : Zc cls d oe) (hf : ∃ vs, oe.data = .fields vs) (he : PE (X.suite a ((a, oe) :: pn)) e te)
    (hb : attributeBase e "what" X.env (eval e X.env) = eval e X.env := by rfl) :
    PE (X.suite a ((a, oe) :: pn)) (.Attribute e "what" pos) (tBy_TooLarge C a cls d te) := by
  refine ⟨fun pins s σ H Q I h => ?_⟩
  refine attr_of hb (thn (he.run pins s σ H _ I h) fun u s1 hh => ?_)
  obtain ⟨x, H1, I1, rx, ex, ec, dd, v, ed, ea, q⟩ := hh
  subst ex
  obtain rfl : u = Value.ref a := rx
  subst ec
  subst ed
  obtain ⟨ha, _⟩ := I1.pin (a, oe) (List.mem_append_left _ List.mem_cons_self)
  obtain ⟨vs, hd⟩ := hf
  have hx : ObjOk X.prog X.w H1 s1.heap dd (.xd [(("what" : Str), v)]) := I1.hok dd _ ea
  obtain ⟨mA, hns, hr⟩ := hx
  obtain ⟨od, ho, hl⟩ := lookIn_ns hns
  have l : List.lookup ("what" : Str) [(("what" : Str), v)] = some v := by simp [List.lookup]
  obtain ⟨u, hu, ru⟩ := RelO.some_of (v := v) (o := mA "what") (by rw [← l]; exact hr "what")
  have J : PySem.W.InstAt s1.heap a oe C (some od) := ⟨ha, hz.1, by unfold PySem.W.notCls; rw [hd] <;> rfl, by rw [hz.2]; exact ho⟩
  exact HandSPX.exc_get I1.kIn J T.ga T.gg T.exC (PySem.W.findObj_own T.hdC T.noN rfl (by rw [hl, hu])) (handed_of ru) ⟨v, H1, I1.tok _, ru, q⟩
end
end L2


namespace PySem
namespace LowX_NotPossible
open PySem.W PySem.Calls PyProof.Rows PySem.HandSPX
/-! ### the text of __init__ -/
def iA (p1 p2 : Pos) : Arguments := { posonlyargs := [], args := [{ arg := "self", annotation := none, pos := p1 }, { arg := "why", annotation := none, pos := p2 }], vararg := none, kwonlyargs := [], kw_defaults := [], kwarg := none, defaults := [] }
def iB (q1 q2 q3 q4 : Pos) : List Stmt := [.Assign [.Attribute (.Name "self" q1) "why" q2] (.Name "why" q3) q4]
def iS : Scope := { kind := .function, names := [(PySem.Str.ofString "self", .local), (PySem.Str.ofString "why", .local)], isGenerator := false, isCoroutine := false, more := [] }
structure LowTxt (K : Frag) (mg : Str → Option Value) (C fI : Addr) : Prop where
  gC : mg "NotPossible" = some (.ref C)
  cls : ∃ nm q N bs bm sn sub ab col dd k0 k1 k2 k3 k5, K.lookup C = some (excClassObj nm q C N bs bm true sn sub ab col dd k0 k1 k2 k3 k5 "ValueError.__new__") ∧ refsVE bm = true
  sa : findIn K (.ref C) "__setattr__" = some (some (.builtin "object.__setattr__"))
  ga : findIn K (.ref C) "__getattribute__" = some (some (.builtin "BaseException.__getattribute__"))
  gg : findIn K (.ref C) "__getattr__" = some none
  noN : findIn K (.ref C) "why" = some none
  iC : findIn K (.ref C) "__init__" = some (some (.ref fI))
  tC : typeIn K (.ref fI) = some (.type "function")
  kC : keepIn K (.ref C) = true
  exC : subIn K (.ref C) (.type "BaseException") = some true
  tyC : typeIn K (.ref C) = some (.type "type")
  hdC : hasDictIn K C = true
  te : exmOne K (.ref C) (.ref C) = some true
  fn : ∃ (oc : Value) (od : Option Addr) (doc pm : Value) (an : Option Addr) (cdv ct : Value) (osl : Array (Option Value)) (p1 p2 q1 q2 q3 q4 : Pos),
    K.lookup fI = some ⟨oc, od, .func (fnOf "__init__" "NotPossible.__init__" (iA p1 p2) (iB q1 q2 q3 q4) iS .none .none doc pm an cdv ct), osl⟩ ∧ codeIn K cdv "NotPossible.__init__" = true
theorem one_size (v : Value) : [v].length ≤ sizeLine := by
  rw [sizeLine_eq]
  exact (by decide : 1 ≤ 16777216)
theorem kept_but {K : Frag} {h h' : Heap} {x : Addr} (X : K.In h) (hx : K.lookup x = none) (k : ∀ b o, b ≠ x → h.get? b = some o → h'.get? b = some o) : K.In h' := fun a o e =>
  k a o (fun z => by rw [z, hx] at e; cases e) (X a o e)
theorem ldC {M : Model} {s : Shared} {name : Str} {scope : Scope} {L a : Addr} {cd : Value} {m : Str → Option Value} {x : Str} {pos : Pos} {v : Value} {Q : Value → Shared → Prop} {A : Around} {E : Value → Shared → Prop} (hn : s.heap.Ns L m) (hv : m x = some v) (h : Q v s)
    (hk : scope.kind = .function := by rfl) (hl : (envOfC name scope L a cd).kindOf x = some .local := by rfl) (hd : (x == ("__debug__" : Str)) = false := by decide) :
    wpAny M A (eval (.Name x pos) (envOfC name scope L a cd)) Q E s := wpAny_Name (wpAny_loadName_local hk hl hn hv h) hd
/-- what __init__ leaves of a fresh exception at x -/
structure InitEnd (h h' : Heap) (x C dx t1 : Addr) (v : Value) : Prop where
  keep : ∀ b o, b ≠ x → h.get? b = some o → h'.get? b = some o
  obj : h'.get? x = some { cls := .ref C, dict := some dx, data := .fields #[.ref t1, .none, .none, .none, .bool false, .none] }
  dbig : h.objs.size ≤ dx
  dne : dx ≠ x
  ns : h'.Ns1 dx (fun y => if y = "why" then some v else none)
/-- a made Low -/
structure OwnMade (h h' : Heap) (e C d : Addr) (v : Value) : Prop where
  keep : ∀ b o, h.get? b = some o → h'.get? b = some o
  new : h.objs.size ≤ e
  obj : ∃ oe vs, h'.get? e = some oe ∧ oe.cls = .ref C ∧ oe.dict = some d ∧ oe.data = .fields vs ∧ vs[1]? = some .none ∧ vs[2]? = some .none
  dbig : h.objs.size ≤ d
  dne : d ≠ e
  ns : h'.Ns1 d (fun y => if y = "why" then some v else none)
section
variable {prog : Program} {w : World} {A : Around} {E : Value → Shared → Prop} {R : Result → Shared → Prop} {s : Shared} {K : Frag} {mg : Str → Option Value} {C fI : Addr}
theorem init_NotPossible (T : LowTxt K mg C fI) {x t0 : Addr} {v : Value} (X : K.In s.heap) (hlim : s.heap.NoLimit) (hx : s.heap.get? x = some (excO C t0)) (hnx : K.lookup x = none) (hroom : A.depth < recursionLimit)
    (hq : ∀ h' tk dx, InitEnd s.heap h' x C dx t0 v → R (.ok (.ret .none)) { s with heap := h', toks := tk }) :
    codeAny (model prog w) A (.call (.ref fI) ⟨[.ref x, v], []⟩) R s := by
  obtain ⟨oc, od, doc, pm, an, cdv, ct, osl, p1, p2, q1, q2, q3, q4, ho, hcd⟩ := T.fn
  obtain ⟨nm, q, N, bs, bm, sn, sub, ab, col, dd, k0, k1, k2, k3, k5, hC, hbm⟩ := T.cls
  have hcl : clsIn K C = some { name := nm, bases := bs, mro := .ref C :: bm, ns := N, qualname := q, hasDict := true, slotNames := sn, subclasses := sub, abstract := ab, collection := col, hasDel := false } := by unfold clsIn; rw [hC] <;> rfl
  refine Att.call_fn (binds := [("self", .ref x), ("why", v)]) X hlim ho hcd hroom (BindsTo.of_eq (by first | rfl | with_unfolding_all rfl)) (by first | rfl | decide | with_unfolding_all rfl) (fun s₁ IC => ?_) rfl rfl rfl
  obtain ⟨h₁, tk₁, rfl⟩ := IC.toInCall.same
  have k : ∀ b o, s.heap.get? b = some o → h₁.get? b = some o := IC.toInCall.keep
  have hn := IC.toInCall.ns
  have hxL : s.heap.objs.size ≠ x := Nat.ne_of_gt (Heap.lt_size hx)
  have X₁ : K.In h₁ := X.keeps k
  have hx₁ := k _ _ hx
  -- self.by = by
  show wpAny _ _ (execs _ _) _ _ _
  refine wpAny_execs_cons (plainObj_wpAny_Assign_Attribute ?_)
  refine ldC (v := v) hn (by first | rfl | with_unfolding_all rfl | kernel_rfl) (ldC (v := .ref x) hn (by first | rfl | with_unfolding_all rfl | kernel_rfl) ?_)
  refine set_plain X₁ (ox := excO C t0) (od := none) ⟨hx₁, rfl, rfl, trivial⟩ T.sa ?_
  refine exc_osa X₁ hx₁ hcl (show refsVE (.ref C :: bm) = true from hbm) rfl T.noN (fun h₃ tk₃ dx k₃ dn dne hx₃ hn₃ => ?_)
  show wpAny _ _ (execs _ _) _ _ _
  have z : s.heap.objs.size < h₁.objs.size := hn.lt
  exact wpAny_execs_nil (hq h₃ tk₃ dx ⟨fun b o hb e => k₃ b o hb (k b o e), hx₃, Nat.le_of_lt (Nat.lt_of_lt_of_le z dn), dne, hn₃⟩)
theorem made_NotPossible (T : LowTxt K mg C fI) {v : Value} (X : K.In s.heap) (hlim : s.heap.NoLimit) (hroom : A.depth + 1 < recursionLimit)
    (hq : ∀ h' tk e d, OwnMade s.heap h' e C d v → R (.ok (.ret (.ref e))) { s with heap := h', toks := tk }) :
    codeAny (model prog w) A (.call (.ref C) ⟨[v], []⟩) R s := by
  obtain ⟨nm, q, N, bs, bm, sn, sub, ab, col, dd, k0, k1, k2, k3, k5, hC, hbm⟩ := T.cls
  obtain ⟨hp, g, dr, tk, os⟩ := s
  have k : ∀ b o, hp.get? b = some o → ((hp.push (kdv_tup [v])).push (excO C hp.objs.size)).get? b = some o := fun b o e => Heap.get?_push_of_some _ (Heap.get?_push_of_some _ e)
  have hget : ((hp.push (kdv_tup [v])).push (excO C hp.objs.size)).get? (hp.objs.size + 1) = some (excO C hp.objs.size) := by heap_get
  have hnx : K.lookup (hp.objs.size + 1) = none := by
    cases e : K.lookup (hp.objs.size + 1) with
    | none => rfl
    | some o =>
      have z : hp.get? (hp.objs.size + 1) = some o := X _ _ e
      exact absurd (Nat.lt_of_succ_lt (Heap.lt_size z)) (Nat.lt_irrefl _)
  refine call_own F.excBase_ValueError (fun X => refsVE_contains X bm hbm) (X _ _ hC) (looks_findIn X T.iC) (fun self => bind_fn X self T.tC) (one_size v) ?_
  refine init_NotPossible (s := ⟨(hp.push (kdv_tup [v])).push (excO C hp.objs.size), g, dr, tk, os⟩) T (X.keeps k) (hlim.keeps k) hget hnx ?_ fun h' tk' dx ⟨k', hx, dn, dne, hns⟩ => ?_
  · show A.depth + 1 < recursionLimit
    exact hroom
  · have old : ∀ b o, hp.get? b = some o → h'.get? b = some o := fun b o e => k' b o (Nat.ne_of_lt (Nat.lt_succ_of_lt (Heap.lt_size e))) (k b o e)
    have z : hp.objs.size + 1 + 1 ≤ dx := by
      first
        | (simpa only [Heap.size_push] using dn)
        | exact dn
        | (have q := dn; rw [Heap.size_push, Heap.size_push] at q; exact q)
    exact ⟨rfl, hq h' tk' (hp.objs.size + 1) dx ⟨old, Nat.le_succ _, ⟨_, _, hx, rfl, rfl, rfl, rfl, rfl⟩, Nat.le_trans (Nat.le_trans (Nat.le_succ _) (Nat.le_succ _)) z, dne, hns⟩⟩
end
theorem exm_self {K : PySem.W.Frag} {S : Addr} (h1 : PySem.W.subIn K (.ref S) (.type "BaseException") = some true) (hd : PySem.W.hasDictIn K S = true) (h3 : PySem.W.typeIn K (.ref S) = some (.type "type")) (h4 : PySem.W.subIn K (.ref S) (.ref S) = some true) :
    PySem.W.exmOne K (.ref S) (.ref S) = some true := PySem.W.exm_ref h1 hd h3 h4
theorem mk_low {K : Frag} {mg : Str → Option Value} {C f1 : Addr} {nm q : Str} {N : Addr} {bs bm : List Value} {sn : List Str} {sub : List Value} {ab : Bool} {col : Option Bool} {dd : Option Addr} {m0 m1 m2 m3 m5 : Option Value}
    {od1 an1 : Option Addr} {sl1 : Array (Option Value)} {oc1 dc1 pm1 cd1 ct1 : Value} {p1 p2 q1 q2 q3 q4 : Pos} (gC : mg "NotPossible" = some (.ref C))
    (xL : K.lookup C = some (excClassObj nm q C N bs bm true sn sub ab col dd m0 m1 m2 m3 m5 "ValueError.__new__")) (hbm : refsVE bm = true)
    (sa : findIn K (.ref C) "__setattr__" = some (some (.builtin "object.__setattr__"))) (ga : findIn K (.ref C) "__getattribute__" = some (some (.builtin "BaseException.__getattribute__"))) (gg : findIn K (.ref C) "__getattr__" = some none) (nb : findIn K (.ref C) "why" = some none)
    (a1 : findIn K (.ref C) "__init__" = some (some (.ref f1))) (t1 : typeIn K (.ref f1) = some (.type "function"))
    (l1 : K.lookup f1 = some ⟨oc1, od1, .func (fnOf "__init__" "NotPossible.__init__" (iA p1 p2) (iB q1 q2 q3 q4) iS .none .none dc1 pm1 an1 cd1 ct1), sl1⟩) (c1 : codeIn K cd1 "NotPossible.__init__" = true)
    (kC : keepIn K (.ref C) = true) (eC : subIn K (.ref C) (.type "BaseException") = some true) (tC : typeIn K (.ref C) = some (.type "type")) (hC : hasDictIn K C = true) (sC : subIn K (.ref C) (.ref C) = some true) : LowTxt K mg C f1 :=
  { gC := gC, cls := ⟨nm, q, N, bs, bm, sn, sub, ab, col, dd, m0, m1, m2, m3, m5, xL, hbm⟩, sa := sa, ga := ga, gg := gg, noN := nb, iC := a1, tC := t1, kC := kC, exC := eC, tyC := tC, hdC := hC, te := exm_self eC hC tC sC,
    fn := ⟨_, _, _, _, _, _, _, _, _, _, _, _, _, _, l1, c1⟩ }
end LowX_NotPossible
end PySem
namespace L2
open PySem PySem.Spec PyProof.Rows
theorem relO_NotPossible {v : V} {v' : Value} (r : RelV v v') (f : Str) : RelO (List.lookup f [(("why" : Str), v)]) (if f = "why" then some v' else none) := by
  by_cases hw : f = "why"
  · subst hw
    rw [if_pos rfl]
    have q : List.lookup ("why" : Str) [(("why" : Str), v)] = some v := by simp [List.lookup]
    rw [q]
    exact r
  · rw [if_neg hw]
    have qw : (f == ("why" : Str)) = false := by simpa using hw
    have q2 : List.lookup f [(("why" : Str), v)] = none := by simp [List.lookup, qw]
    rw [q2]
    trivial
section
variable {X : Cx} {C fI : Addr}
def tMk_NotPossible (C : Addr) (ta : TA) : St → Hp → XK → Prop := fun σ H Q => ta σ H fun vs H1 => ∃ v, vs = [v] ∧ ∀ d, H1 d = none → Q (.ref C) (some d) (upd H1 d (.xd [(("why" : Str), v)]))
theorem pmk_NotPossible {a : Expr} {ta : TA} {p pos : Pos} {k : Nat} (T : PySem.LowX_NotPossible.LowTxt X.K X.mg C fI) (hr : Room k X.A) (ha : PA X [a] ta) (hg : Gl X "NotPossible" := by rfl)
    (he : starEach (a :: []) X.env = (false, eval a X.env) :: starEach [] X.env := by rfl) (hpl : (backTo pos (starEach [] X.env)).any (·.1) = false := by rfl) :
    L2N.PMk X (.Call (.Name "NotPossible" p) [a] [] pos) (tMk_NotPossible C ta) := by
  intro pins s σ H Q I h
  refine wpAny_Call_Name_kw (ld_glob I hg T.gC ?_)
  refine PySem.W.callWith_K (h₀ := X.base) I.ok.mod.kin T.kC (thn (ha.run pos pins s σ H _ I h) fun us s1 hh => ?_) he hpl
  obtain ⟨vs, H1, I1, r1, v, ev, q1⟩ := hh
  subst ev
  refine ⟨I1.kIn, ?_⟩
  cases r1 with
  | cons rv rn =>
    rename_i v' us'
    cases rn
    show wpAny _ _ (call (.ref C) [v']) _ _ _
    have hlim := I1.nolimit
    obtain ⟨hp, g, dr, tk, os⟩ := s1
    refine wpAny_call (PySem.LowX_NotPossible.made_NotPossible T I1.kIn hlim (by have := hr.dp; omega) fun h' tk' e d M => ?_)
    show L2N.MkP X pins σ Q (.ref e) ⟨h', g, dr, tk', os⟩
    obtain ⟨oe, fv, hoe, hc, hd, hdat, h1, h2⟩ := M.obj
    have hns := M.ns
    obtain ⟨G', g1, g2⟩ := restrict h' fun b => decide (b ≠ e)
    have gk : ∀ b, b ≠ e → G'.get? b = h'.get? b := fun b hb => g1 b (decide_eq_true hb)
    have ge : G'.get? e = none := g2 e (by simp)
    have old : ∀ b o, hp.get? b = some o → G'.get? b = some o := fun b o q => (gk b (Nat.ne_of_lt (Nat.lt_of_lt_of_le (Heap.lt_size q) M.new))).trans (M.keep b o q)
    have ob : ObjOk X.prog X.w (upd H1 d (.xd [(("why" : Str), v)])) G' d (.xd [(("why" : Str), v)]) :=
      ⟨_, hns.at (fun o q => (gk d M.dne).trans q), fun f => relO_NotPossible rv f⟩
    have J : Inv X pins σ (upd H1 d (.xd [(("why" : Str), v)])) ⟨G', g, dr, tk', os⟩ := I1.laid (t' := tk') old M.dbig ob
    refine ⟨e, oe, fv, ⟨G', g, dr, tk', os⟩, _, .ref C, some d, rfl, J, fun b o q => ?_, ge, hoe, ⟨hc, hd, fun w e => by rw [hdat] at e; cases e; exact h2⟩, hdat, h1, ?_, rfl, I1.bare, raises_own T.exC T.tyC, q1 d (I1.hok.fresh M.dbig)⟩
    · by_cases hb : b = e
      · have q' : G'.get? b = some o := q
        rw [hb, ge] at q'; cases q'
      · exact (gk b hb).symm.trans q
    · rw [upd_ne (Ne.symm M.dne)]
      exact I1.hok.fresh M.new
def tRaise_NotPossible (C : Addr) (W : WX) (ta : TA) : TS := fun _ σ H => tMk_NotPossible C ta σ H fun cls d H' => W cls d σ H'
theorem ps_raise_NotPossible {a : Expr} {ta : TA} {W : WX} {p pos pos2 : Pos} {k : Nat} (hc : X.calm = true) (T : PySem.LowX_NotPossible.LowTxt X.K X.mg C fI) (hr : Room k X.A) (tk : L2N.Takes X W) (ha : PA X [a] ta) (hg : Gl X "NotPossible" := by rfl)
    (he : starEach (a :: []) X.env = (false, eval a X.env) :: starEach [] X.env := by rfl) (hpl : (backTo pos (starEach [] X.env)).any (·.1) = false := by rfl) :
    PS X (.Raise (some (.Call (.Name "NotPossible" p) [a] [] pos)) none pos2) (tRaise_NotPossible C W ta) := L2N.ps_raise hc tk (pmk_NotPossible T hr ha hg he hpl)
def tBy_NotPossible (C : Addr) (a : Addr) (cls : Value) (d : Option Addr) (te : TE) : TE := fun σ H Q => te σ H fun x H1 => x = .ref a ∧ cls = .ref C ∧ ∃ (dd : Addr) (v : V), d = some dd ∧ H1 dd = some (.xd [(("why" : Str), v)]) ∧ Q v H1
theorem pe_by_NotPossible {a : Addr} {oe : Obj} {cls : Value} {d : Option Addr} {pn : List (Addr × Obj)} {e : Expr} {te : TE} {pos : Pos} (T : PySem.LowX_NotPossible.LowTxt X.K X.mg C fI) (hz : Zc cls d oe) (hf : ∃ vs, oe.data = .fields vs) (he : PE (X.suite a ((a, oe) :: pn)) e te)
    (hb : attributeBase e "why" X.env (eval e X.env) = eval e X.env := by rfl) :
    PE (X.suite a ((a, oe) :: pn)) (.Attribute e "why" pos) (tBy_NotPossible C a cls d te) := by
  refine ⟨fun pins s σ H Q I h => ?_⟩
  refine attr_of hb (thn (he.run pins s σ H _ I h) fun u s1 hh => ?_)
  obtain ⟨x, H1, I1, rx, ex, ec, dd, v, ed, ea, q⟩ := hh
  subst ex
  obtain rfl : u = Value.ref a := rx
  subst ec
  subst ed
  obtain ⟨ha, _⟩ := I1.pin (a, oe) (List.mem_append_left _ List.mem_cons_self)
  obtain ⟨vs, hd⟩ := hf
  have hx : ObjOk X.prog X.w H1 s1.heap dd (.xd [(("why" : Str), v)]) := I1.hok dd _ ea
  obtain ⟨mA, hns, hr⟩ := hx
  obtain ⟨od, ho, hl⟩ := lookIn_ns hns
  have l : List.lookup ("why" : Str) [(("why" : Str), v)] = some v := by simp [List.lookup]
  obtain ⟨u, hu, ru⟩ := RelO.some_of (v := v) (o := mA "why") (by rw [← l]; exact hr "why")
  have J : PySem.W.InstAt s1.heap a oe C (some od) := ⟨ha, hz.1, by unfold PySem.W.notCls; rw [hd] <;> rfl, by rw [hz.2]; exact ho⟩
  exact HandSPX.exc_get I1.kIn J T.ga T.gg T.exC (PySem.W.findObj_own T.hdC T.noN rfl (by rw [hl, hu])) (handed_of ru) ⟨v, H1, I1.tok _, ru, q⟩
end
end L2


namespace XH
open PySem PySem.Spec L2 L2H
/-- what the top knows of the errors -/
structure ErrX (K : PySem.W.Frag) (mg : Str → Option Value) where
  kS : Addr
  kB : Addr
  kL : Addr
  kN : Addr
  kT : Addr
  fB : Addr
  fL : Addr
  fN : Addr
  gS : mg "SeenError" = some (.ref kS)
  gB : mg "BadValue" = some (.ref kB)
  gL : mg "TooLarge" = some (.ref kL)
  gN : mg "NotPossible" = some (.ref kN)
  gT : mg "TextError" = some (.ref kT)
  lB : PySem.LowX_BadValue.LowTxt K mg kB fB
  lL : PySem.LowX_TooLarge.LowTxt K mg kL fL
  lN : PySem.LowX_NotPossible.LowTxt K mg kN fN
  xB : ExcC K kB
  xL : ExcC K kL
  xN : ExcC K kN
  mB : PySem.W.exmOne K (.ref kB) (.ref kS) = some true
  mL : PySem.W.exmOne K (.ref kL) (.ref kS) = some true
  mN : PySem.W.exmOne K (.ref kN) (.ref kS) = some true
  qBB : PySem.W.kitOne K (.ref kB) (.ref kB) = some true
  qBL : PySem.W.kitOne K (.ref kB) (.ref kL) = some false
  qBN : PySem.W.kitOne K (.ref kB) (.ref kN) = some false
  qBT : PySem.W.kitOne K (.ref kB) (.ref kT) = some false
  qBS : PySem.W.kitOne K (.ref kB) (.ref kS) = some true
  qLB : PySem.W.kitOne K (.ref kL) (.ref kB) = some false
  qLL : PySem.W.kitOne K (.ref kL) (.ref kL) = some true
  qLN : PySem.W.kitOne K (.ref kL) (.ref kN) = some false
  qLT : PySem.W.kitOne K (.ref kL) (.ref kT) = some false
  qLS : PySem.W.kitOne K (.ref kL) (.ref kS) = some true
  qNB : PySem.W.kitOne K (.ref kN) (.ref kB) = some false
  qNL : PySem.W.kitOne K (.ref kN) (.ref kL) = some false
  qNN : PySem.W.kitOne K (.ref kN) (.ref kN) = some true
  qNT : PySem.W.kitOne K (.ref kN) (.ref kT) = some false
  qNS : PySem.W.kitOne K (.ref kN) (.ref kS) = some true
  vB : PySem.W.kitOne K (.ref kB) (.type "ValueError") = some true
  vL : PySem.W.kitOne K (.ref kL) (.type "ValueError") = some true
  vN : PySem.W.kitOne K (.ref kN) (.type "ValueError") = some true
/-- class number j is at C -/
def ErrX.At {K : PySem.W.Frag} {mg : Str → Option Value} (R : ErrX K mg) (C : Addr) (j : Nat) : Prop := (C = R.kB ∧ j = 0) ∨ (C = R.kL ∧ j = 1) ∨ (C = R.kN ∧ j = 2)
structure ErrX.Kit {K : PySem.W.Frag} {mg : Str → Option Value} (R : ErrX K mg) (C : Addr) (j : Nat) : Prop where
  x : ExcC K C
  m : PySem.W.exmOne K (.ref C) (.ref R.kS) = some true
  b : PySem.W.kitOne K (.ref C) (.ref R.kB) = some (decide (j = 0))
  l : PySem.W.kitOne K (.ref C) (.ref R.kL) = some (decide (j = 1))
  n : PySem.W.kitOne K (.ref C) (.ref R.kN) = some (decide (j = 2))
  t : PySem.W.kitOne K (.ref C) (.ref R.kT) = some (decide (j = 3))
  s : PySem.W.kitOne K (.ref C) (.ref R.kS) = some true
  v : PySem.W.kitOne K (.ref C) (.type "ValueError") = some true
theorem ErrX.kit {K : PySem.W.Frag} {mg : Str → Option Value} (R : ErrX K mg) {C : Addr} {j : Nat} (h : R.At C j) : R.Kit C j := by
  rcases h with ⟨rfl, rfl⟩ | ⟨rfl, rfl⟩ | ⟨rfl, rfl⟩
  · exact ⟨R.xB, R.mB, R.qBB, R.qBL, R.qBN, R.qBT, R.qBS, R.vB⟩
  · exact ⟨R.xL, R.mL, R.qLB, R.qLL, R.qLN, R.qLT, R.qLS, R.vL⟩
  · exact ⟨R.xN, R.mN, R.qNB, R.qNL, R.qNN, R.qNT, R.qNS, R.vN⟩
/-- the handled error p is of class number j, its dict at d -/
def ErrX.Is {K : PySem.W.Frag} {mg : Str → Option Value} (R : ErrX K mg) (p : Pin) (j : Nat) (C d : Addr) : Prop := R.At C j ∧ Zc (.ref C) (some d) p.2 ∧ ∃ vs, p.2.data = .fields vs
def spOne {K : PySem.W.Frag} {mg : Str → Option Value} (R : ErrX K mg) : Pin → Sp := fun p vs H Q _ => ∃ (C d : Addr) (wanted : Int) (j : Nat), vs = [.ref p.1, .int wanted] ∧ R.Is p j C d ∧ (∃ fs, H d = some (.xd fs)) ∧ ∀ H', Same H H' → Q (.bl (decide (wanted = j))) H'
/-- what makes `spOne` usable at a suite's reading: the class is known only there -/
def isX {K : PySem.W.Frag} {mg : Str → Option Value} (R : ErrX K mg) (p : Pin) : List V → Hp → VK → Prop := fun xs H Q =>
  ∃ (c : V) (C d : Addr) (j : Nat) (cv : Value) (b : Bool), xs = [.ref p.1, c] ∧ R.Is p j C d ∧ (∃ fs, H d = some (.xd fs)) ∧ ClsV c cv ∧ PySem.W.kitOne K (.ref C) cv = some b ∧ Q (.bl b) H
theorem isX_mk {K : PySem.W.Frag} {mg : Str → Option Value} {R : ErrX K mg} {p : Pin} {c : V} {C d : Addr} {j : Nat} {cv : Value} {b : Bool} {H : Hp} {Q : VK} {fs : List (Str × V)} (h1 : R.Is p j C d) (h2 : H d = some (.xd fs)) (h3 : ClsV c cv) (h4 : PySem.W.kitOne K (.ref C) cv = some b) (h5 : Q (.bl b) H) : isX R p [.ref p.1, c] H Q :=
  ⟨c, C, d, j, cv, b, rfl, h1, ⟨fs, h2⟩, h3, h4, h5⟩
theorem call_isR {X : Cx} {p : Pin} (R : ErrX X.K X.mg) (here : p ∈ X.pn) : CallR X (.builtin "isinstance") (isX R p) := by
  intro pins st σ H args us Q I rel want
  obtain ⟨c, C, d, j, cv, b, rfl, ⟨ha, hz, hf⟩, hfs, hc, kit, q⟩ := want
  exact call_isX (R.kit ha).x here hz hf pins st σ H _ us Q I rel ⟨c, cv, b, rfl, hc, hfs, kit, q⟩
theorem pe_cls {X : Cx} {x : Str} {C : Addr} {pos : Pos} (hg : Gl X x) (hm : X.mg x = some (.ref C)) (hd : (x == ("__debug__" : Str)) = false := by decide) : PE X (.Name x pos) (tC (.ref C)) := pe_glob hg hm rfl hd
/-- the handled error's one field -/
theorem hot_zn {A : Around} {a : Addr} {oe : Obj} {cls : Value} {d : Option Addr} (hz : L2N.Zn cls d oe) (hf : ∃ vs, oe.data = .fields vs) : Hot1 (A.mark (some (.ref a))) (a, oe) := by
  obtain ⟨vs, e⟩ := hf
  exact ⟨rfl, vs, e, hz.2.2 vs e⟩
theorem op_eqH {X : Cx} {k : Nat} (hr : RoomH k X.A) : OpR X (compareOp .Eq) (rEqD X.K) := op_eqD (by have := hr.un; omega)
theorem eq_bl4 {K : PySem.W.Frag} {H : Hp} {Q : VK} {p q : Addr} {a b c d e f g h : Bool} (hp : H p = some (.lst [.bl a, .bl b, .bl c, .bl d])) (hq : H q = some (.lst [.bl e, .bl f, .bl g, .bl h])) (k : Q (.bl (decide (a = e ∧ b = f ∧ c = g ∧ d = h))) H) : rEqD K (.ref p) (.ref q) H Q := by
  refine ⟨.list [.bool a, .bool b, .bool c, .bool d], .list [.bool e, .bool f, .bool g, .bool h], .lst (.inl (.inl hp)) (.cons (.bl _) (.cons (.bl _) (.cons (.bl _) (.cons (.bl _) .nil)))), .lst (.inl (.inl hq)) (.cons (.bl _) (.cons (.bl _) (.cons (.bl _) (.cons (.bl _) .nil)))), ?_, ?_, ?_⟩
  · clear hp hq k; revert a b c d; decide +kernel
  · clear hp hq k; revert e f g h; decide +kernel
  · have z : PyData.eqv (.list [.bool a, .bool b, .bool c, .bool d]) (.list [.bool e, .bool f, .bool g, .bool h]) = decide (a = e ∧ b = f ∧ c = g ∧ d = h) := by
      clear hp hq k
      revert a b c d e f g h; decide +kernel
    rw [z]; exact k
def spOneE {K : PySem.W.Frag} {mg : Str → Option Value} (R : ErrX K mg) (a : Addr) (cls : Value) (d : Option Addr) : Sp := fun vs H Q _ =>
  ∃ (C dd : Addr) (wanted : Int) (j : Nat), vs = [.ref a, .int wanted] ∧ cls = .ref C ∧ d = some dd ∧ R.At C j ∧ (∃ fs, H dd = some (.xd fs)) ∧ ∀ H', Same H H' → Q (.bl (decide (wanted = j))) H'
section
variable {X : Cx} {k : Nat} {f : Addr} {fd : FuncData} {ps : List Str} {sp0 : Pin → Sp} {sp : Sp} {x : Str} {q pos : Pos} {e : Expr} {es : List Expr} {t : TA} {p : Pin}
/-- f(e, ..) while p's error is handled, the promise told without p -/
theorem pe_callQ (F : FnP X.prog X.w X.K X.mg X.base k f fd ps sp0) (imp : ∀ vs H Q, sp vs H Q E0 → sp0 p vs H Q E0) (room : RoomH k X.A) (hot : Hot1 X.A p) (here : p ∈ X.pn) (hg : Gl X x) (hm : X.mg x = some (.ref f)) (hk : PySem.W.keepIn X.K (.ref f) = true) (hb : Binds X.K fd ps [])
    (ha : PA X (e :: es) t) (hdb : (x == ("__debug__" : Str)) = false := by decide) (he : starEach (e :: es) X.env = (false, eval e X.env) :: starEach es X.env := by rfl) (hpl : (backTo pos (starEach es X.env)).any (·.1) = false := by rfl) :
    PE X (.Call (.Name x q) (e :: es) [] pos) (tCallP sp t) := by
  refine ⟨fun pins st σ H Q I want => wpAny_Call_Name_kw (ld_glob I hg hm ?_ hdb)⟩
  refine PySem.W.callWith_K (h₀ := X.base) I.ok.mod.kin hk (thn (ha.run pos pins st σ H _ I want) fun us s1 ⟨vs, H1, I1, rel, need0⟩ => ⟨I1.kIn, ?_⟩) he hpl
  have need := imp _ _ _ need0
  have many : us.length = ps.length := rel.length ▸ F.len _ _ _ _ _ need
  have bound := hb s1 us I1.kIn (by rw [List.append_nil]; exact many)
  rw [List.append_nil] at bound
  obtain ⟨g1, g2, g3, g4, g5⟩ := I1.pin p (List.mem_append.mpr (Or.inl here))
  have pinned : PinOk X.stack H1 s1 p := ⟨g1, g2, fun hm => Or.elim (List.mem_cons.mp (I1.stkSub p.1 hm)) g3 g4, g5⟩
  refine wpAny_call (codeAny_mono (F.run X.A X.stack s1 H1 ⟨us, []⟩ us vs Q p room hot pinned I1.env0 bound rel need) fun res s' ended => ?_)
  match res, ended with
  | .error _, z => exact False.elim z
  | .ok (.ret u), z => exact I1.after z
end
theorem pe_one {X : Cx} {R : ErrX X.K X.mg} {k k2 : Nat} {f : Addr} {fd : FuncData} {ps : List Str} {x : Str} {q pos : Pos} {e : Expr} {es : List Expr} {t : TA} {a : Addr} {oe : Obj} {cls : Value} {d : Option Addr} {pn : List (Addr × Obj)}
    (F : FnP X.prog X.w X.K X.mg X.base k f fd ps (spOne R)) (room : Room k2 X.A) (le : k ≤ k2) (hz : L2N.Zn cls d oe) (hf : ∃ vs, oe.data = .fields vs) (hm : X.mg x = some (.ref f)) (hk : PySem.W.keepIn X.K (.ref f) = true) (hb : Binds X.K fd ps [])
    (ha : PA (X.suite a ((a, oe) :: pn)) (e :: es) t) (hg : Gl X x := by rfl) (hdb : (x == ("__debug__" : Str)) = false := by decide) (he : starEach (e :: es) X.env = (false, eval e X.env) :: starEach es X.env := by rfl) (hpl : (backTo pos (starEach es X.env)).any (·.1) = false := by rfl) :
    PE (X.suite a ((a, oe) :: pn)) (.Call (.Name x q) (e :: es) [] pos) (tCallP (spOneE R a cls d) t) :=
  pe_callQ (X := X.suite a ((a, oe) :: pn)) (p := (a, oe)) (sp := spOneE R a cls d) F (fun vs H Q ⟨C, dd, wanted, j, e1, e2, e3, h4, h5, h6⟩ => ⟨C, dd, wanted, j, e1, ⟨h4, by rw [← e2, ← e3]; exact hz.zc, hf⟩, h5, h6⟩)
    ((show RoomH k2 (X.suite a ((a, oe) :: pn)).A from ⟨room.dp, room.un⟩).mono le) (hot_zn hz hf) List.mem_cons_self hg hm hk hb ha hdb he hpl
def spChLtrX {K : PySem.W.Frag} {mg : Str → Option Value} (R : ErrX K mg) : Sp := fun vs H Q E => ∃ v, vs = [v] ∧ G.Kn H v ∧ G.lenOk v 16777216 ∧ (G.ltrV v = true → ∀ H', Same H H' → Q .non H') ∧
  (G.ltrV v = false → ∀ H', Same H H' → ∀ d, H' d = none → E (.ref R.kB) (some d) (upd H' d (.xd [("name", G.sv [108, 101, 116, 116, 101, 114, 115])])))
def spIsWordX {K : PySem.W.Frag} {mg : Str → Option Value} (R : ErrX K mg) : Sp := fun vs H Q E => ∃ u v, vs = [u, v] ∧ G.Kn H u ∧ G.lenOk u 16777216 ∧ G.Kn H v ∧ G.lenOk v 16777216 ∧ (∀ L, u = G.sv L → G.ltrV u = true → ∀ H', Same H H' → Q (.bl (G.overV L v)) H') ∧
  (G.ltrV u = false → ∀ H', Same H H' → ∀ d, H' d = none → E (.ref R.kB) (some d) (upd H' d (.xd [("name", G.sv [108, 101, 116, 116, 101, 114, 115])])))
end XH

/-! Df: defs with one default text, called without it and with it; those that may raise -/
open PySem PySem.Spec L2
namespace XH
structure DefD (K : PySem.W.Frag) (mg : Str → Option Value) (x : Str) (st : Stmt) (ps : List Str) (dv : V) where
  f : Addr
  fd : FuncData
  g : mg x = some (.ref f)
  F : FunD K x x (defArgs st) (defBody st) (defScope st) [dv] [] f fd
  b1 : ∃ ds, Vals [dv] ds ∧ Binds K fd ps ds
  b0 : Binds K fd ps []
def mkDefD {K : PySem.W.Frag} {mg : Str → Option Value} {h : Heap} {x : Str} {st : Stmt} {ps : List Str} {d : Str} {f T : Addr} {oc oc2 : Value} {od od2 an : Option Addr} {osl osl2 : Array (Option Value)} {kV doc pm cdv ct : Value} {t n : Nat} (KX : K.In h) (G : h.Ns mainGlobals mg)
    (a : PySem.W.nsIn K mainGlobals x = some (some (.ref f))) (l : K.lookup f = some ⟨oc, od, .func (PySem.W.fnOf x x (defArgs st) (defBody st) (defScope st) (.ref T) kV doc pm an cdv ct), osl⟩)
    (lT : K.lookup T = some ⟨oc2, od2, .seq [Value.str d t].toArray n, osl2⟩)
    (c : PySem.W.codeIn K cdv x = true) (k : PySem.W.keepIn K (.ref f) = true) (hl1 : 1 ≤ ps.length)
    (hb1 : ∀ (T : Addr) (kV doc pm : Value) (an : Option Addr) (cdv ct : Value) (us its : List Value), us.length = ps.length - 1 → its.length = 1 →
      ∃ k, bindArgs (PySem.W.fnOf x x (defArgs st) (defBody st) (defScope st) (.ref T) kV doc pm an cdv ct) ⟨us, []⟩ = seqItems? (.ref T) >>= k ∧ k (some its.toArray) = pure (ps.zip (us ++ its)))
    (hb0 : ∀ (T : Addr) (kV doc pm : Value) (an : Option Addr) (cdv ct : Value) (us its : List Value), us.length = ps.length → its.length = 1 →
      ∃ k, bindArgs (PySem.W.fnOf x x (defArgs st) (defBody st) (defScope st) (.ref T) kV doc pm an cdv ct) ⟨us, []⟩ = seqItems? (.ref T) >>= k ∧ k (some its.toArray) = pure (ps.zip (us ++ []))) :
    DefD K mg x st ps (.str d) :=
  have F : FunD K x x (defArgs st) (defBody st) (defScope st) [V.str d] [] f (PySem.W.fnOf x x (defArgs st) (defBody st) (defScope st) (.ref T) kV doc pm an cdv ct) :=
    ⟨⟨oc, od, .ref T, kV, doc, pm, an, cdv, ct, osl, rfl, l, c, .inr ⟨by simp, T, _, [Value.str d t], n, rfl, lT, rfl, .cons ⟨t, rfl⟩ .nil⟩, .inl rfl⟩, k⟩
  ⟨f, _, PySem.W.mg_of KX G a, F, F.binds1 (ps.length - 1) 0 (by simp) (by simp; omega) fun T kV doc pm an cdv ct us its h1 h2 => hb1 T kV doc pm an cdv ct us its h1 h2, by
    obtain ⟨ds, hv, hb⟩ := F.binds1 (ps := ps) ps.length 1 (by simp) (by simp) fun T kV doc pm an cdv ct us its h1 h2 => by
      match its, h2 with
      | [i], h2 => exact hb0 T kV doc pm an cdv ct us [i] h1 h2
    cases hv; exact hb⟩
section
variable {X : Cx} {x : Str} {st : Stmt} {ps : List Str} {k : Nat} {sp : Sp} {p pos : Pos} {e : Expr} {es : List Expr} {t : TA} {E : XK} {dv : V}
/-- a call without the last argument -/
theorem pe_callX1 (D : DefD X.K X.mg x st ps dv) (F : FnOk X.prog X.w X.K X.mg X.base (L2N.CX X.prog X.w) k D.f D.fd ps sp) (hr : Room k X.A) (hx : L2N.Takes X (fun cls d _ H => E cls d H)) (ha : PA X (e :: es) t) (hg : Gl X x := by rfl) (hdb : (x == ("__debug__" : Str)) = false := by decide)
    (he : starEach (e :: es) X.env = (false, eval e X.env) :: starEach es X.env := by rfl) (hpl : (backTo pos (starEach es X.env)).any (·.1) = false := by rfl) : PE X (.Call (.Name x p) (e :: es) [] pos) (tCall sp [dv] E t) := by
  obtain ⟨ds, hv, hb⟩ := D.b1
  exact pe_call F hr hg D.g D.F.kp hb hv (L2N.passes_call hx fun _ _ _ _ z => z) ha hdb he hpl
theorem pe_callX0 (D : DefD X.K X.mg x st ps dv) (F : FnOk X.prog X.w X.K X.mg X.base (L2N.CX X.prog X.w) k D.f D.fd ps sp) (hr : Room k X.A) (hx : L2N.Takes X (fun cls d _ H => E cls d H)) (ha : PA X (e :: es) t) (hg : Gl X x := by rfl) (hdb : (x == ("__debug__" : Str)) = false := by decide)
    (he : starEach (e :: es) X.env = (false, eval e X.env) :: starEach es X.env := by rfl) (hpl : (backTo pos (starEach es X.env)).any (·.1) = false := by rfl) : PE X (.Call (.Name x p) (e :: es) [] pos) (tCall sp [] E t) :=
  pe_call F hr hg D.g D.F.kp D.b0 .nil (L2N.passes_call hx fun _ _ _ _ z => z) ha hdb he hpl
end
end XH
namespace G
section
variable {X : Cx} {x : Str} {st : Stmt} {ps : List Str} {k : Nat} {sp : Sp} {p pos : Pos} {e : Expr} {es : List Expr} {t : TA} {dv : V}
/-- a call without the last argument, of a def that raises nothing here -/
theorem pe_callD1 (D : XH.DefD X.K X.mg x st ps dv) (F : FnOk X.prog X.w X.K X.mg X.base CX0 k D.f D.fd ps sp) (hr : Room k X.A) (ha : PA X (e :: es) t) (hg : Gl X x := by rfl) (hdb : (x == ("__debug__" : Str)) = false := by decide)
    (he : starEach (e :: es) X.env = (false, eval e X.env) :: starEach es X.env := by rfl) (hpl : (backTo pos (starEach es X.env)).any (·.1) = false := by rfl) : PE X (.Call (.Name x p) (e :: es) [] pos) (tCall sp [dv] E0 t) := by
  obtain ⟨ds, hv, hb⟩ := D.b1
  exact pe_call F hr hg D.g D.F.kp hb hv pass0 ha hdb he hpl
theorem pe_callD0 (D : XH.DefD X.K X.mg x st ps dv) (F : FnOk X.prog X.w X.K X.mg X.base CX0 k D.f D.fd ps sp) (hr : Room k X.A) (ha : PA X (e :: es) t) (hg : Gl X x := by rfl) (hdb : (x == ("__debug__" : Str)) = false := by decide)
    (he : starEach (e :: es) X.env = (false, eval e X.env) :: starEach es X.env := by rfl) (hpl : (backTo pos (starEach es X.env)).any (·.1) = false := by rfl) : PE X (.Call (.Name x p) (e :: es) [] pos) (tCall sp [] E0 t) :=
  pe_call F hr hg D.g D.F.kp D.b0 .nil pass0 ha hdb he hpl
end
end G

/-! M5: any value as a sample -/
open PySem PySem.Spec L2
namespace G
/-- t + u, tuples of any lengths -/
def rCatA1 : R2 := fun x y H Q => ∃ a b xs ys, x = .ref a ∧ y = .ref b ∧ H a = some (.tup xs) ∧ H b = some (.tup ys) ∧ xs.length + ys.length ≤ 16777216 ∧ ∀ p H', Same H H' → H' p = some (.tup (xs ++ ys)) → Q (.ref p) H'
theorem op_catA1 {X : Cx} : OpR X (binaryOp .Add) rCatA1 := by
  intro pins s σ H x y v u Q I rx ry h
  obtain ⟨a, b, xs, ys, rfl, rfl, ha, hb, hz, k⟩ := h
  refine op_catA pins s σ H _ _ v u Q I rx ry ⟨a, b, xs, ys, rfl, rfl, .inl (.inl ha), .inl (.inl hb), by rw [sl_is]; exact hz, fun e => k b H (Same.refl _) (by rw [e]; exact hb), fun _ e => k a H (Same.refl _) (by rw [e, List.append_nil]; exact ha), fun _ _ p np => k p _ (same_upd np) upd_same⟩
theorem atI_last {xs : List V} {x : V} : atI (xs ++ [x]) (-1) = some x := by
  have e : ixN (xs.length + 1) (-1) = some xs.length := by
    unfold ixN
    simp
    omega
  simp [atI, e]
def lenV (v : V) : Int := match txt v with | some l => (l.length : Int) | none => 0
theorem lenV_sv (l : List Nat) : lenV (sv l) = l.length := by unfold lenV; rw [txt_sv]
def totV (xs : List V) : Int := (xs.map lenV).sum
def sampB (L : List Nat) (xs : List V) : Bool := formB L 200 2000 xs && decide (totV xs ≤ 2000)
theorem isT_same {H H' : Hp} {v : V} (s : Same H H') (h : Kn H v) : isT H' v = isT H v := by
  cases v with
  | ref a =>
    rcases h with ⟨xs, e⟩ | ⟨xs, e⟩ | ⟨xs, e⟩
    · simp only [isT, e, s _ _ e]
    · simp only [isT, e, s _ _ e]
    · simp only [isT, e, s _ _ e]
  | _ => rfl
def smp (H : Hp) (L : List Nat) (z : V) (b : Bool) : Prop := (Kn H z ∧ isT H z = false ∧ b = false) ∨ ∃ p xs, z = .ref p ∧ H p = some (.tup xs) ∧ (∀ x ∈ xs, Kn H x ∧ lenOk x 16777216) ∧ b = sampB L xs
theorem smp.same {H H' : Hp} {L : List Nat} {z : V} {b : Bool} (s : Same H H') (h : smp H L z b) : smp H' L z b := by
  rcases h with ⟨h1, h2, h3⟩ | ⟨p, xs, e, hp, hx, h3⟩
  · exact .inl ⟨h1.same s, (isT_same s h1).trans h2, h3⟩
  · exact .inr ⟨p, xs, e, s _ _ hp, fun x hx2 => ⟨(hx x hx2).1.same s, (hx x hx2).2⟩, h3⟩
theorem formB_all {L : List Nat} {m n : Int} {xs : List V} (h : formB L m n xs = true) : ∀ x ∈ xs, okW L n x = true := by
  unfold formB at h
  rw [Bool.and_eq_true, Bool.and_eq_true] at h
  exact List.all_eq_true.mp h.1.2
/-- as many beginnings at most -/
def begCost (ws : List (List Nat)) : Nat := (ws.map fun w => w.length + 1).sum
theorem begCost_take {ws : List (List Nat)} {i : Nat} {w : List Nat} (h : ws[i]? = some w) : begCost (ws.take (i + 1)) = begCost (ws.take i) + (w.length + 1) := by
  unfold begCost
  rw [List.take_add_one, h]; simp
theorem begCost_le {ws : List (List Nat)} (i : Nat) : begCost (ws.take i) ≤ begCost ws := by
  unfold begCost
  conv => rhs; rw [← List.take_append_drop i ws]
  rw [List.map_append, List.sum_append]; omega
def spBegsOf : Sp := fun vs H Q _ => ∃ (p : Addr) (ws : List (List Nat)), vs = [.ref p] ∧ H p = some (.tup (ws.map sv)) ∧ begCost ws ≤ 16000000 ∧
  ∀ (ys : List (List Nat)) (q : Addr) (H' : Hp), ys.Nodup → (∀ w, w ∈ ys ↔ ∃ u ∈ ws, w <+: u) → ys.Pairwise (fun x y => ¬ wlt y x) → Same H H' → H' q = some (.tup (ys.map sv)) → Q (.ref q) H'
theorem totV_nn (xs : List V) : 0 ≤ totV xs := by
  induction xs with
  | nil => exact Int.le_refl 0
  | cons x r ih =>
    unfold totV at *
    rw [List.map_cons, List.sum_cons]
    have : 0 ≤ lenV x := by unfold lenV; split <;> omega
    omega
theorem lenV_tot {xs : List V} {x : V} (h : x ∈ xs) : lenV x ≤ totV xs := by
  induction xs with
  | nil => cases h
  | cons y r ih =>
    have h0 := totV_nn r
    have e : totV (y :: r) = lenV y + totV r := by unfold totV; rw [List.map_cons, List.sum_cons]
    have hy : 0 ≤ lenV y := by unfold lenV; split <;> omega
    rcases List.mem_cons.mp h with rfl | h
    · omega
    · have := ih h; omega
/-- the law's walk over a sample -/
theorem sampB_iff {L : List Nat} {xs : List V} : sampB L xs = true ↔ xs.length ≤ 200 ∧ (∀ x ∈ xs, overV L x = true) ∧ (∀ i x y, xs[i]? = some x → xs[i + 1]? = some y → ltV x y = true) ∧ totV xs ≤ 2000 := by
  unfold sampB formB
  rw [Bool.and_eq_true, Bool.and_eq_true, Bool.and_eq_true, decide_eq_true_eq, decide_eq_true_eq, List.all_eq_true, List.all_eq_true]
  constructor
  · rintro ⟨⟨⟨h1, h2⟩, h3⟩, h4⟩
    refine ⟨by omega, fun x hx => ?_, fun i x y hx hy => ?_, h4⟩
    · obtain ⟨l, rfl, ho, _⟩ := okW_txt (h2 x hx)
      unfold overV; rw [txt_sv]; exact ho
    · refine h3 (x, y) (List.mem_of_getElem? (i := i) ?_)
      rw [List.getElem?_zip_eq_some]
      exact ⟨hx, by rw [List.getElem?_drop, Nat.add_comm]; exact hy⟩
  · rintro ⟨h1, h2, h3, h4⟩
    refine ⟨⟨⟨by omega, fun x hx => ?_⟩, fun p hp => ?_⟩, h4⟩
    · have h5 := h2 x hx
      have h6 := lenV_tot hx
      rcases v_cases x with ⟨l, rfl⟩ | ⟨_, e⟩
      · unfold overV at h5; rw [txt_sv] at h5
        rw [lenV_sv] at h6
        have h7 : over L l = true := h5
        rw [okW_sv, h7, decide_eq_true (by omega)]; rfl
      · unfold overV at h5; rw [e] at h5; cases h5
    · obtain ⟨i, hi⟩ := List.mem_iff_getElem?.mp hp
      rw [List.getElem?_zip_eq_some] at hi
      exact h3 i p.1 p.2 hi.1 (by have := hi.2; rw [List.getElem?_drop, Nat.add_comm] at this; exact this)
theorem okW_texts {L : List Nat} {n : Int} : ∀ {xs : List V}, (∀ x ∈ xs, okW L n x = true) → ∃ ws : List (List Nat), xs = ws.map sv
  | [], _ => ⟨[], rfl⟩
  | x :: r, h => by
    obtain ⟨l, e, _, _⟩ := okW_txt (h x List.mem_cons_self)
    obtain ⟨ws, e2⟩ := okW_texts (xs := r) fun y hy => h y (List.mem_cons_of_mem _ hy)
    exact ⟨l :: ws, by rw [e, e2]; rfl⟩
theorem totV_sv (ws : List (List Nat)) : totV (ws.map sv) + ws.length = begCost ws := by
  induction ws with
  | nil => rfl
  | cons w r ih =>
    unfold totV begCost at *
    simp only [List.map_cons, List.sum_cons, List.length_cons, lenV_sv] at *
    omega
theorem sampB_txt {L : List Nat} {xs : List V} (h : sampB L xs = true) : ∃ ws : List (List Nat), xs = ws.map sv ∧ ws.length ≤ 200 ∧ begCost ws ≤ 2200 := by
  unfold sampB at h
  rw [Bool.and_eq_true] at h
  obtain ⟨ws, rfl⟩ := okW_texts (formB_all h.1)
  have h1 := h.1
  unfold formB at h1
  rw [Bool.and_eq_true, Bool.and_eq_true] at h1
  have h2 := of_decide_eq_true h1.1.1
  have h3 := of_decide_eq_true h.2
  have h4 := totV_sv ws
  rw [List.length_map] at h2
  exact ⟨ws, rfl, by omega, by omega⟩
end G
namespace XH
def spSampX {K : PySem.W.Frag} {mg : Str → Option Value} (R : ErrX K mg) : Sp := fun vs H Q _ => ∃ L z b, vs = [G.sv L, z] ∧ G.ltrV (G.sv L) = true ∧ L.length ≤ 16777216 ∧ G.smp H L z b ∧ ∀ H', Same H H' → Q (.bl b) H'
def spChSampX {K : PySem.W.Frag} {mg : Str → Option Value} (R : ErrX K mg) : Sp := fun vs H Q E => ∃ L z nm b, vs = [G.sv L, z, nm] ∧ G.ltrV (G.sv L) = true ∧ L.length ≤ 16777216 ∧ G.smp H L z b ∧ (b = true → ∀ H', Same H H' → Q .non H') ∧
  (b = false → ∀ H', Same H H' → ∀ d, H' d = none → E (.ref R.kB) (some d) (upd H' d (.xd [("name", nm)])))
def spBegs {K : PySem.W.Frag} {mg : Str → Option Value} (R : ErrX K mg) : Sp := fun vs H Q E => ∃ L z b, vs = [G.sv L, z] ∧ G.ltrV (G.sv L) = true ∧ L.length ≤ 16777216 ∧ G.smp H L z b ∧
  (b = true → ∀ (p : Addr) (ws : List (List Nat)), z = .ref p → H p = some (.tup (ws.map G.sv)) → ∀ (ys : List (List Nat)) (q : Addr) (H' : Hp), ys.Nodup → (∀ w, w ∈ ys ↔ ∃ u ∈ ws, w <+: u) → ys.Pairwise (fun x y => ¬ G.wlt y x) → Same H H' → H' q = some (.tup (ys.map G.sv)) → Q (.ref q) H') ∧
  (b = false → ∀ H', Same H H' → ∀ d, H' d = none → E (.ref R.kB) (some d) (upd H' d (.xd [("name", G.sv [115, 97, 109, 112, 108, 101])])))
end XH

/-! Lam: sorted(xs, key=lambda w: (len(w), w)) -/
namespace G
open PySem PySem.Spec L2 LamX PyProof.Rows
/-- the function object of a lambda without captures -/
def LamO (f : Addr) (q : Str) (params : Arguments) (body : Expr) (scope : Scope) (c' : Addr) : HO := .ext fun h => ∃ pm ctv, h.get? f = some (PySem.W.kla_obj "<lambda>" q params body scope [] pm c' ctv)
theorem lamO_ne {f c' : Addr} {q : Str} {params : Arguments} {body : Expr} {scope : Scope} (ps : Array Value) : LamO f q params body scope c' ≠ .tbl ps := fun z => by
  unfold LamO at z
  cases z
section
variable {X : Cx} {c P : Addr} {T : List (Addr × Str)} {params : Arguments} {body : Expr} {scope : Scope} {pos : Pos}
def tLamV (T : List (Addr × Str)) (q : Str) (params : Arguments) (body : Expr) (scope : Scope) : TE := fun _ H Q => Tabs T H ∧ ∀ (f c' : Addr) (H1 : Hp), ExtN H H1 → Tabs T H1 → H f = none → H1 f = some (LamO f q params body scope c') → H1 c' = some (CodeO c' q) → Q (.ref f) H1
theorem pe_lam (TB : TabB X.base X.mg c P) (hcode : X.env.code = .ref c)
    (hm : (P, X.env.qual ++ "<lambda>") ∈ T) (hu : ∀ p ∈ T, p.1 = P → p.2 = X.env.qual ++ "<lambda>") (hdef : defaultsOf params X.env = ([], [])) (hclo : closureFor scope X.env = pure []) :
    PE X (.Lambda params body scope pos) (tLamV T (X.env.qual ++ "<lambda>") params body scope) := by
  refine ⟨fun pins s σ H Q I h => ?_⟩
  obtain ⟨hT, h⟩ := h
  obtain ⟨ps, hP, ht, ha⟩ := hT _ hm
  refine PySem.W.kla_eval hdef ?_
  have bP : s.heap.BuiltinsAt X.mg P := TB.bm.keeps I.bk
  have hP' : s.heap.get? P = some { cls := .none, data := .fields ps } := I.hok P _ hP
  have fin : ∀ (f c' : Addr) (pm ctv : Value) (H1 : Hp) (h' : Heap) (tk : Nat), Inv X pins σ H1 { s with heap := h', toks := tk } → ExtN H H1 → Tabs T H1 → s.heap.objs.size ≤ h'.objs.size → f = h'.objs.size → H1 c' = some (CodeO c' (X.env.qual ++ "<lambda>")) →
      EP X pins σ Q (.ref f) { s with heap := h'.push (PySem.W.kla_obj "<lambda>" (X.env.qual ++ "<lambda>") params body scope [] pm c' ctv), toks := tk } := fun f c' pm ctv H1 h' tk I1 eN T1 hsz ef hco => by
    subst ef
    have n1 : H1 h'.objs.size = none := I1.hok.fresh (Nat.le_refl _)
    have I2 := I1.laid (a := h'.objs.size) (o := LamO h'.objs.size (X.env.qual ++ "<lambda>") params body scope c') (h' := h'.push (PySem.W.kla_obj "<lambda>" (X.env.qual ++ "<lambda>") params body scope [] pm c' ctv)) (t' := tk)
      (fun b u e => Heap.get?_push_of_some _ e) (Nat.le_refl _) ⟨⟨pm, ctv, Heap.get?_push_size _ rfl⟩, ⟨_, Heap.get?_push_size _ rfl⟩, fun h1 h2 ⟨pm, ctv, a⟩ st => ⟨pm, ctv, st _ a⟩⟩
    have up : ∀ b o, H1 b = some o → upd H1 h'.objs.size (LamO h'.objs.size (X.env.qual ++ "<lambda>") params body scope c') b = some o := fun b o e => by rw [upd_ne (ne_of_none e n1)]; exact e
    exact ⟨.ref h'.objs.size, _, I2, rfl, h _ c' _ (fun b o e n => up b o (eN b o e n)) (T1.ext up) (I.hok.fresh hsz) upd_same (up _ _ hco)⟩
  cases hc : codeAmong pos ps.toList with
  | none =>
    refine PySem.W.kla_makeFunction (mg := X.mg) (c := c) (P := P) (ps := ps) hclo I.ok.glob (I.mod.glob.keeps I.bk) hcode (TB.code.keeps I.bk) hP' ht hc TB.gP bP fun c' ctv h' tk hx hge hlt hrec htb => ?_
    obtain ⟨c2, oc, vs, t, e2, hoc, hd, hv⟩ := hrec
    cases e2
    have hsz : s.heap.objs.size ≤ h'.objs.size := Nat.le_trans hge (Nat.le_of_lt hlt)
    have nC : H c' = none := I.hok.fresh hge
    have I1 := inv_table (t' := tk) (more := #[rawInt pos.line, rawInt pos.col, .ref c']) (h' := h') I hP
      (fun b o hb e => hx b o hb e) htb hge ⟨oc, vs, t, hoc, hd, hv⟩
    have hE : ExtN H (upd (upd H P (.tbl (ps ++ #[rawInt pos.line, rawInt pos.col, .ref c']))) c' (CodeO c' (X.env.qual ++ "<lambda>"))) := fun b o e n => by
      rw [upd_ne (ne_of_none e nC), upd_ne (fun z => n ps (Option.some.inj (e.symm.trans (by rw [z]; exact hP))))]
      exact e
    have eL : (ps ++ #[rawInt pos.line, rawInt pos.col, .ref c']).toList = ps.toList ++ [rawInt pos.line, rawInt pos.col, .ref c'] := by simp
    refine fin h'.objs.size c' ((X.mg "__name__").getD .none) ctv _ h' tk I1 hE (fun p hp => ?_) hsz rfl upd_same
    by_cases hb : p.1 = P
    · rw [hu p hp hb, hb]
      refine ⟨_, by rw [upd_ne (ne_of_none hP nC), upd_same], by rw [eL]; exact PySem.TriplesOk_snoc _ _ _ _ ht, fun p' cv hcv => ?_⟩
      rw [eL] at hcv
      rcases among_app _ ht hcv with z | z
      · obtain ⟨c0, e1, e2⟩ := ha p' cv z
        exact ⟨c0, e1, hE _ _ e2 codeO_ne⟩
      · exact ⟨c', z, upd_same⟩
    · obtain ⟨ps', a1, a2, a3⟩ := hT p hp
      refine ⟨ps', by rw [upd_ne (ne_of_none a1 nC), upd_ne hb]; exact a1, a2, fun p' cv hcv => ?_⟩
      obtain ⟨c0, e1, e2⟩ := a3 p' cv hcv
      exact ⟨c0, e1, hE _ _ e2 codeO_ne⟩
  | some cv =>
    obtain ⟨c', e, hco⟩ := ha pos cv hc
    subst e
    refine PySem.W.kla_makeFunctionHit (mg := X.mg) (c := c) (P := P) (ps := ps) hclo I.ok.glob (I.mod.glob.keeps I.bk) hcode (TB.code.keeps I.bk) hP' ht hc bP fun ctv h' tk hx hsz => ?_
    exact fin h'.objs.size c' ((X.mg "__name__").getD .none) ctv H h' tk (I.kept hx) (ExtN.refl H) hT hsz rfl hco
end
def lamParams (w : Str) (p : Pos) : Arguments := { posonlyargs := [], args := [{ arg := w, annotation := none, pos := p }], vararg := none, kwonlyargs := [], kw_defaults := [], kwarg := none, defaults := [] }
def scLam (w : Str) : Scope := { kind := .function, names := [(w, .local), (PySem.Str.ofString "len", .globalImplicit)], isGenerator := false, isCoroutine := false, more := [] }
def lamBody (w : Str) (p2 p3 p4 p5 p6 : Pos) (k : Nat) : Expr := .Tuple [.Call (.Name "len" p2) [.Name w p3] [] p4, .Name w p5] k p6
theorem lam_key {X : Cx} {pins : List (Addr × Obj)} {σ : L2.St} {H : Hp} {s : Shared} (I : Inv X pins σ H s) {f c' : Addr} {q : Str} {nm : Str} {p1 p2 p3 p4 p5 p6 : Pos} {k : Nat} (hf : H f = some (LamO f q (lamParams nm p1) (lamBody nm p2 p3 p4 p5 p6 k) (scLam nm) c')) (hc : H c' = some (CodeO c' q))
    (hnm : nm = "text" ∨ nm = "word") (hm : X.mg "len" = none) {w : List Nat} {t : Tok} (hl : w.length ≤ sizeLine) {A : Around} (hroom : A.depth < recursionLimit) {h : Heap} {tk : Nat} (hk : ∀ b o, s.heap.get? b = some o → h.get? b = some o) :
    wpAny (model X.prog X.w) A (call (.ref f) [.str ⟨w.toArray⟩ t]) (PySem.W.KeyPure (keyD w) { s with heap := h, toks := tk }) (fun _ _ => False) { s with heap := h, toks := tk } := by
  have I2 : Inv X pins σ H { s with heap := h, toks := tk } := I.kept hk
  obtain ⟨⟨pm, ctv, hfo⟩, _, _⟩ := I2.hok f _ hf
  obtain ⟨⟨oc, vs, tq, hoc, hdc, hvc⟩, _, _⟩ := I2.hok c' _ hc
  have sn : (scLam nm).names.lookup nm = some .local := by rcases hnm with e | e <;> subst e <;> rfl
  have hlen : (scLam nm).names.lookup (PySem.Str.ofString "len") = some .globalImplicit := by rcases hnm with e | e <;> subst e <;> rfl
  refine wpAny_call ?_
  refine PySem.W.kla_callFunE hroom hfo rfl rfl rfl rfl ⟨c', oc, vs, tq, rfl, hoc, hdc, hvc⟩ ?_
  have hb : bindArgs (PySem.W.kla_fn "<lambda>" q (lamParams nm p1) (lamBody nm p2 p3 p4 p5 p6 k) (scLam nm) [] pm (.ref c') ctv) ⟨[.str ⟨w.toArray⟩ t], []⟩ = pure [(nm, .str ⟨w.toArray⟩ t)] := by
    rcases hnm with e | e <;> subst e <;> rfl
  rw [hb]
  refine wpAny_pure (wpAny_newFunctionEnv (fun y hy => ?_) (fun y hy => ?_) (fun h₁ hns hsb => ⟨I2.nolimit.fresh _ hsb, ?_⟩) rfl)
  · rcases List.mem_cons.mp hy with e | hy
    · rw [e]; intro z; cases z
    · rw [List.mem_singleton.mp hy]; intro z; cases z
  · rw [List.mem_singleton.mp hy]; exact sn
  · refine PySem.W.kla_codeExpr ?_
    have k2 : ∀ b o, h.get? b = some o → h₁.get? b = some o := fun b o e => hsb.extBut b o (Nat.ne_of_lt (Heap.lt_size e)) (Heap.get?_push_of_some _ e)
    have bk : ∀ b o, X.base.get? b = some o → h₁.get? b = some o := fun b o e => k2 b o (I2.bk b o e)
    obtain ⟨mb, h1, h2⟩ := I.mod.blt
    have lw : ∀ {s' : Shared} {pos : Pos} {Q : Value → Shared → Prop} {E : Value → Shared → Prop} {A' : Around}, s'.heap = h₁ → Q (.str ⟨w.toArray⟩ t) s' → wpAny (model X.prog X.w) A' (eval (.Name nm pos) (newEnv (scLam nm) h.objs.size mainGlobals [] (q ++ ".<locals>.") (some f) (.ref c') none builtinsNs)) Q E s' := fun {s' pos Q E A'} e q => by
      refine wpAny_Name (wpAny_loadName_local rfl sn (by rw [e]; exact hns) ?_ q) (by rcases hnm with e | e <;> subst e <;> decide)
      show List.lookup nm [(nm, _)] = _
      rw [List.lookup_cons]; simp
    show wpAny (model X.prog X.w) _ (eval (lamBody nm p2 p3 p4 p5 p6 k) (newEnv (scLam nm) h.objs.size mainGlobals [] (q ++ ".<locals>.") (some f) (.ref c') none builtinsNs)) _ _ _
    unfold lamBody
    refine PyProof.Rows.Tuple_ ?_
    refine PyProof.Rows.args_cons ?_ rfl
    refine PyProof.Rows.Call_ (Calls.Name_function_global rfl hlen (Calls.loadGlobal_builtin (mg := X.mg) (mb := mb) ?_ hm ?_ ((h2 "len" (by decide)).trans PySem.boot_len) ?_))
    · exact I.mod.glob.keeps bk
    · exact h1.keeps bk
    refine PyProof.Rows.callWith_builtin1 (PyProof.Rows.args_cons (lw rfl (PyProof.Rows.args_nil ?_)) rfl) rfl rfl
    refine PySem.P.len_str ?_ ?_
    · show ¬ ((Str.mk w.toArray).length : Int) ≥ 2 ^ 63
      rw [strL]
      have : (sizeLine : Nat) = 16777216 := sl_is
      omega
    refine PyProof.Rows.args_cons (lw rfl (PyProof.Rows.args_nil (wpAny_newTuple ?_ (by show 2 ≤ sizeLine; decide)))) rfl
    refine ⟨_, _, rfl, fun b o e => Heap.get?_push_of_some _ (k2 b o e), ?_⟩
    exact .tuple (as := []) (Heap.get?_push_size _ rfl) rfl rfl (.cons (as := []) (bs := []) (.int _ _) (.cons (as := []) (bs := []) (.str _ _) .nil))
/-- sorted(list of texts, key=lambda w: (len(w), w)) -/
def rSortLam (q nm : Str) (p1 p2 p3 p4 p5 p6 : Pos) (k : Nat) : List V → List V → Hp → VK → Prop := fun vs zs H Q => ∃ (a f c' : Addr) (ws : List (List Nat)), vs = [.ref a] ∧ zs = [.ref f] ∧ H f = some (LamO f q (lamParams nm p1) (lamBody nm p2 p3 p4 p5 p6 k) (scLam nm) c') ∧ H c' = some (CodeO c' q) ∧
  H a = some (.lst (ws.map sv)) ∧ (∀ w ∈ ws, w.length ≤ sizeLine) ∧ ∀ (ys : List (List Nat)) (p : Addr), ys.Perm ws → ys.Pairwise (fun x y => ¬ wlt y x) → H p = none → Q (.ref p) (upd H p (.lst (ys.map sv)))
theorem cr_sortLam {X : Cx} {kr : Nat} (hr : Room kr X.A) {q nm : Str} {p1 p2 p3 p4 p5 p6 : Pos} {kk : Nat} (hnm : nm = "text" ∨ nm = "word") (hm : X.mg "len" = none) : CallRK X (.builtin "sorted") [Str.ofString "key"] (rSortLam q nm p1 p2 p3 p4 p5 p6 kk) := by
  intro pins s σ H vs zs us ws Q I r rz h
  obtain ⟨a, f, c', ts, rfl, rfl, hf, hc, ha, hl, q⟩ := h
  obtain rfl := Vals.ref1 r
  obtain rfl := Vals.ref1 rz
  obtain ⟨its, rv, pl, hz⟩ := I.list (.inl (.inl ha))
  have hlen := rv.length
  rw [List.length_map] at hlen
  have hz2 : ts.length ≤ sizeLine := by rw [List.length_map] at hz; exact hz
  refine PySem.W.sorted_key_data (b := false) keyD pl.isList (txt_vals rv) (keys_alike ts) (keys_sortable ts) hz2 (fun w _ => ?_) (PyProof.Rows.ksk_s1 _ _) (fun _ => PyProof.Rows.ksk_l1 _ _) (fun y => PyProof.Rows.ksk_t1 _ _) (fun v w hR hw h tk hk => ?_) fun out c h' tk hk _ ho hol he => ?_
  · have := hr.un
    show X.A.units + 2 + 1 < cLine
    omega
  · obtain ⟨t, rfl⟩ := hR
    exact lam_key I hf hc hnm hm (hl w hw) (by have := hr.dp; show X.A.depth < recursionLimit; omega) hk
  · have hperm := List.mergeSort_perm ts (PySem.W.dataLe false keyD)
    have hsrt : (ts.mergeSort (PySem.W.dataLe false keyD)).Pairwise (fun x y => ¬ wlt y x) := by
      have z := PySem.W.sort_pairwise (PySem.W.sortLe_total (PyProof.Rows.listOrd PyProof.Rows.itemOrd) false fun b => PySem.W.keyToks (keyD b)) ts
      refine z.imp fun {u v} h => ?_
      have h2 : (!PyProof.Rows.lexLt PyProof.Rows.itemOrd (PySem.W.keyToks (keyD v)) (PySem.W.keyToks (keyD u))) = true := h
      rw [keyLt] at h2
      simpa using h2
    generalize ts.mergeSort (PySem.W.dataLe false keyD) = ys at *
    have hn : H (s.heap.objs.size + 1) = none := I.hok.fresh (Nat.le_succ _)
    have hlen2 : (ys.map sv).length ≤ sizeLine := by rw [List.length_map, hperm.length_eq]; exact hz2
    exact ⟨.ref _, upd H (s.heap.objs.size + 1) (.lst (ys.map sv)), I.laid (t' := tk) hk (Nat.le_succ _) ⟨hlen2, out, c, vals_txt he, ho⟩, rfl, q ys _ hperm hsrt hn⟩
/-! a def that makes lambdas: its code object and the table -/
structure Maker {K : PySem.W.Frag} {mg : Str → Option Value} {x : Str} {st : Stmt} {ps : List Str} (D : DefC K mg x st ps) where
  c : Addr
  P : Addr
  e : D.fd.code = .ref c
  hd : PySem.W.codeHdIn K c P = true
  kl : K.lookup P = none
def mkMaker {K : PySem.W.Frag} {mg : Str → Option Value} {x : Str} {st : Stmt} {ps : List Str} {D : DefC K mg x st ps} {c P : Addr} {oc : Value} {od : Option Addr} {vs : Array Value} {osl : Array (Option Value)} (e : D.fd.code = .ref c) (_l : K.lookup c = some ⟨oc, od, .fields vs, osl⟩) (_v : vs[11]? = some (.ref P)) (hd : PySem.W.codeHdIn K c P = true) (kl : K.lookup P = none) : Maker D := ⟨c, P, e, hd, kl⟩
theorem okL {P : Program} {w : World} {K : PySem.W.Frag} {mg : Str → Option Value} {base : Heap} {x qual : Str} {st : Stmt} {f c : Addr} {fd : FuncData} {N ps : List Str} {k : Nat} {sp : Sp} (F : Fun K x qual st f fd) (hc : fd.code = .ref c) (S : FnScope N ps (defScope st)) (len : ∀ vs H Q E, sp vs H Q E → vs.length = ps.length)
    (hbody : ∀ (A : Around) (outer : List Env) (s : Shared) (H : Hp) (vs : List V) (Q : VK) (E : XK), Room k (A.deeper (envOfC qual (defScope st) s.heap.objs.size f (.ref c))) → sp vs H Q E →
      ∃ t, PSs (cxOf CX0 P w K mg base N qual (defScope st) f (.ref c) A outer s H E).nox (defBody st) t ∧ t { nx := fun _ H' => Q .non H', rt := Q } (start N vs) H) : FnOk P w K mg base CX0 (k + 1) f fd ps sp := by
  obtain ⟨oc, od, kV, doc, pm, an, cdv, ct, osl, rfl, lk, hcd⟩ := F.ex
  obtain rfl : cdv = .ref c := hc
  refine fn_of lk hcd S len fun A outer s H vs Q E hr hsp => ?_
  obtain ⟨t, h, q⟩ := hbody A outer s H vs Q E hr hsp
  exact ⟨t, h.nox, q⟩
/-- sorted(list of texts, key=lambda w: (len(w), w)), the whole expression -/
def tSortLam (T : List (Addr × Str)) (t : TA) : TE := fun σ H Q => t σ H fun vs H1 => Tabs T H1 ∧ ∃ (a : Addr) (ws : List (List Nat)), vs = [.ref a] ∧ H1 a = some (.lst (ws.map sv)) ∧ (∀ w ∈ ws, w.length ≤ 16777216) ∧
  ∀ (H2 : Hp) (ys : List (List Nat)) (p : Addr), ExtN H1 H2 → Tabs T H2 → ys.Perm ws → ys.Pairwise (fun x y => ¬ wlt y x) → H2 p = none → Q (.ref p) (upd H2 p (.lst (ys.map sv)))
theorem pe_sortLam {X : Cx} {c P : Addr} {T : List (Addr × Str)} {kr k : Nat} {nm : Str} {p p1 p2 p3 p4 p5 p6 lpos kpos pos : Pos} {e : Expr} {t : TA} (hr : Room kr X.A) (TB : TabB X.base X.mg c P) (hcode : X.env.code = .ref c)
    (hmT : (P, X.env.qual ++ "<lambda>") ∈ T) (hu : ∀ p ∈ T, p.1 = P → p.2 = X.env.qual ++ "<lambda>") (hnm : nm = "text" ∨ nm = "word") (hm : X.mg "len" = none) (hms : X.mg "sorted" = none) (ha : PA X [e] t) (hclo : closureFor (scLam nm) X.env = pure [] := by rfl) (hg : Gl X "sorted" := by rfl)
    (he : backTo pos (starEach [e] X.env) = (false, eval e X.env) :: backTo pos (starEach [] X.env) := by rfl) (hpl : (backTo pos (starEach [e] X.env)).any (·.1) = false := by rfl) :
    PE X (.Call (.Name "sorted" p) [e] [⟨some "key", .Lambda (lamParams nm p1) (lamBody nm p2 p3 p4 p5 p6 k) (scLam nm) lpos, kpos⟩] pos) (tSortLam T t) := by
  have hk : PK X [⟨some "key", .Lambda (lamParams nm p1) (lamBody nm p2 p3 p4 p5 p6 k) (scLam nm) lpos, kpos⟩] (tCons (tLamV T (X.env.qual ++ "<lambda>") (lamParams nm p1) (lamBody nm p2 p3 p4 p5 p6 k) (scLam nm)) tNil) :=
    pk_cons (pe_lam (params := lamParams nm p1) (body := lamBody nm p2 p3 p4 p5 p6 k) (scope := scLam nm) (pos := lpos) TB hcode hmT hu rfl hclo) pk_nil
  have hc := cr_sortLam (q := X.env.qual ++ "<lambda>") (nm := nm) (p1 := p1) (p2 := p2) (p3 := p3) (p4 := p4) (p5 := p5) (p6 := p6) (kk := k) hr hnm hm
  refine ⟨fun pins s σ H Q I h => ?_⟩
  refine wpAny_Call_Name_kw (ld_blt I hg hms (u := .builtin "sorted") (by decide +kernel) ?_ (by decide) (by decide))
  refine PyProof.Rows.callWith_kw (thn (ha.run pos pins s σ H _ I h) fun us s1 ⟨vs, H1, I1, r1, q1⟩ => thn (hk.run pos pins s1 σ H1 (fun zs H2 => rSortLam (X.env.qual ++ "<lambda>") nm p1 p2 p3 p4 p5 p6 k vs zs H2 Q) I1 ?_) fun ws s2 ⟨zs, H2, I2, r2, q2⟩ => ?_) he hpl (by rfl) (by rfl)
  · obtain ⟨hT, a, ws, rfl, h1, hl, kq⟩ := q1
    refine ⟨hT, fun f c' H2 eN T2 hf0 hf hc' => ?_⟩
    refine ⟨a, f, c', ws, rfl, rfl, hf, hc', eN _ _ h1 (fun ps z => by cases z), fun w hw => ?_, fun ys p hp hs hn => ?_⟩
    · rw [sl_is]; exact hl w hw
    · exact kq H2 ys p eN T2 hp hs hn
  · rw [show (backToKw pos (keywordEach [⟨some "key", .Lambda (lamParams nm p1) (lamBody nm p2 p3 p4 p5 p6 k) (scLam nm) lpos, kpos⟩] X.env)).filterMap (·.1) = [Str.ofString "key"] by rfl]
    exact hc pins s2 σ H2 vs zs us ws Q I2 r1 r2 q2
end G

/-! SoT: sorted(tuple of texts), sorted(list of texts), any number of them -/
namespace SoT
open PySem PyProof.Rows PySem.W
section
variable {prog : Program} {w : World} {A : Around} {E : Value → Shared → Prop} {s : Shared}
/-- the items of a tuple, collected -/
theorem collect_tup {l : Addr} {vs : List Value} {Q : List Value → Shared → Prop} (hl : s.heap.IsTuple l vs.toArray)
    (h : Q vs { s with heap := (s.heap.push (seqObj "list" #[] 0)).update s.heap.objs.size (Obj.mapSeq (· ++ vs.toArray)) }) (hsz : vs.length ≤ sizeLine) :
    wpAny (model prog w) A (collect (.ref l)) Q E s := by
  obtain ⟨o, ho, hc, n, hd⟩ := id hl
  unfold collect
  refine wpAny_bind (wpAny_runValue (codeAny_builtin entry_proto_collect' ?_))
  show wpAny _ _ (do again (.builtin "list.__iadd__" ⟨[← newList [], .ref l], []⟩)) _ _ s
  refine wpAny_bind (wpAny_newList (wpAny_pure ⟨Code.quiet_builtin _ (by decide +kernel), codeAny_builtin entry_list_iadd' ?_⟩))
  show wpAny _ _ (Builtin.List.listExtendWith (.ref s.heap.objs.size) (.ref l) (.ref s.heap.objs.size)) _ _ { s with heap := s.heap.push (seqObj "list" #[] 0) }
  unfold Builtin.List.listExtendWith
  have ho' : (s.heap.push (seqObj "list" #[] 0)).get? l = some o := Heap.get?_push_of_some _ ho
  refine wpAny_bind (wpAny_typeOf (T := "tuple") ⟨o, ho', hc⟩ ?_)
  have ht : (Value.type "tuple" == Value.type "tuple") = true := by rfl
  rw [if_pos (by rw [ht]; simp)]
  refine wpAny_bind (listItems_at ho' hd ?_)
  refine wpAny_bind (listItems_at (xs := #[]) (n := 0) (Heap.get?_push_size _ rfl) rfl ?_)
  rw [if_neg (by simp)]
  refine wpAny_bind (listUpdate_at (xs := #[]) (n := 0) (Heap.get?_push_size _ rfl) rfl ?_ (Nat.zero_le _) (by show (#[] ++ vs.toArray).size ≤ sizeLine + 1; simp only [Array.size_append, List.size_toArray, List.length_nil]; omega))
  refine wpAny_pure ?_
  show wpAny (model prog w) A (do
      let o ← load s.heap.objs.size
      match o.data with
      | .seq xs _ => pure xs.toList
      | _ => unsupported "internal:collect") Q E { s with heap := (s.heap.push (seqObj "list" #[] 0)).update s.heap.objs.size (Obj.mapSeq (· ++ vs.toArray)) }
  refine wpAny_bind (wpAny_load (get?_update_seq (Heap.get?_push_size _ rfl) _) ?_)
  show wpAny _ _ (pure ((#[] : Array Value) ++ vs.toArray).toList) Q E _
  rw [show ((#[] : Array Value) ++ vs.toArray).toList = vs by simp]
  exact wpAny_pure h
theorem sorted_of_tup {l : Addr} {vs : List Value} {kw : List (Str × Value)} {Q : Value → Shared → Prop} (hl : s.heap.IsTuple l vs.toArray) (hL : vs.length ≤ sizeLine) (ha1 : argsOk "sorted" ⟨[.ref l], kw⟩) (ha2 : ∀ x, argsOk "list.sort" ⟨[.ref x], kw⟩)
    (body : ∀ E' : Value → Shared → Prop, wpAny (model prog w) A.in1.in1 (Builtin.«list.sort» ⟨[.ref (s.heap.objs.size + 1)], kw⟩) (fun f s' => f = .done (.ret .none) ∧ Q (.ref (s.heap.objs.size + 1)) s') E' { s with heap := copyHeap s.heap vs }) :
    wpAny (model prog w) A (call (.builtin "sorted") [.ref l] kw) Q E s := by
  refine call_function_entry_kw kind_sorted plain_sorted entry_sorted ha1 ?_
  unfold Builtin.«sorted»
  refine wpAny_bind (m := checkCount "sorted" 1 1 _) (wpAny_pure ?_)
  refine wpAny_bind (collect_tup hl ?_ hL)
  refine wpAny_bind (wpAny_newList ?_ hL)
  have hsz : ((s.heap.push (seqObj "list" #[] 0)).update s.heap.objs.size (Obj.mapSeq (· ++ vs.toArray))).objs.size = s.heap.objs.size + 1 := by
    rw [Heap.size_update, size_push']
  show wpAny _ _ _ _ _ { s with heap := copyHeap s.heap vs }
  rw [hsz]
  refine wpAny_bind (wpAny_holding (wpAny_call_entry_kw slot_list_sort ⟨_, copyHeap_at s.heap vs, rfl⟩ entry_list_sort ?body (ha2 _)))
  case body =>
    show wpAny (model prog w) A.in1.in1 (Builtin.«list.sort» ⟨[.ref (s.heap.objs.size + 1)], kw⟩) _ _ _
    refine wpAny_mono (body _) (fun f s' hf => ?_) fun _ _ e => e
    obtain ⟨rfl, hq⟩ := hf
    exact ⟨_, rfl, wpAny_pure ⟨_, rfl, hq⟩⟩
theorem sorted_tup_data {β : Type} {vs : List Value} {bs : List β} {enc : β → PyData} {R : Value → β → Prop} {l : Addr} {Q : Value → Shared → Prop} (hl : s.heap.IsTuple l vs.toArray) (e : EachIs R vs bs) (er : EachIs (fun v b => ∃ as, Reads s.heap v (enc b) as) vs bs) (hal : AllAlike (bs.map enc)) (hk : Sortable (bs.map enc)) (hL : bs.length ≤ sizeLine)
    (hu : ∀ b, b ∈ bs → A.units + 2 + (enc b).depth < cLine) (h : ∀ out, out.length = bs.length → EachIs R out (bs.mergeSort (dataLe false enc)) → Q (.ref (s.heap.objs.size + 1)) { s with heap := sortedAll s.heap vs (List.toArray out) }) :
    wpAny (model prog w) A (call (.builtin "sorted") [.ref l]) Q E s := by
  have er' : EachIs (fun v b => ∃ as, Reads (sortingHeap (copyHeap s.heap vs) (s.heap.objs.size + 1) vs) v (enc b) as) vs bs := er.mono fun _ _ ⟨as, r⟩ => ⟨as, PyProof.Rows.Reads.keeps (fun _ _ => sorting_copy_old) r⟩
  have S : SortsAt prog w A.in1.in1 { s with heap := sortingHeap (copyHeap s.heap vs) (s.heap.objs.size + 1) vs } (dataKind (sortingHeap (copyHeap s.heap vs) (s.heap.objs.size + 1) vs) (bs.map enc)) vs :=
    SortsAt.data (s := { s with heap := sortingHeap (copyHeap s.heap vs) (s.heap.objs.size + 1) vs }) (each_map (R := fun v d => ∃ as, Reads (sortingHeap (copyHeap s.heap vs) (s.heap.objs.size + 1) vs) v d as) enc er') hal hk (bound_map hu)
  exact sorted_of_tup hl (by rw [e.length]; exact hL) (args_sorted1 _) (fun _ => args_list_sort _) fun _ => list_sort_vals (s := { s with heap := copyHeap s.heap vs }) (copyHeap_at s.heap vs) S (by rw [e.length]; exact hL) ⟨rfl, h _ (by rw [sortVals_length false rfl]; exact e.length) (sortVals_data false e er' hal)⟩
end
end SoT
namespace G
open PySem PySem.Spec L2
def txD (w : List Nat) : PyData := .str ⟨w.toArray⟩
theorem txLt (x y : List Nat) : PyProof.Rows.lexLt PyProof.Rows.itemOrd (PySem.W.keyToks (txD x)) (PySem.W.keyToks (txD y)) = decide (x < y) := by
  have hx : PySem.W.keyToks (txD x) = [.inr x] := rfl
  have hy : PySem.W.keyToks (txD y) = [.inr y] := rfl
  rw [hx, hy]
  show (decide (x < y) || (!decide (y < x) && false)) = _
  simp
theorem tx_alike (ws : List (List Nat)) : PySem.W.AllAlike (ws.map txD) := by
  intro d hd d' hd'
  obtain ⟨a, _, rfl⟩ := List.mem_map.mp hd
  obtain ⟨b, _, rfl⟩ := List.mem_map.mp hd'
  rfl
/-- sorted(tuple or list of texts) -/
def rSortTx (K : PySem.W.Frag) : List V → Hp → VK → Prop := fun vs H Q => ∃ (a : Addr) (ws : List (List Nat)), vs = [.ref a] ∧ (SqL K H a (ws.map sv) ∨ SqT K H a (ws.map sv)) ∧
  ∀ (ys : List (List Nat)) (p : Addr), ys.Perm ws → ys.Pairwise (fun x y => ¬ y < x) → H p = none → Q (.ref p) (upd H p (.lst (ys.map sv)))
theorem cr_sortTx {X : Cx} {k : Nat} (hr : Room k X.A) : CallR X (.builtin "sorted") (rSortTx X.K) := by
  intro pins s σ H vs us Q I r h
  obtain ⟨a, ts, rfl, hs, q⟩ := h
  obtain rfl := Vals.ref1 r
  have fin : ∀ (its : List Value), Vals (ts.map sv) its → (ts.map sv).length ≤ sizeLine → (∀ out, out.length = ts.length → PySem.W.EachIs (fun v w => RelV (sv w) v) out (ts.mergeSort (PySem.W.dataLe false txD)) → EP X pins σ Q (.ref (s.heap.objs.size + 1)) { s with heap := PyProof.Rows.sortedAll s.heap its (List.toArray out) }) := fun its rv hz out ho he => by
    have hperm := List.mergeSort_perm ts (PySem.W.dataLe false txD)
    have hsrt : (ts.mergeSort (PySem.W.dataLe false txD)).Pairwise (fun x y => ¬ y < x) := by
      have z := PySem.W.sort_pairwise (PySem.W.sortLe_total (PyProof.Rows.listOrd PyProof.Rows.itemOrd) false fun b => PySem.W.keyToks (txD b)) ts
      refine z.imp fun {u v} h => ?_
      have h2 : (!PyProof.Rows.lexLt PyProof.Rows.itemOrd (PySem.W.keyToks (txD v)) (PySem.W.keyToks (txD u))) = true := h
      rw [txLt] at h2
      simpa using h2
    generalize ts.mergeSort (PySem.W.dataLe false txD) = ys at *
    have hn : H (s.heap.objs.size + 1) = none := I.hok.fresh (Nat.le_succ _)
    have hlen2 : (ys.map sv).length ≤ sizeLine := by
      rw [List.length_map] at hz ⊢
      rw [hperm.length_eq]; exact hz
    obtain ⟨ep, he'⟩ := PyProof.Rows.sortedAll_at s.heap its out.toArray
    exact ⟨.ref _, upd H (s.heap.objs.size + 1) (.lst (ys.map sv)), I.laid (t' := s.toks) (fun _ _ => PyProof.Rows.sortedAll_old) (Nat.le_succ _) ⟨hlen2, out, ep, vals_txt he, he'⟩, rfl, q ys _ hperm hsrt hn⟩
  have reads : ∀ {its : List Value}, Vals (ts.map sv) its → PySem.W.EachIs (fun v b => ∃ as, Reads s.heap v (txD b) as) its ts := fun rv => (txt_vals rv).mono fun v w ⟨t, e⟩ => ⟨[], by rw [e]; exact .str _ _⟩
  have hu : ∀ b, b ∈ ts → X.A.units + 2 + (txD b).depth < cLine := fun w _ => by
    have := hr.un
    show X.A.units + 2 + 0 < cLine
    omega
  have hnt : ∀ d : PyData, d ∈ ts.map txD → (d ≠ PyData.none) ∧ (∀ xs, d ≠ PyData.tuple xs) := fun d hd => by
    obtain ⟨w, _, rfl⟩ := List.mem_map.mp hd
    refine ⟨fun e => ?_, fun xs e => ?_⟩
    · cases e
    · cases e
  rcases hs with hs | hs
  · obtain ⟨its, rv, pl, hz⟩ := I.list hs
    exact PySem.W.sorted_data pl.isList (txt_vals rv) (reads rv) (tx_alike ts) (.inr hnt) (by rw [List.length_map] at hz; exact hz) hu (fin its rv hz)
  · obtain ⟨its, rv, pl, hz⟩ := I.tuple hs
    exact SoT.sorted_tup_data (let ⟨o, ho, hc, n, hd⟩ := pl; ⟨o, ho, hc, n, hd⟩) (txt_vals rv) (reads rv) (tx_alike ts) (.inr hnt) (by rw [List.length_map] at hz; exact hz) hu (fin its rv hz)
section
variable {X : Cx}
/-- a text in a tuple of texts -/
theorem op_inTt : OpR X (compareOp .In) (fun x y H Q => ∃ (p : Addr) (a : List Nat) (ls : List (List Nat)), x = sv a ∧ y = .ref p ∧ H p = some (.tup (ls.map sv)) ∧ Q (.bl (decide (a ∈ ls))) H) := by
  intro pins s σ H x y v u Q I rx ry h
  obtain ⟨p, a, ls, rfl, rfl, hp, q⟩ := h
  refine op_in_seq pins s σ H _ _ v u Q I rx ry ⟨p, _, rfl, .inr (.inl (.inl hp)), rfl, flat_sv ls, ?_⟩
  rw [inV_sv]; exact q
theorem op_notInTt : OpR X (compareOp .NotIn) (fun x y H Q => ∃ (p : Addr) (a : List Nat) (ls : List (List Nat)), x = sv a ∧ y = .ref p ∧ H p = some (.tup (ls.map sv)) ∧ Q (.bl (!decide (a ∈ ls))) H) := by
  intro pins s σ H x y v u Q I rx ry h
  obtain ⟨p, a, ls, rfl, rfl, hp, q⟩ := h
  refine op_notIn_seq pins s σ H _ _ v u Q I rx ry ⟨p, _, rfl, .inr (.inl (.inl hp)), rfl, flat_sv ls, ?_⟩
  rw [inV_sv]; exact q
end
end G
namespace G
open PySem PySem.Spec L2
/-! == of lists of texts -/
theorem dp_txts {K : PySem.W.Frag} {H : Hp} : ∀ A : List (List Nat), DpAll K H (A.map sv) (A.map txD)
  | [] => .nil
  | a :: A => .cons (.str _) (dp_txts A)
theorem eqv_txts : ∀ A B : List (List Nat), PyData.eqvAll (A.map txD) (B.map txD) = decide (A = B)
  | [], [] => rfl
  | [], b :: B => rfl
  | a :: A, [] => rfl
  | a :: A, b :: B => by
    show (PyData.eqv (txD a) (txD b) && PyData.eqvAll (A.map txD) (B.map txD)) = _
    rw [eqv_txts A B]
    have e : PyData.eqv (txD a) (txD b) = decide (a = b) := by
      show ((⟨a.toArray⟩ : Str) == ⟨b.toArray⟩) = _
      by_cases h : a = b
      · rw [decide_eq_true h, h]; exact beq_iff_eq.mpr rfl
      · rw [decide_eq_false h]; exact beq_eq_false_iff_ne.mpr fun e => h (sv_inj.mp (congrArg V.str e))
    rw [e]
    by_cases h : a = b <;> by_cases h2 : A = B <;> simp [h, h2]
theorem depth_txts : ∀ A : List (List Nat), PyData.depthAll (A.map txD) = 0
  | [] => rfl
  | a :: A => by
    show max 0 (PyData.depthAll (A.map txD)) = 0
    rw [depth_txts A]; rfl
theorem canLay_txts : ∀ A : List (List Nat), (∀ a ∈ A, ∀ c ∈ a, c < 1000) → PyData.canLayAll0 (A.map txD) = true
  | [], _ => rfl
  | a :: A, h => by
    show (PyData.canLay0 (txD a) && PyData.canLayAll0 (A.map txD)) = true
    rw [canLay_txts A fun b hb => h b (List.mem_cons_of_mem _ hb), Bool.and_true]
    have ha := h a List.mem_cons_self
    show PyData.strOk ⟨a.toArray⟩ = true
    unfold PyData.strOk
    rw [Array.all_eq_true']
    intro c hc
    have := ha c (by simpa using hc)
    exact decide_eq_true (by omega)
theorem eq_txts {K : PySem.W.Frag} {H : Hp} {Q : VK} {p q : Addr} {A B : List (List Nat)} (hp : H p = some (.lst (A.map sv))) (hq : H q = some (.lst (B.map sv))) (hA : ∀ a ∈ A, ∀ c ∈ a, c < 1000) (hB : ∀ a ∈ B, ∀ c ∈ a, c < 1000) (k : Q (.bl (decide (A = B))) H) : rEqD K (.ref p) (.ref q) H Q := by
  have sh : ∀ A : List (List Nat), (∀ a ∈ A, ∀ c ∈ a, c < 1000) → SeqAt.shaped (.list (A.map txD)) = true := fun A h => by
    refine Bool.and_eq_true_iff.mpr ⟨canLay_txts A h, decide_eq_true ?_⟩
    show PyData.depthAll (A.map txD) + 1 ≤ 64
    rw [depth_txts]; omega
  refine ⟨.list (A.map txD), .list (B.map txD), .lst (.inl (.inl hp)) (dp_txts A), .lst (.inl (.inl hq)) (dp_txts B), sh A hA, sh B hB, ?_⟩
  rw [show PyData.eqv (.list (A.map txD)) (.list (B.map txD)) = PyData.eqvAll (A.map txD) (B.map txD) by rfl, eqv_txts]
  exact k
end G

/-! P5: how many beginnings a sample has, in the order of the alphabet -/
namespace G
/-- what two words have in common at their beginnings -/
def lcpB : List Nat → List Nat → Nat
  | x :: a, y :: b => if x = y then lcpB a b + 1 else 0
  | _, _ => 0
theorem lcpB_le1 : ∀ a b : List Nat, lcpB a b ≤ a.length
  | [], b => by simp [lcpB]
  | x :: a, [] => by simp [lcpB]
  | x :: a, y :: b => by
    have := lcpB_le1 a b
    simp only [lcpB]; split <;> simp <;> omega
theorem lcpB_le2 : ∀ a b : List Nat, lcpB a b ≤ b.length
  | [], b => by simp [lcpB]
  | x :: a, [] => by simp [lcpB]
  | x :: a, y :: b => by
    have := lcpB_le2 a b
    simp only [lcpB]; split <;> simp <;> omega
/-- a beginning of the second word begins the first one -/
theorem lcpB_take : ∀ (a b : List Nat) (m : Nat), m ≤ b.length → (b.take m <+: a ↔ m ≤ lcpB a b)
  | a, b, 0, _ => by simp
  | [], y :: b, m + 1, h => by simp [lcpB]
  | x :: a, y :: b, m + 1, h => by
    have ih := lcpB_take a b m (by simpa using h)
    rw [List.take_succ_cons, List.cons_prefix_cons]
    simp only [lcpB]
    by_cases e : x = y
    · rw [if_pos e, ih]
      constructor
      · rintro ⟨_, h⟩; omega
      · exact fun h => ⟨e.symm, by omega⟩
    · rw [if_neg e]
      constructor
      · rintro ⟨h, _⟩; exact absurd h.symm e
      · intro h; omega
  | a, [], m + 1, h => by simp at h
theorem lcpB_eq : ∀ {a b : List Nat} {n : Nat}, n < lcpB a b → a[n]? = b[n]?
  | [], b, n, h => by simp [lcpB] at h
  | x :: a, [], n, h => by simp [lcpB] at h
  | x :: a, y :: b, n, h => by
    simp only [lcpB] at h
    by_cases e : x = y
    · rw [if_pos e] at h
      cases n with
      | zero => simp [e]
      | succ n => simpa using lcpB_eq (a := a) (b := b) (n := n) (by omega)
    · rw [if_neg e] at h; omega
theorem lcpB_ne : ∀ {a b : List Nat} {x y : Nat}, a[lcpB a b]? = some x → b[lcpB a b]? = some y → x ≠ y
  | [], b, x, y, h, _ => by simp [lcpB] at h
  | u :: a, [], x, y, _, h => by simp [lcpB] at h
  | u :: a, v :: b, x, y, h1, h2 => by
    by_cases e : u = v
    · have el : lcpB (u :: a) (v :: b) = lcpB a b + 1 := by simp only [lcpB]; rw [if_pos e]
      rw [el] at h1 h2
      exact lcpB_ne (a := a) (b := b) (by simpa using h1) (by simpa using h2)
    · have el : lcpB (u :: a) (v :: b) = 0 := by simp only [lcpB]; rw [if_neg e]
      rw [el] at h1 h2
      simp at h1 h2
      rw [← h1, ← h2]; exact e
/-- what begins two words begins each word between them -/
theorem lex_mid : ∀ {p a b c : List Nat}, p <+: a → p <+: c → ¬ b < a → ¬ c < b → p <+: b
  | [], a, b, c, _, _, _, _ => List.nil_prefix
  | x :: p, a, b, c, ha, hc, h1, h2 => by
    obtain ⟨a', rfl⟩ : ∃ a', a = x :: a' := by obtain ⟨t, e⟩ := ha; exact ⟨p ++ t, e.symm⟩
    obtain ⟨c', rfl⟩ : ∃ c', c = x :: c' := by obtain ⟨t, e⟩ := hc; exact ⟨p ++ t, e.symm⟩
    rw [List.cons_prefix_cons] at ha hc
    cases b with
    | nil => exact absurd (List.nil_lt_cons _ _) h1
    | cons y b =>
      rw [List.cons_lt_cons_iff] at h1 h2
      have e : x = y := by
        by_cases l : y < x
        · exact absurd (.inl l) h1
        · by_cases l2 : x < y
          · exact absurd (.inl l2) h2
          · omega
      subst e
      rw [List.cons_prefix_cons]
      exact ⟨rfl, lex_mid ha.2 hc.2 (fun h => h1 (.inr ⟨rfl, h⟩)) (fun h => h2 (.inr ⟨rfl, h⟩))⟩
/-- the law's number behind the first i rows -/
def manyB (rows : List (List Nat)) : Nat → Nat
  | 0 => 0
  | 1 => 1 + (rows.getD 0 []).length
  | i + 2 => manyB rows (i + 1) + (rows.getD (i + 1) []).length - lcpB (rows.getD i []) (rows.getD (i + 1) [])
theorem manyB_step (rows : List (List Nat)) (i : Nat) : manyB rows (i + 2) + lcpB (rows.getD i []) (rows.getD (i + 1) []) = manyB rows (i + 1) + (rows.getD (i + 1) []).length := by
  have := lcpB_le2 (rows.getD i []) (rows.getD (i + 1) [])
  simp only [manyB]; omega
theorem takes_nodup (r : List Nat) (a n : Nat) (h : a + n ≤ r.length + 1) : ((List.range n).map fun k => r.take (a + k)).Nodup := by
  rw [List.nodup_iff_pairwise_ne, List.pairwise_map]
  refine List.Pairwise.imp_of_mem ?_ (List.nodup_iff_pairwise_ne.mp List.nodup_range)
  intro i j hi hj hne e
  rw [List.mem_range] at hi hj
  have := congrArg List.length e
  rw [List.length_take, List.length_take] at this
  omega
theorem begs_count {rows : List (List Nat)} (hs : rows.Pairwise fun x y => ¬ y < x) : ∀ i, i ≤ rows.length → ∃ zs : List (List Nat), zs.Nodup ∧ (∀ w, w ∈ zs ↔ ∃ u ∈ rows.take i, w <+: u) ∧ zs.length = manyB rows i
  | 0, _ => ⟨[], .nil, by simp, rfl⟩
  | 1, h => by
    have e : rows.take 1 = [rows.getD 0 []] := by
      match rows, h with
      | r :: t, _ => simp
    refine ⟨(List.range ((rows.getD 0 []).length + 1)).map fun k => (rows.getD 0 []).take (0 + k), takes_nodup _ 0 _ (by omega), fun w => ?_, by rw [List.length_map, List.length_range]; simp only [manyB]; omega⟩
    rw [e]
    simp only [List.mem_map, List.mem_range, Nat.zero_add, List.mem_singleton, exists_eq_left]
    constructor
    · rintro ⟨k, _, rfl⟩; exact List.take_prefix _ _
    · intro hp
      exact ⟨w.length, by have := hp.length_le; omega, (List.prefix_iff_eq_take.mp hp).symm⟩
  | i + 2, h => by
    obtain ⟨zs, hn, hm, hl⟩ := begs_count hs (i + 1) (by omega)
    have hi : i < rows.length := by omega
    have hi1 : i + 1 < rows.length := by omega
    have eq : rows.getD i [] = rows[i] := by simp [List.getD, hi]
    have er : rows.getD (i + 1) [] = rows[i + 1] := by simp [List.getD, hi1]
    have et : rows.take (i + 2) = rows.take (i + 1) ++ [rows[i + 1]] := by rw [List.take_add_one, List.getElem?_eq_getElem hi1]; rfl
    have hstep := manyB_step rows i
    rw [eq, er] at hstep
    have hq : rows[i] ∈ rows.take (i + 1) := by
      rw [List.mem_take_iff_getElem]; exact ⟨i, by omega, rfl⟩
    have far : ∀ m, m ≤ rows[i + 1].length → lcpB rows[i] rows[i + 1] < m → ¬ ∃ u ∈ rows.take (i + 1), rows[i + 1].take m <+: u := fun m h1 h2 ⟨u, hu, hp⟩ => by
      have h3 : rows[i + 1].take m <+: rows[i] := by
        obtain ⟨j, hj, rfl⟩ := List.mem_take_iff_getElem.mp hu
        by_cases e : j = i
        · subst e; exact hp
        · refine lex_mid hp (List.take_prefix _ _) ?_ ?_
          · exact List.pairwise_iff_getElem.mp hs j i _ _ (by omega)
          · exact List.pairwise_iff_getElem.mp hs i (i + 1) _ _ (by omega)
      rw [lcpB_take _ _ _ h1] at h3
      omega
    have hlc := lcpB_le2 rows[i] rows[i + 1]
    refine ⟨zs ++ (List.range (rows[i + 1].length - lcpB rows[i] rows[i + 1])).map fun k => rows[i + 1].take (lcpB rows[i] rows[i + 1] + 1 + k), ?_, fun w => ?_, ?_⟩
    · rw [List.nodup_append]
      refine ⟨hn, takes_nodup _ _ _ (by omega), fun a ha b hb e => ?_⟩
      obtain ⟨k, hk, rfl⟩ := List.mem_map.mp hb
      rw [List.mem_range] at hk
      rw [e] at ha
      exact far _ (by omega) (by omega) ((hm _).mp ha)
    · rw [List.mem_append, hm, et]
      simp only [List.mem_append, List.mem_singleton, List.mem_map, List.mem_range]
      constructor
      · rintro (⟨u, hu, hp⟩ | ⟨k, _, rfl⟩)
        · exact ⟨u, .inl hu, hp⟩
        · exact ⟨_, .inr rfl, List.take_prefix _ _⟩
      · rintro ⟨u, hu | rfl, hp⟩
        · exact .inl ⟨u, hu, hp⟩
        · have hw := List.prefix_iff_eq_take.mp hp
          have hwl := hp.length_le
          by_cases c : w.length ≤ lcpB rows[i] rows[i + 1]
          · refine .inl ⟨rows[i], hq, ?_⟩
            rw [hw]
            exact (lcpB_take _ _ _ hwl).mpr c
          · refine .inr ⟨w.length - (lcpB rows[i] rows[i + 1] + 1), by omega, ?_⟩
            rw [show lcpB rows[i] rows[i + 1] + 1 + (w.length - (lcpB rows[i] rows[i + 1] + 1)) = w.length by omega]
            exact hw.symm
    · rw [List.length_append, List.length_map, List.length_range, hl]; omega
/-- as many beginnings as the law counts -/
theorem begs_len {rows ws ys : List (List Nat)} (hp : rows.Perm ws) (hs : rows.Pairwise fun x y => ¬ y < x) (hn : ys.Nodup) (hm : ∀ w, w ∈ ys ↔ ∃ u ∈ ws, w <+: u) : ys.length = manyB rows rows.length := by
  obtain ⟨zs, h1, h2, h3⟩ := begs_count hs rows.length (Nat.le_refl _)
  rw [← h3]
  refine List.Perm.length_eq ((List.perm_ext_iff_of_nodup hn h1).mpr fun w => ?_)
  rw [hm, h2, List.take_length]
  constructor
  · rintro ⟨u, hu, h⟩; exact ⟨u, hp.mem_iff.mpr hu, h⟩
  · rintro ⟨u, hu, h⟩; exact ⟨u, hp.mem_iff.mp hu, h⟩
/-! the order of words -/
theorem wlt_trans {a b c : List Nat} (h1 : wlt a b) (h2 : wlt b c) : wlt a c := by
  rcases h1 with h1 | ⟨e1, h1⟩
  · rcases h2 with h2 | ⟨e2, h2⟩
    · exact .inl (by omega)
    · exact .inl (by omega)
  · rcases h2 with h2 | ⟨e2, h2⟩
    · exact .inl (by omega)
    · exact .inr ⟨by omega, List.lt_trans h1 h2⟩
/-- ascending words -/
def Asc (ws : List (List Nat)) : Prop := ws.Pairwise wlt
theorem asc_of {ys : List (List Nat)} (hn : ys.Nodup) (hs : ys.Pairwise fun x y => ¬ wlt y x) : Asc ys := by
  unfold Asc
  have h := List.Pairwise.and (List.nodup_iff_pairwise_ne.mp hn) hs
  exact h.imp fun {a b} ⟨h1, h2⟩ => Classical.byContradiction fun h3 => h2 (wlt_total h1 h3)
theorem Asc.nodup {ws : List (List Nat)} (h : Asc ws) : ws.Nodup := by
  rw [List.nodup_iff_pairwise_ne]
  exact List.Pairwise.imp (fun {a b} (h : wlt a b) (e : a = b) => wlt_irr b (by rw [e] at h; exact h)) h
theorem asc_unique : ∀ {xs ys : List (List Nat)}, Asc xs → Asc ys → (∀ w, w ∈ xs ↔ w ∈ ys) → xs = ys
  | [], [], _, _, _ => rfl
  | [], y :: ys, _, _, h => absurd ((h y).mpr List.mem_cons_self) (by simp)
  | x :: xs, [], _, _, h => absurd ((h x).mp List.mem_cons_self) (by simp)
  | x :: xs, y :: ys, hx, hy, h => by
    unfold Asc at hx hy
    rw [List.pairwise_cons] at hx hy
    have e : x = y := by
      rcases List.mem_cons.mp ((h x).mp List.mem_cons_self) with e | h1
      · exact e
      · rcases List.mem_cons.mp ((h y).mpr List.mem_cons_self) with e | h2
        · exact e.symm
        · exact absurd (hx.1 y h2) (wlt_asymm (hy.1 x h1))
    subst e
    have e2 : xs = ys := asc_unique hx.2 hy.2 fun w => by
      have hw := h w
      rw [List.mem_cons, List.mem_cons] at hw
      constructor
      · intro hm
        rcases hw.mp (.inr hm) with e | hm2
        · subst e; exact absurd (hx.1 w hm) (wlt_irr w)
        · exact hm2
      · intro hm
        rcases hw.mpr (.inr hm) with e | hm2
        · subst e; exact absurd (hy.1 w hm) (wlt_irr w)
        · exact hm2
    rw [e2]
/-- a shorter beginning is earlier -/
theorem wlt_take {w : List Nat} {i j : Nat} (h : i < j) (hj : j ≤ w.length) : wlt (w.take i) (w.take j) := .inl (by rw [List.length_take, List.length_take]; omega)
theorem takes_asc (w : List Nat) : Asc ((List.range (w.length + 1)).map w.take) := by
  unfold Asc
  rw [List.pairwise_map]
  refine List.Pairwise.imp_of_mem ?_ (List.pairwise_lt_range)
  intro i j hi hj h
  rw [List.mem_range] at hj
  exact wlt_take h (by omega)
/-! the words by number are ascending -/
theorem lt_app2 {a b x y : List Nat} (hl : a.length = b.length) (h : a < b) : a ++ x < b ++ y := by
  induction a generalizing b with
  | nil =>
    have : b = [] := List.length_eq_zero_iff.mp hl.symm
    subst this
    exact absurd h (List.lt_irrefl _)
  | cons u a ih =>
    cases b with
    | nil => simp at hl
    | cons v b =>
      rw [List.cons_lt_cons_iff] at h
      rw [List.cons_append, List.cons_append, List.cons_lt_cons_iff]
      rcases h with h | ⟨e, h⟩
      · exact .inl h
      · exact .inr ⟨e, ih (by simpa using hl) h⟩
theorem wordAt_asc {L : List Nat} (hL : L ≠ []) (hs : L.Pairwise (· < ·)) : ∀ {j i : Nat}, i < j → wlt (wordAt L i) (wordAt L j) := by
  have hp := List.length_pos_iff.mpr hL
  intro j
  induction j using Nat.strongRecOn with
  | _ j ih =>
    intro i hij
    match j, i with
    | 0, i => omega
    | b + 1, 0 =>
      rw [wordAt, wordAt]
      exact .inl (by simp)
    | b + 1, a + 1 =>
      rw [wordAt, wordAt]
      have hb := Nat.mod_lt b hp
      have ha := Nat.mod_lt a hp
      have hdle := Nat.div_le_self b L.length
      by_cases e : a / L.length = b / L.length
      · rw [e, wlt_app]
        have hm : a % L.length < b % L.length := by
          have h1 := Nat.div_add_mod a L.length
          have h2 := Nat.div_add_mod b L.length
          rw [e] at h1
          omega
        have hlt := List.pairwise_iff_getElem.mp hs _ _ ha hb hm
        refine .inr ⟨rfl, ?_⟩
        rw [List.cons_lt_cons_iff]
        left
        simpa [List.getD, ha, hb] using hlt
      · have hd : a / L.length < b / L.length := by
          have := Nat.div_le_div_right (c := L.length) (show a ≤ b by omega)
          omega
        have hw := ih (b / L.length) (by omega) hd
        rcases hw with hw | ⟨e2, hw⟩
        · exact .inl (by simp; omega)
        · exact .inr ⟨by simp [e2], lt_app2 e2 hw⟩
theorem wordAt_mem {L : List Nat} (hL : L ≠ []) : ∀ i, ∀ c ∈ wordAt L i, c ∈ L := by
  have hp := List.length_pos_iff.mpr hL
  intro i
  induction i using Nat.strongRecOn with
  | _ i ih =>
    match i with
    | 0 => rw [wordAt]; simp
    | a + 1 =>
      rw [wordAt]
      intro c hc
      rcases List.mem_append.mp hc with hc | hc
      · exact ih (a / L.length) (by have := Nat.div_le_self a L.length; omega) c hc
      · rw [List.mem_singleton.mp hc]
        have ha := Nat.mod_lt a hp
        simp [List.getD, ha]
theorem wordAt_le {L : List Nat} : ∀ i, (wordAt L i).length ≤ i := by
  intro i
  induction i using Nat.strongRecOn with
  | _ i ih =>
    match i with
    | 0 => rw [wordAt]; simp
    | k + 1 =>
      rw [wordAt, List.length_append]
      have h1 : k / L.length ≤ k := Nat.div_le_self _ _
      have := ih (k / L.length) (by omega)
      simp only [List.length_cons, List.length_nil]; omega
/-! right samples -/
def lenS (ws : List (List Nat)) : Nat := (ws.map (·.length)).sum
theorem lenS_app (a b : List (List Nat)) : lenS (a ++ b) = lenS a + lenS b := by unfold lenS; rw [List.map_append, List.sum_append]
theorem lenS_one (w : List Nat) : lenS [w] = w.length := by simp [lenS]
theorem lenS_perm {a b : List (List Nat)} (h : a.Perm b) : lenS a = lenS b := (h.map _).sum_nat
theorem lenS_mem {ws : List (List Nat)} {w : List Nat} (h : w ∈ ws) : w.length ≤ lenS ws := by
  induction ws with
  | nil => cases h
  | cons x r ih =>
    unfold lenS at *
    rw [List.map_cons, List.sum_cons]
    rcases List.mem_cons.mp h with rfl | h
    · omega
    · have := ih h; omega
structure Good (L : List Nat) (ws : List (List Nat)) : Prop where
  n : ws.length ≤ 200
  o : ∀ w ∈ ws, ∀ c ∈ w, c ∈ L
  a : Asc ws
  t : lenS ws ≤ 2000
theorem Good.len {L : List Nat} {ws : List (List Nat)} (g : Good L ws) {w : List Nat} (h : w ∈ ws) : w.length ≤ 2000 := Nat.le_trans (lenS_mem h) g.t
theorem totV_lenS (ws : List (List Nat)) : totV (ws.map sv) = (lenS ws : Int) := by
  unfold totV lenS
  rw [List.map_map]
  induction ws with
  | nil => rfl
  | cons w r ih =>
    rw [List.map_cons, List.sum_cons, ih, List.map_cons, List.sum_cons]
    show lenV (sv w) + _ = _
    rw [lenV_sv]; omega
theorem Good.samp {L : List Nat} {ws : List (List Nat)} (g : Good L ws) : sampB L (ws.map sv) = true := by
  refine sampB_iff.mpr ⟨by rw [List.length_map]; exact g.n, fun x hx => ?_, fun i x y hx hy => ?_, by rw [totV_lenS]; have := g.t; omega⟩
  · obtain ⟨w, hw, rfl⟩ := List.mem_map.mp hx
    unfold overV; rw [txt_sv]
    show over L w = true
    unfold over
    rw [List.all_eq_true]
    exact fun c hc => decide_eq_true (g.o w hw c hc)
  · rw [List.getElem?_map] at hx hy
    obtain ⟨u, hu, rfl⟩ := Option.map_eq_some_iff.mp hx
    obtain ⟨v, hv, rfl⟩ := Option.map_eq_some_iff.mp hy
    obtain ⟨i1, e1⟩ := List.getElem?_eq_some_iff.mp hu
    obtain ⟨i2, e2⟩ := List.getElem?_eq_some_iff.mp hv
    unfold ltV
    rw [txt_sv, txt_sv]
    refine decide_eq_true ?_
    rw [← e1, ← e2]
    exact List.pairwise_iff_getElem.mp g.a _ _ _ _ (by omega)
theorem begCost_lenS (ws : List (List Nat)) : begCost ws = lenS ws + ws.length := by
  unfold begCost lenS
  induction ws with
  | nil => rfl
  | cons w r ih => simp only [List.map_cons, List.sum_cons, List.length_cons] at *; omega
theorem Good.cost {L : List Nat} {ws : List (List Nat)} (g : Good L ws) : begCost ws ≤ 2200 := by
  have := g.n; have := g.t
  rw [begCost_lenS]; omega
open PySem PySem.Spec L2 in
theorem kn_txt {H : Hp} (ws : List (List Nat)) {n : Nat} (h : ∀ w ∈ ws, w.length ≤ n) : ∀ x ∈ ws.map sv, Kn H x ∧ lenOk x n := fun x hx => by
  obtain ⟨w, hw, rfl⟩ := List.mem_map.mp hx
  exact ⟨trivial, fun l e => by rw [← sv_inj.mp e]; exact h w hw⟩
theorem cutL_init (w : List Nat) : cutL w none (some (-1)) = w.dropLast := by
  unfold cutL
  rw [List.dropLast_eq_take]
  simp [HT.sIx]
  by_cases h : w.length = 0
  · have : w = [] := List.length_eq_zero_iff.mp h
    subst this; rfl
  · congr 1
    omega
theorem Asc.at {ys : List (List Nat)} (h : Asc ys) {i j : Nat} {a b : List Nat} (ha : ys[i]? = some a) (hb : ys[j]? = some b) (hij : i < j) : wlt a b := by
  obtain ⟨i1, rfl⟩ := List.getElem?_eq_some_iff.mp ha
  obtain ⟨i2, rfl⟩ := List.getElem?_eq_some_iff.mp hb
  exact List.pairwise_iff_getElem.mp h _ _ _ _ hij
/-- what is earlier in the order stands earlier -/
theorem Asc.before {ys : List (List Nat)} (h : Asc ys) {i : Nat} {a b : List Nat} (hb : ys[i]? = some b) (ha : a ∈ ys) (hab : wlt a b) : a ∈ ys.take i := by
  obtain ⟨j, hj⟩ := List.mem_iff_getElem?.mp ha
  have hji : j < i := by
    rcases Nat.lt_trichotomy j i with l | e | l
    · exact l
    · subst e
      rw [hj] at hb
      rw [Option.some.inj hb] at hab
      exact absurd hab (wlt_irr b)
    · exact absurd (h.at hb hj l) (wlt_asymm hab)
  obtain ⟨j1, e⟩ := List.getElem?_eq_some_iff.mp hj
  rw [List.mem_take_iff_getElem]
  exact ⟨j, by omega, e⟩
theorem Asc.new {ys : List (List Nat)} (h : Asc ys) {i : Nat} {b : List Nat} (hb : ys[i]? = some b) : b ∉ ys.take i := fun hm => by
  obtain ⟨j, hj, e⟩ := List.mem_take_iff_getElem.mp hm
  have := h.at (List.getElem?_eq_some_iff.mpr ⟨by omega, e⟩) hb (by omega)
  exact wlt_irr b this
theorem len_nodup {α : Type} [DecidableEq α] : ∀ {xs zs : List α}, xs.Nodup → (∀ x ∈ xs, x ∈ zs) → xs.length ≤ zs.length
  | [], _, _, _ => Nat.zero_le _
  | x :: xs, zs, hn, hs => by
    rw [List.nodup_cons] at hn
    have hx := hs x List.mem_cons_self
    have ih := len_nodup (xs := xs) (zs := zs.erase x) hn.2 fun y hy => by
      have hne : y ≠ x := fun e => hn.1 (e ▸ hy)
      exact (List.mem_erase_of_ne hne).mpr (hs y (List.mem_cons_of_mem _ hy))
    rw [List.length_erase_of_mem hx] at ih
    have := List.length_pos_of_mem hx
    rw [List.length_cons]; omega
theorem begs_le {ws ys : List (List Nat)} (hn : ys.Nodup) (hm : ∀ w, w ∈ ys ↔ ∃ u ∈ ws, w <+: u) : ys.length ≤ begCost ws := by
  have h1 := len_nodup (zs := ws.flatMap fun w => (List.range (w.length + 1)).map w.take) hn fun y hy => by
    obtain ⟨u, hu, hp⟩ := (hm y).mp hy
    rw [List.mem_flatMap]
    refine ⟨u, hu, List.mem_map.mpr ⟨y.length, ?_, (List.prefix_iff_eq_take.mp hp).symm⟩⟩
    rw [List.mem_range]
    have := hp.length_le
    omega
  rw [List.length_flatMap] at h1
  unfold begCost
  simpa using h1
theorem filt_range {α β : Type} (f : α → Bool) (g : α → β) (z : β) : ∀ A : List α, ((List.range A.length).filter (atD A f false)).map (atD A g z) = (A.filter f).map g
  | [] => rfl
  | a :: A => by
    have ih := filt_range f g z A
    have h1 : List.filter (atD (a :: A) f false) ((List.range A.length).map Nat.succ) = (List.filter (atD A f false) (List.range A.length)).map Nat.succ := by
      rw [List.filter_map]
      congr 1
    have h2 : ∀ l : List Nat, (l.map Nat.succ).map (atD (a :: A) g z) = l.map (atD A g z) := fun l => by
      rw [List.map_map]
      refine List.map_congr_left fun i _ => ?_
      show atD (a :: A) g z (i + 1) = _
      unfold atD
      rw [List.getElem?_cons_succ]
    have e0 : atD (a :: A) f false 0 = f a := rfl
    rw [List.length_cons, List.range_succ_eq_map, List.filter_cons, e0, h1, List.filter_cons]
    by_cases h : f a = true
    · rw [if_pos h, if_pos h, List.map_cons, h2, ih, List.map_cons]; rfl
    · rw [if_neg h, if_neg h, h2, ih]
theorem Asc.filter {ys : List (List Nat)} (h : Asc ys) (f : List Nat → Bool) : Asc (ys.filter f) := List.Pairwise.filter f h
end G

namespace Lw
open PySem PySem.Spec L2
def topS (i : Nat) : Stmt := PySem.Challenge.pw_backseen_k05_whole_beginnings_of_samples.main.body.getD i (.Pass ⟨0, 0, 0, 0⟩)
abbrev s_order_of : Stmt := topS 7
theorem sc_order_of : FnScope ["word"] ["word"] (defScope s_order_of) := ⟨rfl, rfl, rfl, by decide +kernel, rfl, by decide +kernel, by decide +kernel⟩
abbrev s_is_text_of : Stmt := topS 8
theorem sc_is_text_of : FnScope ["letters", "value", "letter"] ["letters", "value"] (defScope s_is_text_of) := ⟨rfl, rfl, rfl, by decide +kernel, rfl, by decide +kernel, by decide +kernel⟩
abbrev s_has_sample_form : Stmt := topS 9
theorem sc_has_sample_form : FnScope ["letters", "value", "most", "longest", "word", "one", "other"] ["letters", "value", "most", "longest"] (defScope s_has_sample_form) := ⟨rfl, rfl, rfl, by decide +kernel, rfl, by decide +kernel, by decide +kernel⟩
abbrev s_check_letters : Stmt := topS 10
theorem sc_check_letters : FnScope ["letters"] ["letters"] (defScope s_check_letters) := ⟨rfl, rfl, rfl, by decide +kernel, rfl, by decide +kernel, by decide +kernel⟩
abbrev s_check_sample : Stmt := topS 11
theorem sc_check_sample : FnScope ["letters", "sample", "name"] ["letters", "sample", "name"] (defScope s_check_sample) := ⟨rfl, rfl, rfl, by decide +kernel, rfl, by decide +kernel, by decide +kernel⟩
abbrev s_beginnings_of : Stmt := topS 12
theorem sc_beginnings_of : FnScope ["sample", "found", "word", "at"] ["sample"] (defScope s_beginnings_of) := ⟨rfl, rfl, rfl, by decide +kernel, rfl, by decide +kernel, by decide +kernel⟩
abbrev s_is_letters : Stmt := topS 13
theorem sc_is_letters : FnScope ["value", "one", "other", "letter"] ["value"] (defScope s_is_letters) := ⟨rfl, rfl, rfl, by decide +kernel, rfl, by decide +kernel, by decide +kernel⟩
abbrev s_is_sample : Stmt := topS 14
theorem sc_is_sample : FnScope ["letters", "value", "word"] ["letters", "value"] (defScope s_is_sample) := ⟨rfl, rfl, rfl, by decide +kernel, rfl, by decide +kernel, by decide +kernel⟩
abbrev s_beginnings : Stmt := topS 15
theorem sc_beginnings : FnScope ["letters", "sample"] ["letters", "sample"] (defScope s_beginnings) := ⟨rfl, rfl, rfl, by decide +kernel, rfl, by decide +kernel, by decide +kernel⟩
abbrev s__law_stream : Stmt := topS 17
theorem sc__law_stream : FnScope ["script"] ["script"] (defScope s__law_stream) := ⟨rfl, rfl, rfl, by decide +kernel, rfl, by decide +kernel, by decide +kernel⟩
abbrev s__law_next : Stmt := topS 18
theorem sc__law_next : FnScope ["stream", "many", "k", "cell", "digit"] ["stream", "many"] (defScope s__law_next) := ⟨rfl, rfl, rfl, by decide +kernel, rfl, by decide +kernel, by decide +kernel⟩
abbrev s__law_pick : Stmt := topS 19
theorem sc__law_pick : FnScope ["stream", "rows"] ["stream", "rows"] (defScope s__law_pick) := ⟨rfl, rfl, rfl, by decide +kernel, rfl, by decide +kernel, by decide +kernel⟩
abbrev s__law_letters : Stmt := topS 20
theorem sc__law_letters : FnScope ["stream", "found", "turn", "letter"] ["stream"] (defScope s__law_letters) := ⟨rfl, rfl, rfl, by decide +kernel, rfl, by decide +kernel, by decide +kernel⟩
abbrev s__law_word : Stmt := topS 21
theorem sc__law_word : FnScope ["stream", "letters", "least", "most", "word", "turn"] ["stream", "letters", "least", "most"] (defScope s__law_word) := ⟨rfl, rfl, rfl, by decide +kernel, rfl, by decide +kernel, by decide +kernel⟩
abbrev s__law_word_at : Stmt := topS 22
theorem sc__law_word_at : FnScope ["letters", "index", "word", "turn"] ["letters", "index"] (defScope s__law_word_at) := ⟨rfl, rfl, rfl, by decide +kernel, rfl, by decide +kernel, by decide +kernel⟩
abbrev s__law_before : Stmt := topS 23
theorem sc__law_before : FnScope ["one", "other"] ["one", "other"] (defScope s__law_before) := ⟨rfl, rfl, rfl, by decide +kernel, rfl, by decide +kernel, by decide +kernel⟩
abbrev s__law_sample : Stmt := topS 24
theorem sc__law_sample : FnScope ["stream", "letters", "many", "total", "found", "index", "turn", "word"] ["stream", "letters", "many", "total"] (defScope s__law_sample) := ⟨rfl, rfl, rfl, by decide +kernel, rfl, by decide +kernel, by decide +kernel⟩
abbrev s__law_same : Stmt := topS 25
theorem sc__law_same : FnScope ["actual", "due", "left", "turn", "one", "other", "at"] ["actual", "due"] (defScope s__law_same) := ⟨rfl, rfl, rfl, by decide +kernel, rfl, by decide +kernel, by decide +kernel⟩
abbrev s__law_rich : Stmt := topS 26
theorem sc__law_rich : FnScope ["stream", "letters", "kind", "found", "ahead", "turn", "word", "left", "long"] ["stream", "letters"] (defScope s__law_rich) := ⟨rfl, rfl, rfl, by decide +kernel, rfl, by decide +kernel, by decide +kernel⟩
abbrev s__law_many : Stmt := topS 27
theorem sc__law_many : FnScope ["sample", "rows", "many", "at", "alike"] ["sample"] (defScope s__law_many) := ⟨rfl, rfl, rfl, by decide +kernel, rfl, by decide +kernel, by decide +kernel⟩
abbrev s__law_right : Stmt := topS 28
theorem sc__law_right : FnScope ["sample", "told", "earlier", "at", "name", "word"] ["sample", "told"] (defScope s__law_right) := ⟨rfl, rfl, rfl, by decide +kernel, rfl, by decide +kernel, by decide +kernel⟩
abbrev s_law : Stmt := topS 29
theorem sc_law : FnScope ["script", "stream", "letters", "sample", "told", "known", "name", "word", "larger", "own", "further", "at", "one"] ["script"] (defScope s_law) := ⟨rfl, rfl, rfl, by decide +kernel, rfl, by decide +kernel, by decide +kernel⟩
structure Tx (K : PySem.W.Frag) (mg : Str → Option Value) where
  d_order_of : G.DefC K mg "order_of" s_order_of ["word"]
  d_is_text_of : G.DefC K mg "is_text_of" s_is_text_of ["letters", "value"]
  d_has_sample_form : G.DefC K mg "has_sample_form" s_has_sample_form ["letters", "value", "most", "longest"]
  d_check_letters : G.DefC K mg "check_letters" s_check_letters ["letters"]
  d_check_sample : XH.DefD K mg "check_sample" s_check_sample ["letters", "sample", "name"] (.str "sample")
  d_beginnings_of : G.DefC K mg "beginnings_of" s_beginnings_of ["sample"]
  d_is_letters : G.DefC K mg "is_letters" s_is_letters ["value"]
  d_is_sample : G.DefC K mg "is_sample" s_is_sample ["letters", "value"]
  d_beginnings : G.DefC K mg "beginnings" s_beginnings ["letters", "sample"]
  d__law_stream : G.DefC K mg "_law_stream" s__law_stream ["script"]
  d__law_next : G.DefC K mg "_law_next" s__law_next ["stream", "many"]
  d__law_pick : G.DefC K mg "_law_pick" s__law_pick ["stream", "rows"]
  d__law_letters : G.DefC K mg "_law_letters" s__law_letters ["stream"]
  d__law_word : G.DefC K mg "_law_word" s__law_word ["stream", "letters", "least", "most"]
  d__law_word_at : G.DefC K mg "_law_word_at" s__law_word_at ["letters", "index"]
  d__law_before : G.DefC K mg "_law_before" s__law_before ["one", "other"]
  d__law_sample : G.DefC K mg "_law_sample" s__law_sample ["stream", "letters", "many", "total"]
  d__law_same : G.DefC K mg "_law_same" s__law_same ["actual", "due"]
  d__law_rich : G.DefC K mg "_law_rich" s__law_rich ["stream", "letters"]
  d__law_many : G.DefC K mg "_law_many" s__law_many ["sample"]
  d__law_right : G.DefC K mg "_law_right" s__law_right ["sample", "told"]
  d_law : G.DefC K mg "law" s_law ["script"]
  m__law_rich : G.Maker d__law_rich
  m_law : G.Maker d_law
  mP : [m__law_rich.P, m_law.P].Nodup
  c_MOST_LETTERS : ∃ t, mg "MOST_LETTERS" = some (.int 4 t)
  c_MOST_WORDS : ∃ t, mg "MOST_WORDS" = some (.int 200 t)
  c_MOST_IN_SAMPLE : ∃ t, mg "MOST_IN_SAMPLE" = some (.int 2000 t)
  n_abs : mg "abs" = none
  n_all : mg "all" = none
  n_bool : mg "bool" = none
  n_int : mg "int" = none
  n_isinstance : mg "isinstance" = none
  n_len : mg "len" = none
  n_list : mg "list" = none
  n_range : mg "range" = none
  n_sorted : mg "sorted" = none
  n_str : mg "str" = none
  n_sum : mg "sum" = none
  n_tuple : mg "tuple" = none
  n_zip : mg "zip" = none
def spSampR : Sp := fun vs H Q _ => ∃ L p ws, vs = [G.sv L, .ref p] ∧ G.Ltr L ∧ H p = some (.tup (ws.map G.sv)) ∧ G.Good L ws ∧ ∀ H', Same H H' → Q (.bl true) H'
def spChSampR : Sp := fun vs H Q _ => ∃ L p ws nm, vs = [G.sv L, .ref p, nm] ∧ G.Ltr L ∧ H p = some (.tup (ws.map G.sv)) ∧ G.Good L ws ∧ ∀ H', Same H H' → Q .non H'
def spBegsR : Sp := fun vs H Q _ => ∃ L p ws, vs = [G.sv L, .ref p] ∧ G.Ltr L ∧ H p = some (.tup (ws.map G.sv)) ∧ G.Good L ws ∧
  ∀ (ys : List (List Nat)) (q : Addr) (H' : Hp), G.Asc ys → (∀ w, w ∈ ys ↔ ∃ u ∈ ws, w <+: u) → Same H H' → H' q = some (.tup (ys.map G.sv)) → Q (.ref q) H'
section
variable {P : Program} {w : World} {K : PySem.W.Frag} {mg : Str → Option Value} {base : Heap}
theorem ok_is_letters (T : Tx K mg) : T.d_is_letters.Ok P w base CX0 1 G.spIsLtr := by
  refine T.d_is_letters.F.ok sc_is_letters (fun vs H Q E h => ?_) (fun cdv A outer s H vs Q E hr h => ?_)
  · obtain ⟨_, rfl, _⟩ := h; rfl
  · obtain ⟨l, rfl, hp, k⟩ := h
    refine ⟨_, (pss_cons (ps_if (PW.pt (pw_or (pt_not (pt_val (pe_callB G.is_str (by rfl) T.n_isinstance (by decide +kernel) (pa_cons (pv 0) (pa_cons (G.pe_ty (n := "str") (by rfl) T.n_str) pa_nil))))) (pw_or1 (pt_not (pt_chain op_le op_le pe_int (pe_callB G.call_lenS (by rfl) T.n_len (by decide +kernel) (pa_cons (pv 0) pa_nil)) (G.pe_gint (by rfl) T.c_MOST_LETTERS)))))) (pss_one (ps_ret pe_bl)) pss_nil)
      (pss_cons (ps_if (pt_not (pt_val (pe_callB (G.call_allL rfl) (by rfl) T.n_all (by decide +kernel) (pa_cons (pe_lc (own := [("letter", 3)]) (g := gName 3) (tt := tYes) rfl sc_is_letters.nd (pi_str (pv 0)) (blkOk_by (own := [("letter", 3)]) (N := ["value", "one", "other", "letter"]) (sc := defScope s_is_letters) (by decide +kernel)) (fun _ _ _ _ _ => pg_name (i := 3) sc_is_letters.nd rfl (Or.inl rfl)) (fun _ _ _ _ _ => pts_nil) (fun _ _ _ _ _ => (pe_chain G.op_leS G.op_leS (G.pe_strS (l := [97]) (by decide +kernel)) (pv 3) (G.pe_strS (l := [122]) (by decide +kernel))))) pa_nil)))) (pss_one (ps_ret pe_bl)) pss_nil)
      (pss_one (ps_ret (pe_callB (G.call_allL rfl) (by rfl) T.n_all (by decide +kernel) (pa_cons (pe_lc (own := [("one", 1), ("other", 2)]) (g := _) (tt := tYes) rfl sc_is_letters.nd (G.pi_z2 .S .S (by rfl) T.n_zip (pa_cons (pv 0) (pa_cons (pe_slice G.sl_S (pv 0) (po_some pe_int) po_none) pa_nil))) (blkOk_by (own := [("one", 1), ("other", 2)]) (N := ["value", "one", "other", "letter"]) (sc := defScope s_is_letters) (by decide +kernel)) (fun _ _ _ _ _ => G.pg_tupT 2 rfl (pgs_cons (pg_name (i := 1) sc_is_letters.nd rfl (Or.inl rfl)) (pgs_cons (pg_name (i := 2) sc_is_letters.nd rfl (Or.inl rfl)) pgs_nil))) (fun _ _ _ _ _ => pts_nil) (fun _ _ _ _ _ => (pe_cmpR G.op_ltS (pv 1) (pv 2) (nomark _)))) pa_nil)))))), ?_⟩
    have hpos := List.length_pos_iff.mpr hp.1
    have hl4 := hp.2.1
    have ll : l.length ≤ 16777216 := Nat.le_trans hl4 (by decide)
    simp only [tVar, tC, G.sl_is, G.lt1, Int.reduceLT, Int.reduceLE, Int.reduceNeg, Int.reducePow, Int.reduceToNat, Int.reduceSub, Int.reduceAdd, Int.reduceMul, Nat.reduceLT, Nat.reduceLeDiff, Int.zero_add, ne_eq,  HO.lst.injEq, List.dropLast_concat, G.last_get,  HO.tup.injEq, G.rII, G.rBB, G.rSS,  tOp, tUn, rI, rI0, rU, tAndV, tOrV, tNotV, tIf, tAnd, tOr, tNot, tNext, tSeq, tBreak, tCont, tDrop, tRet, tRetN, tIfS, gName, gNil, gCons, G.gTupT, G.gUnlT, gSub, gUnl, tAsg, tPar, tTest, tB, tChain,
      tNil, tCons, tTup, tLst, tCall, tCB, tBM, tBM0, tSl, tNoPart, tPart, rSetL, G.atI0, G.atI1, G.atI2, G.ixN30, G.ixN31, G.ixN32, G.cx_K, and_self, rEq, rNe, G.scal_bl, G.scal_int, G.scal_sv,  G.sv_str, G.Kn_sv, G.Kn_int, G.Kn_bl, G.Kn_non, G.isI_int, G.isI_bl, G.isI_sv, G.isI_ref, G.isI_non, G.isB_int, G.isB_bl, G.isB_sv, G.isB_ref, G.isB_non, G.isS_int, G.isS_bl, G.isS_sv, G.isS_ref, G.isS_non, G.isT_int, G.isT_bl, G.isT_sv, G.isT_non, G.isL_int, G.isL_bl, G.isL_sv, G.isL_non,  L2.upd_same,  rAppend, rExtend, rPop, iRng1, iRng2, iList, iTup, iStr, CDivN, CPow, CMul, rIsB, rNotB, rAdd, rSub, G.tFor_eq, G.tLc_eq, G.tLc2_eq, tM0, tM1, G.rJoinS, G.rIndexAz, G.ex_str, G.iZ2, G.iZ3, G.iZE, G.Kd.is, G.tRevS, G.rSlA1, G.at_lst, G.at_tup, G.at_txt, tYes, wipe,
      List.getElem?_cons_succ, List.getElem?_cons_zero, List.set_cons_succ, List.set_cons_zero, Option.some.injEq, exists_eq_left', exists_eq_left, exists_eq', exists_eq, V.int.injEq, V.bl.injEq, V.ref.injEq, G.sv_inj, List.cons.injEq, and_true, true_and,
      exists_and_left, and_assoc, exists_eq_right_right, exists_eq_right, decide_eq_true_eq, List.append_nil, List.nil_append, List.cons_append, Bool.not_eq_true', decide_eq_false_iff_not, Bool.not_false, Bool.not_true, Bool.false_eq_true, Bool.true_eq_false, not_true, not_false_iff, L2.start, List.map_cons, List.map_nil, List.length_cons, List.length_nil, List.replicate_zero, List.replicate_succ,
      Nat.reduceAdd, Nat.reduceSub, Nat.add_zero, Nat.zero_add, reduceCtorEq, false_and, exists_false, false_or, or_false, ite_true, ite_false, if_true, if_false, ll]
    rw [if_pos (by omega), if_neg (by simp; omega)]
    refine G.comp_strF (fun c => .bl (decide (97 ≤ c ∧ c ≤ 122))) ll (fun c H2 hc _ R hR => ?_) (fun D H2 hD s2 h2 => ?_)
    · have hz := hp.2.2.1 c hc
      simp only [tVar, tC, G.sl_is, G.lt1, Int.reduceLT, Int.reduceLE, Int.reduceNeg, Int.reducePow, Int.reduceToNat, Int.reduceSub, Int.reduceAdd, Int.reduceMul, Nat.reduceLT, Nat.reduceLeDiff, Int.zero_add, ne_eq,  HO.lst.injEq, List.dropLast_concat, G.last_get,  HO.tup.injEq, G.rII, G.rBB, G.rSS,  tOp, tUn, rI, rI0, rU, tAndV, tOrV, tNotV, tIf, tAnd, tOr, tNot, tNext, tSeq, tBreak, tCont, tDrop, tRet, tRetN, tIfS, gName, gNil, gCons, G.gTupT, G.gUnlT, gSub, gUnl, tAsg, tPar, tTest, tB, tChain,
      tNil, tCons, tTup, tLst, tCall, tCB, tBM, tBM0, tSl, tNoPart, tPart, rSetL, G.atI0, G.atI1, G.atI2, G.ixN30, G.ixN31, G.ixN32, G.cx_K, and_self, rEq, rNe, G.scal_bl, G.scal_int, G.scal_sv,  G.sv_str, G.Kn_sv, G.Kn_int, G.Kn_bl, G.Kn_non, G.isI_int, G.isI_bl, G.isI_sv, G.isI_ref, G.isI_non, G.isB_int, G.isB_bl, G.isB_sv, G.isB_ref, G.isB_non, G.isS_int, G.isS_bl, G.isS_sv, G.isS_ref, G.isS_non, G.isT_int, G.isT_bl, G.isT_sv, G.isT_non, G.isL_int, G.isL_bl, G.isL_sv, G.isL_non,  L2.upd_same,  rAppend, rExtend, rPop, iRng1, iRng2, iList, iTup, iStr, CDivN, CPow, CMul, rIsB, rNotB, rAdd, rSub, G.tFor_eq, G.tLc_eq, G.tLc2_eq, tM0, tM1, G.rJoinS, G.rIndexAz, G.ex_str, G.iZ2, G.iZ3, G.iZE, G.Kd.is, G.tRevS, G.rSlA1, G.at_lst, G.at_tup, G.at_txt, tYes, wipe,
      List.getElem?_cons_succ, List.getElem?_cons_zero, List.set_cons_succ, List.set_cons_zero, Option.some.injEq, exists_eq_left', exists_eq_left, exists_eq', exists_eq, V.int.injEq, V.bl.injEq, V.ref.injEq, G.sv_inj, List.cons.injEq, and_true, true_and,
      exists_and_left, and_assoc, exists_eq_right_right, exists_eq_right, decide_eq_true_eq, List.append_nil, List.nil_append, List.cons_append, Bool.not_eq_true', decide_eq_false_iff_not, Bool.not_false, Bool.not_true, Bool.false_eq_true, Bool.true_eq_false, not_true, not_false_iff, L2.start, List.map_cons, List.map_nil, List.length_cons, List.length_nil, List.replicate_zero, List.replicate_succ,
      Nat.reduceAdd, Nat.reduceSub, Nat.add_zero, Nat.zero_add, reduceCtorEq, false_and, exists_false, false_or, or_false, ite_true, ite_false, if_true, if_false]
      rw [if_pos (by omega)]
      have e : (!decide (122 < c)) = decide (97 ≤ c ∧ c ≤ 122) := by simp [hz]
      rw [e]; exact hR
    · simp only [tVar, tC, G.sl_is, G.lt1, Int.reduceLT, Int.reduceLE, Int.reduceNeg, Int.reducePow, Int.reduceToNat, Int.reduceSub, Int.reduceAdd, Int.reduceMul, Nat.reduceLT, Nat.reduceLeDiff, Int.zero_add, ne_eq,  HO.lst.injEq, List.dropLast_concat, G.last_get,  HO.tup.injEq, G.rII, G.rBB, G.rSS,  tOp, tUn, rI, rI0, rU, tAndV, tOrV, tNotV, tIf, tAnd, tOr, tNot, tNext, tSeq, tBreak, tCont, tDrop, tRet, tRetN, tIfS, gName, gNil, gCons, G.gTupT, G.gUnlT, gSub, gUnl, tAsg, tPar, tTest, tB, tChain,
      tNil, tCons, tTup, tLst, tCall, tCB, tBM, tBM0, tSl, tNoPart, tPart, rSetL, G.atI0, G.atI1, G.atI2, G.ixN30, G.ixN31, G.ixN32, G.cx_K, and_self, rEq, rNe, G.scal_bl, G.scal_int, G.scal_sv,  G.sv_str, G.Kn_sv, G.Kn_int, G.Kn_bl, G.Kn_non, G.isI_int, G.isI_bl, G.isI_sv, G.isI_ref, G.isI_non, G.isB_int, G.isB_bl, G.isB_sv, G.isB_ref, G.isB_non, G.isS_int, G.isS_bl, G.isS_sv, G.isS_ref, G.isS_non, G.isT_int, G.isT_bl, G.isT_sv, G.isT_non, G.isL_int, G.isL_bl, G.isL_sv, G.isL_non,  L2.upd_same,  rAppend, rExtend, rPop, iRng1, iRng2, iList, iTup, iStr, CDivN, CPow, CMul, rIsB, rNotB, rAdd, rSub, G.tFor_eq, G.tLc_eq, G.tLc2_eq, tM0, tM1, G.rJoinS, G.rIndexAz, G.ex_str, G.iZ2, G.iZ3, G.iZE, G.Kd.is, G.tRevS, G.rSlA1, G.at_lst, G.at_tup, G.at_txt, tYes, wipe,
      List.getElem?_cons_succ, List.getElem?_cons_zero, List.set_cons_succ, List.set_cons_zero, Option.some.injEq, exists_eq_left', exists_eq_left, exists_eq', exists_eq, V.int.injEq, V.bl.injEq, V.ref.injEq, G.sv_inj, List.cons.injEq, and_true, true_and,
      exists_and_left, and_assoc, exists_eq_right_right, exists_eq_right, decide_eq_true_eq, List.append_nil, List.nil_append, List.cons_append, Bool.not_eq_true', decide_eq_false_iff_not, Bool.not_false, Bool.not_true, Bool.false_eq_true, Bool.true_eq_false, not_true, not_false_iff, L2.start, List.map_cons, List.map_nil, List.length_cons, List.length_nil, List.replicate_zero, List.replicate_succ,
      Nat.reduceAdd, Nat.reduceSub, Nat.add_zero, Nat.zero_add, reduceCtorEq, false_and, exists_false, false_or, or_false, ite_true, ite_false, if_true, if_false]
      refine ⟨l.map (fun c => decide (97 ≤ c ∧ c ≤ 122)), by rw [h2, List.map_map]; rfl, ?_⟩
      have e : (l.map (fun c => decide (97 ≤ c ∧ c ≤ 122))).all id = true := by
        rw [List.all_eq_true]; intro b hb
        obtain ⟨c, hc, rfl⟩ := List.mem_map.mp hb
        simpa using hp.2.2.1 c hc
      rw [if_neg (by rw [e]; simp)]
      rw [show G.cutL l (some 1) none = l.drop 1 from G.cutL_from l 1]
      refine G.comp_itF (G.walk_z2 (K := K) (k1 := .txt l) (k2 := .txt (l.drop 1)) (xs := l.map fun c => G.sv [c]) (ys := (l.drop 1).map fun c => G.sv [c])) (fun _ => true) (fun _ => .bl true) (by rw [G.sl_is]; simp; omega) (fun _ _ => ⟨rfl, rfl⟩) (fun i H H' v hy => ?_) (fun i x H3 H4 hi s3 hy Z W hZ hW => ?_) (fun D2 H3 hD2 s3 h3 => ?_)
      · obtain ⟨T, x, y, rfl, hT, rfl, _⟩ := hy
        exact G.same_upd hT
      · obtain ⟨T, x, y, rfl, hT, rfl, hx, hy⟩ := hy
        simp only [List.getElem?_map, List.getElem?_drop] at hx hy
        obtain ⟨cx, hcx, rfl⟩ := Option.map_eq_some_iff.mp hx
        obtain ⟨cy, hcy, rfl⟩ := Option.map_eq_some_iff.mp hy
        have hlt : cx < cy := by
          obtain ⟨i1, e1⟩ := List.getElem?_eq_some_iff.mp hcx
          obtain ⟨i2, e2⟩ := List.getElem?_eq_some_iff.mp hcy
          rw [← e1, ← e2]
          exact List.pairwise_iff_getElem.mp hp.2.2.2 _ _ _ _ (by omega)
        simp only [tVar, tC, G.sl_is, G.lt1, Int.reduceLT, Int.reduceLE, Int.reduceNeg, Int.reducePow, Int.reduceToNat, Int.reduceSub, Int.reduceAdd, Int.reduceMul, Nat.reduceLT, Nat.reduceLeDiff, Int.zero_add, ne_eq,  HO.lst.injEq, List.dropLast_concat, G.last_get,  HO.tup.injEq, G.rII, G.rBB, G.rSS,  tOp, tUn, rI, rI0, rU, tAndV, tOrV, tNotV, tIf, tAnd, tOr, tNot, tNext, tSeq, tBreak, tCont, tDrop, tRet, tRetN, tIfS, gName, gNil, gCons, G.gTupT, G.gUnlT, gSub, gUnl, tAsg, tPar, tTest, tB, tChain,
      tNil, tCons, tTup, tLst, tCall, tCB, tBM, tBM0, tSl, tNoPart, tPart, rSetL, G.atI0, G.atI1, G.atI2, G.ixN30, G.ixN31, G.ixN32, G.cx_K, and_self, rEq, rNe, G.scal_bl, G.scal_int, G.scal_sv,  G.sv_str, G.Kn_sv, G.Kn_int, G.Kn_bl, G.Kn_non, G.isI_int, G.isI_bl, G.isI_sv, G.isI_ref, G.isI_non, G.isB_int, G.isB_bl, G.isB_sv, G.isB_ref, G.isB_non, G.isS_int, G.isS_bl, G.isS_sv, G.isS_ref, G.isS_non, G.isT_int, G.isT_bl, G.isT_sv, G.isT_non, G.isL_int, G.isL_bl, G.isL_sv, G.isL_non,  L2.upd_same,  rAppend, rExtend, rPop, iRng1, iRng2, iList, iTup, iStr, CDivN, CPow, CMul, rIsB, rNotB, rAdd, rSub, G.tFor_eq, G.tLc_eq, G.tLc2_eq, tM0, tM1, G.rJoinS, G.rIndexAz, G.ex_str, G.iZ2, G.iZ3, G.iZE, G.Kd.is, G.tRevS, G.rSlA1, G.at_lst, G.at_tup, G.at_txt, tYes, wipe,
      List.getElem?_cons_succ, List.getElem?_cons_zero, List.set_cons_succ, List.set_cons_zero, Option.some.injEq, exists_eq_left', exists_eq_left, exists_eq', exists_eq, V.int.injEq, V.bl.injEq, V.ref.injEq, G.sv_inj, List.cons.injEq, and_true, true_and,
      exists_and_left, and_assoc, exists_eq_right_right, exists_eq_right, decide_eq_true_eq, List.append_nil, List.nil_append, List.cons_append, Bool.not_eq_true', decide_eq_false_iff_not, Bool.not_false, Bool.not_true, Bool.false_eq_true, Bool.true_eq_false, not_true, not_false_iff, L2.start, List.map_cons, List.map_nil, List.length_cons, List.length_nil, List.replicate_zero, List.replicate_succ,
      Nat.reduceAdd, Nat.reduceSub, Nat.add_zero, Nat.zero_add, reduceCtorEq, false_and, exists_false, false_or, or_false, ite_true, ite_false, if_true, if_false, upd_same, hlt, decide_true]
        exact hW _ (Same.refl _) rfl
      · simp only [tVar, tC, G.sl_is, G.lt1, Int.reduceLT, Int.reduceLE, Int.reduceNeg, Int.reducePow, Int.reduceToNat, Int.reduceSub, Int.reduceAdd, Int.reduceMul, Nat.reduceLT, Nat.reduceLeDiff, Int.zero_add, ne_eq,  HO.lst.injEq, List.dropLast_concat, G.last_get,  HO.tup.injEq, G.rII, G.rBB, G.rSS,  tOp, tUn, rI, rI0, rU, tAndV, tOrV, tNotV, tIf, tAnd, tOr, tNot, tNext, tSeq, tBreak, tCont, tDrop, tRet, tRetN, tIfS, gName, gNil, gCons, G.gTupT, G.gUnlT, gSub, gUnl, tAsg, tPar, tTest, tB, tChain,
      tNil, tCons, tTup, tLst, tCall, tCB, tBM, tBM0, tSl, tNoPart, tPart, rSetL, G.atI0, G.atI1, G.atI2, G.ixN30, G.ixN31, G.ixN32, G.cx_K, and_self, rEq, rNe, G.scal_bl, G.scal_int, G.scal_sv,  G.sv_str, G.Kn_sv, G.Kn_int, G.Kn_bl, G.Kn_non, G.isI_int, G.isI_bl, G.isI_sv, G.isI_ref, G.isI_non, G.isB_int, G.isB_bl, G.isB_sv, G.isB_ref, G.isB_non, G.isS_int, G.isS_bl, G.isS_sv, G.isS_ref, G.isS_non, G.isT_int, G.isT_bl, G.isT_sv, G.isT_non, G.isL_int, G.isL_bl, G.isL_sv, G.isL_non,  L2.upd_same,  rAppend, rExtend, rPop, iRng1, iRng2, iList, iTup, iStr, CDivN, CPow, CMul, rIsB, rNotB, rAdd, rSub, G.tFor_eq, G.tLc_eq, G.tLc2_eq, tM0, tM1, G.rJoinS, G.rIndexAz, G.ex_str, G.iZ2, G.iZ3, G.iZE, G.Kd.is, G.tRevS, G.rSlA1, G.at_lst, G.at_tup, G.at_txt, tYes, wipe,
      List.getElem?_cons_succ, List.getElem?_cons_zero, List.set_cons_succ, List.set_cons_zero, Option.some.injEq, exists_eq_left', exists_eq_left, exists_eq', exists_eq, V.int.injEq, V.bl.injEq, V.ref.injEq, G.sv_inj, List.cons.injEq, and_true, true_and,
      exists_and_left, and_assoc, exists_eq_right_right, exists_eq_right, decide_eq_true_eq, List.append_nil, List.nil_append, List.cons_append, Bool.not_eq_true', decide_eq_false_iff_not, Bool.not_false, Bool.not_true, Bool.false_eq_true, Bool.true_eq_false, not_true, not_false_iff, L2.start, List.map_cons, List.map_nil, List.length_cons, List.length_nil, List.replicate_zero, List.replicate_succ,
      Nat.reduceAdd, Nat.reduceSub, Nat.add_zero, Nat.zero_add, reduceCtorEq, false_and, exists_false, false_or, or_false, ite_true, ite_false, if_true, if_false]
        refine ⟨List.replicate (min (l.map fun c => G.sv [c]).length ((l.drop 1).map fun c => G.sv [c]).length) true, ?_, ?_⟩
        · rw [h3, G.filt_true, List.length_range, List.map_replicate]
        · have e2 : ∀ n, (List.replicate n true).all id = true := fun n => by simp
          rw [e2]
          exact k H3 (s2.trans s3)
theorem ok_check_letters (T : Tx K mg) : T.d_check_letters.Ok P w base CX0 2 G.spChLtr := by
  refine T.d_check_letters.F.ok sc_check_letters (fun vs H Q E h => ?_) (fun cdv A outer s H vs Q E hr h => ?_)
  · obtain ⟨_, rfl, _⟩ := h; rfl
  · obtain ⟨l, rfl, hp, k⟩ := h
    have G_is_letters := ok_is_letters (P := P) (w := w) (base := base) T
    refine ⟨_, (pss_one (ps_if (pt_not (pt_val (G.pe_callD T.d_is_letters G_is_letters (hr.mono (by decide)) (pa_cons (pv 0) pa_nil)))) (pss_one ps_never) pss_nil)), ?_⟩
    simp only [tVar, tC, G.sl_is, G.lt1, Int.reduceLT, Int.reduceLE, Int.reduceNeg, Int.reducePow, Int.reduceToNat, Int.reduceSub, Int.reduceAdd, Int.reduceMul, Nat.reduceLT, Nat.reduceLeDiff, Int.zero_add, ne_eq,  HO.lst.injEq, List.dropLast_concat, G.last_get,  HO.tup.injEq, G.rII, G.rBB, G.rSS,  tOp, tUn, rI, rI0, rU, tAndV, tOrV, tNotV, tIf, tAnd, tOr, tNot, tNext, tSeq, tBreak, tCont, tDrop, tRet, tRetN, tIfS, gName, gNil, gCons, G.gTupT, G.gUnlT, gSub, gUnl, tAsg, tPar, tTest, tB, tChain,
      tNil, tCons, tTup, tLst, tCall, tCB, tBM, tBM0, tSl, tNoPart, tPart, rSetL, G.atI0, G.atI1, G.atI2, G.ixN30, G.ixN31, G.ixN32, G.cx_K, and_self, rEq, rNe, G.scal_bl, G.scal_int, G.scal_sv,  G.sv_str, G.Kn_sv, G.Kn_int, G.Kn_bl, G.Kn_non, G.isI_int, G.isI_bl, G.isI_sv, G.isI_ref, G.isI_non, G.isB_int, G.isB_bl, G.isB_sv, G.isB_ref, G.isB_non, G.isS_int, G.isS_bl, G.isS_sv, G.isS_ref, G.isS_non, G.isT_int, G.isT_bl, G.isT_sv, G.isT_non, G.isL_int, G.isL_bl, G.isL_sv, G.isL_non,  L2.upd_same,  rAppend, rExtend, rPop, iRng1, iRng2, iList, iTup, iStr, CDivN, CPow, CMul, rIsB, rNotB, rAdd, rSub, G.tFor_eq, G.tLc_eq, G.tLc2_eq, tM0, tM1, G.rJoinS, G.rIndexAz, G.ex_str, G.iZ2, G.iZ3, G.iZE, G.Kd.is, G.tRevS, G.rSlA1, G.at_lst, G.at_tup, G.at_txt, tYes, wipe,
      List.getElem?_cons_succ, List.getElem?_cons_zero, List.set_cons_succ, List.set_cons_zero, Option.some.injEq, exists_eq_left', exists_eq_left, exists_eq', exists_eq, V.int.injEq, V.bl.injEq, V.ref.injEq, G.sv_inj, List.cons.injEq, and_true, true_and,
      exists_and_left, and_assoc, exists_eq_right_right, exists_eq_right, decide_eq_true_eq, List.append_nil, List.nil_append, List.cons_append, Bool.not_eq_true', decide_eq_false_iff_not, Bool.not_false, Bool.not_true, Bool.false_eq_true, Bool.true_eq_false, not_true, not_false_iff, L2.start, List.map_cons, List.map_nil, List.length_cons, List.length_nil, List.replicate_zero, List.replicate_succ,
      Nat.reduceAdd, Nat.reduceSub, Nat.add_zero, Nat.zero_add, reduceCtorEq, false_and, exists_false, false_or, or_false, ite_true, ite_false, if_true, if_false, G.spIsLtr]
    exact ⟨hp, k⟩

theorem ok_is_text_of (T : Tx K mg) : T.d_is_text_of.Ok P w base CX0 1 G.spTextOf := by
  refine T.d_is_text_of.F.ok sc_is_text_of (fun vs H Q E h => ?_) (fun cdv A outer s H vs Q E hr h => ?_)
  · obtain ⟨_, _, rfl, _⟩ := h; rfl
  · obtain ⟨L, v, rfl, hk, hl, k⟩ := h
    refine ⟨_, (pss_one (ps_ret (pe_and (pe_callB G.is_str (by rfl) T.n_isinstance (by decide +kernel) (pa_cons (pv 1) (pa_cons (G.pe_ty (n := "str") (by rfl) T.n_str) pa_nil))) (pe_one (pe_callB (G.call_allL rfl) (by rfl) T.n_all (by decide +kernel) (pa_cons (pe_lc (own := [("letter", 2)]) (g := gName 2) (tt := tYes) rfl sc_is_text_of.nd (pi_str (pv 1)) (blkOk_by (own := [("letter", 2)]) (N := ["letters", "value", "letter"]) (sc := defScope s_is_text_of) (by decide +kernel)) (fun _ _ _ _ _ => pg_name (i := 2) sc_is_text_of.nd rfl (Or.inl rfl)) (fun _ _ _ _ _ => pts_nil) (fun _ _ _ _ _ => (pe_cmpR G.op_inS (pv 2) (pv 0) rfl))) pa_nil)))))), ?_⟩
    rcases G.v_cases v with ⟨l, rfl⟩ | ⟨hS, hT⟩
    · have ll := hl l rfl
      have kx : ∀ H', Same H H' → Q (.bl (G.over L l)) H' := fun H' s => by have := k H' s; unfold G.overV at this; rw [G.txt_sv] at this; exact this
      clear k
      simp only [tVar, tC, G.sl_is, G.lt1, Int.reduceLT, Int.reduceLE, Int.reduceNeg, Int.reducePow, Int.reduceToNat, Int.reduceSub, Int.reduceAdd, Int.reduceMul, Nat.reduceLT, Nat.reduceLeDiff, Int.zero_add, ne_eq,  HO.lst.injEq, List.dropLast_concat, G.last_get,  HO.tup.injEq, G.rII, G.rBB, G.rSS,  tOp, tUn, rI, rI0, rU, tAndV, tOrV, tNotV, tIf, tAnd, tOr, tNot, tNext, tSeq, tBreak, tCont, tDrop, tRet, tRetN, tIfS, gName, gNil, gCons, G.gTupT, G.gUnlT, gSub, gUnl, tAsg, tPar, tTest, tB, tChain,
      tNil, tCons, tTup, tLst, tCall, tCB, tBM, tBM0, tSl, tNoPart, tPart, rSetL, G.atI0, G.atI1, G.atI2, G.ixN30, G.ixN31, G.ixN32, G.cx_K, and_self, rEq, rNe, G.scal_bl, G.scal_int, G.scal_sv,  G.sv_str, G.Kn_sv, G.Kn_int, G.Kn_bl, G.Kn_non, G.isI_int, G.isI_bl, G.isI_sv, G.isI_ref, G.isI_non, G.isB_int, G.isB_bl, G.isB_sv, G.isB_ref, G.isB_non, G.isS_int, G.isS_bl, G.isS_sv, G.isS_ref, G.isS_non, G.isT_int, G.isT_bl, G.isT_sv, G.isT_non, G.isL_int, G.isL_bl, G.isL_sv, G.isL_non,  L2.upd_same,  rAppend, rExtend, rPop, iRng1, iRng2, iList, iTup, iStr, CDivN, CPow, CMul, rIsB, rNotB, rAdd, rSub, G.tFor_eq, G.tLc_eq, G.tLc2_eq, tM0, tM1, G.rJoinS, G.rIndexAz, G.ex_str, G.iZ2, G.iZ3, G.iZE, G.Kd.is, G.tRevS, G.rSlA1, G.at_lst, G.at_tup, G.at_txt, tYes, wipe,
      List.getElem?_cons_succ, List.getElem?_cons_zero, List.set_cons_succ, List.set_cons_zero, Option.some.injEq, exists_eq_left', exists_eq_left, exists_eq', exists_eq, V.int.injEq, V.bl.injEq, V.ref.injEq, G.sv_inj, List.cons.injEq, and_true, true_and,
      exists_and_left, and_assoc, exists_eq_right_right, exists_eq_right, decide_eq_true_eq, List.append_nil, List.nil_append, List.cons_append, Bool.not_eq_true', decide_eq_false_iff_not, Bool.not_false, Bool.not_true, Bool.false_eq_true, Bool.true_eq_false, not_true, not_false_iff, L2.start, List.map_cons, List.map_nil, List.length_cons, List.length_nil, List.replicate_zero, List.replicate_succ,
      Nat.reduceAdd, Nat.reduceSub, Nat.add_zero, Nat.zero_add, reduceCtorEq, false_and, exists_false, false_or, or_false, ite_true, ite_false, if_true, if_false, ll]
      refine G.comp_strF (fun c => .bl (decide (c ∈ L))) ll (fun c H2 hc _ R hR => ?_) (fun D H2 hD s2 h2 => ?_)
      · simp only [tVar, tC, G.sl_is, G.lt1, Int.reduceLT, Int.reduceLE, Int.reduceNeg, Int.reducePow, Int.reduceToNat, Int.reduceSub, Int.reduceAdd, Int.reduceMul, Nat.reduceLT, Nat.reduceLeDiff, Int.zero_add, ne_eq,  HO.lst.injEq, List.dropLast_concat, G.last_get,  HO.tup.injEq, G.rII, G.rBB, G.rSS,  tOp, tUn, rI, rI0, rU, tAndV, tOrV, tNotV, tIf, tAnd, tOr, tNot, tNext, tSeq, tBreak, tCont, tDrop, tRet, tRetN, tIfS, gName, gNil, gCons, G.gTupT, G.gUnlT, gSub, gUnl, tAsg, tPar, tTest, tB, tChain,
      tNil, tCons, tTup, tLst, tCall, tCB, tBM, tBM0, tSl, tNoPart, tPart, rSetL, G.atI0, G.atI1, G.atI2, G.ixN30, G.ixN31, G.ixN32, G.cx_K, and_self, rEq, rNe, G.scal_bl, G.scal_int, G.scal_sv,  G.sv_str, G.Kn_sv, G.Kn_int, G.Kn_bl, G.Kn_non, G.isI_int, G.isI_bl, G.isI_sv, G.isI_ref, G.isI_non, G.isB_int, G.isB_bl, G.isB_sv, G.isB_ref, G.isB_non, G.isS_int, G.isS_bl, G.isS_sv, G.isS_ref, G.isS_non, G.isT_int, G.isT_bl, G.isT_sv, G.isT_non, G.isL_int, G.isL_bl, G.isL_sv, G.isL_non,  L2.upd_same,  rAppend, rExtend, rPop, iRng1, iRng2, iList, iTup, iStr, CDivN, CPow, CMul, rIsB, rNotB, rAdd, rSub, G.tFor_eq, G.tLc_eq, G.tLc2_eq, tM0, tM1, G.rJoinS, G.rIndexAz, G.ex_str, G.iZ2, G.iZ3, G.iZE, G.Kd.is, G.tRevS, G.rSlA1, G.at_lst, G.at_tup, G.at_txt, tYes, wipe,
      List.getElem?_cons_succ, List.getElem?_cons_zero, List.set_cons_succ, List.set_cons_zero, Option.some.injEq, exists_eq_left', exists_eq_left, exists_eq', exists_eq, V.int.injEq, V.bl.injEq, V.ref.injEq, G.sv_inj, List.cons.injEq, and_true, true_and,
      exists_and_left, and_assoc, exists_eq_right_right, exists_eq_right, decide_eq_true_eq, List.append_nil, List.nil_append, List.cons_append, Bool.not_eq_true', decide_eq_false_iff_not, Bool.not_false, Bool.not_true, Bool.false_eq_true, Bool.true_eq_false, not_true, not_false_iff, L2.start, List.map_cons, List.map_nil, List.length_cons, List.length_nil, List.replicate_zero, List.replicate_succ,
      Nat.reduceAdd, Nat.reduceSub, Nat.add_zero, Nat.zero_add, reduceCtorEq, false_and, exists_false, false_or, or_false, ite_true, ite_false, if_true, if_false]
        exact hR
      · simp only [tVar, tC, G.sl_is, G.lt1, Int.reduceLT, Int.reduceLE, Int.reduceNeg, Int.reducePow, Int.reduceToNat, Int.reduceSub, Int.reduceAdd, Int.reduceMul, Nat.reduceLT, Nat.reduceLeDiff, Int.zero_add, ne_eq,  HO.lst.injEq, List.dropLast_concat, G.last_get,  HO.tup.injEq, G.rII, G.rBB, G.rSS,  tOp, tUn, rI, rI0, rU, tAndV, tOrV, tNotV, tIf, tAnd, tOr, tNot, tNext, tSeq, tBreak, tCont, tDrop, tRet, tRetN, tIfS, gName, gNil, gCons, G.gTupT, G.gUnlT, gSub, gUnl, tAsg, tPar, tTest, tB, tChain,
      tNil, tCons, tTup, tLst, tCall, tCB, tBM, tBM0, tSl, tNoPart, tPart, rSetL, G.atI0, G.atI1, G.atI2, G.ixN30, G.ixN31, G.ixN32, G.cx_K, and_self, rEq, rNe, G.scal_bl, G.scal_int, G.scal_sv,  G.sv_str, G.Kn_sv, G.Kn_int, G.Kn_bl, G.Kn_non, G.isI_int, G.isI_bl, G.isI_sv, G.isI_ref, G.isI_non, G.isB_int, G.isB_bl, G.isB_sv, G.isB_ref, G.isB_non, G.isS_int, G.isS_bl, G.isS_sv, G.isS_ref, G.isS_non, G.isT_int, G.isT_bl, G.isT_sv, G.isT_non, G.isL_int, G.isL_bl, G.isL_sv, G.isL_non,  L2.upd_same,  rAppend, rExtend, rPop, iRng1, iRng2, iList, iTup, iStr, CDivN, CPow, CMul, rIsB, rNotB, rAdd, rSub, G.tFor_eq, G.tLc_eq, G.tLc2_eq, tM0, tM1, G.rJoinS, G.rIndexAz, G.ex_str, G.iZ2, G.iZ3, G.iZE, G.Kd.is, G.tRevS, G.rSlA1, G.at_lst, G.at_tup, G.at_txt, tYes, wipe,
      List.getElem?_cons_succ, List.getElem?_cons_zero, List.set_cons_succ, List.set_cons_zero, Option.some.injEq, exists_eq_left', exists_eq_left, exists_eq', exists_eq, V.int.injEq, V.bl.injEq, V.ref.injEq, G.sv_inj, List.cons.injEq, and_true, true_and,
      exists_and_left, and_assoc, exists_eq_right_right, exists_eq_right, decide_eq_true_eq, List.append_nil, List.nil_append, List.cons_append, Bool.not_eq_true', decide_eq_false_iff_not, Bool.not_false, Bool.not_true, Bool.false_eq_true, Bool.true_eq_false, not_true, not_false_iff, L2.start, List.map_cons, List.map_nil, List.length_cons, List.length_nil, List.replicate_zero, List.replicate_succ,
      Nat.reduceAdd, Nat.reduceSub, Nat.add_zero, Nat.zero_add, reduceCtorEq, false_and, exists_false, false_or, or_false, ite_true, ite_false, if_true, if_false]
        refine ⟨l.map (fun c => decide (c ∈ L)), by rw [h2, List.map_map]; rfl, ?_⟩
        have e1 : (l.map (fun c => decide (c ∈ L))).all id = G.over L l := by rw [List.all_map]; rfl
        rw [e1]; exact kx H2 s2
    · have kx : ∀ H', Same H H' → Q (.bl false) H' := fun H' s => by have := k H' s; unfold G.overV at this; rw [hT] at this; exact this
      simp only [tVar, tC, G.sl_is, G.lt1, Int.reduceLT, Int.reduceLE, Int.reduceNeg, Int.reducePow, Int.reduceToNat, Int.reduceSub, Int.reduceAdd, Int.reduceMul, Nat.reduceLT, Nat.reduceLeDiff, Int.zero_add, ne_eq,  HO.lst.injEq, List.dropLast_concat, G.last_get,  HO.tup.injEq, G.rII, G.rBB, G.rSS,  tOp, tUn, rI, rI0, rU, tAndV, tOrV, tNotV, tIf, tAnd, tOr, tNot, tNext, tSeq, tBreak, tCont, tDrop, tRet, tRetN, tIfS, gName, gNil, gCons, G.gTupT, G.gUnlT, gSub, gUnl, tAsg, tPar, tTest, tB, tChain,
      tNil, tCons, tTup, tLst, tCall, tCB, tBM, tBM0, tSl, tNoPart, tPart, rSetL, G.atI0, G.atI1, G.atI2, G.ixN30, G.ixN31, G.ixN32, G.cx_K, and_self, rEq, rNe, G.scal_bl, G.scal_int, G.scal_sv,  G.sv_str, G.Kn_sv, G.Kn_int, G.Kn_bl, G.Kn_non, G.isI_int, G.isI_bl, G.isI_sv, G.isI_ref, G.isI_non, G.isB_int, G.isB_bl, G.isB_sv, G.isB_ref, G.isB_non, G.isS_int, G.isS_bl, G.isS_sv, G.isS_ref, G.isS_non, G.isT_int, G.isT_bl, G.isT_sv, G.isT_non, G.isL_int, G.isL_bl, G.isL_sv, G.isL_non,  L2.upd_same,  rAppend, rExtend, rPop, iRng1, iRng2, iList, iTup, iStr, CDivN, CPow, CMul, rIsB, rNotB, rAdd, rSub, G.tFor_eq, G.tLc_eq, G.tLc2_eq, tM0, tM1, G.rJoinS, G.rIndexAz, G.ex_str, G.iZ2, G.iZ3, G.iZE, G.Kd.is, G.tRevS, G.rSlA1, G.at_lst, G.at_tup, G.at_txt, tYes, wipe,
      List.getElem?_cons_succ, List.getElem?_cons_zero, List.set_cons_succ, List.set_cons_zero, Option.some.injEq, exists_eq_left', exists_eq_left, exists_eq', exists_eq, V.int.injEq, V.bl.injEq, V.ref.injEq, G.sv_inj, List.cons.injEq, and_true, true_and,
      exists_and_left, and_assoc, exists_eq_right_right, exists_eq_right, decide_eq_true_eq, List.append_nil, List.nil_append, List.cons_append, Bool.not_eq_true', decide_eq_false_iff_not, Bool.not_false, Bool.not_true, Bool.false_eq_true, Bool.true_eq_false, not_true, not_false_iff, L2.start, List.map_cons, List.map_nil, List.length_cons, List.length_nil, List.replicate_zero, List.replicate_succ,
      Nat.reduceAdd, Nat.reduceSub, Nat.add_zero, Nat.zero_add, reduceCtorEq, false_and, exists_false, false_or, or_false, ite_true, ite_false, if_true, if_false, hS]
      exact ⟨hk, kx H (Same.refl _)⟩

theorem ok_order_of (T : Tx K mg) : T.d_order_of.Ok P w base CX0 1 G.spOrder := by
  refine T.d_order_of.F.ok sc_order_of (fun vs H Q E h => ?_) (fun cdv A outer s H vs Q E hr h => ?_)
  · obtain ⟨_, rfl, _⟩ := h; rfl
  · obtain ⟨a, rfl, hl, k⟩ := h
    refine ⟨_, (pss_one (ps_ret (pe_tup (pa_cons (pe_callB G.call_lenS (by rfl) T.n_len (by decide +kernel) (pa_cons (pv 0) pa_nil)) (pa_cons (pv 0) pa_nil))))), ?_⟩
    simp only [tVar, tC, G.sl_is, G.lt1, Int.reduceLT, Int.reduceLE, Int.reduceNeg, Int.reducePow, Int.reduceToNat, Int.reduceSub, Int.reduceAdd, Int.reduceMul, Nat.reduceLT, Nat.reduceLeDiff, Int.zero_add, ne_eq,  HO.lst.injEq, List.dropLast_concat, G.last_get,  HO.tup.injEq, G.rII, G.rBB, G.rSS,  tOp, tUn, rI, rI0, rU, tAndV, tOrV, tNotV, tIf, tAnd, tOr, tNot, tNext, tSeq, tBreak, tCont, tDrop, tRet, tRetN, tIfS, gName, gNil, gCons, G.gTupT, G.gUnlT, gSub, gUnl, tAsg, tPar, tTest, tB, tChain,
      tNil, tCons, tTup, tLst, tCall, tCB, tBM, tBM0, tSl, tNoPart, tPart, rSetL, G.atI0, G.atI1, G.atI2, G.ixN30, G.ixN31, G.ixN32, G.cx_K, and_self, rEq, rNe, G.scal_bl, G.scal_int, G.scal_sv,  G.sv_str, G.Kn_sv, G.Kn_int, G.Kn_bl, G.Kn_non, G.isI_int, G.isI_bl, G.isI_sv, G.isI_ref, G.isI_non, G.isB_int, G.isB_bl, G.isB_sv, G.isB_ref, G.isB_non, G.isS_int, G.isS_bl, G.isS_sv, G.isS_ref, G.isS_non, G.isT_int, G.isT_bl, G.isT_sv, G.isT_non, G.isL_int, G.isL_bl, G.isL_sv, G.isL_non,  L2.upd_same,  rAppend, rExtend, rPop, iRng1, iRng2, iList, iTup, iStr, CDivN, CPow, CMul, rIsB, rNotB, rAdd, rSub, G.tFor_eq, G.tLc_eq, G.tLc2_eq, tM0, tM1, G.rJoinS, G.rIndexAz, G.ex_str, G.iZ2, G.iZ3, G.iZE, G.Kd.is, G.tRevS, G.rSlA1, G.at_lst, G.at_tup, G.at_txt, tYes, wipe,
      List.getElem?_cons_succ, List.getElem?_cons_zero, List.set_cons_succ, List.set_cons_zero, Option.some.injEq, exists_eq_left', exists_eq_left, exists_eq', exists_eq, V.int.injEq, V.bl.injEq, V.ref.injEq, G.sv_inj, List.cons.injEq, and_true, true_and,
      exists_and_left, and_assoc, exists_eq_right_right, exists_eq_right, decide_eq_true_eq, List.append_nil, List.nil_append, List.cons_append, Bool.not_eq_true', decide_eq_false_iff_not, Bool.not_false, Bool.not_true, Bool.false_eq_true, Bool.true_eq_false, not_true, not_false_iff, L2.start, List.map_cons, List.map_nil, List.length_cons, List.length_nil, List.replicate_zero, List.replicate_succ,
      Nat.reduceAdd, Nat.reduceSub, Nat.add_zero, Nat.zero_add, reduceCtorEq, false_and, exists_false, false_or, or_false, ite_true, ite_false, if_true, if_false, hl]
    exact k

theorem ok_has_sample_form (T : Tx K mg) : T.d_has_sample_form.Ok P w base CX0 2 G.spForm := by
  refine T.d_has_sample_form.F.ok sc_has_sample_form (fun vs H Q E h => ?_) (fun cdv A outer s H vs Q E hr h => ?_)
  · obtain ⟨_, _, _, _, rfl, _⟩ := h; rfl
  · obtain ⟨L, u, most, longest, rfl, hlong, hmost, h⟩ := h
    have G_order_of := ok_order_of (P := P) (w := w) (base := base) T
    have G_is_text_of := ok_is_text_of (P := P) (w := w) (base := base) T
    refine ⟨_, (pss_cons (ps_if (PW.pt (pw_or (pt_not (pt_val (pe_callB G.is_tup (by rfl) T.n_isinstance (by decide +kernel) (pa_cons (pv 1) (pa_cons (G.pe_ty (n := "tuple") (by rfl) T.n_tuple) pa_nil))))) (pw_or1 (pt_cmpR op_gt (pe_callB G.call_lenT (by rfl) T.n_len (by decide +kernel) (pa_cons (pv 1) pa_nil)) (pv 2) (nomark _))))) (pss_one (ps_ret pe_bl)) pss_nil)
      (pss_cons (ps_for PassesOwn.never rfl (pi_tup (pv 1)) (pg_name (i := 4) sc_has_sample_form.nd rfl (Or.inl rfl)) (pss_one (ps_if (PW.pt (pw_or (pt_not (pt_val (G.pe_callD T.d_is_text_of G_is_text_of (hr.mono (by decide)) (pa_cons (pv 0) (pa_cons (pv 4) pa_nil))))) (pw_or1 (pt_cmpR op_gt (pe_callB G.call_lenS (by rfl) T.n_len (by decide +kernel) (pa_cons (pv 4) pa_nil)) (pv 3) (nomark _))))) (pss_one (ps_ret pe_bl)) pss_nil)))
      (pss_one (ps_ret (pe_callB (G.call_allL rfl) (by rfl) T.n_all (by decide +kernel) (pa_cons (pe_lc (own := [("one", 5), ("other", 6)]) (g := _) (tt := tYes) rfl sc_has_sample_form.nd (G.pi_z2 .T .T (by rfl) T.n_zip (pa_cons (pv 1) (pa_cons (pe_slice G.sl_T (pv 1) (po_some pe_int) po_none) pa_nil))) (blkOk_by (own := [("one", 5), ("other", 6)]) (N := ["letters", "value", "most", "longest", "word", "one", "other"]) (sc := defScope s_has_sample_form) (by decide +kernel)) (fun _ _ _ _ _ => G.pg_tupT 2 rfl (pgs_cons (pg_name (i := 5) sc_has_sample_form.nd rfl (Or.inl rfl)) (pgs_cons (pg_name (i := 6) sc_has_sample_form.nd rfl (Or.inl rfl)) pgs_nil))) (fun _ _ _ _ _ => pts_nil) (fun _ _ _ _ _ => (pe_cmpR (G.op_ltKR hr) (G.pe_callD T.d_order_of G_order_of (hr.mono (by decide)) (pa_cons (pv 5) pa_nil)) (G.pe_callD T.d_order_of G_order_of (hr.mono (by decide)) (pa_cons (pv 6) pa_nil)) (nomark _)))) pa_nil)))))), ?_⟩
    rcases h with ⟨hk, hT, k⟩ | ⟨p, xs, rfl, hp, hxs, k⟩
    · simp only [tVar, tC, G.sl_is, G.lt1, Int.reduceLT, Int.reduceLE, Int.reduceNeg, Int.reducePow, Int.reduceToNat, Int.reduceSub, Int.reduceAdd, Int.reduceMul, Nat.reduceLT, Nat.reduceLeDiff, Int.zero_add, ne_eq,  HO.lst.injEq, List.dropLast_concat, G.last_get,  HO.tup.injEq, G.rII, G.rBB, G.rSS,  tOp, tUn, rI, rI0, rU, tAndV, tOrV, tNotV, tIf, tAnd, tOr, tNot, tNext, tSeq, tBreak, tCont, tDrop, tRet, tRetN, tIfS, gName, gNil, gCons, G.gTupT, G.gUnlT, gSub, gUnl, tAsg, tPar, tTest, tB, tChain,
      tNil, tCons, tTup, tLst, tCall, tCB, tBM, tBM0, tSl, tNoPart, tPart, rSetL, G.atI0, G.atI1, G.atI2, G.ixN30, G.ixN31, G.ixN32, G.cx_K, and_self, rEq, rNe, G.scal_bl, G.scal_int, G.scal_sv,  G.sv_str, G.Kn_sv, G.Kn_int, G.Kn_bl, G.Kn_non, G.isI_int, G.isI_bl, G.isI_sv, G.isI_ref, G.isI_non, G.isB_int, G.isB_bl, G.isB_sv, G.isB_ref, G.isB_non, G.isS_int, G.isS_bl, G.isS_sv, G.isS_ref, G.isS_non, G.isT_int, G.isT_bl, G.isT_sv, G.isT_non, G.isL_int, G.isL_bl, G.isL_sv, G.isL_non,  L2.upd_same,  rAppend, rExtend, rPop, iRng1, iRng2, iList, iTup, iStr, CDivN, CPow, CMul, rIsB, rNotB, rAdd, rSub, G.tFor_eq, G.tLc_eq, G.tLc2_eq, tM0, tM1, G.rJoinS, G.rIndexAz, G.ex_str, G.iZ2, G.iZ3, G.iZE, G.Kd.is, G.tRevS, G.rSlA1, G.at_lst, G.at_tup, G.at_txt, tYes, wipe,
      List.getElem?_cons_succ, List.getElem?_cons_zero, List.set_cons_succ, List.set_cons_zero, Option.some.injEq, exists_eq_left', exists_eq_left, exists_eq', exists_eq, V.int.injEq, V.bl.injEq, V.ref.injEq, G.sv_inj, List.cons.injEq, and_true, true_and,
      exists_and_left, and_assoc, exists_eq_right_right, exists_eq_right, decide_eq_true_eq, List.append_nil, List.nil_append, List.cons_append, Bool.not_eq_true', decide_eq_false_iff_not, Bool.not_false, Bool.not_true, Bool.false_eq_true, Bool.true_eq_false, not_true, not_false_iff, L2.start, List.map_cons, List.map_nil, List.length_cons, List.length_nil, List.replicate_zero, List.replicate_succ,
      Nat.reduceAdd, Nat.reduceSub, Nat.add_zero, Nat.zero_add, reduceCtorEq, false_and, exists_false, false_or, or_false, ite_true, ite_false, if_true, if_false, hT]
      exact ⟨hk, k⟩
    simp only [tVar, tC, G.sl_is, G.lt1, Int.reduceLT, Int.reduceLE, Int.reduceNeg, Int.reducePow, Int.reduceToNat, Int.reduceSub, Int.reduceAdd, Int.reduceMul, Nat.reduceLT, Nat.reduceLeDiff, Int.zero_add, ne_eq,  HO.lst.injEq, List.dropLast_concat, G.last_get,  HO.tup.injEq, G.rII, G.rBB, G.rSS,  tOp, tUn, rI, rI0, rU, tAndV, tOrV, tNotV, tIf, tAnd, tOr, tNot, tNext, tSeq, tBreak, tCont, tDrop, tRet, tRetN, tIfS, gName, gNil, gCons, G.gTupT, G.gUnlT, gSub, gUnl, tAsg, tPar, tTest, tB, tChain,
      tNil, tCons, tTup, tLst, tCall, tCB, tBM, tBM0, tSl, tNoPart, tPart, rSetL, G.atI0, G.atI1, G.atI2, G.ixN30, G.ixN31, G.ixN32, G.cx_K, and_self, rEq, rNe, G.scal_bl, G.scal_int, G.scal_sv,  G.sv_str, G.Kn_sv, G.Kn_int, G.Kn_bl, G.Kn_non, G.isI_int, G.isI_bl, G.isI_sv, G.isI_ref, G.isI_non, G.isB_int, G.isB_bl, G.isB_sv, G.isB_ref, G.isB_non, G.isS_int, G.isS_bl, G.isS_sv, G.isS_ref, G.isS_non, G.isT_int, G.isT_bl, G.isT_sv, G.isT_non, G.isL_int, G.isL_bl, G.isL_sv, G.isL_non,  L2.upd_same,  rAppend, rExtend, rPop, iRng1, iRng2, iList, iTup, iStr, CDivN, CPow, CMul, rIsB, rNotB, rAdd, rSub, G.tFor_eq, G.tLc_eq, G.tLc2_eq, tM0, tM1, G.rJoinS, G.rIndexAz, G.ex_str, G.iZ2, G.iZ3, G.iZE, G.Kd.is, G.tRevS, G.rSlA1, G.at_lst, G.at_tup, G.at_txt, tYes, wipe,
      List.getElem?_cons_succ, List.getElem?_cons_zero, List.set_cons_succ, List.set_cons_zero, Option.some.injEq, exists_eq_left', exists_eq_left, exists_eq', exists_eq, V.int.injEq, V.bl.injEq, V.ref.injEq, G.sv_inj, List.cons.injEq, and_true, true_and,
      exists_and_left, and_assoc, exists_eq_right_right, exists_eq_right, decide_eq_true_eq, List.append_nil, List.nil_append, List.cons_append, Bool.not_eq_true', decide_eq_false_iff_not, Bool.not_false, Bool.not_true, Bool.false_eq_true, Bool.true_eq_false, not_true, not_false_iff, L2.start, List.map_cons, List.map_nil, List.length_cons, List.length_nil, List.replicate_zero, List.replicate_succ,
      Nat.reduceAdd, Nat.reduceSub, Nat.add_zero, Nat.zero_add, reduceCtorEq, false_and, exists_false, false_or, or_false, ite_true, ite_false, if_true, if_false, G.spOrder, hp, G.Kn_tup hp, G.isT_tup hp]
    refine G.ite_i (fun h1 => ?_) fun h1 => ?_
    · have e : G.formB L most longest xs = false := by
        unfold G.formB
        rw [decide_eq_false (by omega)]; rfl
      rw [← e]; exact k H (Same.refl _)
    have e0 : decide ((xs.length : Int) ≤ most) = true := decide_eq_true (by omega)
    refine ⟨⟨_, .inl (.inl hp)⟩, ?_⟩
    refine G.loop_tup (xs := xs) (fun i σ H' => Same H H' ∧ (∀ j x, j < i → xs[j]? = some x → G.okW L longest x = true) ∧ ∃ v4 v5 v6, σ = [some (G.sv L), some (.ref p), some (.int most), some (.int longest), v4, v5, v6]) ⟨Same.refl _, fun j x h => absurd h (by omega), _, _, _, rfl⟩ (fun i σ H' hi hP => .inl (.inl (hP.1 _ _ hp))) (fun M hM i x σ H' hx hP => ?_) (fun σ H' hP => ?_)
    · obtain ⟨s1, hok, v4, v5, v6, rfl⟩ := hP
      have hxm := hxs x (List.mem_of_getElem? hx)
      simp only [tVar, tC, G.sl_is, G.lt1, Int.reduceLT, Int.reduceLE, Int.reduceNeg, Int.reducePow, Int.reduceToNat, Int.reduceSub, Int.reduceAdd, Int.reduceMul, Nat.reduceLT, Nat.reduceLeDiff, Int.zero_add, ne_eq,  HO.lst.injEq, List.dropLast_concat, G.last_get,  HO.tup.injEq, G.rII, G.rBB, G.rSS,  tOp, tUn, rI, rI0, rU, tAndV, tOrV, tNotV, tIf, tAnd, tOr, tNot, tNext, tSeq, tBreak, tCont, tDrop, tRet, tRetN, tIfS, gName, gNil, gCons, G.gTupT, G.gUnlT, gSub, gUnl, tAsg, tPar, tTest, tB, tChain,
      tNil, tCons, tTup, tLst, tCall, tCB, tBM, tBM0, tSl, tNoPart, tPart, rSetL, G.atI0, G.atI1, G.atI2, G.ixN30, G.ixN31, G.ixN32, G.cx_K, and_self, rEq, rNe, G.scal_bl, G.scal_int, G.scal_sv,  G.sv_str, G.Kn_sv, G.Kn_int, G.Kn_bl, G.Kn_non, G.isI_int, G.isI_bl, G.isI_sv, G.isI_ref, G.isI_non, G.isB_int, G.isB_bl, G.isB_sv, G.isB_ref, G.isB_non, G.isS_int, G.isS_bl, G.isS_sv, G.isS_ref, G.isS_non, G.isT_int, G.isT_bl, G.isT_sv, G.isT_non, G.isL_int, G.isL_bl, G.isL_sv, G.isL_non,  L2.upd_same,  rAppend, rExtend, rPop, iRng1, iRng2, iList, iTup, iStr, CDivN, CPow, CMul, rIsB, rNotB, rAdd, rSub, G.tFor_eq, G.tLc_eq, G.tLc2_eq, tM0, tM1, G.rJoinS, G.rIndexAz, G.ex_str, G.iZ2, G.iZ3, G.iZE, G.Kd.is, G.tRevS, G.rSlA1, G.at_lst, G.at_tup, G.at_txt, tYes, wipe,
      List.getElem?_cons_succ, List.getElem?_cons_zero, List.set_cons_succ, List.set_cons_zero, Option.some.injEq, exists_eq_left', exists_eq_left, exists_eq', exists_eq, V.int.injEq, V.bl.injEq, V.ref.injEq, G.sv_inj, List.cons.injEq, and_true, true_and,
      exists_and_left, and_assoc, exists_eq_right_right, exists_eq_right, decide_eq_true_eq, List.append_nil, List.nil_append, List.cons_append, Bool.not_eq_true', decide_eq_false_iff_not, Bool.not_false, Bool.not_true, Bool.false_eq_true, Bool.true_eq_false, not_true, not_false_iff, L2.start, List.map_cons, List.map_nil, List.length_cons, List.length_nil, List.replicate_zero, List.replicate_succ,
      Nat.reduceAdd, Nat.reduceSub, Nat.add_zero, Nat.zero_add, reduceCtorEq, false_and, exists_false, false_or, or_false, ite_true, ite_false, if_true, if_false, G.spTextOf]
      refine ⟨G.Kn.same s1 hxm.1, hxm.2, fun H2 s2 => ?_⟩
      have bad : G.okW L longest x = false → Q (.bl false) H2 := fun hb => by
        have e : G.formB L most longest xs = false := by
          unfold G.formB
          have e1 : xs.all (G.okW L longest) = false := by
            cases h : xs.all (G.okW L longest)
            · rfl
            · rw [List.all_eq_true] at h
              rw [h x (List.mem_of_getElem? hx)] at hb; cases hb
          rw [e0, e1]; rfl
        rw [← e]; exact k H2 (s1.trans s2)
      refine G.ite_i (fun h2 => ?_) fun h2 => ?_
      · refine bad ?_
        rcases G.v_cases x with ⟨l, rfl⟩ | ⟨hS, hT⟩
        · unfold G.overV at h2; rw [G.txt_sv] at h2
          rw [G.okW_sv]; simp [h2]
        · unfold G.okW; rw [hT]
      · rcases G.v_cases x with ⟨l, rfl⟩ | ⟨hS, hT⟩
        · unfold G.overV at h2; rw [G.txt_sv] at h2
          have h3 : G.over L l = true := by simpa using h2
          refine ⟨l, rfl, hxm.2 l rfl, ?_⟩
          refine G.ite_i (fun h4 => ?_) fun h4 => ?_
          · refine bad ?_
            rw [G.okW_sv, decide_eq_false (by omega)]; simp
          · rw [hM]
            refine ⟨s1.trans s2, fun j x hj hx2 => ?_, _, _, _, rfl⟩
            by_cases hji : j < i
            · exact hok j x hji hx2
            · have : j = i := by omega
              subst this
              rw [hx] at hx2
              rw [← Option.some.inj hx2, G.okW_sv, h3, decide_eq_true (by omega)]; rfl
        · exfalso
          apply h2
          unfold G.overV; rw [hT]
    · obtain ⟨s1, hok, v4, v5, v6, rfl⟩ := hP
      have hall : xs.all (G.okW L longest) = true := by
        rw [List.all_eq_true]; intro x hx
        obtain ⟨j, hj, e⟩ := List.mem_iff_getElem.mp hx
        exact hok j x hj (by rw [List.getElem?_eq_getElem hj, e])
      simp only [tVar, tC, G.sl_is, G.lt1, Int.reduceLT, Int.reduceLE, Int.reduceNeg, Int.reducePow, Int.reduceToNat, Int.reduceSub, Int.reduceAdd, Int.reduceMul, Nat.reduceLT, Nat.reduceLeDiff, Int.zero_add, ne_eq,  HO.lst.injEq, List.dropLast_concat, G.last_get,  HO.tup.injEq, G.rII, G.rBB, G.rSS,  tOp, tUn, rI, rI0, rU, tAndV, tOrV, tNotV, tIf, tAnd, tOr, tNot, tNext, tSeq, tBreak, tCont, tDrop, tRet, tRetN, tIfS, gName, gNil, gCons, G.gTupT, G.gUnlT, gSub, gUnl, tAsg, tPar, tTest, tB, tChain,
      tNil, tCons, tTup, tLst, tCall, tCB, tBM, tBM0, tSl, tNoPart, tPart, rSetL, G.atI0, G.atI1, G.atI2, G.ixN30, G.ixN31, G.ixN32, G.cx_K, and_self, rEq, rNe, G.scal_bl, G.scal_int, G.scal_sv,  G.sv_str, G.Kn_sv, G.Kn_int, G.Kn_bl, G.Kn_non, G.isI_int, G.isI_bl, G.isI_sv, G.isI_ref, G.isI_non, G.isB_int, G.isB_bl, G.isB_sv, G.isB_ref, G.isB_non, G.isS_int, G.isS_bl, G.isS_sv, G.isS_ref, G.isS_non, G.isT_int, G.isT_bl, G.isT_sv, G.isT_non, G.isL_int, G.isL_bl, G.isL_sv, G.isL_non,  L2.upd_same,  rAppend, rExtend, rPop, iRng1, iRng2, iList, iTup, iStr, CDivN, CPow, CMul, rIsB, rNotB, rAdd, rSub, G.tFor_eq, G.tLc_eq, G.tLc2_eq, tM0, tM1, G.rJoinS, G.rIndexAz, G.ex_str, G.iZ2, G.iZ3, G.iZE, G.Kd.is, G.tRevS, G.rSlA1, G.at_lst, G.at_tup, G.at_txt, tYes, wipe,
      List.getElem?_cons_succ, List.getElem?_cons_zero, List.set_cons_succ, List.set_cons_zero, Option.some.injEq, exists_eq_left', exists_eq_left, exists_eq', exists_eq, V.int.injEq, V.bl.injEq, V.ref.injEq, G.sv_inj, List.cons.injEq, and_true, true_and,
      exists_and_left, and_assoc, exists_eq_right_right, exists_eq_right, decide_eq_true_eq, List.append_nil, List.nil_append, List.cons_append, Bool.not_eq_true', decide_eq_false_iff_not, Bool.not_false, Bool.not_true, Bool.false_eq_true, Bool.true_eq_false, not_true, not_false_iff, L2.start, List.map_cons, List.map_nil, List.length_cons, List.length_nil, List.replicate_zero, List.replicate_succ,
      Nat.reduceAdd, Nat.reduceSub, Nat.add_zero, Nat.zero_add, reduceCtorEq, false_and, exists_false, false_or, or_false, ite_true, ite_false, if_true, if_false, s1 _ _ hp]
      intro q H2 s2 hq
      have hq' : H2 q = some (.tup (xs.drop 1)) := by rw [hq]; exact congrArg (fun z => some (HO.tup z)) (G.cutV_from xs 1)
      have hp2 : H2 p = some (.tup xs) := s2 _ _ (s1 _ _ hp)
      have hz : min xs.length (xs.drop 1).length = (xs.zip (xs.drop 1)).length := by simp
      refine ⟨xs, .inl (.inl hp2), xs.drop 1, .inl (.inl hq'), ?_⟩
      refine G.comp_itF (G.walk_z2 (K := K) (k1 := .tup p) (k2 := .tup q) (xs := xs) (ys := xs.drop 1)) (fun _ => true) (G.atD (xs.zip (xs.drop 1)) (fun p => .bl (G.ltV p.1 p.2)) .non) (by rw [G.sl_is, List.length_drop]; omega) (fun H s => ⟨.inl (.inl (s _ _ hp2)), .inl (.inl (s _ _ hq'))⟩) (fun i H H' v hy => ?_) (fun i x H3 H4 hi s3 hy Z W hZ hW => ?_) (fun D2 H3 hD2 s3 h3 => ?_)
      · obtain ⟨T, x, y, rfl, hT, rfl, _⟩ := hy
        exact G.same_upd hT
      · obtain ⟨T, x, y, rfl, hT, rfl, hx, hy⟩ := hy
        have hx2 : xs[i]? = some x := hx
        have hy2 : (xs.drop 1)[i]? = some y := hy
        rw [List.all_eq_true] at hall
        obtain ⟨a, rfl, _, la⟩ := G.okW_txt (hall x (List.mem_of_getElem? hx2))
        obtain ⟨b, rfl, _, lb⟩ := G.okW_txt (hall y (List.mem_of_mem_drop (List.mem_of_getElem? hy2)))
        have ez : (xs.zip (xs.drop 1))[i]? = some (G.sv a, G.sv b) := by
          rw [List.getElem?_zip_eq_some]; exact ⟨hx2, hy2⟩
        simp only [tVar, tC, G.sl_is, G.lt1, Int.reduceLT, Int.reduceLE, Int.reduceNeg, Int.reducePow, Int.reduceToNat, Int.reduceSub, Int.reduceAdd, Int.reduceMul, Nat.reduceLT, Nat.reduceLeDiff, Int.zero_add, ne_eq,  HO.lst.injEq, List.dropLast_concat, G.last_get,  HO.tup.injEq, G.rII, G.rBB, G.rSS,  tOp, tUn, rI, rI0, rU, tAndV, tOrV, tNotV, tIf, tAnd, tOr, tNot, tNext, tSeq, tBreak, tCont, tDrop, tRet, tRetN, tIfS, gName, gNil, gCons, G.gTupT, G.gUnlT, gSub, gUnl, tAsg, tPar, tTest, tB, tChain,
      tNil, tCons, tTup, tLst, tCall, tCB, tBM, tBM0, tSl, tNoPart, tPart, rSetL, G.atI0, G.atI1, G.atI2, G.ixN30, G.ixN31, G.ixN32, G.cx_K, and_self, rEq, rNe, G.scal_bl, G.scal_int, G.scal_sv,  G.sv_str, G.Kn_sv, G.Kn_int, G.Kn_bl, G.Kn_non, G.isI_int, G.isI_bl, G.isI_sv, G.isI_ref, G.isI_non, G.isB_int, G.isB_bl, G.isB_sv, G.isB_ref, G.isB_non, G.isS_int, G.isS_bl, G.isS_sv, G.isS_ref, G.isS_non, G.isT_int, G.isT_bl, G.isT_sv, G.isT_non, G.isL_int, G.isL_bl, G.isL_sv, G.isL_non,  L2.upd_same,  rAppend, rExtend, rPop, iRng1, iRng2, iList, iTup, iStr, CDivN, CPow, CMul, rIsB, rNotB, rAdd, rSub, G.tFor_eq, G.tLc_eq, G.tLc2_eq, tM0, tM1, G.rJoinS, G.rIndexAz, G.ex_str, G.iZ2, G.iZ3, G.iZE, G.Kd.is, G.tRevS, G.rSlA1, G.at_lst, G.at_tup, G.at_txt, tYes, wipe,
      List.getElem?_cons_succ, List.getElem?_cons_zero, List.set_cons_succ, List.set_cons_zero, Option.some.injEq, exists_eq_left', exists_eq_left, exists_eq', exists_eq, V.int.injEq, V.bl.injEq, V.ref.injEq, G.sv_inj, List.cons.injEq, and_true, true_and,
      exists_and_left, and_assoc, exists_eq_right_right, exists_eq_right, decide_eq_true_eq, List.append_nil, List.nil_append, List.cons_append, Bool.not_eq_true', decide_eq_false_iff_not, Bool.not_false, Bool.not_true, Bool.false_eq_true, Bool.true_eq_false, not_true, not_false_iff, L2.start, List.map_cons, List.map_nil, List.length_cons, List.length_nil, List.replicate_zero, List.replicate_succ,
      Nat.reduceAdd, Nat.reduceSub, Nat.add_zero, Nat.zero_add, reduceCtorEq, false_and, exists_false, false_or, or_false, ite_true, ite_false, if_true, if_false, upd_same, G.spOrder]
        refine ⟨by omega, fun r nr => ⟨by omega, fun t nt => ?_⟩⟩
        have s5 := G.same_upd (o := .tup [.int a.length, G.sv a]) nr
        have s6 := G.same_upd (o := .tup [.int b.length, G.sv b]) nt
        have hw := hW _ (s5.trans s6) rfl
        simp only [G.atD, ez, G.ltV, G.txt_sv] at hw
        exact ⟨a, s6 _ _ upd_same, b, rfl, rfl, hw⟩
      · simp only [tVar, tC, G.sl_is, G.lt1, Int.reduceLT, Int.reduceLE, Int.reduceNeg, Int.reducePow, Int.reduceToNat, Int.reduceSub, Int.reduceAdd, Int.reduceMul, Nat.reduceLT, Nat.reduceLeDiff, Int.zero_add, ne_eq,  HO.lst.injEq, List.dropLast_concat, G.last_get,  HO.tup.injEq, G.rII, G.rBB, G.rSS,  tOp, tUn, rI, rI0, rU, tAndV, tOrV, tNotV, tIf, tAnd, tOr, tNot, tNext, tSeq, tBreak, tCont, tDrop, tRet, tRetN, tIfS, gName, gNil, gCons, G.gTupT, G.gUnlT, gSub, gUnl, tAsg, tPar, tTest, tB, tChain,
      tNil, tCons, tTup, tLst, tCall, tCB, tBM, tBM0, tSl, tNoPart, tPart, rSetL, G.atI0, G.atI1, G.atI2, G.ixN30, G.ixN31, G.ixN32, G.cx_K, and_self, rEq, rNe, G.scal_bl, G.scal_int, G.scal_sv,  G.sv_str, G.Kn_sv, G.Kn_int, G.Kn_bl, G.Kn_non, G.isI_int, G.isI_bl, G.isI_sv, G.isI_ref, G.isI_non, G.isB_int, G.isB_bl, G.isB_sv, G.isB_ref, G.isB_non, G.isS_int, G.isS_bl, G.isS_sv, G.isS_ref, G.isS_non, G.isT_int, G.isT_bl, G.isT_sv, G.isT_non, G.isL_int, G.isL_bl, G.isL_sv, G.isL_non,  L2.upd_same,  rAppend, rExtend, rPop, iRng1, iRng2, iList, iTup, iStr, CDivN, CPow, CMul, rIsB, rNotB, rAdd, rSub, G.tFor_eq, G.tLc_eq, G.tLc2_eq, tM0, tM1, G.rJoinS, G.rIndexAz, G.ex_str, G.iZ2, G.iZ3, G.iZE, G.Kd.is, G.tRevS, G.rSlA1, G.at_lst, G.at_tup, G.at_txt, tYes, wipe,
      List.getElem?_cons_succ, List.getElem?_cons_zero, List.set_cons_succ, List.set_cons_zero, Option.some.injEq, exists_eq_left', exists_eq_left, exists_eq', exists_eq, V.int.injEq, V.bl.injEq, V.ref.injEq, G.sv_inj, List.cons.injEq, and_true, true_and,
      exists_and_left, and_assoc, exists_eq_right_right, exists_eq_right, decide_eq_true_eq, List.append_nil, List.nil_append, List.cons_append, Bool.not_eq_true', decide_eq_false_iff_not, Bool.not_false, Bool.not_true, Bool.false_eq_true, Bool.true_eq_false, not_true, not_false_iff, L2.start, List.map_cons, List.map_nil, List.length_cons, List.length_nil, List.replicate_zero, List.replicate_succ,
      Nat.reduceAdd, Nat.reduceSub, Nat.add_zero, Nat.zero_add, reduceCtorEq, false_and, exists_false, false_or, or_false, ite_true, ite_false, if_true, if_false]
        rw [G.filt_all, hz, G.map_range_get] at h3
        refine ⟨(xs.zip (xs.drop 1)).map (fun p => G.ltV p.1 p.2), by rw [h3, List.map_map]; rfl, ?_⟩
        have e : ((xs.zip (xs.drop 1)).map (fun p => G.ltV p.1 p.2)).all id = G.formB L most longest xs := by
          unfold G.formB
          rw [e0, hall, List.all_map]; rfl
        rw [e]; exact k H3 ((s1.trans s2).trans s3)

end
end Lw

namespace Lw
open PySem PySem.Spec L2
section
variable {P : Program} {w : World} {K : PySem.W.Frag} {mg : Str → Option Value} {base : Heap}
theorem ok_is_sample (T : Tx K mg) : T.d_is_sample.Ok P w base CX0 3 spSampR := by
  refine T.d_is_sample.F.ok sc_is_sample (fun vs H Q E h => ?_) (fun cdv A outer s H vs Q E hr h => ?_)
  · obtain ⟨_, _, _, rfl, _⟩ := h; rfl
  · obtain ⟨L, p, ws, rfl, hL, hp, hg, k⟩ := h
    have G_check_letters := ok_check_letters (P := P) (w := w) (base := base) T
    have G_has_sample_form := ok_has_sample_form (P := P) (w := w) (base := base) T
    have hb := hg.samp
    have hx := G.kn_txt (H := H) ws (n := 16777216) (fun w h => Nat.le_trans (hg.len h) (by decide))
    have hlen : (ws.map G.sv).length ≤ 200 := by rw [List.length_map]; exact hg.n
    refine ⟨_, (pss_cons (ps_expr (G.pe_callD T.d_check_letters G_check_letters (hr.mono (by decide)) (pa_cons (pv 0) pa_nil)))
      (pss_cons (ps_if (pt_not (pt_val (G.pe_callD T.d_has_sample_form G_has_sample_form (hr.mono (by decide)) (pa_cons (pv 0) (pa_cons (pv 1) (pa_cons (G.pe_gint (by rfl) T.c_MOST_WORDS) (pa_cons (G.pe_gint (by rfl) T.c_MOST_IN_SAMPLE) pa_nil))))))) (pss_one (ps_ret pe_bl)) pss_nil)
      (pss_one (ps_ret (pe_cmpR op_le (pe_callB (cr_sum rfl) (by rfl) T.n_sum (by decide +kernel) (pa_cons (pe_lc (own := [("word", 2)]) (g := gName 2) (tt := tYes) rfl sc_is_sample.nd (pi_tup (pv 1)) (blkOk_by (own := [("word", 2)]) (N := ["letters", "value", "word"]) (sc := defScope s_is_sample) (by decide +kernel)) (fun _ _ _ _ _ => pg_name (i := 2) sc_is_sample.nd rfl (Or.inl rfl)) (fun _ _ _ _ _ => pts_nil) (fun _ _ _ _ _ => (pe_callB G.call_lenS (by rfl) T.n_len (by decide +kernel) (pa_cons (pv 2) pa_nil)))) pa_nil)) (G.pe_gint (by rfl) T.c_MOST_IN_SAMPLE) (nomark _)))))), ?_⟩
    simp only [tVar, tC, G.sl_is, G.lt1, Int.reduceLT, Int.reduceLE, Int.reduceNeg, Int.reducePow, Int.reduceToNat, Int.reduceSub, Int.reduceAdd, Int.reduceMul, Nat.reduceLT, Nat.reduceLeDiff, Int.zero_add, ne_eq,  HO.lst.injEq, List.dropLast_concat, G.last_get,  HO.tup.injEq, G.rII, G.rBB, G.rSS,  tOp, tUn, rI, rI0, rU, tAndV, tOrV, tNotV, tIf, tAnd, tOr, tNot, tNext, tSeq, tBreak, tCont, tDrop, tRet, tRetN, tIfS, gName, gNil, gCons, G.gTupT, G.gUnlT, gSub, gUnl, tAsg, tPar, tTest, tB, tChain,
      tNil, tCons, tTup, tLst, tCall, tCB, tBM, tBM0, tSl, tNoPart, tPart, rSetL, G.atI0, G.atI1, G.atI2, G.ixN30, G.ixN31, G.ixN32, G.cx_K, and_self, rEq, rNe, G.scal_bl, G.scal_int, G.scal_sv,  G.sv_str, G.Kn_sv, G.Kn_int, G.Kn_bl, G.Kn_non, G.isI_int, G.isI_bl, G.isI_sv, G.isI_ref, G.isI_non, G.isB_int, G.isB_bl, G.isB_sv, G.isB_ref, G.isB_non, G.isS_int, G.isS_bl, G.isS_sv, G.isS_ref, G.isS_non, G.isT_int, G.isT_bl, G.isT_sv, G.isT_non, G.isL_int, G.isL_bl, G.isL_sv, G.isL_non,  L2.upd_same,  rAppend, rExtend, rPop, iRng1, iRng2, iList, iTup, iStr, CDivN, CPow, CMul, rIsB, rNotB, rAdd, rSub, G.tFor_eq, G.tLc_eq, G.tLc2_eq, tM0, tM1, G.rJoinS, G.rIndexAz, G.ex_str, G.iZ2, G.iZ3, G.iZE, G.Kd.is, G.tRevS, G.rSlA1, G.at_lst, G.at_tup, G.at_txt, tYes, wipe,
      List.getElem?_cons_succ, List.getElem?_cons_zero, List.set_cons_succ, List.set_cons_zero, Option.some.injEq, exists_eq_left', exists_eq_left, exists_eq', exists_eq, V.int.injEq, V.bl.injEq, V.ref.injEq, G.sv_inj, List.cons.injEq, and_true, true_and,
      exists_and_left, and_assoc, exists_eq_right_right, exists_eq_right, decide_eq_true_eq, List.append_nil, List.nil_append, List.cons_append, Bool.not_eq_true', decide_eq_false_iff_not, Bool.not_false, Bool.not_true, Bool.false_eq_true, Bool.true_eq_false, not_true, not_false_iff, L2.start, List.map_cons, List.map_nil, List.length_cons, List.length_nil, List.replicate_zero, List.replicate_succ,
      Nat.reduceAdd, Nat.reduceSub, Nat.add_zero, Nat.zero_add, reduceCtorEq, false_and, exists_false, false_or, or_false, ite_true, ite_false, if_true, if_false, G.spChLtr, G.spForm]
    refine ⟨hL, fun H' s1 => ?_⟩
    have hp1 := s1 _ _ hp
    refine .inr ⟨_, hp1, fun x h => ⟨(hx x h).1.same s1, (hx x h).2⟩, fun H2 s2 => ?_⟩
    have hf : G.formB L 200 2000 (ws.map G.sv) = true := by unfold G.sampB at hb; rw [Bool.and_eq_true] at hb; exact hb.1
    rw [if_neg (by rw [hf]; simp)]
    have hp2 := s2 _ _ hp1
    refine ⟨⟨_, .inl (.inl hp2)⟩, ?_⟩
    refine G.comp_itF (walk_tup (K := K) (a := p) (xs := ws.map G.sv)) (fun _ => true) (G.atD (ws.map G.sv) (fun v => .int (G.lenV v)) .non) (by rw [G.sl_is]; omega) (fun H s => .inl (.inl (s _ _ hp2))) (fun i H H' v hy => by rw [hy.1]; exact Same.refl _) (fun i x H3 H4 hi s3 hy Z W hZ hW => ?_) (fun D2 H3 hD2 s3 h3 => ?_)
    · obtain ⟨rfl, hx1⟩ := hy
      have hx2 : (ws.map G.sv)[i]? = some x := hx1
      rw [List.getElem?_map] at hx2
      obtain ⟨l, hl, rfl⟩ := Option.map_eq_some_iff.mp hx2
      have hw := hW _ (Same.refl _) rfl
      simp only [G.atD, List.getElem?_map, hl, Option.map_some, G.lenV_sv] at hw
      have := hg.len (List.mem_of_getElem? hl)
      simp only [tVar, tC, G.sl_is, G.lt1, Int.reduceLT, Int.reduceLE, Int.reduceNeg, Int.reducePow, Int.reduceToNat, Int.reduceSub, Int.reduceAdd, Int.reduceMul, Nat.reduceLT, Nat.reduceLeDiff, Int.zero_add, ne_eq,  HO.lst.injEq, List.dropLast_concat, G.last_get,  HO.tup.injEq, G.rII, G.rBB, G.rSS,  tOp, tUn, rI, rI0, rU, tAndV, tOrV, tNotV, tIf, tAnd, tOr, tNot, tNext, tSeq, tBreak, tCont, tDrop, tRet, tRetN, tIfS, gName, gNil, gCons, G.gTupT, G.gUnlT, gSub, gUnl, tAsg, tPar, tTest, tB, tChain,
      tNil, tCons, tTup, tLst, tCall, tCB, tBM, tBM0, tSl, tNoPart, tPart, rSetL, G.atI0, G.atI1, G.atI2, G.ixN30, G.ixN31, G.ixN32, G.cx_K, and_self, rEq, rNe, G.scal_bl, G.scal_int, G.scal_sv,  G.sv_str, G.Kn_sv, G.Kn_int, G.Kn_bl, G.Kn_non, G.isI_int, G.isI_bl, G.isI_sv, G.isI_ref, G.isI_non, G.isB_int, G.isB_bl, G.isB_sv, G.isB_ref, G.isB_non, G.isS_int, G.isS_bl, G.isS_sv, G.isS_ref, G.isS_non, G.isT_int, G.isT_bl, G.isT_sv, G.isT_non, G.isL_int, G.isL_bl, G.isL_sv, G.isL_non,  L2.upd_same,  rAppend, rExtend, rPop, iRng1, iRng2, iList, iTup, iStr, CDivN, CPow, CMul, rIsB, rNotB, rAdd, rSub, G.tFor_eq, G.tLc_eq, G.tLc2_eq, tM0, tM1, G.rJoinS, G.rIndexAz, G.ex_str, G.iZ2, G.iZ3, G.iZE, G.Kd.is, G.tRevS, G.rSlA1, G.at_lst, G.at_tup, G.at_txt, tYes, wipe,
      List.getElem?_cons_succ, List.getElem?_cons_zero, List.set_cons_succ, List.set_cons_zero, Option.some.injEq, exists_eq_left', exists_eq_left, exists_eq', exists_eq, V.int.injEq, V.bl.injEq, V.ref.injEq, G.sv_inj, List.cons.injEq, and_true, true_and,
      exists_and_left, and_assoc, exists_eq_right_right, exists_eq_right, decide_eq_true_eq, List.append_nil, List.nil_append, List.cons_append, Bool.not_eq_true', decide_eq_false_iff_not, Bool.not_false, Bool.not_true, Bool.false_eq_true, Bool.true_eq_false, not_true, not_false_iff, L2.start, List.map_cons, List.map_nil, List.length_cons, List.length_nil, List.replicate_zero, List.replicate_succ,
      Nat.reduceAdd, Nat.reduceSub, Nat.add_zero, Nat.zero_add, reduceCtorEq, false_and, exists_false, false_or, or_false, ite_true, ite_false, if_true, if_false]
      exact ⟨by omega, hw⟩
    · rw [G.filt_all, G.map_range_get] at h3
      refine ⟨D2, (ws.map G.sv).map G.lenV, rfl, .inl (.inl (by rw [h3, List.map_map, List.map_map, List.map_map]; rfl)), ?_⟩
      refine ⟨_, rfl, ?_⟩
      have e : decide (((ws.map G.sv).map G.lenV).sum ≤ 2000) = true := by
        refine decide_eq_true ?_
        have := G.totV_lenS ws
        unfold G.totV at this
        rw [this]; have := hg.t; omega
      rw [e]; exact k H3 ((s1.trans s2).trans s3)
theorem ok_check_sample (T : Tx K mg) : FnOk P w K mg base CX0 4 T.d_check_sample.f T.d_check_sample.fd ["letters", "sample", "name"] spChSampR := by
  refine T.d_check_sample.F.ok sc_check_sample (fun vs H Q E h => ?_) (fun cdv A outer s H vs Q E hr h => ?_)
  · obtain ⟨_, _, _, _, rfl, _⟩ := h; rfl
  · obtain ⟨L, p, ws, nm, rfl, hL, hp, hg, k⟩ := h
    have G_is_sample := ok_is_sample (P := P) (w := w) (base := base) T
    refine ⟨_, (pss_one (ps_if (pt_not (pt_val (G.pe_callD T.d_is_sample G_is_sample (hr.mono (by decide)) (pa_cons (pv 0) (pa_cons (pv 1) pa_nil))))) (pss_one ps_never) pss_nil)), ?_⟩
    simp only [tVar, tC, G.sl_is, G.lt1, Int.reduceLT, Int.reduceLE, Int.reduceNeg, Int.reducePow, Int.reduceToNat, Int.reduceSub, Int.reduceAdd, Int.reduceMul, Nat.reduceLT, Nat.reduceLeDiff, Int.zero_add, ne_eq,  HO.lst.injEq, List.dropLast_concat, G.last_get,  HO.tup.injEq, G.rII, G.rBB, G.rSS,  tOp, tUn, rI, rI0, rU, tAndV, tOrV, tNotV, tIf, tAnd, tOr, tNot, tNext, tSeq, tBreak, tCont, tDrop, tRet, tRetN, tIfS, gName, gNil, gCons, G.gTupT, G.gUnlT, gSub, gUnl, tAsg, tPar, tTest, tB, tChain,
      tNil, tCons, tTup, tLst, tCall, tCB, tBM, tBM0, tSl, tNoPart, tPart, rSetL, G.atI0, G.atI1, G.atI2, G.ixN30, G.ixN31, G.ixN32, G.cx_K, and_self, rEq, rNe, G.scal_bl, G.scal_int, G.scal_sv,  G.sv_str, G.Kn_sv, G.Kn_int, G.Kn_bl, G.Kn_non, G.isI_int, G.isI_bl, G.isI_sv, G.isI_ref, G.isI_non, G.isB_int, G.isB_bl, G.isB_sv, G.isB_ref, G.isB_non, G.isS_int, G.isS_bl, G.isS_sv, G.isS_ref, G.isS_non, G.isT_int, G.isT_bl, G.isT_sv, G.isT_non, G.isL_int, G.isL_bl, G.isL_sv, G.isL_non,  L2.upd_same,  rAppend, rExtend, rPop, iRng1, iRng2, iList, iTup, iStr, CDivN, CPow, CMul, rIsB, rNotB, rAdd, rSub, G.tFor_eq, G.tLc_eq, G.tLc2_eq, tM0, tM1, G.rJoinS, G.rIndexAz, G.ex_str, G.iZ2, G.iZ3, G.iZE, G.Kd.is, G.tRevS, G.rSlA1, G.at_lst, G.at_tup, G.at_txt, tYes, wipe,
      List.getElem?_cons_succ, List.getElem?_cons_zero, List.set_cons_succ, List.set_cons_zero, Option.some.injEq, exists_eq_left', exists_eq_left, exists_eq', exists_eq, V.int.injEq, V.bl.injEq, V.ref.injEq, G.sv_inj, List.cons.injEq, and_true, true_and,
      exists_and_left, and_assoc, exists_eq_right_right, exists_eq_right, decide_eq_true_eq, List.append_nil, List.nil_append, List.cons_append, Bool.not_eq_true', decide_eq_false_iff_not, Bool.not_false, Bool.not_true, Bool.false_eq_true, Bool.true_eq_false, not_true, not_false_iff, L2.start, List.map_cons, List.map_nil, List.length_cons, List.length_nil, List.replicate_zero, List.replicate_succ,
      Nat.reduceAdd, Nat.reduceSub, Nat.add_zero, Nat.zero_add, reduceCtorEq, false_and, exists_false, false_or, or_false, ite_true, ite_false, if_true, if_false, spSampR]
    exact ⟨hL, _, hp, hg, k⟩
theorem ok_beginnings_of (T : Tx K mg) : T.d_beginnings_of.Ok P w base CX0 1 G.spBegsOf := by
  refine T.d_beginnings_of.F.ok sc_beginnings_of (fun vs H Q E h => ?_) (fun cdv A outer s H vs Q E hr h => ?_)
  · obtain ⟨_, _, rfl, _⟩ := h; rfl
  · obtain ⟨p, ws, rfl, hp, hc, k⟩ := h
    refine ⟨_, (pss_cons (ps_set (i := 1) sc_beginnings_of.nd rfl (Or.inl rfl) pe_dnewK)
      (pss_cons (ps_for PassesOwn.never rfl (pi_tup (pv 0)) (pg_name (i := 2) sc_beginnings_of.nd rfl (Or.inl rfl)) (pss_one (ps_for PassesOwn.never rfl (pi_range1 (by rfl) T.n_range (pa_cons (pe_op op_add (pe_callB G.call_lenS (by rfl) T.n_len (by decide +kernel) (pa_cons (pv 2) pa_nil)) pe_int) pa_nil)) (pg_name (i := 3) sc_beginnings_of.nd rfl (Or.inl rfl)) (pss_one (ps_asg pe_bl (pg_sub (pv 1) (pe_slice G.sl_S (pv 2) po_none (po_some (pv 3))) (G.set_dS hr)))))))
      (pss_one (ps_ret (pe_callTy call_tuple_of (by rfl) T.n_tuple (by decide +kernel) (pa_cons (pe_callBK (G.cr_sortKeyD hr rfl T.d_order_of.F rfl rfl (fun _ _ _ _ _ _ _ => rfl) T.n_len) (by rfl) T.n_sorted (by decide +kernel) (pa_cons (pv 1) pa_nil) (pk_cons (pe_glob (by rfl) T.d_order_of.g (show RelV (.ref T.d_order_of.f) (.ref T.d_order_of.f) from rfl)) pk_nil)) pa_nil)))))), ?_⟩
    simp only [tVar, tC, G.sl_is, G.lt1, Int.reduceLT, Int.reduceLE, Int.reduceNeg, Int.reducePow, Int.reduceToNat, Int.reduceSub, Int.reduceAdd, Int.reduceMul, Nat.reduceLT, Nat.reduceLeDiff, Int.zero_add, ne_eq,  HO.lst.injEq, List.dropLast_concat, G.last_get,  HO.tup.injEq, G.rII, G.rBB, G.rSS,  tOp, tUn, rI, rI0, rU, tAndV, tOrV, tNotV, tIf, tAnd, tOr, tNot, tNext, tSeq, tBreak, tCont, tDrop, tRet, tRetN, tIfS, gName, gNil, gCons, G.gTupT, G.gUnlT, gSub, gUnl, tAsg, tPar, tTest, tB, tChain,
      tNil, tCons, tTup, tLst, tCall, tCB, tBM, tBM0, tSl, tNoPart, tPart, rSetL, G.atI0, G.atI1, G.atI2, G.ixN30, G.ixN31, G.ixN32, G.cx_K, and_self, rEq, rNe, G.scal_bl, G.scal_int, G.scal_sv,  G.sv_str, G.Kn_sv, G.Kn_int, G.Kn_bl, G.Kn_non, G.isI_int, G.isI_bl, G.isI_sv, G.isI_ref, G.isI_non, G.isB_int, G.isB_bl, G.isB_sv, G.isB_ref, G.isB_non, G.isS_int, G.isS_bl, G.isS_sv, G.isS_ref, G.isS_non, G.isT_int, G.isT_bl, G.isT_sv, G.isT_non, G.isL_int, G.isL_bl, G.isL_sv, G.isL_non,  L2.upd_same,  rAppend, rExtend, rPop, iRng1, iRng2, iList, iTup, iStr, CDivN, CPow, CMul, rIsB, rNotB, rAdd, rSub, G.tFor_eq, G.tLc_eq, G.tLc2_eq, tM0, tM1, G.rJoinS, G.rIndexAz, G.ex_str, G.iZ2, G.iZ3, G.iZE, G.Kd.is, G.tRevS, G.rSlA1, G.at_lst, G.at_tup, G.at_txt, tYes, wipe,
      List.getElem?_cons_succ, List.getElem?_cons_zero, List.set_cons_succ, List.set_cons_zero, Option.some.injEq, exists_eq_left', exists_eq_left, exists_eq', exists_eq, V.int.injEq, V.bl.injEq, V.ref.injEq, G.sv_inj, List.cons.injEq, and_true, true_and,
      exists_and_left, and_assoc, exists_eq_right_right, exists_eq_right, decide_eq_true_eq, List.append_nil, List.nil_append, List.cons_append, Bool.not_eq_true', decide_eq_false_iff_not, Bool.not_false, Bool.not_true, Bool.false_eq_true, Bool.true_eq_false, not_true, not_false_iff, L2.start, List.map_cons, List.map_nil, List.length_cons, List.length_nil, List.replicate_zero, List.replicate_succ,
      Nat.reduceAdd, Nat.reduceSub, Nat.add_zero, Nat.zero_add, reduceCtorEq, false_and, exists_false, false_or, or_false, ite_true, ite_false, if_true, if_false, tCKw, tDNewK, G.rSetS, G.rSortKeyD]
    intro d nd
    refine ⟨⟨_, .inl (.inl (G.same_upd nd _ _ hp))⟩, ?_⟩
    refine G.loop_tup (xs := ws.map G.sv) (fun i σ H' => Same H H' ∧ ∃ (acc : List (List Nat)) (v2 v3 : Option V), σ = [some (.ref p), some (.ref d), v2, v3] ∧ H' d = some (.dK (G.kAll (.bl true) acc)) ∧ acc.Nodup ∧ acc.length ≤ G.begCost (ws.take i) ∧ ∀ w, w ∈ acc ↔ ∃ u ∈ ws.take i, w <+: u) ⟨G.same_upd nd, [], _, _, rfl, upd_same, .nil, by simp, by simp⟩ (fun i σ H' hi hP => .inl (.inl (hP.1 _ _ hp))) (fun M hM i x σ H' hx hP => ?_) (fun σ H' hP => ?_)
    · obtain ⟨s1, acc, v2, v3, rfl, hd, hn, hl, hm⟩ := hP
      rw [List.getElem?_map] at hx
      obtain ⟨u, hu, rfl⟩ := Option.map_eq_some_iff.mp hx
      have hc1 := G.begCost_take hu
      have hc2 := G.begCost_le (ws := ws) (i + 1)
      simp only [tVar, tC, G.sl_is, G.lt1, Int.reduceLT, Int.reduceLE, Int.reduceNeg, Int.reducePow, Int.reduceToNat, Int.reduceSub, Int.reduceAdd, Int.reduceMul, Nat.reduceLT, Nat.reduceLeDiff, Int.zero_add, ne_eq,  HO.lst.injEq, List.dropLast_concat, G.last_get,  HO.tup.injEq, G.rII, G.rBB, G.rSS,  tOp, tUn, rI, rI0, rU, tAndV, tOrV, tNotV, tIf, tAnd, tOr, tNot, tNext, tSeq, tBreak, tCont, tDrop, tRet, tRetN, tIfS, gName, gNil, gCons, G.gTupT, G.gUnlT, gSub, gUnl, tAsg, tPar, tTest, tB, tChain,
      tNil, tCons, tTup, tLst, tCall, tCB, tBM, tBM0, tSl, tNoPart, tPart, rSetL, G.atI0, G.atI1, G.atI2, G.ixN30, G.ixN31, G.ixN32, G.cx_K, and_self, rEq, rNe, G.scal_bl, G.scal_int, G.scal_sv,  G.sv_str, G.Kn_sv, G.Kn_int, G.Kn_bl, G.Kn_non, G.isI_int, G.isI_bl, G.isI_sv, G.isI_ref, G.isI_non, G.isB_int, G.isB_bl, G.isB_sv, G.isB_ref, G.isB_non, G.isS_int, G.isS_bl, G.isS_sv, G.isS_ref, G.isS_non, G.isT_int, G.isT_bl, G.isT_sv, G.isT_non, G.isL_int, G.isL_bl, G.isL_sv, G.isL_non,  L2.upd_same,  rAppend, rExtend, rPop, iRng1, iRng2, iList, iTup, iStr, CDivN, CPow, CMul, rIsB, rNotB, rAdd, rSub, G.tFor_eq, G.tLc_eq, G.tLc2_eq, tM0, tM1, G.rJoinS, G.rIndexAz, G.ex_str, G.iZ2, G.iZ3, G.iZE, G.Kd.is, G.tRevS, G.rSlA1, G.at_lst, G.at_tup, G.at_txt, tYes, wipe,
      List.getElem?_cons_succ, List.getElem?_cons_zero, List.set_cons_succ, List.set_cons_zero, Option.some.injEq, exists_eq_left', exists_eq_left, exists_eq', exists_eq, V.int.injEq, V.bl.injEq, V.ref.injEq, G.sv_inj, List.cons.injEq, and_true, true_and,
      exists_and_left, and_assoc, exists_eq_right_right, exists_eq_right, decide_eq_true_eq, List.append_nil, List.nil_append, List.cons_append, Bool.not_eq_true', decide_eq_false_iff_not, Bool.not_false, Bool.not_true, Bool.false_eq_true, Bool.true_eq_false, not_true, not_false_iff, L2.start, List.map_cons, List.map_nil, List.length_cons, List.length_nil, List.replicate_zero, List.replicate_succ,
      Nat.reduceAdd, Nat.reduceSub, Nat.add_zero, Nat.zero_add, reduceCtorEq, false_and, exists_false, false_or, or_false, ite_true, ite_false, if_true, if_false, tCKw, tDNewK, G.rSetS, G.rSortKeyD]
      refine ⟨by omega, by omega, by omega, ?_⟩
      rw [show ((u.length : Int) + 1).toNat = u.length + 1 by omega]
      refine G.loop_range (fun t σ H2 => Same H H2 ∧ ∃ (acc : List (List Nat)) (v3 : Option V), σ = [some (.ref p), some (.ref d), some (G.sv u), v3] ∧ H2 d = some (.dK (G.kAll (.bl true) acc)) ∧ acc.Nodup ∧ acc.length ≤ G.begCost (ws.take i) + t ∧ ∀ w, w ∈ acc ↔ (∃ u ∈ ws.take i, w <+: u) ∨ ∃ m, m < t ∧ w = u.take m) ⟨s1, acc, _, rfl, hd, hn, by omega, fun w => by rw [hm]; simp⟩ (fun M2 hM2 t σ H2 ht hP => ?_) (fun σ H2 hP => ?_)
      · obtain ⟨s2, acc, v3, rfl, hd, hn, hl, hm⟩ := hP
        simp only [tVar, tC, G.sl_is, G.lt1, Int.reduceLT, Int.reduceLE, Int.reduceNeg, Int.reducePow, Int.reduceToNat, Int.reduceSub, Int.reduceAdd, Int.reduceMul, Nat.reduceLT, Nat.reduceLeDiff, Int.zero_add, ne_eq,  HO.lst.injEq, List.dropLast_concat, G.last_get,  HO.tup.injEq, G.rII, G.rBB, G.rSS,  tOp, tUn, rI, rI0, rU, tAndV, tOrV, tNotV, tIf, tAnd, tOr, tNot, tNext, tSeq, tBreak, tCont, tDrop, tRet, tRetN, tIfS, gName, gNil, gCons, G.gTupT, G.gUnlT, gSub, gUnl, tAsg, tPar, tTest, tB, tChain,
      tNil, tCons, tTup, tLst, tCall, tCB, tBM, tBM0, tSl, tNoPart, tPart, rSetL, G.atI0, G.atI1, G.atI2, G.ixN30, G.ixN31, G.ixN32, G.cx_K, and_self, rEq, rNe, G.scal_bl, G.scal_int, G.scal_sv,  G.sv_str, G.Kn_sv, G.Kn_int, G.Kn_bl, G.Kn_non, G.isI_int, G.isI_bl, G.isI_sv, G.isI_ref, G.isI_non, G.isB_int, G.isB_bl, G.isB_sv, G.isB_ref, G.isB_non, G.isS_int, G.isS_bl, G.isS_sv, G.isS_ref, G.isS_non, G.isT_int, G.isT_bl, G.isT_sv, G.isT_non, G.isL_int, G.isL_bl, G.isL_sv, G.isL_non,  L2.upd_same,  rAppend, rExtend, rPop, iRng1, iRng2, iList, iTup, iStr, CDivN, CPow, CMul, rIsB, rNotB, rAdd, rSub, G.tFor_eq, G.tLc_eq, G.tLc2_eq, tM0, tM1, G.rJoinS, G.rIndexAz, G.ex_str, G.iZ2, G.iZ3, G.iZE, G.Kd.is, G.tRevS, G.rSlA1, G.at_lst, G.at_tup, G.at_txt, tYes, wipe,
      List.getElem?_cons_succ, List.getElem?_cons_zero, List.set_cons_succ, List.set_cons_zero, Option.some.injEq, exists_eq_left', exists_eq_left, exists_eq', exists_eq, V.int.injEq, V.bl.injEq, V.ref.injEq, G.sv_inj, List.cons.injEq, and_true, true_and,
      exists_and_left, and_assoc, exists_eq_right_right, exists_eq_right, decide_eq_true_eq, List.append_nil, List.nil_append, List.cons_append, Bool.not_eq_true', decide_eq_false_iff_not, Bool.not_false, Bool.not_true, Bool.false_eq_true, Bool.true_eq_false, not_true, not_false_iff, L2.start, List.map_cons, List.map_nil, List.length_cons, List.length_nil, List.replicate_zero, List.replicate_succ,
      Nat.reduceAdd, Nat.reduceSub, Nat.add_zero, Nat.zero_add, reduceCtorEq, false_and, exists_false, false_or, or_false, ite_true, ite_false, if_true, if_false, tCKw, tDNewK, G.rSetS, G.rSortKeyD]
        have hx : (0 : Int) ≤ (t : Int) := by omega
        refine ⟨by omega, _, hd, ?_⟩
        rw [G.kAll_len, G.cutL_to, G.kAll_put, hM2]
        refine ⟨by omega, G.same_set s2 nd, G.addW acc (u.take t), _, rfl, upd_same, G.addW_nodup hn, ?_, fun w => ?_⟩
        · have := G.addW_len (ws := acc) (w := u.take t); omega
        · rw [G.addW_mem, hm]
          constructor
          · rintro ((h | ⟨m, h1, h2⟩) | rfl)
            · exact .inl h
            · exact .inr ⟨m, by omega, h2⟩
            · exact .inr ⟨t, by omega, rfl⟩
          · rintro (h | ⟨m, h1, h2⟩)
            · exact .inl (.inl h)
            · by_cases e : m = t
              · subst e; exact .inr h2
              · exact .inl (.inr ⟨m, by omega, h2⟩)
      · obtain ⟨s2, acc, v3, rfl, hd, hn, hl, hm⟩ := hP
        rw [hM]
        refine ⟨s2, acc, _, _, rfl, hd, hn, by omega, fun w => ?_⟩
        rw [hm, List.take_add_one, hu]
        constructor
        · rintro (⟨v, hv, e⟩ | ⟨m, _, rfl⟩)
          · exact ⟨v, List.mem_append_left _ hv, e⟩
          · exact ⟨u, List.mem_append_right _ (by simp), List.take_prefix _ _⟩
        · rintro ⟨v, hv, e⟩
          rcases List.mem_append.mp hv with hv | hv
          · exact .inl ⟨v, hv, e⟩
          · have : v = u := by simpa using hv
            subst this
            have := e.length_le
            exact .inr ⟨w.length, by omega, List.prefix_iff_eq_take.mp e⟩
    · obtain ⟨s1, acc, v2, v3, rfl, hd, hn, hl, hm⟩ := hP
      simp only [tVar, tC, G.sl_is, G.lt1, Int.reduceLT, Int.reduceLE, Int.reduceNeg, Int.reducePow, Int.reduceToNat, Int.reduceSub, Int.reduceAdd, Int.reduceMul, Nat.reduceLT, Nat.reduceLeDiff, Int.zero_add, ne_eq,  HO.lst.injEq, List.dropLast_concat, G.last_get,  HO.tup.injEq, G.rII, G.rBB, G.rSS,  tOp, tUn, rI, rI0, rU, tAndV, tOrV, tNotV, tIf, tAnd, tOr, tNot, tNext, tSeq, tBreak, tCont, tDrop, tRet, tRetN, tIfS, gName, gNil, gCons, G.gTupT, G.gUnlT, gSub, gUnl, tAsg, tPar, tTest, tB, tChain,
      tNil, tCons, tTup, tLst, tCall, tCB, tBM, tBM0, tSl, tNoPart, tPart, rSetL, G.atI0, G.atI1, G.atI2, G.ixN30, G.ixN31, G.ixN32, G.cx_K, and_self, rEq, rNe, G.scal_bl, G.scal_int, G.scal_sv,  G.sv_str, G.Kn_sv, G.Kn_int, G.Kn_bl, G.Kn_non, G.isI_int, G.isI_bl, G.isI_sv, G.isI_ref, G.isI_non, G.isB_int, G.isB_bl, G.isB_sv, G.isB_ref, G.isB_non, G.isS_int, G.isS_bl, G.isS_sv, G.isS_ref, G.isS_non, G.isT_int, G.isT_bl, G.isT_sv, G.isT_non, G.isL_int, G.isL_bl, G.isL_sv, G.isL_non,  L2.upd_same,  rAppend, rExtend, rPop, iRng1, iRng2, iList, iTup, iStr, CDivN, CPow, CMul, rIsB, rNotB, rAdd, rSub, G.tFor_eq, G.tLc_eq, G.tLc2_eq, tM0, tM1, G.rJoinS, G.rIndexAz, G.ex_str, G.iZ2, G.iZ3, G.iZE, G.Kd.is, G.tRevS, G.rSlA1, G.at_lst, G.at_tup, G.at_txt, tYes, wipe,
      List.getElem?_cons_succ, List.getElem?_cons_zero, List.set_cons_succ, List.set_cons_zero, Option.some.injEq, exists_eq_left', exists_eq_left, exists_eq', exists_eq, V.int.injEq, V.bl.injEq, V.ref.injEq, G.sv_inj, List.cons.injEq, and_true, true_and,
      exists_and_left, and_assoc, exists_eq_right_right, exists_eq_right, decide_eq_true_eq, List.append_nil, List.nil_append, List.cons_append, Bool.not_eq_true', decide_eq_false_iff_not, Bool.not_false, Bool.not_true, Bool.false_eq_true, Bool.true_eq_false, not_true, not_false_iff, L2.start, List.map_cons, List.map_nil, List.length_cons, List.length_nil, List.replicate_zero, List.replicate_succ,
      Nat.reduceAdd, Nat.reduceSub, Nat.add_zero, Nat.zero_add, reduceCtorEq, false_and, exists_false, false_or, or_false, ite_true, ite_false, if_true, if_false, tCKw, tDNewK, G.rSetS, G.rSortKeyD]
      rw [List.length_map, List.take_length] at hl
      rw [List.length_map, List.take_length] at hm
      refine ⟨_, hd, acc, ?_, fun w hw => ?_, by omega, fun ys b hperm hpw nb => ?_⟩
      · unfold G.kAll; rw [List.map_map]; rfl
      · obtain ⟨u, hu, e⟩ := (hm w).mp hw
        obtain ⟨j, hj, e2⟩ := List.mem_iff_getElem.mp hu
        have h1 := G.begCost_take (List.getElem?_eq_getElem hj)
        have h2 := G.begCost_le (ws := ws) (j + 1)
        have h3 := e.length_le
        rw [e2] at h1
        omega
      · refine ⟨ys.map G.sv, .inl ⟨.inl (.inl upd_same), fun l hl2 => ?_⟩⟩
        refine k ys l _ (hperm.nodup_iff.mpr hn) (fun w => by rw [hperm.mem_iff]; exact hm w) hpw ?_ upd_same
        exact (s1.trans (G.same_upd nb)).trans (G.same_upd hl2)

theorem ok_beginnings (T : Tx K mg) : T.d_beginnings.Ok P w base CX0 5 spBegsR := by
  refine T.d_beginnings.F.ok sc_beginnings (fun vs H Q E h => ?_) (fun cdv A outer s H vs Q E hr h => ?_)
  · obtain ⟨_, _, _, rfl, _⟩ := h; rfl
  · obtain ⟨L, p, ws, rfl, hL, hp, hg, k⟩ := h
    have G_check_letters := ok_check_letters (P := P) (w := w) (base := base) T
    have G_check_sample := ok_check_sample (P := P) (w := w) (base := base) T
    have G_beginnings_of := ok_beginnings_of (P := P) (w := w) (base := base) T
    refine ⟨_, (pss_cons (ps_expr (G.pe_callD T.d_check_letters G_check_letters (hr.mono (by decide)) (pa_cons (pv 0) pa_nil)))
      (pss_cons (ps_expr (G.pe_callD1 T.d_check_sample G_check_sample (hr.mono (by decide)) (pa_cons (pv 0) (pa_cons (pv 1) pa_nil))))
      (pss_one (ps_ret (G.pe_callD T.d_beginnings_of G_beginnings_of (hr.mono (by decide)) (pa_cons (pv 1) pa_nil)))))), ?_⟩
    simp only [tVar, tC, G.sl_is, G.lt1, Int.reduceLT, Int.reduceLE, Int.reduceNeg, Int.reducePow, Int.reduceToNat, Int.reduceSub, Int.reduceAdd, Int.reduceMul, Nat.reduceLT, Nat.reduceLeDiff, Int.zero_add, ne_eq,  HO.lst.injEq, List.dropLast_concat, G.last_get,  HO.tup.injEq, G.rII, G.rBB, G.rSS,  tOp, tUn, rI, rI0, rU, tAndV, tOrV, tNotV, tIf, tAnd, tOr, tNot, tNext, tSeq, tBreak, tCont, tDrop, tRet, tRetN, tIfS, gName, gNil, gCons, G.gTupT, G.gUnlT, gSub, gUnl, tAsg, tPar, tTest, tB, tChain,
      tNil, tCons, tTup, tLst, tCall, tCB, tBM, tBM0, tSl, tNoPart, tPart, rSetL, G.atI0, G.atI1, G.atI2, G.ixN30, G.ixN31, G.ixN32, G.cx_K, and_self, rEq, rNe, G.scal_bl, G.scal_int, G.scal_sv,  G.sv_str, G.Kn_sv, G.Kn_int, G.Kn_bl, G.Kn_non, G.isI_int, G.isI_bl, G.isI_sv, G.isI_ref, G.isI_non, G.isB_int, G.isB_bl, G.isB_sv, G.isB_ref, G.isB_non, G.isS_int, G.isS_bl, G.isS_sv, G.isS_ref, G.isS_non, G.isT_int, G.isT_bl, G.isT_sv, G.isT_non, G.isL_int, G.isL_bl, G.isL_sv, G.isL_non,  L2.upd_same,  rAppend, rExtend, rPop, iRng1, iRng2, iList, iTup, iStr, CDivN, CPow, CMul, rIsB, rNotB, rAdd, rSub, G.tFor_eq, G.tLc_eq, G.tLc2_eq, tM0, tM1, G.rJoinS, G.rIndexAz, G.ex_str, G.iZ2, G.iZ3, G.iZE, G.Kd.is, G.tRevS, G.rSlA1, G.at_lst, G.at_tup, G.at_txt, tYes, wipe,
      List.getElem?_cons_succ, List.getElem?_cons_zero, List.set_cons_succ, List.set_cons_zero, Option.some.injEq, exists_eq_left', exists_eq_left, exists_eq', exists_eq, V.int.injEq, V.bl.injEq, V.ref.injEq, G.sv_inj, List.cons.injEq, and_true, true_and,
      exists_and_left, and_assoc, exists_eq_right_right, exists_eq_right, decide_eq_true_eq, List.append_nil, List.nil_append, List.cons_append, Bool.not_eq_true', decide_eq_false_iff_not, Bool.not_false, Bool.not_true, Bool.false_eq_true, Bool.true_eq_false, not_true, not_false_iff, L2.start, List.map_cons, List.map_nil, List.length_cons, List.length_nil, List.replicate_zero, List.replicate_succ,
      Nat.reduceAdd, Nat.reduceSub, Nat.add_zero, Nat.zero_add, reduceCtorEq, false_and, exists_false, false_or, or_false, ite_true, ite_false, if_true, if_false, G.spChLtr, spChSampR, G.spBegsOf]
    refine ⟨hL, fun H1 s1 => ⟨hL, _, s1 _ _ hp, hg, fun H2 s2 => ⟨ws, s2 _ _ (s1 _ _ hp), by have := hg.cost; omega, fun ys q H3 a1 a2 a3 s3 a4 => k ys q H3 (G.asc_of a1 a3) a2 ((s1.trans s2).trans s3) a4⟩⟩⟩
end
end Lw

namespace Lw
open PySem PySem.Spec L2
def spSampG : Sp := fun vs H Q _ => ∃ (st : Addr) (L : List Nat) (many total : Int), vs = [.ref st, G.sv L, .int many, .int total] ∧ G.Strm H st ∧ G.Ltr L ∧ 0 ≤ many ∧ many ≤ 200 ∧ 0 ≤ total ∧ total ≤ 2000 ∧
  ∀ (p : Addr) (ws : List (List Nat)) (H' : Hp), H' p = some (.tup (ws.map G.sv)) → (ws.length : Int) ≤ many → (∀ w ∈ ws, ∀ c ∈ w, c ∈ L) → G.Asc ws → (G.lenS ws : Int) ≤ total → G.Adv st H H' → Q (.ref p) H'
def spBef : Sp := fun vs H Q _ => ∃ a b, vs = [G.sv a, G.sv b] ∧ a.length ≤ 16777216 ∧ b.length ≤ 16777216 ∧ Q (.bl (decide (G.wlt a b))) H
theorem asc_snoc {ws : List (List Nat)} {w : List Nat} (h : G.Asc ws) (hw : ∀ x ∈ ws, G.wlt x w) : G.Asc (ws ++ [w]) := by
  unfold G.Asc at *
  rw [List.pairwise_append]
  exact ⟨h, List.pairwise_singleton _ _, fun a ha b hb => by rw [List.mem_singleton.mp hb]; exact hw a ha⟩
section
variable {P : Program} {w : World} {K : PySem.W.Frag} {mg : Str → Option Value} {base : Heap}
theorem ok__law_stream (T : Tx K mg) : T.d__law_stream.Ok P w base CX0 1 (G.spStream K) := by
  refine T.d__law_stream.F.ok sc__law_stream (fun vs H Q E h => ?_) (fun cdv A outer s H vs Q E hr h => ?_)
  · obtain ⟨a, ns, rfl, _⟩ := h; rfl
  · obtain ⟨a, ns, rfl, hS, k⟩ := h
    refine ⟨_, (pss_one (ps_ret (pe_lst (pa_cons (pe_callTy call_list_of (by rfl) T.n_list (by decide +kernel) (pa_cons (pv 0) pa_nil)) (pa_cons pe_int (pa_cons pe_int pa_nil)))))), ?_⟩
    simp only [tVar, tC, G.sl_is, G.lt1, Int.reduceLT, Int.reduceLE, Int.reduceNeg, Int.reducePow, Int.reduceToNat, Int.reduceSub, Int.reduceAdd, Int.reduceMul, Nat.reduceLT, Nat.reduceLeDiff, Int.zero_add, ne_eq,  HO.lst.injEq, List.dropLast_concat, G.last_get,  HO.tup.injEq, G.rII, G.rBB, G.rSS,  tOp, tUn, rI, rI0, rU, tAndV, tOrV, tNotV, tIf, tAnd, tOr, tNot, tNext, tSeq, tBreak, tCont, tDrop, tRet, tRetN, tIfS, gName, gNil, gCons, G.gTupT, G.gUnlT, gSub, gUnl, tAsg, tPar, tTest, tB, tChain,
      tNil, tCons, tTup, tLst, tCall, tCB, tBM, tBM0, tSl, tNoPart, tPart, rSetL, G.atI0, G.atI1, G.atI2, G.ixN30, G.ixN31, G.ixN32, G.cx_K, and_self, rEq, rNe, G.scal_bl, G.scal_int, G.scal_sv,  G.sv_str, G.Kn_sv, G.Kn_int, G.Kn_bl, G.Kn_non, G.isI_int, G.isI_bl, G.isI_sv, G.isI_ref, G.isI_non, G.isB_int, G.isB_bl, G.isB_sv, G.isB_ref, G.isB_non, G.isS_int, G.isS_bl, G.isS_sv, G.isS_ref, G.isS_non, G.isT_int, G.isT_bl, G.isT_sv, G.isT_non, G.isL_int, G.isL_bl, G.isL_sv, G.isL_non,  L2.upd_same,  rAppend, rExtend, rPop, iRng1, iRng2, iList, iTup, iStr, CDivN, CPow, CMul, rIsB, rNotB, rAdd, rSub, G.tFor_eq, G.tLc_eq, G.tLc2_eq, tM0, tM1, G.rJoinS, G.rIndexAz, G.ex_str, G.iZ2, G.iZ3, G.iZE, G.Kd.is, G.tRevS, G.rSlA1, G.at_lst, G.at_tup, G.at_txt, tYes, wipe,
      List.getElem?_cons_succ, List.getElem?_cons_zero, List.set_cons_succ, List.set_cons_zero, Option.some.injEq, exists_eq_left', exists_eq_left, exists_eq', exists_eq, V.int.injEq, V.bl.injEq, V.ref.injEq, G.sv_inj, List.cons.injEq, and_true, true_and,
      exists_and_left, and_assoc, exists_eq_right_right, exists_eq_right, decide_eq_true_eq, List.append_nil, List.nil_append, List.cons_append, Bool.not_eq_true', decide_eq_false_iff_not, Bool.not_false, Bool.not_true, Bool.false_eq_true, Bool.true_eq_false, not_true, not_false_iff, L2.start, List.map_cons, List.map_nil, List.length_cons, List.length_nil, List.replicate_zero, List.replicate_succ,
      Nat.reduceAdd, Nat.reduceSub, Nat.add_zero, Nat.zero_add, reduceCtorEq, false_and, exists_false, false_or, or_false, ite_true, ite_false, if_true, if_false]
    refine ⟨_, .inl hS, fun sc n1 p n2 => k p _ ?_ ?_ ⟨sc, 0, 0, ns, upd_same, ?_, Int.le_refl _, Int.le_refl _⟩⟩
    · exact (G.same_upd n1).trans (G.same_upd n2)
    · exact (G.same_upd n1).free n2
    · rw [upd_ne (fun e => by rw [e] at n1 ; rw [e, upd_same] at n2; cases n2), upd_same]
theorem ok__law_next (T : Tx K mg) : T.d__law_next.Ok P w base CX0 1 G.spNext := by
  refine T.d__law_next.F.ok sc__law_next (fun vs H Q E h => ?_) (fun cdv A outer s H vs Q E hr h => ?_)
  · obtain ⟨_, _, rfl, _⟩ := h; rfl
  · obtain ⟨st, m, rfl, hS, hm, hm2, k⟩ := h
    obtain ⟨sc, c, k0, ns, h1, h2, h3, h4⟩ := id hS
    have hne := G.Strm.ne h1 h2
    refine ⟨_, (C8.pss_cut (ps_if (pt_cmpR G.op_eqI (pe_ix G.ix_lst (pv 0) pe_int (fun _ _ => rfl)) pe_int (nomark _)) (pss_cons (ps_set (i := 2) sc__law_next.nd rfl (Or.inl rfl) (pe_ix G.ix_lst (pv 0) pe_int (fun _ _ => rfl)))
        (pss_cons (ps_set (i := 3) sc__law_next.nd rfl (Or.inl rfl) (pe_op op_add pe_int (pv 2)))
        (C8.pss_cut (ps_if (pt_cmpR op_lt (pv 2) (pe_callB G.call_lenL (by rfl) T.n_len (by decide +kernel) (pa_cons (pe_ix G.ix_lst (pv 0) pe_int (fun _ _ => rfl)) pa_nil)) (nomark _)) (pss_one (ps_set (i := 3) sc__law_next.nd rfl (Or.inl rfl) (pe_callB call_abs (by rfl) T.n_abs (by decide +kernel) (pa_cons (pe_ix G.ix_lst (pe_ix G.ix_lst (pv 0) pe_int (fun _ _ => rfl)) (pv 2) (fun _ _ => rfl)) pa_nil)))) pss_nil)
        (C8.pss_cut (ps_if (pt_cmpR op_lt (pv 3) (pe_op (G.op_powC (a := 10) (b := 18) (v := 1000000000000000000) ⟨by decide, by decide, by decide⟩ (by decide)) pe_int pe_int) (nomark _)) (pss_cons (ps_set (i := 3) sc__law_next.nd rfl (Or.inl rfl) (pe_op (G.op_modC (c := 2147483647) (by decide)) (pe_callTy G.call_intI (by rfl) T.n_int (by decide +kernel) (pa_cons (pe_op op_add (pe_op op_add (pe_op (G.op_mulC (c := 48271) (by decide)) (pv 3) pe_int) (pe_op (G.op_mulC (c := 69621) (by decide)) (pv 2) pe_int)) pe_int) pa_nil)) pe_int))
          (pss_one (ps_set (i := 3) sc__law_next.nd rfl (Or.inl rfl) (pe_op op_add (pe_op (G.op_mulC (c := 65537) (by decide)) (pe_op (G.op_modC (c := 2147483647) (by decide)) (pe_callTy G.call_intI (by rfl) T.n_int (by decide +kernel) (pa_cons (pe_op op_add (pe_op (G.op_mulC (c := 16807) (by decide)) (pv 3) pe_int) pe_int) pa_nil)) pe_int) pe_int) (pv 3))))) pss_nil)
        (pss_cons (ps_asg (pv 3) (pg_sub (pv 0) pe_int set_list))
        (pss_one (ps_asg (pe_op op_add (pv 2) pe_int) (pg_sub (pv 0) pe_int set_list)))))))) pss_nil)
      (pss_cons (ps_set (i := 4) sc__law_next.nd rfl (Or.inl rfl) (pe_op G.op_modP (pe_callTy G.call_intI (by rfl) T.n_int (by decide +kernel) (pa_cons (pe_ix G.ix_lst (pv 0) pe_int (fun _ _ => rfl)) pa_nil)) (pv 1)))
      (pss_cons (ps_asg (pe_op G.op_divP (pe_ix G.ix_lst (pv 0) pe_int (fun _ _ => rfl)) (pv 1)) (pg_sub (pv 0) pe_int set_list))
      (pss_one (ps_ret (pv 4)))))), ?_⟩
    refine G.cutM (fun σ H' => ∃ v2 v3 c', σ = [some (.ref st), some (.int m), v2, v3, none] ∧ G.Adv st H H' ∧ 0 ≤ c' ∧ ∃ k', 0 ≤ k' ∧ H' st = some (.lst [.ref sc, .int c', .int k'])) (fun M hM => ?_) ?_
    · simp only [tVar, tC, G.sl_is, G.lt1, Int.reduceLT, Int.reduceLE, Int.reduceNeg, Int.reducePow, Int.reduceToNat, Int.reduceSub, Int.reduceAdd, Int.reduceMul, Nat.reduceLT, Nat.reduceLeDiff, Int.zero_add, ne_eq,  HO.lst.injEq, List.dropLast_concat, G.last_get,  HO.tup.injEq, G.rII, G.rBB, G.rSS,  tOp, tUn, rI, rI0, rU, tAndV, tOrV, tNotV, tIf, tAnd, tOr, tNot, tNext, tSeq, tBreak, tCont, tDrop, tRet, tRetN, tIfS, gName, gNil, gCons, G.gTupT, G.gUnlT, gSub, gUnl, tAsg, tPar, tTest, tB, tChain,
      tNil, tCons, tTup, tLst, tCall, tCB, tBM, tBM0, tSl, tNoPart, tPart, rSetL, G.atI0, G.atI1, G.atI2, G.ixN30, G.ixN31, G.ixN32, G.cx_K, and_self, rEq, rNe, G.scal_bl, G.scal_int, G.scal_sv,  G.sv_str, G.Kn_sv, G.Kn_int, G.Kn_bl, G.Kn_non, G.isI_int, G.isI_bl, G.isI_sv, G.isI_ref, G.isI_non, G.isB_int, G.isB_bl, G.isB_sv, G.isB_ref, G.isB_non, G.isS_int, G.isS_bl, G.isS_sv, G.isS_ref, G.isS_non, G.isT_int, G.isT_bl, G.isT_sv, G.isT_non, G.isL_int, G.isL_bl, G.isL_sv, G.isL_non,  L2.upd_same,  rAppend, rExtend, rPop, iRng1, iRng2, iList, iTup, iStr, CDivN, CPow, CMul, rIsB, rNotB, rAdd, rSub, G.tFor_eq, G.tLc_eq, G.tLc2_eq, tM0, tM1, G.rJoinS, G.rIndexAz, G.ex_str, G.iZ2, G.iZ3, G.iZE, G.Kd.is, G.tRevS, G.rSlA1, G.at_lst, G.at_tup, G.at_txt, tYes, wipe,
      List.getElem?_cons_succ, List.getElem?_cons_zero, List.set_cons_succ, List.set_cons_zero, Option.some.injEq, exists_eq_left', exists_eq_left, exists_eq', exists_eq, V.int.injEq, V.bl.injEq, V.ref.injEq, G.sv_inj, List.cons.injEq, and_true, true_and,
      exists_and_left, and_assoc, exists_eq_right_right, exists_eq_right, decide_eq_true_eq, List.append_nil, List.nil_append, List.cons_append, Bool.not_eq_true', decide_eq_false_iff_not, Bool.not_false, Bool.not_true, Bool.false_eq_true, Bool.true_eq_false, not_true, not_false_iff, L2.start, List.map_cons, List.map_nil, List.length_cons, List.length_nil, List.replicate_zero, List.replicate_succ,
      Nat.reduceAdd, Nat.reduceSub, Nat.add_zero, Nat.zero_add, reduceCtorEq, false_and, exists_false, false_or, or_false, ite_true, ite_false, if_true, if_false, h1]
      by_cases hc : c = 0
      · rw [if_pos hc]
        refine G.cutM (fun σ H' => ∃ cl : Int, σ = [some (.ref st), some (.int m), some (.int k0), some (.int cl), none] ∧ H' = H ∧ 0 ≤ cl) (fun M1 hM1 => ?_) ?_
        · simp only [tVar, tC, G.sl_is, G.lt1, Int.reduceLT, Int.reduceLE, Int.reduceNeg, Int.reducePow, Int.reduceToNat, Int.reduceSub, Int.reduceAdd, Int.reduceMul, Nat.reduceLT, Nat.reduceLeDiff, Int.zero_add, ne_eq,  HO.lst.injEq, List.dropLast_concat, G.last_get,  HO.tup.injEq, G.rII, G.rBB, G.rSS,  tOp, tUn, rI, rI0, rU, tAndV, tOrV, tNotV, tIf, tAnd, tOr, tNot, tNext, tSeq, tBreak, tCont, tDrop, tRet, tRetN, tIfS, gName, gNil, gCons, G.gTupT, G.gUnlT, gSub, gUnl, tAsg, tPar, tTest, tB, tChain,
      tNil, tCons, tTup, tLst, tCall, tCB, tBM, tBM0, tSl, tNoPart, tPart, rSetL, G.atI0, G.atI1, G.atI2, G.ixN30, G.ixN31, G.ixN32, G.cx_K, and_self, rEq, rNe, G.scal_bl, G.scal_int, G.scal_sv,  G.sv_str, G.Kn_sv, G.Kn_int, G.Kn_bl, G.Kn_non, G.isI_int, G.isI_bl, G.isI_sv, G.isI_ref, G.isI_non, G.isB_int, G.isB_bl, G.isB_sv, G.isB_ref, G.isB_non, G.isS_int, G.isS_bl, G.isS_sv, G.isS_ref, G.isS_non, G.isT_int, G.isT_bl, G.isT_sv, G.isT_non, G.isL_int, G.isL_bl, G.isL_sv, G.isL_non,  L2.upd_same,  rAppend, rExtend, rPop, iRng1, iRng2, iList, iTup, iStr, CDivN, CPow, CMul, rIsB, rNotB, rAdd, rSub, G.tFor_eq, G.tLc_eq, G.tLc2_eq, tM0, tM1, G.rJoinS, G.rIndexAz, G.ex_str, G.iZ2, G.iZ3, G.iZE, G.Kd.is, G.tRevS, G.rSlA1, G.at_lst, G.at_tup, G.at_txt, tYes, wipe,
      List.getElem?_cons_succ, List.getElem?_cons_zero, List.set_cons_succ, List.set_cons_zero, Option.some.injEq, exists_eq_left', exists_eq_left, exists_eq', exists_eq, V.int.injEq, V.bl.injEq, V.ref.injEq, G.sv_inj, List.cons.injEq, and_true, true_and,
      exists_and_left, and_assoc, exists_eq_right_right, exists_eq_right, decide_eq_true_eq, List.append_nil, List.nil_append, List.cons_append, Bool.not_eq_true', decide_eq_false_iff_not, Bool.not_false, Bool.not_true, Bool.false_eq_true, Bool.true_eq_false, not_true, not_false_iff, L2.start, List.map_cons, List.map_nil, List.length_cons, List.length_nil, List.replicate_zero, List.replicate_succ,
      Nat.reduceAdd, Nat.reduceSub, Nat.add_zero, Nat.zero_add, reduceCtorEq, false_and, exists_false, false_or, or_false, ite_true, ite_false, if_true, if_false, h1, h2]
          refine G.ite_i (fun hk => ?_) fun hk => by rw [hM1]; exact ⟨_, rfl, rfl, by omega⟩
          have hl : k0.toNat < ns.length := by simp at hk; omega
          refine ⟨.int (ns[k0.toNat]), G.atI_of (by simp [hl]) h4, _, rfl, ?_⟩
          rw [hM1]
          refine ⟨_, rfl, rfl, ?_⟩
          split <;> omega
        · rintro σ H' ⟨cl, rfl, rfl, hcl⟩
          refine G.cutM (fun σ H'' => ∃ cl : Int, σ = [some (.ref st), some (.int m), some (.int k0), some (.int cl), none] ∧ H'' = H' ∧ 0 ≤ cl) (fun M2 hM2 => ?_) ?_
          · simp only [tVar, tC, G.sl_is, G.lt1, Int.reduceLT, Int.reduceLE, Int.reduceNeg, Int.reducePow, Int.reduceToNat, Int.reduceSub, Int.reduceAdd, Int.reduceMul, Nat.reduceLT, Nat.reduceLeDiff, Int.zero_add, ne_eq,  HO.lst.injEq, List.dropLast_concat, G.last_get,  HO.tup.injEq, G.rII, G.rBB, G.rSS,  tOp, tUn, rI, rI0, rU, tAndV, tOrV, tNotV, tIf, tAnd, tOr, tNot, tNext, tSeq, tBreak, tCont, tDrop, tRet, tRetN, tIfS, gName, gNil, gCons, G.gTupT, G.gUnlT, gSub, gUnl, tAsg, tPar, tTest, tB, tChain,
      tNil, tCons, tTup, tLst, tCall, tCB, tBM, tBM0, tSl, tNoPart, tPart, rSetL, G.atI0, G.atI1, G.atI2, G.ixN30, G.ixN31, G.ixN32, G.cx_K, and_self, rEq, rNe, G.scal_bl, G.scal_int, G.scal_sv,  G.sv_str, G.Kn_sv, G.Kn_int, G.Kn_bl, G.Kn_non, G.isI_int, G.isI_bl, G.isI_sv, G.isI_ref, G.isI_non, G.isB_int, G.isB_bl, G.isB_sv, G.isB_ref, G.isB_non, G.isS_int, G.isS_bl, G.isS_sv, G.isS_ref, G.isS_non, G.isT_int, G.isT_bl, G.isT_sv, G.isT_non, G.isL_int, G.isL_bl, G.isL_sv, G.isL_non,  L2.upd_same,  rAppend, rExtend, rPop, iRng1, iRng2, iList, iTup, iStr, CDivN, CPow, CMul, rIsB, rNotB, rAdd, rSub, G.tFor_eq, G.tLc_eq, G.tLc2_eq, tM0, tM1, G.rJoinS, G.rIndexAz, G.ex_str, G.iZ2, G.iZ3, G.iZE, G.Kd.is, G.tRevS, G.rSlA1, G.at_lst, G.at_tup, G.at_txt, tYes, wipe,
      List.getElem?_cons_succ, List.getElem?_cons_zero, List.set_cons_succ, List.set_cons_zero, Option.some.injEq, exists_eq_left', exists_eq_left, exists_eq', exists_eq, V.int.injEq, V.bl.injEq, V.ref.injEq, G.sv_inj, List.cons.injEq, and_true, true_and,
      exists_and_left, and_assoc, exists_eq_right_right, exists_eq_right, decide_eq_true_eq, List.append_nil, List.nil_append, List.cons_append, Bool.not_eq_true', decide_eq_false_iff_not, Bool.not_false, Bool.not_true, Bool.false_eq_true, Bool.true_eq_false, not_true, not_false_iff, L2.start, List.map_cons, List.map_nil, List.length_cons, List.length_nil, List.replicate_zero, List.replicate_succ,
      Nat.reduceAdd, Nat.reduceSub, Nat.add_zero, Nat.zero_add, reduceCtorEq, false_and, exists_false, false_or, or_false, ite_true, ite_false, if_true, if_false, h1, h2]
            refine G.ite_i (fun hk => ?_) fun hk => by rw [hM2]; exact ⟨_, rfl, rfl, hcl⟩
            rw [hM2]
            exact ⟨_, rfl, rfl, by omega⟩
          · rintro σ H'' ⟨cl, rfl, rfl, hcl⟩
            simp only [tVar, tC, G.sl_is, G.lt1, Int.reduceLT, Int.reduceLE, Int.reduceNeg, Int.reducePow, Int.reduceToNat, Int.reduceSub, Int.reduceAdd, Int.reduceMul, Nat.reduceLT, Nat.reduceLeDiff, Int.zero_add, ne_eq,  HO.lst.injEq, List.dropLast_concat, G.last_get,  HO.tup.injEq, G.rII, G.rBB, G.rSS,  tOp, tUn, rI, rI0, rU, tAndV, tOrV, tNotV, tIf, tAnd, tOr, tNot, tNext, tSeq, tBreak, tCont, tDrop, tRet, tRetN, tIfS, gName, gNil, gCons, G.gTupT, G.gUnlT, gSub, gUnl, tAsg, tPar, tTest, tB, tChain,
      tNil, tCons, tTup, tLst, tCall, tCB, tBM, tBM0, tSl, tNoPart, tPart, rSetL, G.atI0, G.atI1, G.atI2, G.ixN30, G.ixN31, G.ixN32, G.cx_K, and_self, rEq, rNe, G.scal_bl, G.scal_int, G.scal_sv,  G.sv_str, G.Kn_sv, G.Kn_int, G.Kn_bl, G.Kn_non, G.isI_int, G.isI_bl, G.isI_sv, G.isI_ref, G.isI_non, G.isB_int, G.isB_bl, G.isB_sv, G.isB_ref, G.isB_non, G.isS_int, G.isS_bl, G.isS_sv, G.isS_ref, G.isS_non, G.isT_int, G.isT_bl, G.isT_sv, G.isT_non, G.isL_int, G.isL_bl, G.isL_sv, G.isL_non,  L2.upd_same,  rAppend, rExtend, rPop, iRng1, iRng2, iList, iTup, iStr, CDivN, CPow, CMul, rIsB, rNotB, rAdd, rSub, G.tFor_eq, G.tLc_eq, G.tLc2_eq, tM0, tM1, G.rJoinS, G.rIndexAz, G.ex_str, G.iZ2, G.iZ3, G.iZE, G.Kd.is, G.tRevS, G.rSlA1, G.at_lst, G.at_tup, G.at_txt, tYes, wipe,
      List.getElem?_cons_succ, List.getElem?_cons_zero, List.set_cons_succ, List.set_cons_zero, Option.some.injEq, exists_eq_left', exists_eq_left, exists_eq', exists_eq, V.int.injEq, V.bl.injEq, V.ref.injEq, G.sv_inj, List.cons.injEq, and_true, true_and,
      exists_and_left, and_assoc, exists_eq_right_right, exists_eq_right, decide_eq_true_eq, List.append_nil, List.nil_append, List.cons_append, Bool.not_eq_true', decide_eq_false_iff_not, Bool.not_false, Bool.not_true, Bool.false_eq_true, Bool.true_eq_false, not_true, not_false_iff, L2.start, List.map_cons, List.map_nil, List.length_cons, List.length_nil, List.replicate_zero, List.replicate_succ,
      Nat.reduceAdd, Nat.reduceSub, Nat.add_zero, Nat.zero_add, reduceCtorEq, false_and, exists_false, false_or, or_false, ite_true, ite_false, if_true, if_false, h1, h2]
            rw [hM]
            refine ⟨_, _, cl, rfl, ⟨fun b o nb e => by rw [upd_ne nb, upd_ne nb]; exact e, ⟨sc, cl, k0 + 1, ns, upd_same, by rw [upd_ne hne, upd_ne hne]; exact h2, hcl, by omega⟩, fun sc' r q => by rw [h1] at q; have z := List.cons.inj (HO.lst.inj (Option.some.inj q)); exact ⟨_, by rw [upd_same, z.1]⟩⟩, hcl, k0 + 1, by omega, upd_same⟩
      · rw [if_neg hc, hM]
        exact ⟨_, _, c, rfl, G.Adv.refl hS, h3, k0, h4, h1⟩
    · rintro σ H' ⟨v2, v3, c', rfl, ad, hc', k', hk', g1⟩
      simp only [tVar, tC, G.sl_is, G.lt1, Int.reduceLT, Int.reduceLE, Int.reduceNeg, Int.reducePow, Int.reduceToNat, Int.reduceSub, Int.reduceAdd, Int.reduceMul, Nat.reduceLT, Nat.reduceLeDiff, Int.zero_add, ne_eq,  HO.lst.injEq, List.dropLast_concat, G.last_get,  HO.tup.injEq, G.rII, G.rBB, G.rSS,  tOp, tUn, rI, rI0, rU, tAndV, tOrV, tNotV, tIf, tAnd, tOr, tNot, tNext, tSeq, tBreak, tCont, tDrop, tRet, tRetN, tIfS, gName, gNil, gCons, G.gTupT, G.gUnlT, gSub, gUnl, tAsg, tPar, tTest, tB, tChain,
      tNil, tCons, tTup, tLst, tCall, tCB, tBM, tBM0, tSl, tNoPart, tPart, rSetL, G.atI0, G.atI1, G.atI2, G.ixN30, G.ixN31, G.ixN32, G.cx_K, and_self, rEq, rNe, G.scal_bl, G.scal_int, G.scal_sv,  G.sv_str, G.Kn_sv, G.Kn_int, G.Kn_bl, G.Kn_non, G.isI_int, G.isI_bl, G.isI_sv, G.isI_ref, G.isI_non, G.isB_int, G.isB_bl, G.isB_sv, G.isB_ref, G.isB_non, G.isS_int, G.isS_bl, G.isS_sv, G.isS_ref, G.isS_non, G.isT_int, G.isT_bl, G.isT_sv, G.isT_non, G.isL_int, G.isL_bl, G.isL_sv, G.isL_non,  L2.upd_same,  rAppend, rExtend, rPop, iRng1, iRng2, iList, iTup, iStr, CDivN, CPow, CMul, rIsB, rNotB, rAdd, rSub, G.tFor_eq, G.tLc_eq, G.tLc2_eq, tM0, tM1, G.rJoinS, G.rIndexAz, G.ex_str, G.iZ2, G.iZ3, G.iZE, G.Kd.is, G.tRevS, G.rSlA1, G.at_lst, G.at_tup, G.at_txt, tYes, wipe,
      List.getElem?_cons_succ, List.getElem?_cons_zero, List.set_cons_succ, List.set_cons_zero, Option.some.injEq, exists_eq_left', exists_eq_left, exists_eq', exists_eq, V.int.injEq, V.bl.injEq, V.ref.injEq, G.sv_inj, List.cons.injEq, and_true, true_and,
      exists_and_left, and_assoc, exists_eq_right_right, exists_eq_right, decide_eq_true_eq, List.append_nil, List.nil_append, List.cons_append, Bool.not_eq_true', decide_eq_false_iff_not, Bool.not_false, Bool.not_true, Bool.false_eq_true, Bool.true_eq_false, not_true, not_false_iff, L2.start, List.map_cons, List.map_nil, List.length_cons, List.length_nil, List.replicate_zero, List.replicate_succ,
      Nat.reduceAdd, Nat.reduceSub, Nat.add_zero, Nat.zero_add, reduceCtorEq, false_and, exists_false, false_or, or_false, ite_true, ite_false, if_true, if_false, g1]
      refine ⟨hm, hm, hm2, k _ _ (Int.emod_nonneg _ (by omega)) (Int.emod_lt_of_pos _ hm) ⟨fun b o nb e => by rw [upd_ne nb]; exact ad.1 b o nb e, ⟨sc, _, k', ns, upd_same, by rw [upd_ne hne]; exact ad.1 _ _ hne h2, Int.ediv_nonneg hc' (by omega), hk'⟩, fun sc' r q => by rw [h1] at q; have z := List.cons.inj (HO.lst.inj (Option.some.inj q)); exact ⟨_, by rw [upd_same, z.1]⟩⟩⟩

theorem ok__law_word (T : Tx K mg) : T.d__law_word.Ok P w base CX0 2 G.spWord := by
  refine T.d__law_word.F.ok sc__law_word (fun vs H Q E h => ?_) (fun cdv A outer s H vs Q E hr h => ?_)
  · obtain ⟨_, _, _, _, rfl, _⟩ := h; rfl
  · obtain ⟨st, L, a, b, rfl, hS, hL, hL2, ha, hab, hb, k⟩ := h
    have G__law_next := ok__law_next (P := P) (w := w) (base := base) T
    have lL : L.length ≤ 16777216 := Nat.le_trans hL2 (by decide)
    have pL : 0 < L.length := List.length_pos_iff.mpr hL
    refine ⟨_, (pss_cons (ps_set (i := 4) sc__law_word.nd rfl (Or.inl rfl) (G.pe_strS (l := []) (by decide +kernel)))
      (pss_cons (ps_for PassesOwn.never rfl (pi_range1 (by rfl) T.n_range (pa_cons (pe_op op_add (pv 2) (G.pe_callD T.d__law_next G__law_next (hr.mono (by decide)) (pa_cons (pv 0) (pa_cons (pe_op op_add (pe_op op_sub (pv 3) (pv 2)) pe_int) pa_nil)))) pa_nil)) (pg_name (i := 5) sc__law_word.nd rfl (Or.inl rfl)) (pss_one (ps_set (i := 4) sc__law_word.nd rfl (Or.inl rfl) (pe_op G.op_addS (pv 4) (pe_ix G.ix_S (pv 1) (G.pe_callD T.d__law_next G__law_next (hr.mono (by decide)) (pa_cons (pv 0) (pa_cons (pe_callB G.call_lenS (by rfl) T.n_len (by decide +kernel) (pa_cons (pv 1) pa_nil)) pa_nil))) (fun _ _ => rfl))))))
      (pss_one (ps_ret (pv 4))))), ?_⟩
    simp only [tVar, tC, G.sl_is, G.lt1, Int.reduceLT, Int.reduceLE, Int.reduceNeg, Int.reducePow, Int.reduceToNat, Int.reduceSub, Int.reduceAdd, Int.reduceMul, Nat.reduceLT, Nat.reduceLeDiff, Int.zero_add, ne_eq,  HO.lst.injEq, List.dropLast_concat, G.last_get,  HO.tup.injEq, G.rII, G.rBB, G.rSS,  tOp, tUn, rI, rI0, rU, tAndV, tOrV, tNotV, tIf, tAnd, tOr, tNot, tNext, tSeq, tBreak, tCont, tDrop, tRet, tRetN, tIfS, gName, gNil, gCons, G.gTupT, G.gUnlT, gSub, gUnl, tAsg, tPar, tTest, tB, tChain,
      tNil, tCons, tTup, tLst, tCall, tCB, tBM, tBM0, tSl, tNoPart, tPart, rSetL, G.atI0, G.atI1, G.atI2, G.ixN30, G.ixN31, G.ixN32, G.cx_K, and_self, rEq, rNe, G.scal_bl, G.scal_int, G.scal_sv,  G.sv_str, G.Kn_sv, G.Kn_int, G.Kn_bl, G.Kn_non, G.isI_int, G.isI_bl, G.isI_sv, G.isI_ref, G.isI_non, G.isB_int, G.isB_bl, G.isB_sv, G.isB_ref, G.isB_non, G.isS_int, G.isS_bl, G.isS_sv, G.isS_ref, G.isS_non, G.isT_int, G.isT_bl, G.isT_sv, G.isT_non, G.isL_int, G.isL_bl, G.isL_sv, G.isL_non,  L2.upd_same,  rAppend, rExtend, rPop, iRng1, iRng2, iList, iTup, iStr, CDivN, CPow, CMul, rIsB, rNotB, rAdd, rSub, G.tFor_eq, G.tLc_eq, G.tLc2_eq, tM0, tM1, G.rJoinS, G.rIndexAz, G.ex_str, G.iZ2, G.iZ3, G.iZE, G.Kd.is, G.tRevS, G.rSlA1, G.at_lst, G.at_tup, G.at_txt, tYes, wipe,
      List.getElem?_cons_succ, List.getElem?_cons_zero, List.set_cons_succ, List.set_cons_zero, Option.some.injEq, exists_eq_left', exists_eq_left, exists_eq', exists_eq, V.int.injEq, V.bl.injEq, V.ref.injEq, G.sv_inj, List.cons.injEq, and_true, true_and,
      exists_and_left, and_assoc, exists_eq_right_right, exists_eq_right, decide_eq_true_eq, List.append_nil, List.nil_append, List.cons_append, Bool.not_eq_true', decide_eq_false_iff_not, Bool.not_false, Bool.not_true, Bool.false_eq_true, Bool.true_eq_false, not_true, not_false_iff, L2.start, List.map_cons, List.map_nil, List.length_cons, List.length_nil, List.replicate_zero, List.replicate_succ,
      Nat.reduceAdd, Nat.reduceSub, Nat.add_zero, Nat.zero_add, reduceCtorEq, false_and, exists_false, false_or, or_false, ite_true, ite_false, if_true, if_false, G.spNext]
    refine ⟨hS, by omega, by omega, fun d H1 d0 d1 ad => ⟨by omega, by omega, ?_⟩⟩
    refine G.loop_range (fun i σ H2 => ∃ wd v5, σ = [some (.ref st), some (G.sv L), some (.int a), some (.int b), some (G.sv wd), v5] ∧ wd.length = i ∧ (∀ c ∈ wd, c ∈ L) ∧ G.Adv st H H2) ⟨[], _, rfl, rfl, by simp, ad⟩ (fun M hM i σ H2 hi hP => ?_) (fun σ H2 hP => ?_)
    · obtain ⟨wd, v5, rfl, hl, hm, ad2⟩ := hP
      simp only [tVar, tC, G.sl_is, G.lt1, Int.reduceLT, Int.reduceLE, Int.reduceNeg, Int.reducePow, Int.reduceToNat, Int.reduceSub, Int.reduceAdd, Int.reduceMul, Nat.reduceLT, Nat.reduceLeDiff, Int.zero_add, ne_eq,  HO.lst.injEq, List.dropLast_concat, G.last_get,  HO.tup.injEq, G.rII, G.rBB, G.rSS,  tOp, tUn, rI, rI0, rU, tAndV, tOrV, tNotV, tIf, tAnd, tOr, tNot, tNext, tSeq, tBreak, tCont, tDrop, tRet, tRetN, tIfS, gName, gNil, gCons, G.gTupT, G.gUnlT, gSub, gUnl, tAsg, tPar, tTest, tB, tChain,
      tNil, tCons, tTup, tLst, tCall, tCB, tBM, tBM0, tSl, tNoPart, tPart, rSetL, G.atI0, G.atI1, G.atI2, G.ixN30, G.ixN31, G.ixN32, G.cx_K, and_self, rEq, rNe, G.scal_bl, G.scal_int, G.scal_sv,  G.sv_str, G.Kn_sv, G.Kn_int, G.Kn_bl, G.Kn_non, G.isI_int, G.isI_bl, G.isI_sv, G.isI_ref, G.isI_non, G.isB_int, G.isB_bl, G.isB_sv, G.isB_ref, G.isB_non, G.isS_int, G.isS_bl, G.isS_sv, G.isS_ref, G.isS_non, G.isT_int, G.isT_bl, G.isT_sv, G.isT_non, G.isL_int, G.isL_bl, G.isL_sv, G.isL_non,  L2.upd_same,  rAppend, rExtend, rPop, iRng1, iRng2, iList, iTup, iStr, CDivN, CPow, CMul, rIsB, rNotB, rAdd, rSub, G.tFor_eq, G.tLc_eq, G.tLc2_eq, tM0, tM1, G.rJoinS, G.rIndexAz, G.ex_str, G.iZ2, G.iZ3, G.iZE, G.Kd.is, G.tRevS, G.rSlA1, G.at_lst, G.at_tup, G.at_txt, tYes, wipe,
      List.getElem?_cons_succ, List.getElem?_cons_zero, List.set_cons_succ, List.set_cons_zero, Option.some.injEq, exists_eq_left', exists_eq_left, exists_eq', exists_eq, V.int.injEq, V.bl.injEq, V.ref.injEq, G.sv_inj, List.cons.injEq, and_true, true_and,
      exists_and_left, and_assoc, exists_eq_right_right, exists_eq_right, decide_eq_true_eq, List.append_nil, List.nil_append, List.cons_append, Bool.not_eq_true', decide_eq_false_iff_not, Bool.not_false, Bool.not_true, Bool.false_eq_true, Bool.true_eq_false, not_true, not_false_iff, L2.start, List.map_cons, List.map_nil, List.length_cons, List.length_nil, List.replicate_zero, List.replicate_succ,
      Nat.reduceAdd, Nat.reduceSub, Nat.add_zero, Nat.zero_add, reduceCtorEq, false_and, exists_false, false_or, or_false, ite_true, ite_false, if_true, if_false, G.spNext, lL]
      refine ⟨ad2.2, by omega, by omega, fun j H3 j0 j1 ad3 => ?_⟩
      have jl : j.toNat < L.length := by omega
      refine ⟨L[j.toNat], G.atI_of (by simp [jl]) j0, ?_, ?_⟩
      · omega
      · rw [hM]
        refine ⟨_, _, rfl, by simp [hl], fun c hc => ?_, ad2.trans ad3⟩
        rcases List.mem_append.mp hc with hc | hc
        · exact hm c hc
        · rw [List.mem_singleton.mp hc]; exact List.getElem_mem _
    · obtain ⟨wd, v5, rfl, hl, hm, ad2⟩ := hP
      simp only [tVar, tC, G.sl_is, G.lt1, Int.reduceLT, Int.reduceLE, Int.reduceNeg, Int.reducePow, Int.reduceToNat, Int.reduceSub, Int.reduceAdd, Int.reduceMul, Nat.reduceLT, Nat.reduceLeDiff, Int.zero_add, ne_eq,  HO.lst.injEq, List.dropLast_concat, G.last_get,  HO.tup.injEq, G.rII, G.rBB, G.rSS,  tOp, tUn, rI, rI0, rU, tAndV, tOrV, tNotV, tIf, tAnd, tOr, tNot, tNext, tSeq, tBreak, tCont, tDrop, tRet, tRetN, tIfS, gName, gNil, gCons, G.gTupT, G.gUnlT, gSub, gUnl, tAsg, tPar, tTest, tB, tChain,
      tNil, tCons, tTup, tLst, tCall, tCB, tBM, tBM0, tSl, tNoPart, tPart, rSetL, G.atI0, G.atI1, G.atI2, G.ixN30, G.ixN31, G.ixN32, G.cx_K, and_self, rEq, rNe, G.scal_bl, G.scal_int, G.scal_sv,  G.sv_str, G.Kn_sv, G.Kn_int, G.Kn_bl, G.Kn_non, G.isI_int, G.isI_bl, G.isI_sv, G.isI_ref, G.isI_non, G.isB_int, G.isB_bl, G.isB_sv, G.isB_ref, G.isB_non, G.isS_int, G.isS_bl, G.isS_sv, G.isS_ref, G.isS_non, G.isT_int, G.isT_bl, G.isT_sv, G.isT_non, G.isL_int, G.isL_bl, G.isL_sv, G.isL_non,  L2.upd_same,  rAppend, rExtend, rPop, iRng1, iRng2, iList, iTup, iStr, CDivN, CPow, CMul, rIsB, rNotB, rAdd, rSub, G.tFor_eq, G.tLc_eq, G.tLc2_eq, tM0, tM1, G.rJoinS, G.rIndexAz, G.ex_str, G.iZ2, G.iZ3, G.iZE, G.Kd.is, G.tRevS, G.rSlA1, G.at_lst, G.at_tup, G.at_txt, tYes, wipe,
      List.getElem?_cons_succ, List.getElem?_cons_zero, List.set_cons_succ, List.set_cons_zero, Option.some.injEq, exists_eq_left', exists_eq_left, exists_eq', exists_eq, V.int.injEq, V.bl.injEq, V.ref.injEq, G.sv_inj, List.cons.injEq, and_true, true_and,
      exists_and_left, and_assoc, exists_eq_right_right, exists_eq_right, decide_eq_true_eq, List.append_nil, List.nil_append, List.cons_append, Bool.not_eq_true', decide_eq_false_iff_not, Bool.not_false, Bool.not_true, Bool.false_eq_true, Bool.true_eq_false, not_true, not_false_iff, L2.start, List.map_cons, List.map_nil, List.length_cons, List.length_nil, List.replicate_zero, List.replicate_succ,
      Nat.reduceAdd, Nat.reduceSub, Nat.add_zero, Nat.zero_add, reduceCtorEq, false_and, exists_false, false_or, or_false, ite_true, ite_false, if_true, if_false]
      exact k wd H2 (by omega) (by omega) hm ad2

theorem ok__law_same (T : Tx K mg) : T.d__law_same.Ok P w base CX0 1 G.spSame := by
  refine T.d__law_same.F.ok sc__law_same (fun vs H Q E h => ?_) (fun cdv A outer s H vs Q E hr h => ?_)
  · obtain ⟨_, _, _, rfl, _⟩ := h; rfl
  · obtain ⟨x0, y0, d0, rfl, hx, hy, hz, k⟩ := h
    refine ⟨_, (pss_cons (ps_set (i := 2) sc__law_same.nd rfl (Or.inl rfl) (pe_lst (pa_cons (pe_tup (pa_cons (pv 0) (pa_cons (pv 1) pa_nil))) pa_nil)))
      (pss_cons (ps_for PassesOwn.never rfl (pi_range1 (by rfl) T.n_range (pa_cons pe_int pa_nil)) (pg_name (i := 3) sc__law_same.nd rfl (Or.inl rfl)) (pss_cons (ps_if (pt_cmpR G.op_eqI (pe_callB G.call_lenL (by rfl) T.n_len (by decide +kernel) (pa_cons (pv 2) pa_nil)) pe_int (nomark _)) (pss_one (ps_ret pe_bl)) pss_nil)
        (pss_cons (ps_asg (pe_bm0 PySem.F.plainAttrs_list PySem.F.slot_list_pop PySem.F.type_list_pop mt_pop (pv 2)) (G.pg_tupT 2 rfl (pgs_cons (pg_name (i := 4) sc__law_same.nd rfl (Or.inr rfl)) (pgs_cons (pg_name (i := 5) sc__law_same.nd rfl (Or.inr rfl)) pgs_nil))))
        (pss_one (ps_if (PW.pt (pw_or (pt_val (pe_callB G.is_tup (by rfl) T.n_isinstance (by decide +kernel) (pa_cons (pv 5) (pa_cons (G.pe_ty (n := "tuple") (by rfl) T.n_tuple) pa_nil)))) (pw_or1 (pt_val (pe_callB G.is_lst (by rfl) T.n_isinstance (by decide +kernel) (pa_cons (pv 5) (pa_cons (G.pe_ty (n := "list") (by rfl) T.n_list) pa_nil))))))) (pss_cons (ps_if (PW.pt (pw_or (pt_cmpR G.op_neB (pe_callB G.is_tup (by rfl) T.n_isinstance (by decide +kernel) (pa_cons (pv 5) (pa_cons (G.pe_ty (n := "tuple") (by rfl) T.n_tuple) pa_nil))) (pe_callB G.is_tup (by rfl) T.n_isinstance (by decide +kernel) (pa_cons (pv 4) (pa_cons (G.pe_ty (n := "tuple") (by rfl) T.n_tuple) pa_nil))) (nomark _)) (pw_or1 (pt_cmpR G.op_neB (pe_callB G.is_lst (by rfl) T.n_isinstance (by decide +kernel) (pa_cons (pv 5) (pa_cons (G.pe_ty (n := "list") (by rfl) T.n_list) pa_nil))) (pe_callB G.is_lst (by rfl) T.n_isinstance (by decide +kernel) (pa_cons (pv 4) (pa_cons (G.pe_ty (n := "list") (by rfl) T.n_list) pa_nil))) (nomark _))))) (pss_one (ps_ret pe_bl)) pss_nil)
          (pss_cons (ps_if (pt_cmpR G.op_neI (pe_callB G.call_lenA (by rfl) T.n_len (by decide +kernel) (pa_cons (pv 4) pa_nil)) (pe_callB G.call_lenA (by rfl) T.n_len (by decide +kernel) (pa_cons (pv 5) pa_nil)) (nomark _)) (pss_one (ps_ret pe_bl)) pss_nil)
          (pss_one (ps_expr (pe_bm PySem.F.plainAttrs_list PySem.F.slot_list_extend PySem.F.type_list_extend mt_extend (pv 2) (pa_cons (pe_lc (own := [("at", 6)]) (g := gName 6) (tt := tYes) rfl sc__law_same.nd (pi_range1 (by rfl) T.n_range (pa_cons (pe_callB G.call_lenA (by rfl) T.n_len (by decide +kernel) (pa_cons (pv 5) pa_nil)) pa_nil)) (blkOk_by (own := [("at", 6)]) (N := ["actual", "due", "left", "turn", "one", "other", "at"]) (sc := defScope s__law_same) (by decide +kernel)) (fun _ _ _ _ _ => pg_name (i := 6) sc__law_same.nd rfl (Or.inl rfl)) (fun _ _ _ _ _ => pts_nil) (fun _ _ _ _ _ => (pe_tup (pa_cons (pe_ix G.ix_any (pv 4) (pv 6) (fun _ _ => rfl)) (pa_cons (pe_ix G.ix_any (pv 5) (pv 6) (fun _ _ => rfl)) pa_nil))))) pa_nil)))))) (pss_one (ps_if (pt_val (pe_callB G.is_bool (by rfl) T.n_isinstance (by decide +kernel) (pa_cons (pv 5) (pa_cons (G.pe_ty (n := "bool") (by rfl) T.n_bool) pa_nil)))) (pss_one (ps_if (PW.pt (pw_or (pt_not (pt_val (pe_callB G.is_bool (by rfl) T.n_isinstance (by decide +kernel) (pa_cons (pv 4) (pa_cons (G.pe_ty (n := "bool") (by rfl) T.n_bool) pa_nil))))) (pw_or1 (pt_cmpR op_ne (pv 4) (pv 5) (nomark _))))) (pss_one (ps_ret pe_bl)) pss_nil)) (pss_one (ps_if (pt_val (pe_callB G.is_int (by rfl) T.n_isinstance (by decide +kernel) (pa_cons (pv 5) (pa_cons (G.pe_ty (n := "int") (by rfl) T.n_int) pa_nil)))) (pss_one (ps_if (PW.pt (pw_or (pt_not (pt_val (pe_callB G.is_int (by rfl) T.n_isinstance (by decide +kernel) (pa_cons (pv 4) (pa_cons (G.pe_ty (n := "int") (by rfl) T.n_int) pa_nil))))) (pw_or (pt_val (pe_callB G.is_bool (by rfl) T.n_isinstance (by decide +kernel) (pa_cons (pv 4) (pa_cons (G.pe_ty (n := "bool") (by rfl) T.n_bool) pa_nil)))) (pw_or1 (pt_cmpR op_ne (pv 4) (pv 5) (nomark _)))))) (pss_one (ps_ret pe_bl)) pss_nil)) (pss_one (ps_if (pt_val (pe_callB G.is_str (by rfl) T.n_isinstance (by decide +kernel) (pa_cons (pv 5) (pa_cons (G.pe_ty (n := "str") (by rfl) T.n_str) pa_nil)))) (pss_one (ps_if (PW.pt (pw_or (pt_not (pt_val (pe_callB G.is_str (by rfl) T.n_isinstance (by decide +kernel) (pa_cons (pv 4) (pa_cons (G.pe_ty (n := "str") (by rfl) T.n_str) pa_nil))))) (pw_or1 (pt_cmpR op_ne (pv 4) (pv 5) (nomark _))))) (pss_one (ps_ret pe_bl)) pss_nil)) (pss_one (ps_if (pt_cmpR op_notN (pv 4) pe_non (nomark _)) (pss_one (ps_ret pe_bl)) pss_nil)))))))))))))
      (pss_one (ps_ret pe_bl)))), ?_⟩
    simp only [tVar, tC, G.sl_is, G.lt1, Int.reduceLT, Int.reduceLE, Int.reduceNeg, Int.reducePow, Int.reduceToNat, Int.reduceSub, Int.reduceAdd, Int.reduceMul, Nat.reduceLT, Nat.reduceLeDiff, Int.zero_add, ne_eq,  HO.lst.injEq, List.dropLast_concat, G.last_get,  HO.tup.injEq, G.rII, G.rBB, G.rSS,  tOp, tUn, rI, rI0, rU, tAndV, tOrV, tNotV, tIf, tAnd, tOr, tNot, tNext, tSeq, tBreak, tCont, tDrop, tRet, tRetN, tIfS, gName, gNil, gCons, G.gTupT, G.gUnlT, gSub, gUnl, tAsg, tPar, tTest, tB, tChain,
      tNil, tCons, tTup, tLst, tCall, tCB, tBM, tBM0, tSl, tNoPart, tPart, rSetL, G.atI0, G.atI1, G.atI2, G.ixN30, G.ixN31, G.ixN32, G.cx_K, and_self, rEq, rNe, G.scal_bl, G.scal_int, G.scal_sv,  G.sv_str, G.Kn_sv, G.Kn_int, G.Kn_bl, G.Kn_non, G.isI_int, G.isI_bl, G.isI_sv, G.isI_ref, G.isI_non, G.isB_int, G.isB_bl, G.isB_sv, G.isB_ref, G.isB_non, G.isS_int, G.isS_bl, G.isS_sv, G.isS_ref, G.isS_non, G.isT_int, G.isT_bl, G.isT_sv, G.isT_non, G.isL_int, G.isL_bl, G.isL_sv, G.isL_non,  L2.upd_same,  rAppend, rExtend, rPop, iRng1, iRng2, iList, iTup, iStr, CDivN, CPow, CMul, rIsB, rNotB, rAdd, rSub, G.tFor_eq, G.tLc_eq, G.tLc2_eq, tM0, tM1, G.rJoinS, G.rIndexAz, G.ex_str, G.iZ2, G.iZ3, G.iZE, G.Kd.is, G.tRevS, G.rSlA1, G.at_lst, G.at_tup, G.at_txt, tYes, wipe,
      List.getElem?_cons_succ, List.getElem?_cons_zero, List.set_cons_succ, List.set_cons_zero, Option.some.injEq, exists_eq_left', exists_eq_left, exists_eq', exists_eq, V.int.injEq, V.bl.injEq, V.ref.injEq, G.sv_inj, List.cons.injEq, and_true, true_and,
      exists_and_left, and_assoc, exists_eq_right_right, exists_eq_right, decide_eq_true_eq, List.append_nil, List.nil_append, List.cons_append, Bool.not_eq_true', decide_eq_false_iff_not, Bool.not_false, Bool.not_true, Bool.false_eq_true, Bool.true_eq_false, not_true, not_false_iff, L2.start, List.map_cons, List.map_nil, List.length_cons, List.length_nil, List.replicate_zero, List.replicate_succ,
      Nat.reduceAdd, Nat.reduceSub, Nat.add_zero, Nat.zero_add, reduceCtorEq, false_and, exists_false, false_or, or_false, ite_true, ite_false, if_true, if_false]
    refine fun t0 n0 L nL => ?_
    have sL : Same H (upd (upd H t0 (.tup [x0, y0])) L (.lst [.ref t0])) := (G.same_upd n0).trans (G.same_upd nL)
    have tL : t0 ≠ L := fun e => by rw [e, upd_same] at nL; cases nL
    have hL0 : H L = none := (G.same_upd n0).free nL
    refine G.loop_range (fun i σ H2 => ∃ v3 v4 v5 ps ds, σ = [some x0, some y0, some (.ref L), v3, v4, v5, none] ∧ Same H H2 ∧ H2 L = some (.lst ps) ∧ G.Prs H L H2 ps ds ∧ i + G.Dat.szL ds = d0.sz) ?_ (fun M hM i σ H2 hi hP => ?_) (fun σ H2 hP => ?_)
    · refine ⟨_, _, _, [.ref t0], [d0], rfl, sL, upd_same, ⟨d0, [], rfl, ⟨t0, x0, y0, rfl, tL, by rw [upd_ne tL, upd_same], hx, hy⟩, rfl⟩, ?_⟩
      simp [G.Dat.szL]
    · obtain ⟨v3, v4, v5, ps, ds, rfl, s2, e2, hp, hsz⟩ := hP
      simp only [tVar, tC, G.sl_is, G.lt1, Int.reduceLT, Int.reduceLE, Int.reduceNeg, Int.reducePow, Int.reduceToNat, Int.reduceSub, Int.reduceAdd, Int.reduceMul, Nat.reduceLT, Nat.reduceLeDiff, Int.zero_add, ne_eq,  HO.lst.injEq, List.dropLast_concat, G.last_get,  HO.tup.injEq, G.rII, G.rBB, G.rSS,  tOp, tUn, rI, rI0, rU, tAndV, tOrV, tNotV, tIf, tAnd, tOr, tNot, tNext, tSeq, tBreak, tCont, tDrop, tRet, tRetN, tIfS, gName, gNil, gCons, G.gTupT, G.gUnlT, gSub, gUnl, tAsg, tPar, tTest, tB, tChain,
      tNil, tCons, tTup, tLst, tCall, tCB, tBM, tBM0, tSl, tNoPart, tPart, rSetL, G.atI0, G.atI1, G.atI2, G.ixN30, G.ixN31, G.ixN32, G.cx_K, and_self, rEq, rNe, G.scal_bl, G.scal_int, G.scal_sv,  G.sv_str, G.Kn_sv, G.Kn_int, G.Kn_bl, G.Kn_non, G.isI_int, G.isI_bl, G.isI_sv, G.isI_ref, G.isI_non, G.isB_int, G.isB_bl, G.isB_sv, G.isB_ref, G.isB_non, G.isS_int, G.isS_bl, G.isS_sv, G.isS_ref, G.isS_non, G.isT_int, G.isT_bl, G.isT_sv, G.isT_non, G.isL_int, G.isL_bl, G.isL_sv, G.isL_non,  L2.upd_same,  rAppend, rExtend, rPop, iRng1, iRng2, iList, iTup, iStr, CDivN, CPow, CMul, rIsB, rNotB, rAdd, rSub, G.tFor_eq, G.tLc_eq, G.tLc2_eq, tM0, tM1, G.rJoinS, G.rIndexAz, G.ex_str, G.iZ2, G.iZ3, G.iZE, G.Kd.is, G.tRevS, G.rSlA1, G.at_lst, G.at_tup, G.at_txt, tYes, wipe,
      List.getElem?_cons_succ, List.getElem?_cons_zero, List.set_cons_succ, List.set_cons_zero, Option.some.injEq, exists_eq_left', exists_eq_left, exists_eq', exists_eq, V.int.injEq, V.bl.injEq, V.ref.injEq, G.sv_inj, List.cons.injEq, and_true, true_and,
      exists_and_left, and_assoc, exists_eq_right_right, exists_eq_right, decide_eq_true_eq, List.append_nil, List.nil_append, List.cons_append, Bool.not_eq_true', decide_eq_false_iff_not, Bool.not_false, Bool.not_true, Bool.false_eq_true, Bool.true_eq_false, not_true, not_false_iff, L2.start, List.map_cons, List.map_nil, List.length_cons, List.length_nil, List.replicate_zero, List.replicate_succ,
      Nat.reduceAdd, Nat.reduceSub, Nat.add_zero, Nat.zero_add, reduceCtorEq, false_and, exists_false, false_or, or_false, ite_true, ite_false, if_true, if_false, e2]
      rcases G.Prs.last hp with ⟨rfl, rfl⟩ | ⟨ps', p, ds', d, rfl, rfl, t, x, y, rfl, nt, ht, rx, ry, hp'⟩
      · simp only [List.length_nil]
        exact k H2 s2
      · rw [if_neg (by simp; omega)]
        have s3 : ∀ o, Same H (upd H2 L o) := fun o b q e => by rw [upd_ne (ne_of_none e hL0)]; exact s2 b q e
        have hp3 : ∀ o, G.Prs H L (upd H2 L o) ps' ds' := fun o => G.Prs.keep (fun b q nb e => by rw [upd_ne nb]; exact e) hp'
        rw [G.Dat.szL_app] at hsz
        simp only [G.Dat.szL, Nat.add_zero] at hsz
        have pz := G.Dat.sz_pos d
        have htu : ∀ o, (upd H2 L o) t = some (.tup [x, y]) := fun o => by rw [upd_ne nt]; exact ht
        have fin : ∀ H3 v3 v4 v5 o, H3 = upd H2 L o → o = .lst ps' → i + 1 + G.Dat.szL ds' = d0.sz → M (i + 1) [some x0, some y0, some (.ref L), v3, v4, v5, none] H3 := fun H3 v3 v4 v5 o e eo en => by
          subst eo; subst e
          rw [hM]; exact ⟨_, _, _, ps', ds', rfl, s3 _, upd_same, hp3 _, en⟩
        have seqC : ∀ (a b : Addr) (xs ys : List V) (es : List G.Dat), H a = some (.tup xs) ∧ H b = some (.tup ys) ∨ H a = some (.lst xs) ∧ H b = some (.lst ys) → G.RpL H es xs → G.RpL H es ys → d.sz = 1 + G.Dat.szL es →
            ∀ H3, H3 = upd H2 L (.lst ps') → G.LcOk (Itr 0 ys.length) (gName 6) tYes (tTup (tCons (tOp (fun x y H Q => ∃ p, x = V.ref p ∧ ∃ x, y = V.int x ∧ ∃ x_1, G.items H p = some x_1 ∧ ∃ x_2, atI x_1 x = some x_2 ∧ Q x_2 H) (tVar 4) (tVar 6))
              (tCons (tOp (fun x y H Q => ∃ p, x = V.ref p ∧ ∃ x, y = V.int x ∧ ∃ x_1, G.items H p = some x_1 ∧ ∃ x_2, atI x_1 x = some x_2 ∧ Q x_2 H) (tVar 5) (tVar 6)) tNil))) [6]
              [some x0, some y0, some (.ref L), some (.int (i : Int)), some (.ref a), some (.ref b), none] H3 fun x H1 => ∃ x_2, x = V.ref x_2 ∧ ∃ x_3, H1 L = some (.lst x_3) ∧ ∃ x_4, H1 x_2 = some (.lst x_4) ∧ x_3.length + x_4.length ≤ 16777216 ∧ M (i + 1) [some x0, some y0, some (.ref L), some (.int (i : Int)), some (.ref a), some (.ref b), none] (upd H1 L (.lst (x_3 ++ x_4))) := by
          intro a b xs ys es hab rxs rys hds H3 e3
          subst e3
          have lx := rxs.len
          have ly := rys.len
          refine G.comp_range (fun D j H4 => ∃ acc, Same H H4 ∧ H4 L = some (.lst ps') ∧ H4 D = some (.lst acc) ∧ G.Prs H L H4 ps' ds' ∧ G.Prs H L H4 acc (es.take j) ∧ D ≠ L) (fun D hD => ?_) (fun M1 hM1 D hD j H4 hj hP => ?_) (fun D hD H4 hP => ?_)
          · have dL : D ≠ L := fun e => by rw [e, upd_same] at hD; cases hD
            refine ⟨[], (s3 _).trans (G.same_upd hD), by rw [upd_ne dL.symm, upd_same], upd_same, (hp3 _).keep fun b o _ q => (G.same_upd hD) b o q, rfl, dL⟩
          · obtain ⟨acc, q1, q2, q3, q4, q5, dL⟩ := hP
            have hj' : j < es.length := by omega
            obtain ⟨u, hu, ru⟩ := rxs.get (List.getElem?_eq_getElem hj')
            obtain ⟨v, hv, rv⟩ := rys.get (List.getElem?_eq_getElem hj')
            have ia : G.items H4 a = some xs := hab.elim (fun h => G.items_tup (q1 _ _ h.1)) (fun h => G.items_lst (q1 _ _ h.1))
            have ib : G.items H4 b = some ys := hab.elim (fun h => G.items_tup (q1 _ _ h.2)) (fun h => G.items_lst (q1 _ _ h.2))
            simp only [tVar, tC, G.sl_is, G.lt1, Int.reduceLT, Int.reduceLE, Int.reduceNeg, Int.reducePow, Int.reduceToNat, Int.reduceSub, Int.reduceAdd, Int.reduceMul, Nat.reduceLT, Nat.reduceLeDiff, Int.zero_add, ne_eq,  HO.lst.injEq, List.dropLast_concat, G.last_get,  HO.tup.injEq, G.rII, G.rBB, G.rSS,  tOp, tUn, rI, rI0, rU, tAndV, tOrV, tNotV, tIf, tAnd, tOr, tNot, tNext, tSeq, tBreak, tCont, tDrop, tRet, tRetN, tIfS, gName, gNil, gCons, G.gTupT, G.gUnlT, gSub, gUnl, tAsg, tPar, tTest, tB, tChain,
      tNil, tCons, tTup, tLst, tCall, tCB, tBM, tBM0, tSl, tNoPart, tPart, rSetL, G.atI0, G.atI1, G.atI2, G.ixN30, G.ixN31, G.ixN32, G.cx_K, and_self, rEq, rNe, G.scal_bl, G.scal_int, G.scal_sv,  G.sv_str, G.Kn_sv, G.Kn_int, G.Kn_bl, G.Kn_non, G.isI_int, G.isI_bl, G.isI_sv, G.isI_ref, G.isI_non, G.isB_int, G.isB_bl, G.isB_sv, G.isB_ref, G.isB_non, G.isS_int, G.isS_bl, G.isS_sv, G.isS_ref, G.isS_non, G.isT_int, G.isT_bl, G.isT_sv, G.isT_non, G.isL_int, G.isL_bl, G.isL_sv, G.isL_non,  L2.upd_same,  rAppend, rExtend, rPop, iRng1, iRng2, iList, iTup, iStr, CDivN, CPow, CMul, rIsB, rNotB, rAdd, rSub, G.tFor_eq, G.tLc_eq, G.tLc2_eq, tM0, tM1, G.rJoinS, G.rIndexAz, G.ex_str, G.iZ2, G.iZ3, G.iZE, G.Kd.is, G.tRevS, G.rSlA1, G.at_lst, G.at_tup, G.at_txt, tYes, wipe,
      List.getElem?_cons_succ, List.getElem?_cons_zero, List.set_cons_succ, List.set_cons_zero, Option.some.injEq, exists_eq_left', exists_eq_left, exists_eq', exists_eq, V.int.injEq, V.bl.injEq, V.ref.injEq, G.sv_inj, List.cons.injEq, and_true, true_and,
      exists_and_left, and_assoc, exists_eq_right_right, exists_eq_right, decide_eq_true_eq, List.append_nil, List.nil_append, List.cons_append, Bool.not_eq_true', decide_eq_false_iff_not, Bool.not_false, Bool.not_true, Bool.false_eq_true, Bool.true_eq_false, not_true, not_false_iff, L2.start, List.map_cons, List.map_nil, List.length_cons, List.length_nil, List.replicate_zero, List.replicate_succ,
      Nat.reduceAdd, Nat.reduceSub, Nat.add_zero, Nat.zero_add, reduceCtorEq, false_and, exists_false, false_or, or_false, ite_true, ite_false, if_true, if_false, ia, ib]
            refine ⟨u, atI_nat hu, v, atI_nat hv, fun t' nt' => ?_⟩
            have tD : D ≠ t' := ne_of_none q3 nt'
            have tL' : L ≠ t' := ne_of_none q2 nt'
            rw [upd_ne tD, q3]
            refine ⟨acc, rfl, ?_, ?_⟩
            · have := q5.len
              rw [this, List.length_take]
              have z1 := G.Dat.szL_len es
              omega
            · rw [hM1]
              have keep : ∀ b o, b ≠ D → H4 b = some o → (upd (upd H4 t' (.tup [u, v])) D (.lst (acc ++ [.ref t']))) b = some o := fun b o nb e => by
                rw [upd_ne nb, upd_ne (ne_of_none e nt')]; exact e
              have keepP : ∀ {ps : List V} {ds : List G.Dat}, G.Prs H L H4 ps ds → G.Prs H L (upd (upd H4 t' (.tup [u, v])) D (.lst (acc ++ [.ref t']))) ps ds := fun h => by
                refine G.Prs.keep0 (fun b xs e => ?_) h
                have nb : b ≠ D := fun z => by rw [z, q3] at e; cases e
                exact keep b _ nb e
              refine ⟨acc ++ [.ref t'], fun b o e => ?_, keep L _ dL.symm q2, upd_same, keepP q4, ?_, dL⟩
              · have nb : b ≠ D := fun z => by
                  rw [z] at e
                  have := (G.same_upd (o := .lst []) (H := upd H2 L (.lst ps')) hD)
                  rw [s3 _ _ _ e] at hD; cases hD
                exact keep b o nb (q1 b o e)
              · rw [List.take_add_one, List.getElem?_eq_getElem hj']
                exact (keepP q5).app ⟨_, [], rfl, ⟨t', u, v, rfl, tL'.symm, by rw [upd_ne tD.symm, upd_same], ru, rv⟩, rfl⟩
          · obtain ⟨acc, q1, q2, q3, q4, q5, dL⟩ := hP
            rw [ly, List.take_length] at q5
            refine ⟨_, rfl, _, q2, _, q3, ?_, ?_⟩
            · have z1 := q4.len
              have z2 := q5.len
              have z3 := G.Dat.szL_len ds'
              have z4 := G.Dat.szL_len es
              omega
            · rw [hM]
              have kp : ∀ {ps : List V} {ds : List G.Dat}, G.Prs H L H4 ps ds → G.Prs H L (upd H4 L (.lst (ps' ++ acc))) ps ds := fun h => G.Prs.keep (fun b o nb e => by rw [upd_ne nb]; exact e) h
              refine ⟨_, _, _, ps' ++ acc, ds' ++ es, rfl, fun b o e => by rw [upd_ne (ne_of_none e hL0)]; exact q1 b o e, upd_same, (kp q4).app (kp q5), ?_⟩
              rw [G.Dat.szL_app]; omega
        cases d with
        | non =>
          obtain rfl : x = .non := rx
          obtain rfl : y = .non := ry
          simp only [tVar, tC, G.sl_is, G.lt1, Int.reduceLT, Int.reduceLE, Int.reduceNeg, Int.reducePow, Int.reduceToNat, Int.reduceSub, Int.reduceAdd, Int.reduceMul, Nat.reduceLT, Nat.reduceLeDiff, Int.zero_add, ne_eq,  HO.lst.injEq, List.dropLast_concat, G.last_get,  HO.tup.injEq, G.rII, G.rBB, G.rSS,  tOp, tUn, rI, rI0, rU, tAndV, tOrV, tNotV, tIf, tAnd, tOr, tNot, tNext, tSeq, tBreak, tCont, tDrop, tRet, tRetN, tIfS, gName, gNil, gCons, G.gTupT, G.gUnlT, gSub, gUnl, tAsg, tPar, tTest, tB, tChain,
      tNil, tCons, tTup, tLst, tCall, tCB, tBM, tBM0, tSl, tNoPart, tPart, rSetL, G.atI0, G.atI1, G.atI2, G.ixN30, G.ixN31, G.ixN32, G.cx_K, and_self, rEq, rNe, G.scal_bl, G.scal_int, G.scal_sv,  G.sv_str, G.Kn_sv, G.Kn_int, G.Kn_bl, G.Kn_non, G.isI_int, G.isI_bl, G.isI_sv, G.isI_ref, G.isI_non, G.isB_int, G.isB_bl, G.isB_sv, G.isB_ref, G.isB_non, G.isS_int, G.isS_bl, G.isS_sv, G.isS_ref, G.isS_non, G.isT_int, G.isT_bl, G.isT_sv, G.isT_non, G.isL_int, G.isL_bl, G.isL_sv, G.isL_non,  L2.upd_same,  rAppend, rExtend, rPop, iRng1, iRng2, iList, iTup, iStr, CDivN, CPow, CMul, rIsB, rNotB, rAdd, rSub, G.tFor_eq, G.tLc_eq, G.tLc2_eq, tM0, tM1, G.rJoinS, G.rIndexAz, G.ex_str, G.iZ2, G.iZ3, G.iZE, G.Kd.is, G.tRevS, G.rSlA1, G.at_lst, G.at_tup, G.at_txt, tYes, wipe,
      List.getElem?_cons_succ, List.getElem?_cons_zero, List.set_cons_succ, List.set_cons_zero, Option.some.injEq, exists_eq_left', exists_eq_left, exists_eq', exists_eq, V.int.injEq, V.bl.injEq, V.ref.injEq, G.sv_inj, List.cons.injEq, and_true, true_and,
      exists_and_left, and_assoc, exists_eq_right_right, exists_eq_right, decide_eq_true_eq, List.append_nil, List.nil_append, List.cons_append, Bool.not_eq_true', decide_eq_false_iff_not, Bool.not_false, Bool.not_true, Bool.false_eq_true, Bool.true_eq_false, not_true, not_false_iff, L2.start, List.map_cons, List.map_nil, List.length_cons, List.length_nil, List.replicate_zero, List.replicate_succ,
      Nat.reduceAdd, Nat.reduceSub, Nat.add_zero, Nat.zero_add, reduceCtorEq, false_and, exists_false, false_or, or_false, ite_true, ite_false, if_true, if_false, htu]
          exact ⟨G.tyL e2, fin _ _ _ _ _ rfl rfl (by simp only [G.Dat.sz] at hsz; omega)⟩
        | bl b =>
          obtain rfl : x = .bl b := rx
          obtain rfl : y = .bl b := ry
          simp only [tVar, tC, G.sl_is, G.lt1, Int.reduceLT, Int.reduceLE, Int.reduceNeg, Int.reducePow, Int.reduceToNat, Int.reduceSub, Int.reduceAdd, Int.reduceMul, Nat.reduceLT, Nat.reduceLeDiff, Int.zero_add, ne_eq,  HO.lst.injEq, List.dropLast_concat, G.last_get,  HO.tup.injEq, G.rII, G.rBB, G.rSS,  tOp, tUn, rI, rI0, rU, tAndV, tOrV, tNotV, tIf, tAnd, tOr, tNot, tNext, tSeq, tBreak, tCont, tDrop, tRet, tRetN, tIfS, gName, gNil, gCons, G.gTupT, G.gUnlT, gSub, gUnl, tAsg, tPar, tTest, tB, tChain,
      tNil, tCons, tTup, tLst, tCall, tCB, tBM, tBM0, tSl, tNoPart, tPart, rSetL, G.atI0, G.atI1, G.atI2, G.ixN30, G.ixN31, G.ixN32, G.cx_K, and_self, rEq, rNe, G.scal_bl, G.scal_int, G.scal_sv,  G.sv_str, G.Kn_sv, G.Kn_int, G.Kn_bl, G.Kn_non, G.isI_int, G.isI_bl, G.isI_sv, G.isI_ref, G.isI_non, G.isB_int, G.isB_bl, G.isB_sv, G.isB_ref, G.isB_non, G.isS_int, G.isS_bl, G.isS_sv, G.isS_ref, G.isS_non, G.isT_int, G.isT_bl, G.isT_sv, G.isT_non, G.isL_int, G.isL_bl, G.isL_sv, G.isL_non,  L2.upd_same,  rAppend, rExtend, rPop, iRng1, iRng2, iList, iTup, iStr, CDivN, CPow, CMul, rIsB, rNotB, rAdd, rSub, G.tFor_eq, G.tLc_eq, G.tLc2_eq, tM0, tM1, G.rJoinS, G.rIndexAz, G.ex_str, G.iZ2, G.iZ3, G.iZE, G.Kd.is, G.tRevS, G.rSlA1, G.at_lst, G.at_tup, G.at_txt, tYes, wipe,
      List.getElem?_cons_succ, List.getElem?_cons_zero, List.set_cons_succ, List.set_cons_zero, Option.some.injEq, exists_eq_left', exists_eq_left, exists_eq', exists_eq, V.int.injEq, V.bl.injEq, V.ref.injEq, G.sv_inj, List.cons.injEq, and_true, true_and,
      exists_and_left, and_assoc, exists_eq_right_right, exists_eq_right, decide_eq_true_eq, List.append_nil, List.nil_append, List.cons_append, Bool.not_eq_true', decide_eq_false_iff_not, Bool.not_false, Bool.not_true, Bool.false_eq_true, Bool.true_eq_false, not_true, not_false_iff, L2.start, List.map_cons, List.map_nil, List.length_cons, List.length_nil, List.replicate_zero, List.replicate_succ,
      Nat.reduceAdd, Nat.reduceSub, Nat.add_zero, Nat.zero_add, reduceCtorEq, false_and, exists_false, false_or, or_false, ite_true, ite_false, if_true, if_false, htu, decide_true]
          exact ⟨G.tyL e2, fin _ _ _ _ _ rfl rfl (by simp only [G.Dat.sz] at hsz; omega)⟩
        | int b =>
          obtain rfl : x = .int b := rx
          obtain rfl : y = .int b := ry
          simp only [tVar, tC, G.sl_is, G.lt1, Int.reduceLT, Int.reduceLE, Int.reduceNeg, Int.reducePow, Int.reduceToNat, Int.reduceSub, Int.reduceAdd, Int.reduceMul, Nat.reduceLT, Nat.reduceLeDiff, Int.zero_add, ne_eq,  HO.lst.injEq, List.dropLast_concat, G.last_get,  HO.tup.injEq, G.rII, G.rBB, G.rSS,  tOp, tUn, rI, rI0, rU, tAndV, tOrV, tNotV, tIf, tAnd, tOr, tNot, tNext, tSeq, tBreak, tCont, tDrop, tRet, tRetN, tIfS, gName, gNil, gCons, G.gTupT, G.gUnlT, gSub, gUnl, tAsg, tPar, tTest, tB, tChain,
      tNil, tCons, tTup, tLst, tCall, tCB, tBM, tBM0, tSl, tNoPart, tPart, rSetL, G.atI0, G.atI1, G.atI2, G.ixN30, G.ixN31, G.ixN32, G.cx_K, and_self, rEq, rNe, G.scal_bl, G.scal_int, G.scal_sv,  G.sv_str, G.Kn_sv, G.Kn_int, G.Kn_bl, G.Kn_non, G.isI_int, G.isI_bl, G.isI_sv, G.isI_ref, G.isI_non, G.isB_int, G.isB_bl, G.isB_sv, G.isB_ref, G.isB_non, G.isS_int, G.isS_bl, G.isS_sv, G.isS_ref, G.isS_non, G.isT_int, G.isT_bl, G.isT_sv, G.isT_non, G.isL_int, G.isL_bl, G.isL_sv, G.isL_non,  L2.upd_same,  rAppend, rExtend, rPop, iRng1, iRng2, iList, iTup, iStr, CDivN, CPow, CMul, rIsB, rNotB, rAdd, rSub, G.tFor_eq, G.tLc_eq, G.tLc2_eq, tM0, tM1, G.rJoinS, G.rIndexAz, G.ex_str, G.iZ2, G.iZ3, G.iZE, G.Kd.is, G.tRevS, G.rSlA1, G.at_lst, G.at_tup, G.at_txt, tYes, wipe,
      List.getElem?_cons_succ, List.getElem?_cons_zero, List.set_cons_succ, List.set_cons_zero, Option.some.injEq, exists_eq_left', exists_eq_left, exists_eq', exists_eq, V.int.injEq, V.bl.injEq, V.ref.injEq, G.sv_inj, List.cons.injEq, and_true, true_and,
      exists_and_left, and_assoc, exists_eq_right_right, exists_eq_right, decide_eq_true_eq, List.append_nil, List.nil_append, List.cons_append, Bool.not_eq_true', decide_eq_false_iff_not, Bool.not_false, Bool.not_true, Bool.false_eq_true, Bool.true_eq_false, not_true, not_false_iff, L2.start, List.map_cons, List.map_nil, List.length_cons, List.length_nil, List.replicate_zero, List.replicate_succ,
      Nat.reduceAdd, Nat.reduceSub, Nat.add_zero, Nat.zero_add, reduceCtorEq, false_and, exists_false, false_or, or_false, ite_true, ite_false, if_true, if_false, htu, decide_true]
          exact ⟨G.tyL e2, fin _ _ _ _ _ rfl rfl (by simp only [G.Dat.sz] at hsz; omega)⟩
        | str b =>
          obtain rfl : x = G.sv b := rx
          obtain rfl : y = G.sv b := ry
          simp only [tVar, tC, G.sl_is, G.lt1, Int.reduceLT, Int.reduceLE, Int.reduceNeg, Int.reducePow, Int.reduceToNat, Int.reduceSub, Int.reduceAdd, Int.reduceMul, Nat.reduceLT, Nat.reduceLeDiff, Int.zero_add, ne_eq,  HO.lst.injEq, List.dropLast_concat, G.last_get,  HO.tup.injEq, G.rII, G.rBB, G.rSS,  tOp, tUn, rI, rI0, rU, tAndV, tOrV, tNotV, tIf, tAnd, tOr, tNot, tNext, tSeq, tBreak, tCont, tDrop, tRet, tRetN, tIfS, gName, gNil, gCons, G.gTupT, G.gUnlT, gSub, gUnl, tAsg, tPar, tTest, tB, tChain,
      tNil, tCons, tTup, tLst, tCall, tCB, tBM, tBM0, tSl, tNoPart, tPart, rSetL, G.atI0, G.atI1, G.atI2, G.ixN30, G.ixN31, G.ixN32, G.cx_K, and_self, rEq, rNe, G.scal_bl, G.scal_int, G.scal_sv,  G.sv_str, G.Kn_sv, G.Kn_int, G.Kn_bl, G.Kn_non, G.isI_int, G.isI_bl, G.isI_sv, G.isI_ref, G.isI_non, G.isB_int, G.isB_bl, G.isB_sv, G.isB_ref, G.isB_non, G.isS_int, G.isS_bl, G.isS_sv, G.isS_ref, G.isS_non, G.isT_int, G.isT_bl, G.isT_sv, G.isT_non, G.isL_int, G.isL_bl, G.isL_sv, G.isL_non,  L2.upd_same,  rAppend, rExtend, rPop, iRng1, iRng2, iList, iTup, iStr, CDivN, CPow, CMul, rIsB, rNotB, rAdd, rSub, G.tFor_eq, G.tLc_eq, G.tLc2_eq, tM0, tM1, G.rJoinS, G.rIndexAz, G.ex_str, G.iZ2, G.iZ3, G.iZE, G.Kd.is, G.tRevS, G.rSlA1, G.at_lst, G.at_tup, G.at_txt, tYes, wipe,
      List.getElem?_cons_succ, List.getElem?_cons_zero, List.set_cons_succ, List.set_cons_zero, Option.some.injEq, exists_eq_left', exists_eq_left, exists_eq', exists_eq, V.int.injEq, V.bl.injEq, V.ref.injEq, G.sv_inj, List.cons.injEq, and_true, true_and,
      exists_and_left, and_assoc, exists_eq_right_right, exists_eq_right, decide_eq_true_eq, List.append_nil, List.nil_append, List.cons_append, Bool.not_eq_true', decide_eq_false_iff_not, Bool.not_false, Bool.not_true, Bool.false_eq_true, Bool.true_eq_false, not_true, not_false_iff, L2.start, List.map_cons, List.map_nil, List.length_cons, List.length_nil, List.replicate_zero, List.replicate_succ,
      Nat.reduceAdd, Nat.reduceSub, Nat.add_zero, Nat.zero_add, reduceCtorEq, false_and, exists_false, false_or, or_false, ite_true, ite_false, if_true, if_false, htu, decide_true]
          exact ⟨G.tyL e2, fin _ _ _ _ _ rfl rfl (by simp only [G.Dat.sz] at hsz; omega)⟩
        | tup es =>
          obtain ⟨a, xs, rfl, ha, rxs⟩ := rx
          obtain ⟨b, ys, rfl, hb, rys⟩ := ry
          have ga := s3 (.lst ps') _ _ ha
          have gb := s3 (.lst ps') _ _ hb
          simp only [tVar, tC, G.sl_is, G.lt1, Int.reduceLT, Int.reduceLE, Int.reduceNeg, Int.reducePow, Int.reduceToNat, Int.reduceSub, Int.reduceAdd, Int.reduceMul, Nat.reduceLT, Nat.reduceLeDiff, Int.zero_add, ne_eq,  HO.lst.injEq, List.dropLast_concat, G.last_get,  HO.tup.injEq, G.rII, G.rBB, G.rSS,  tOp, tUn, rI, rI0, rU, tAndV, tOrV, tNotV, tIf, tAnd, tOr, tNot, tNext, tSeq, tBreak, tCont, tDrop, tRet, tRetN, tIfS, gName, gNil, gCons, G.gTupT, G.gUnlT, gSub, gUnl, tAsg, tPar, tTest, tB, tChain,
      tNil, tCons, tTup, tLst, tCall, tCB, tBM, tBM0, tSl, tNoPart, tPart, rSetL, G.atI0, G.atI1, G.atI2, G.ixN30, G.ixN31, G.ixN32, G.cx_K, and_self, rEq, rNe, G.scal_bl, G.scal_int, G.scal_sv,  G.sv_str, G.Kn_sv, G.Kn_int, G.Kn_bl, G.Kn_non, G.isI_int, G.isI_bl, G.isI_sv, G.isI_ref, G.isI_non, G.isB_int, G.isB_bl, G.isB_sv, G.isB_ref, G.isB_non, G.isS_int, G.isS_bl, G.isS_sv, G.isS_ref, G.isS_non, G.isT_int, G.isT_bl, G.isT_sv, G.isT_non, G.isL_int, G.isL_bl, G.isL_sv, G.isL_non,  L2.upd_same,  rAppend, rExtend, rPop, iRng1, iRng2, iList, iTup, iStr, CDivN, CPow, CMul, rIsB, rNotB, rAdd, rSub, G.tFor_eq, G.tLc_eq, G.tLc2_eq, tM0, tM1, G.rJoinS, G.rIndexAz, G.ex_str, G.iZ2, G.iZ3, G.iZE, G.Kd.is, G.tRevS, G.rSlA1, G.at_lst, G.at_tup, G.at_txt, tYes, wipe,
      List.getElem?_cons_succ, List.getElem?_cons_zero, List.set_cons_succ, List.set_cons_zero, Option.some.injEq, exists_eq_left', exists_eq_left, exists_eq', exists_eq, V.int.injEq, V.bl.injEq, V.ref.injEq, G.sv_inj, List.cons.injEq, and_true, true_and,
      exists_and_left, and_assoc, exists_eq_right_right, exists_eq_right, decide_eq_true_eq, List.append_nil, List.nil_append, List.cons_append, Bool.not_eq_true', decide_eq_false_iff_not, Bool.not_false, Bool.not_true, Bool.false_eq_true, Bool.true_eq_false, not_true, not_false_iff, L2.start, List.map_cons, List.map_nil, List.length_cons, List.length_nil, List.replicate_zero, List.replicate_succ,
      Nat.reduceAdd, Nat.reduceSub, Nat.add_zero, Nat.zero_add, reduceCtorEq, false_and, exists_false, false_or, or_false, ite_true, ite_false, if_true, if_false, htu, G.isT_tup ga, G.isT_tup gb, G.isL_tup ga, G.isL_tup gb, G.Kn_tup ga, G.Kn_tup gb, G.items_tup ga, G.items_tup gb]
          have l1 := rxs.len
          have l2 := rys.len
          have l3 := G.Dat.szL_len es
          simp only [G.Dat.sz] at hsz
          refine ⟨G.tyL e2, ?_⟩
          rw [if_neg (by omega)]
          exact ⟨G.tyL upd_same, by omega, by omega, seqC a b xs ys es (.inl ⟨ha, hb⟩) rxs rys (by simp only [G.Dat.sz]) _ rfl⟩
        | lst es =>
          obtain ⟨a, xs, rfl, ha, rxs⟩ := rx
          obtain ⟨b, ys, rfl, hb, rys⟩ := ry
          have ga := s3 (.lst ps') _ _ ha
          have gb := s3 (.lst ps') _ _ hb
          simp only [tVar, tC, G.sl_is, G.lt1, Int.reduceLT, Int.reduceLE, Int.reduceNeg, Int.reducePow, Int.reduceToNat, Int.reduceSub, Int.reduceAdd, Int.reduceMul, Nat.reduceLT, Nat.reduceLeDiff, Int.zero_add, ne_eq,  HO.lst.injEq, List.dropLast_concat, G.last_get,  HO.tup.injEq, G.rII, G.rBB, G.rSS,  tOp, tUn, rI, rI0, rU, tAndV, tOrV, tNotV, tIf, tAnd, tOr, tNot, tNext, tSeq, tBreak, tCont, tDrop, tRet, tRetN, tIfS, gName, gNil, gCons, G.gTupT, G.gUnlT, gSub, gUnl, tAsg, tPar, tTest, tB, tChain,
      tNil, tCons, tTup, tLst, tCall, tCB, tBM, tBM0, tSl, tNoPart, tPart, rSetL, G.atI0, G.atI1, G.atI2, G.ixN30, G.ixN31, G.ixN32, G.cx_K, and_self, rEq, rNe, G.scal_bl, G.scal_int, G.scal_sv,  G.sv_str, G.Kn_sv, G.Kn_int, G.Kn_bl, G.Kn_non, G.isI_int, G.isI_bl, G.isI_sv, G.isI_ref, G.isI_non, G.isB_int, G.isB_bl, G.isB_sv, G.isB_ref, G.isB_non, G.isS_int, G.isS_bl, G.isS_sv, G.isS_ref, G.isS_non, G.isT_int, G.isT_bl, G.isT_sv, G.isT_non, G.isL_int, G.isL_bl, G.isL_sv, G.isL_non,  L2.upd_same,  rAppend, rExtend, rPop, iRng1, iRng2, iList, iTup, iStr, CDivN, CPow, CMul, rIsB, rNotB, rAdd, rSub, G.tFor_eq, G.tLc_eq, G.tLc2_eq, tM0, tM1, G.rJoinS, G.rIndexAz, G.ex_str, G.iZ2, G.iZ3, G.iZE, G.Kd.is, G.tRevS, G.rSlA1, G.at_lst, G.at_tup, G.at_txt, tYes, wipe,
      List.getElem?_cons_succ, List.getElem?_cons_zero, List.set_cons_succ, List.set_cons_zero, Option.some.injEq, exists_eq_left', exists_eq_left, exists_eq', exists_eq, V.int.injEq, V.bl.injEq, V.ref.injEq, G.sv_inj, List.cons.injEq, and_true, true_and,
      exists_and_left, and_assoc, exists_eq_right_right, exists_eq_right, decide_eq_true_eq, List.append_nil, List.nil_append, List.cons_append, Bool.not_eq_true', decide_eq_false_iff_not, Bool.not_false, Bool.not_true, Bool.false_eq_true, Bool.true_eq_false, not_true, not_false_iff, L2.start, List.map_cons, List.map_nil, List.length_cons, List.length_nil, List.replicate_zero, List.replicate_succ,
      Nat.reduceAdd, Nat.reduceSub, Nat.add_zero, Nat.zero_add, reduceCtorEq, false_and, exists_false, false_or, or_false, ite_true, ite_false, if_true, if_false, htu, G.isT_lst ga, G.isT_lst gb, G.isL_lst ga, G.isL_lst gb, G.Kn_lst ga, G.Kn_lst gb, G.items_lst ga, G.items_lst gb]
          have l1 := rxs.len
          have l2 := rys.len
          have l3 := G.Dat.szL_len es
          simp only [G.Dat.sz] at hsz
          refine ⟨G.tyL e2, ?_⟩
          rw [if_neg (by omega)]
          exact ⟨G.tyL upd_same, by omega, by omega, seqC a b xs ys es (.inr ⟨ha, hb⟩) rxs rys (by simp only [G.Dat.sz]) _ rfl⟩
    · obtain ⟨v3, v4, v5, ps, ds, rfl, s2, e2, hp, hsz⟩ := hP
      exfalso
      omega

theorem ok__law_pick (T : Tx K mg) : T.d__law_pick.Ok P w base CX0 2 G.spPick := by
  refine T.d__law_pick.F.ok sc__law_pick (fun vs H Q E h => ?_) (fun cdv A outer s H vs Q E hr h => ?_)
  · obtain ⟨_, _, _, rfl, _⟩ := h; rfl
  · obtain ⟨st, rows, xs, rfl, hS, hx, hne, h0, hl, k⟩ := h
    have G__law_next := ok__law_next (P := P) (w := w) (base := base) T
    have hpos := List.length_pos_iff.mpr h0
    refine ⟨_, (pss_one (ps_ret (pe_ix G.ix_lst (pv 1) (G.pe_callD T.d__law_next G__law_next (hr.mono (by decide)) (pa_cons (pv 0) (pa_cons (pe_callB G.call_lenL (by rfl) T.n_len (by decide +kernel) (pa_cons (pv 1) pa_nil)) pa_nil))) (fun _ _ => rfl)))), ?_⟩
    simp only [tVar, tC, G.sl_is, G.lt1, Int.reduceLT, Int.reduceLE, Int.reduceNeg, Int.reducePow, Int.reduceToNat, Int.reduceSub, Int.reduceAdd, Int.reduceMul, Nat.reduceLT, Nat.reduceLeDiff, Int.zero_add, ne_eq,  HO.lst.injEq, List.dropLast_concat, G.last_get,  HO.tup.injEq, G.rII, G.rBB, G.rSS,  tOp, tUn, rI, rI0, rU, tAndV, tOrV, tNotV, tIf, tAnd, tOr, tNot, tNext, tSeq, tBreak, tCont, tDrop, tRet, tRetN, tIfS, gName, gNil, gCons, G.gTupT, G.gUnlT, gSub, gUnl, tAsg, tPar, tTest, tB, tChain,
      tNil, tCons, tTup, tLst, tCall, tCB, tBM, tBM0, tSl, tNoPart, tPart, rSetL, G.atI0, G.atI1, G.atI2, G.ixN30, G.ixN31, G.ixN32, G.cx_K, and_self, rEq, rNe, G.scal_bl, G.scal_int, G.scal_sv,  G.sv_str, G.Kn_sv, G.Kn_int, G.Kn_bl, G.Kn_non, G.isI_int, G.isI_bl, G.isI_sv, G.isI_ref, G.isI_non, G.isB_int, G.isB_bl, G.isB_sv, G.isB_ref, G.isB_non, G.isS_int, G.isS_bl, G.isS_sv, G.isS_ref, G.isS_non, G.isT_int, G.isT_bl, G.isT_sv, G.isT_non, G.isL_int, G.isL_bl, G.isL_sv, G.isL_non,  L2.upd_same,  rAppend, rExtend, rPop, iRng1, iRng2, iList, iTup, iStr, CDivN, CPow, CMul, rIsB, rNotB, rAdd, rSub, G.tFor_eq, G.tLc_eq, G.tLc2_eq, tM0, tM1, G.rJoinS, G.rIndexAz, G.ex_str, G.iZ2, G.iZ3, G.iZE, G.Kd.is, G.tRevS, G.rSlA1, G.at_lst, G.at_tup, G.at_txt, tYes, wipe,
      List.getElem?_cons_succ, List.getElem?_cons_zero, List.set_cons_succ, List.set_cons_zero, Option.some.injEq, exists_eq_left', exists_eq_left, exists_eq', exists_eq, V.int.injEq, V.bl.injEq, V.ref.injEq, G.sv_inj, List.cons.injEq, and_true, true_and,
      exists_and_left, and_assoc, exists_eq_right_right, exists_eq_right, decide_eq_true_eq, List.append_nil, List.nil_append, List.cons_append, Bool.not_eq_true', decide_eq_false_iff_not, Bool.not_false, Bool.not_true, Bool.false_eq_true, Bool.true_eq_false, not_true, not_false_iff, L2.start, List.map_cons, List.map_nil, List.length_cons, List.length_nil, List.replicate_zero, List.replicate_succ,
      Nat.reduceAdd, Nat.reduceSub, Nat.add_zero, Nat.zero_add, reduceCtorEq, false_and, exists_false, false_or, or_false, ite_true, ite_false, if_true, if_false, G.spNext, hx]
    refine ⟨hS, by omega, by omega, fun d H1 d0 d1 ad => ?_⟩
    have hd : d.toNat < xs.length := by omega
    exact ⟨_, ad.1 _ _ hne hx, _, G.atI_of (List.getElem?_eq_getElem hd) d0, k _ _ (List.getElem_mem hd) ad⟩
theorem ok__law_letters (T : Tx K mg) : T.d__law_letters.Ok P w base CX0 3 G.spLetters := by
  refine T.d__law_letters.F.ok sc__law_letters (fun vs H Q E h => ?_) (fun cdv A outer s H vs Q E hr h => ?_)
  · obtain ⟨_, rfl, _⟩ := h; rfl
  · obtain ⟨st, rfl, hS, k⟩ := h
    have G__law_next := ok__law_next (P := P) (w := w) (base := base) T
    have G__law_pick := ok__law_pick (P := P) (w := w) (base := base) T
    refine ⟨_, (pss_cons (ps_set (i := 1) sc__law_letters.nd rfl (Or.inr rfl) (pe_lst pa_nil))
      (pss_cons (ps_for PassesOwn.never rfl (pi_range1 (by rfl) T.n_range (pa_cons (pe_op op_add pe_int (G.pe_callD T.d__law_next G__law_next (hr.mono (by decide)) (pa_cons (pv 0) (pa_cons pe_int pa_nil)))) pa_nil)) (pg_name (i := 2) sc__law_letters.nd rfl (Or.inl rfl)) (pss_one (ps_expr (pe_bm PySem.F.plainAttrs_list PySem.F.slot_list_append PySem.F.type_list_append mt_append (pv 1) (pa_cons (G.pe_callD T.d__law_pick G__law_pick (hr.mono (by decide)) (pa_cons (pv 0) (pa_cons (pe_lc (own := [("letter", 3)]) (g := gName 3) (tt := _) rfl sc__law_letters.nd (pi_str (G.pe_strS (l := [97, 98, 99, 100, 101, 102, 103, 104, 105, 106, 107, 108, 109, 110, 111, 112, 113, 114, 115, 116, 117, 118, 119, 120, 121, 122]) (by decide +kernel))) (blkOk_by (own := [("letter", 3)]) (N := ["stream", "found", "turn", "letter"]) (sc := defScope s__law_letters) (by decide +kernel)) (fun _ _ _ _ _ => pg_name (i := 3) sc__law_letters.nd rfl (Or.inl rfl)) (fun _ _ _ _ _ => pts_one (pt_cmpR G.op_notInTx (pv 3) (pv 1) rfl)) (fun _ _ _ _ _ => (pv 3))) pa_nil))) pa_nil)))))
      (pss_one (ps_ret (G.pe_joinS (G.pe_strS (l := []) (by decide +kernel)) (pe_callB G.call_sorted1 (by rfl) T.n_sorted (by decide +kernel) (pa_cons (pv 1) pa_nil))))))), ?_⟩
    simp only [tVar, tC, G.sl_is, G.lt1, Int.reduceLT, Int.reduceLE, Int.reduceNeg, Int.reducePow, Int.reduceToNat, Int.reduceSub, Int.reduceAdd, Int.reduceMul, Nat.reduceLT, Nat.reduceLeDiff, Int.zero_add, ne_eq,  HO.lst.injEq, List.dropLast_concat, G.last_get,  HO.tup.injEq, G.rII, G.rBB, G.rSS,  tOp, tUn, rI, rI0, rU, tAndV, tOrV, tNotV, tIf, tAnd, tOr, tNot, tNext, tSeq, tBreak, tCont, tDrop, tRet, tRetN, tIfS, gName, gNil, gCons, G.gTupT, G.gUnlT, gSub, gUnl, tAsg, tPar, tTest, tB, tChain,
      tNil, tCons, tTup, tLst, tCall, tCB, tBM, tBM0, tSl, tNoPart, tPart, rSetL, G.atI0, G.atI1, G.atI2, G.ixN30, G.ixN31, G.ixN32, G.cx_K, and_self, rEq, rNe, G.scal_bl, G.scal_int, G.scal_sv,  G.sv_str, G.Kn_sv, G.Kn_int, G.Kn_bl, G.Kn_non, G.isI_int, G.isI_bl, G.isI_sv, G.isI_ref, G.isI_non, G.isB_int, G.isB_bl, G.isB_sv, G.isB_ref, G.isB_non, G.isS_int, G.isS_bl, G.isS_sv, G.isS_ref, G.isS_non, G.isT_int, G.isT_bl, G.isT_sv, G.isT_non, G.isL_int, G.isL_bl, G.isL_sv, G.isL_non,  L2.upd_same,  rAppend, rExtend, rPop, iRng1, iRng2, iList, iTup, iStr, CDivN, CPow, CMul, rIsB, rNotB, rAdd, rSub, G.tFor_eq, G.tLc_eq, G.tLc2_eq, tM0, tM1, G.rJoinS, G.rIndexAz, G.ex_str, G.iZ2, G.iZ3, G.iZE, G.Kd.is, G.tRevS, G.rSlA1, G.at_lst, G.at_tup, G.at_txt, tYes, wipe,
      List.getElem?_cons_succ, List.getElem?_cons_zero, List.set_cons_succ, List.set_cons_zero, Option.some.injEq, exists_eq_left', exists_eq_left, exists_eq', exists_eq, V.int.injEq, V.bl.injEq, V.ref.injEq, G.sv_inj, List.cons.injEq, and_true, true_and,
      exists_and_left, and_assoc, exists_eq_right_right, exists_eq_right, decide_eq_true_eq, List.append_nil, List.nil_append, List.cons_append, Bool.not_eq_true', decide_eq_false_iff_not, Bool.not_false, Bool.not_true, Bool.false_eq_true, Bool.true_eq_false, not_true, not_false_iff, L2.start, List.map_cons, List.map_nil, List.length_cons, List.length_nil, List.replicate_zero, List.replicate_succ,
      Nat.reduceAdd, Nat.reduceSub, Nat.add_zero, Nat.zero_add, reduceCtorEq, false_and, exists_false, false_or, or_false, ite_true, ite_false, if_true, if_false, G.spNext, G.spPick]
    intro p np
    refine ⟨hS.same (G.same_upd np), fun d H1 d0 d1 ad1 => ⟨by omega, by omega, ?_⟩⟩
    have hne : p ≠ st := hS.neNew np
    have hp1 : H1 p = some (.lst []) := ad1.1 _ _ hne upd_same
    refine G.loop_range (fun i σ H2 => ∃ cs v2 v3, σ = [some (.ref st), some (.ref p), v2, v3] ∧ H2 p = some (.lst (cs.map fun c => G.sv [c])) ∧ cs.length = i ∧ cs.Nodup ∧ (∀ c ∈ cs, 97 ≤ c ∧ c ≤ 122) ∧ G.Adv st H H2)
      ⟨[], _, _, rfl, hp1, rfl, List.nodup_nil, by simp, (hS.adv (G.same_upd np)).trans ad1⟩ (fun M hM i σ H2 hi hP => ?_) (fun σ H2 hP => ?_)
    · obtain ⟨cs, v2, v3, rfl, h2, hl, hnd, hc, ad2⟩ := hP
      simp only [tVar, tC, G.sl_is, G.lt1, Int.reduceLT, Int.reduceLE, Int.reduceNeg, Int.reducePow, Int.reduceToNat, Int.reduceSub, Int.reduceAdd, Int.reduceMul, Nat.reduceLT, Nat.reduceLeDiff, Int.zero_add, ne_eq,  HO.lst.injEq, List.dropLast_concat, G.last_get,  HO.tup.injEq, G.rII, G.rBB, G.rSS,  tOp, tUn, rI, rI0, rU, tAndV, tOrV, tNotV, tIf, tAnd, tOr, tNot, tNext, tSeq, tBreak, tCont, tDrop, tRet, tRetN, tIfS, gName, gNil, gCons, G.gTupT, G.gUnlT, gSub, gUnl, tAsg, tPar, tTest, tB, tChain,
      tNil, tCons, tTup, tLst, tCall, tCB, tBM, tBM0, tSl, tNoPart, tPart, rSetL, G.atI0, G.atI1, G.atI2, G.ixN30, G.ixN31, G.ixN32, G.cx_K, and_self, rEq, rNe, G.scal_bl, G.scal_int, G.scal_sv,  G.sv_str, G.Kn_sv, G.Kn_int, G.Kn_bl, G.Kn_non, G.isI_int, G.isI_bl, G.isI_sv, G.isI_ref, G.isI_non, G.isB_int, G.isB_bl, G.isB_sv, G.isB_ref, G.isB_non, G.isS_int, G.isS_bl, G.isS_sv, G.isS_ref, G.isS_non, G.isT_int, G.isT_bl, G.isT_sv, G.isT_non, G.isL_int, G.isL_bl, G.isL_sv, G.isL_non,  L2.upd_same,  rAppend, rExtend, rPop, iRng1, iRng2, iList, iTup, iStr, CDivN, CPow, CMul, rIsB, rNotB, rAdd, rSub, G.tFor_eq, G.tLc_eq, G.tLc2_eq, tM0, tM1, G.rJoinS, G.rIndexAz, G.ex_str, G.iZ2, G.iZ3, G.iZE, G.Kd.is, G.tRevS, G.rSlA1, G.at_lst, G.at_tup, G.at_txt, tYes, wipe,
      List.getElem?_cons_succ, List.getElem?_cons_zero, List.set_cons_succ, List.set_cons_zero, Option.some.injEq, exists_eq_left', exists_eq_left, exists_eq', exists_eq, V.int.injEq, V.bl.injEq, V.ref.injEq, G.sv_inj, List.cons.injEq, and_true, true_and,
      exists_and_left, and_assoc, exists_eq_right_right, exists_eq_right, decide_eq_true_eq, List.append_nil, List.nil_append, List.cons_append, Bool.not_eq_true', decide_eq_false_iff_not, Bool.not_false, Bool.not_true, Bool.false_eq_true, Bool.true_eq_false, not_true, not_false_iff, L2.start, List.map_cons, List.map_nil, List.length_cons, List.length_nil, List.replicate_zero, List.replicate_succ,
      Nat.reduceAdd, Nat.reduceSub, Nat.add_zero, Nat.zero_add, reduceCtorEq, false_and, exists_false, false_or, or_false, ite_true, ite_false, if_true, if_false, G.spPick]
      refine ⟨G.tyL h2, ?_⟩
      refine G.comp_itF (G.walkS G.azs) (fun i => !decide (i + 97 ∈ cs)) (fun i => G.sv [i + 97]) (by rw [G.sl_is]; decide) (fun _ _ => trivial) (fun i H H' v hy => by rw [hy.1]; exact Same.refl _) (fun j x H3 H4 hj s3 hy Z W hZ hW => ?_) (fun D H3 hD s3 h3 => ?_)
      · obtain ⟨rfl, c, hc2, rfl⟩ := hy
        rw [G.azs_at j hj] at hc2
        obtain rfl := Option.some.inj hc2
        simp only [tVar, tC, G.sl_is, G.lt1, Int.reduceLT, Int.reduceLE, Int.reduceNeg, Int.reducePow, Int.reduceToNat, Int.reduceSub, Int.reduceAdd, Int.reduceMul, Nat.reduceLT, Nat.reduceLeDiff, Int.zero_add, ne_eq,  HO.lst.injEq, List.dropLast_concat, G.last_get,  HO.tup.injEq, G.rII, G.rBB, G.rSS,  tOp, tUn, rI, rI0, rU, tAndV, tOrV, tNotV, tIf, tAnd, tOr, tNot, tNext, tSeq, tBreak, tCont, tDrop, tRet, tRetN, tIfS, gName, gNil, gCons, G.gTupT, G.gUnlT, gSub, gUnl, tAsg, tPar, tTest, tB, tChain,
      tNil, tCons, tTup, tLst, tCall, tCB, tBM, tBM0, tSl, tNoPart, tPart, rSetL, G.atI0, G.atI1, G.atI2, G.ixN30, G.ixN31, G.ixN32, G.cx_K, and_self, rEq, rNe, G.scal_bl, G.scal_int, G.scal_sv,  G.sv_str, G.Kn_sv, G.Kn_int, G.Kn_bl, G.Kn_non, G.isI_int, G.isI_bl, G.isI_sv, G.isI_ref, G.isI_non, G.isB_int, G.isB_bl, G.isB_sv, G.isB_ref, G.isB_non, G.isS_int, G.isS_bl, G.isS_sv, G.isS_ref, G.isS_non, G.isT_int, G.isT_bl, G.isT_sv, G.isT_non, G.isL_int, G.isL_bl, G.isL_sv, G.isL_non,  L2.upd_same,  rAppend, rExtend, rPop, iRng1, iRng2, iList, iTup, iStr, CDivN, CPow, CMul, rIsB, rNotB, rAdd, rSub, G.tFor_eq, G.tLc_eq, G.tLc2_eq, tM0, tM1, G.rJoinS, G.rIndexAz, G.ex_str, G.iZ2, G.iZ3, G.iZE, G.Kd.is, G.tRevS, G.rSlA1, G.at_lst, G.at_tup, G.at_txt, tYes, wipe,
      List.getElem?_cons_succ, List.getElem?_cons_zero, List.set_cons_succ, List.set_cons_zero, Option.some.injEq, exists_eq_left', exists_eq_left, exists_eq', exists_eq, V.int.injEq, V.bl.injEq, V.ref.injEq, G.sv_inj, List.cons.injEq, and_true, true_and,
      exists_and_left, and_assoc, exists_eq_right_right, exists_eq_right, decide_eq_true_eq, List.append_nil, List.nil_append, List.cons_append, Bool.not_eq_true', decide_eq_false_iff_not, Bool.not_false, Bool.not_true, Bool.false_eq_true, Bool.true_eq_false, not_true, not_false_iff, L2.start, List.map_cons, List.map_nil, List.length_cons, List.length_nil, List.replicate_zero, List.replicate_succ,
      Nat.reduceAdd, Nat.reduceSub, Nat.add_zero, Nat.zero_add, reduceCtorEq, false_and, exists_false, false_or, or_false, ite_true, ite_false, if_true, if_false]
        refine ⟨cs.map (fun c => [c]), by rw [s3 _ _ h2, G.map_sv1], ?_⟩
        simp only [List.mem_map, List.cons.injEq, and_true, exists_eq_right]
        by_cases hj2 : j + 97 ∈ cs
        · rw [if_neg (fun h => h hj2)]
          exact hZ _ (Same.refl _) (by simp [hj2])
        · rw [if_pos hj2]
          exact hW _ (Same.refl _) (by simp [hj2])
      · rw [show G.azs.length = 26 from rfl, G.left_range] at h3
        have hl4 : cs.length < 26 := by omega
        simp only [tVar, tC, G.sl_is, G.lt1, Int.reduceLT, Int.reduceLE, Int.reduceNeg, Int.reducePow, Int.reduceToNat, Int.reduceSub, Int.reduceAdd, Int.reduceMul, Nat.reduceLT, Nat.reduceLeDiff, Int.zero_add, ne_eq,  HO.lst.injEq, List.dropLast_concat, G.last_get,  HO.tup.injEq, G.rII, G.rBB, G.rSS,  tOp, tUn, rI, rI0, rU, tAndV, tOrV, tNotV, tIf, tAnd, tOr, tNot, tNext, tSeq, tBreak, tCont, tDrop, tRet, tRetN, tIfS, gName, gNil, gCons, G.gTupT, G.gUnlT, gSub, gUnl, tAsg, tPar, tTest, tB, tChain,
      tNil, tCons, tTup, tLst, tCall, tCB, tBM, tBM0, tSl, tNoPart, tPart, rSetL, G.atI0, G.atI1, G.atI2, G.ixN30, G.ixN31, G.ixN32, G.cx_K, and_self, rEq, rNe, G.scal_bl, G.scal_int, G.scal_sv,  G.sv_str, G.Kn_sv, G.Kn_int, G.Kn_bl, G.Kn_non, G.isI_int, G.isI_bl, G.isI_sv, G.isI_ref, G.isI_non, G.isB_int, G.isB_bl, G.isB_sv, G.isB_ref, G.isB_non, G.isS_int, G.isS_bl, G.isS_sv, G.isS_ref, G.isS_non, G.isT_int, G.isT_bl, G.isT_sv, G.isT_non, G.isL_int, G.isL_bl, G.isL_sv, G.isL_non,  L2.upd_same,  rAppend, rExtend, rPop, iRng1, iRng2, iList, iTup, iStr, CDivN, CPow, CMul, rIsB, rNotB, rAdd, rSub, G.tFor_eq, G.tLc_eq, G.tLc2_eq, tM0, tM1, G.rJoinS, G.rIndexAz, G.ex_str, G.iZ2, G.iZ3, G.iZE, G.Kd.is, G.tRevS, G.rSlA1, G.at_lst, G.at_tup, G.at_txt, tYes, wipe,
      List.getElem?_cons_succ, List.getElem?_cons_zero, List.set_cons_succ, List.set_cons_zero, Option.some.injEq, exists_eq_left', exists_eq_left, exists_eq', exists_eq, V.int.injEq, V.bl.injEq, V.ref.injEq, G.sv_inj, List.cons.injEq, and_true, true_and,
      exists_and_left, and_assoc, exists_eq_right_right, exists_eq_right, decide_eq_true_eq, List.append_nil, List.nil_append, List.cons_append, Bool.not_eq_true', decide_eq_false_iff_not, Bool.not_false, Bool.not_true, Bool.false_eq_true, Bool.true_eq_false, not_true, not_false_iff, L2.start, List.map_cons, List.map_nil, List.length_cons, List.length_nil, List.replicate_zero, List.replicate_succ,
      Nat.reduceAdd, Nat.reduceSub, Nat.add_zero, Nat.zero_add, reduceCtorEq, false_and, exists_false, false_or, or_false, ite_true, ite_false, if_true, if_false]
        refine ⟨ad2.2.same s3, _, h3, fun e => ?_, ?_, ?_, fun v H4 hv ad4 => ?_⟩
        · rw [e] at hD; exact (ad2.2).some hD
        · simpa using G.left_ne hl4
        · have := List.length_filter_le (fun c => !decide (c ∈ cs)) G.azs
          rw [List.length_map]
          show (G.left cs).length < _
          unfold G.left
          have e26 : G.azs.length = 26 := rfl
          omega
        · obtain ⟨c, hcm, rfl⟩ := List.mem_map.mp hv
          have hcl := G.left_mem hcm
          refine ⟨_, ad4.1 _ _ hne (s3 _ _ h2), by rw [List.length_map]; omega, ?_⟩
          rw [hM]
          refine ⟨cs ++ [c], _, _, rfl, by rw [upd_same, List.map_append]; rfl, by simp [hl], ?_, ?_, ?_⟩
          · rw [List.nodup_append]
            exact ⟨hnd, by simp, fun a ha b hb => by rw [List.mem_singleton.mp hb]; exact fun e => hcl.2 (e ▸ ha)⟩
          · intro x hx
            rcases List.mem_append.mp hx with hx | hx
            · exact hc x hx
            · rw [List.mem_singleton.mp hx]; exact hcl.1
          · exact ((ad2.same s3).trans ad4).set hS np
    · obtain ⟨cs, v2, v3, rfl, h2, hl, hnd, hc, ad2⟩ := hP
      simp only [tVar, tC, G.sl_is, G.lt1, Int.reduceLT, Int.reduceLE, Int.reduceNeg, Int.reducePow, Int.reduceToNat, Int.reduceSub, Int.reduceAdd, Int.reduceMul, Nat.reduceLT, Nat.reduceLeDiff, Int.zero_add, ne_eq,  HO.lst.injEq, List.dropLast_concat, G.last_get,  HO.tup.injEq, G.rII, G.rBB, G.rSS,  tOp, tUn, rI, rI0, rU, tAndV, tOrV, tNotV, tIf, tAnd, tOr, tNot, tNext, tSeq, tBreak, tCont, tDrop, tRet, tRetN, tIfS, gName, gNil, gCons, G.gTupT, G.gUnlT, gSub, gUnl, tAsg, tPar, tTest, tB, tChain,
      tNil, tCons, tTup, tLst, tCall, tCB, tBM, tBM0, tSl, tNoPart, tPart, rSetL, G.atI0, G.atI1, G.atI2, G.ixN30, G.ixN31, G.ixN32, G.cx_K, and_self, rEq, rNe, G.scal_bl, G.scal_int, G.scal_sv,  G.sv_str, G.Kn_sv, G.Kn_int, G.Kn_bl, G.Kn_non, G.isI_int, G.isI_bl, G.isI_sv, G.isI_ref, G.isI_non, G.isB_int, G.isB_bl, G.isB_sv, G.isB_ref, G.isB_non, G.isS_int, G.isS_bl, G.isS_sv, G.isS_ref, G.isS_non, G.isT_int, G.isT_bl, G.isT_sv, G.isT_non, G.isL_int, G.isL_bl, G.isL_sv, G.isL_non,  L2.upd_same,  rAppend, rExtend, rPop, iRng1, iRng2, iList, iTup, iStr, CDivN, CPow, CMul, rIsB, rNotB, rAdd, rSub, G.tFor_eq, G.tLc_eq, G.tLc2_eq, tM0, tM1, G.rJoinS, G.rIndexAz, G.ex_str, G.iZ2, G.iZ3, G.iZE, G.Kd.is, G.tRevS, G.rSlA1, G.at_lst, G.at_tup, G.at_txt, tYes, wipe,
      List.getElem?_cons_succ, List.getElem?_cons_zero, List.set_cons_succ, List.set_cons_zero, Option.some.injEq, exists_eq_left', exists_eq_left, exists_eq', exists_eq, V.int.injEq, V.bl.injEq, V.ref.injEq, G.sv_inj, List.cons.injEq, and_true, true_and,
      exists_and_left, and_assoc, exists_eq_right_right, exists_eq_right, decide_eq_true_eq, List.append_nil, List.nil_append, List.cons_append, Bool.not_eq_true', decide_eq_false_iff_not, Bool.not_false, Bool.not_true, Bool.false_eq_true, Bool.true_eq_false, not_true, not_false_iff, L2.start, List.map_cons, List.map_nil, List.length_cons, List.length_nil, List.replicate_zero, List.replicate_succ,
      Nat.reduceAdd, Nat.reduceSub, Nat.add_zero, Nat.zero_add, reduceCtorEq, false_and, exists_false, false_or, or_false, ite_true, ite_false, if_true, if_false]
      refine ⟨cs, h2, by omega, fun ys q hp hs nq => ⟨ys.map fun c => [c], ?_, ?_, ?_⟩⟩
      · rw [G.map_sv1]
      · have : ∀ l : List Nat, ((l.map fun c => [c]).map (·.length)).sum = l.length := fun l => by
          induction l with
          | nil => rfl
          | cons c r ih => simp at ih ⊢; omega
        rw [this, hp.length_eq]; omega
      · rw [G.flat1]
        refine k ys _ ⟨fun e => ?_, by rw [hp.length_eq]; omega, fun c h => hc c (hp.mem_iff.mp h), G.sort_ltr hp hs hnd⟩ (ad2.same (G.same_upd nq))
        have := hp.length_eq
        rw [e] at this
        simp at this; omega

theorem ok__law_word_at (T : Tx K mg) : T.d__law_word_at.Ok P w base CX0 1 G.spWordAt := by
  refine T.d__law_word_at.F.ok sc__law_word_at (fun vs H Q E h => ?_) (fun cdv A outer s H vs Q E hr h => ?_)
  · obtain ⟨_, _, rfl, _⟩ := h; rfl
  · obtain ⟨L, i, rfl, hL, lL, h0, h4, k⟩ := h
    have hp := List.length_pos_iff.mpr hL
    have ll : L.length ≤ 16777216 := by omega
    refine ⟨_, (pss_cons (ps_set (i := 2) sc__law_word_at.nd rfl (Or.inl rfl) (G.pe_strS (l := []) (by decide +kernel)))
      (pss_cons (ps_for PassesOwn.never rfl (pi_range1 (by rfl) T.n_range (pa_cons pe_int pa_nil)) (pg_name (i := 3) sc__law_word_at.nd rfl (Or.inl rfl)) (pss_cons (ps_if (pt_cmpR G.op_eqI (pv 1) pe_int (nomark _)) (pss_one ps_break) pss_nil)
        (pss_cons (ps_set (i := 1) sc__law_word_at.nd rfl (Or.inl rfl) (pe_op op_sub (pv 1) pe_int))
        (pss_cons (ps_set (i := 2) sc__law_word_at.nd rfl (Or.inl rfl) (pe_op G.op_addS (pe_ix G.ix_S (pv 0) (pe_op G.op_modP (pe_callTy G.call_intI (by rfl) T.n_int (by decide +kernel) (pa_cons (pv 1) pa_nil)) (pe_callB G.call_lenS (by rfl) T.n_len (by decide +kernel) (pa_cons (pv 0) pa_nil))) (fun _ _ => rfl)) (pv 2)))
        (pss_one (ps_set (i := 1) sc__law_word_at.nd rfl (Or.inl rfl) (pe_op G.op_divP (pv 1) (pe_callB G.call_lenS (by rfl) T.n_len (by decide +kernel) (pa_cons (pv 0) pa_nil)))))))))
      (pss_one (ps_ret (pv 2))))), ?_⟩
    simp only [tVar, tC, G.sl_is, G.lt1, Int.reduceLT, Int.reduceLE, Int.reduceNeg, Int.reducePow, Int.reduceToNat, Int.reduceSub, Int.reduceAdd, Int.reduceMul, Nat.reduceLT, Nat.reduceLeDiff, Int.zero_add, ne_eq,  HO.lst.injEq, List.dropLast_concat, G.last_get,  HO.tup.injEq, G.rII, G.rBB, G.rSS,  tOp, tUn, rI, rI0, rU, tAndV, tOrV, tNotV, tIf, tAnd, tOr, tNot, tNext, tSeq, tBreak, tCont, tDrop, tRet, tRetN, tIfS, gName, gNil, gCons, G.gTupT, G.gUnlT, gSub, gUnl, tAsg, tPar, tTest, tB, tChain,
      tNil, tCons, tTup, tLst, tCall, tCB, tBM, tBM0, tSl, tNoPart, tPart, rSetL, G.atI0, G.atI1, G.atI2, G.ixN30, G.ixN31, G.ixN32, G.cx_K, and_self, rEq, rNe, G.scal_bl, G.scal_int, G.scal_sv,  G.sv_str, G.Kn_sv, G.Kn_int, G.Kn_bl, G.Kn_non, G.isI_int, G.isI_bl, G.isI_sv, G.isI_ref, G.isI_non, G.isB_int, G.isB_bl, G.isB_sv, G.isB_ref, G.isB_non, G.isS_int, G.isS_bl, G.isS_sv, G.isS_ref, G.isS_non, G.isT_int, G.isT_bl, G.isT_sv, G.isT_non, G.isL_int, G.isL_bl, G.isL_sv, G.isL_non,  L2.upd_same,  rAppend, rExtend, rPop, iRng1, iRng2, iList, iTup, iStr, CDivN, CPow, CMul, rIsB, rNotB, rAdd, rSub, G.tFor_eq, G.tLc_eq, G.tLc2_eq, tM0, tM1, G.rJoinS, G.rIndexAz, G.ex_str, G.iZ2, G.iZ3, G.iZE, G.Kd.is, G.tRevS, G.rSlA1, G.at_lst, G.at_tup, G.at_txt, tYes, wipe,
      List.getElem?_cons_succ, List.getElem?_cons_zero, List.set_cons_succ, List.set_cons_zero, Option.some.injEq, exists_eq_left', exists_eq_left, exists_eq', exists_eq, V.int.injEq, V.bl.injEq, V.ref.injEq, G.sv_inj, List.cons.injEq, and_true, true_and,
      exists_and_left, and_assoc, exists_eq_right_right, exists_eq_right, decide_eq_true_eq, List.append_nil, List.nil_append, List.cons_append, Bool.not_eq_true', decide_eq_false_iff_not, Bool.not_false, Bool.not_true, Bool.false_eq_true, Bool.true_eq_false, not_true, not_false_iff, L2.start, List.map_cons, List.map_nil, List.length_cons, List.length_nil, List.replicate_zero, List.replicate_succ,
      Nat.reduceAdd, Nat.reduceSub, Nat.add_zero, Nat.zero_add, reduceCtorEq, false_and, exists_false, false_or, or_false, ite_true, ite_false, if_true, if_false]
    refine G.loop_range (fun t σ H' => H' = H ∧ ∃ (j : Nat) (wd : List Nat) (v3 : Option V), σ = [some (G.sv L), some (.int j), some (G.sv wd), v3] ∧ j + t ≤ i.toNat ∧ wd.length ≤ t ∧ G.wordAt L i.toNat = G.wordAt L j ++ wd) ⟨rfl, i.toNat, [], none, by rw [Int.toNat_of_nonneg h0], by simp, by simp, by simp⟩ (fun M hM t σ H' ht hP => ?_) (fun σ H' hP => ?_)
    · obtain ⟨rfl, j, wd, v3, rfl, hj, hw, he⟩ := hP
      simp only [tVar, tC, G.sl_is, G.lt1, Int.reduceLT, Int.reduceLE, Int.reduceNeg, Int.reducePow, Int.reduceToNat, Int.reduceSub, Int.reduceAdd, Int.reduceMul, Nat.reduceLT, Nat.reduceLeDiff, Int.zero_add, ne_eq,  HO.lst.injEq, List.dropLast_concat, G.last_get,  HO.tup.injEq, G.rII, G.rBB, G.rSS,  tOp, tUn, rI, rI0, rU, tAndV, tOrV, tNotV, tIf, tAnd, tOr, tNot, tNext, tSeq, tBreak, tCont, tDrop, tRet, tRetN, tIfS, gName, gNil, gCons, G.gTupT, G.gUnlT, gSub, gUnl, tAsg, tPar, tTest, tB, tChain,
      tNil, tCons, tTup, tLst, tCall, tCB, tBM, tBM0, tSl, tNoPart, tPart, rSetL, G.atI0, G.atI1, G.atI2, G.ixN30, G.ixN31, G.ixN32, G.cx_K, and_self, rEq, rNe, G.scal_bl, G.scal_int, G.scal_sv,  G.sv_str, G.Kn_sv, G.Kn_int, G.Kn_bl, G.Kn_non, G.isI_int, G.isI_bl, G.isI_sv, G.isI_ref, G.isI_non, G.isB_int, G.isB_bl, G.isB_sv, G.isB_ref, G.isB_non, G.isS_int, G.isS_bl, G.isS_sv, G.isS_ref, G.isS_non, G.isT_int, G.isT_bl, G.isT_sv, G.isT_non, G.isL_int, G.isL_bl, G.isL_sv, G.isL_non,  L2.upd_same,  rAppend, rExtend, rPop, iRng1, iRng2, iList, iTup, iStr, CDivN, CPow, CMul, rIsB, rNotB, rAdd, rSub, G.tFor_eq, G.tLc_eq, G.tLc2_eq, tM0, tM1, G.rJoinS, G.rIndexAz, G.ex_str, G.iZ2, G.iZ3, G.iZE, G.Kd.is, G.tRevS, G.rSlA1, G.at_lst, G.at_tup, G.at_txt, tYes, wipe,
      List.getElem?_cons_succ, List.getElem?_cons_zero, List.set_cons_succ, List.set_cons_zero, Option.some.injEq, exists_eq_left', exists_eq_left, exists_eq', exists_eq, V.int.injEq, V.bl.injEq, V.ref.injEq, G.sv_inj, List.cons.injEq, and_true, true_and,
      exists_and_left, and_assoc, exists_eq_right_right, exists_eq_right, decide_eq_true_eq, List.append_nil, List.nil_append, List.cons_append, Bool.not_eq_true', decide_eq_false_iff_not, Bool.not_false, Bool.not_true, Bool.false_eq_true, Bool.true_eq_false, not_true, not_false_iff, L2.start, List.map_cons, List.map_nil, List.length_cons, List.length_nil, List.replicate_zero, List.replicate_succ,
      Nat.reduceAdd, Nat.reduceSub, Nat.add_zero, Nat.zero_add, reduceCtorEq, false_and, exists_false, false_or, or_false, ite_true, ite_false, if_true, if_false, ll]
      refine G.ite_i (fun h1 => ?_) fun h1 => ?_
      · have e : j = 0 := by omega
        subst e
        rw [G.wordAt, List.nil_append] at he
        rw [← he]; exact k
      · obtain ⟨j, rfl⟩ : ∃ n, j = n + 1 := ⟨j - 1, by omega⟩
        have hm : j % L.length < L.length := Nat.mod_lt _ hp
        rw [show ((j + 1 : Nat) : Int) - 1 = (j : Int) by omega, show (j : Int) % (L.length : Int) = ((j % L.length : Nat) : Int) from rfl, show (j : Int) / (L.length : Int) = ((j / L.length : Nat) : Int) from rfl]
        refine ⟨by omega, L[j % L.length], G.atI_of (by rw [Int.toNat_natCast]; simp [hm]) (by omega), by omega, by omega, by omega, ?_⟩
        rw [hM]
        refine ⟨rfl, j / L.length, _, _, rfl, by have := Nat.div_le_self j L.length; omega, by simp; omega, ?_⟩
        rw [he, G.wordAt]
        simp [List.getD, hm]
    · obtain ⟨rfl, j, wd, v3, rfl, hj, hw, he⟩ := hP
      omega

theorem ok__law_before (T : Tx K mg) : T.d__law_before.Ok P w base CX0 1 spBef := by
  refine T.d__law_before.F.ok sc__law_before (fun vs H Q E h => ?_) (fun cdv A outer s H vs Q E hr h => ?_)
  · obtain ⟨_, _, rfl, _⟩ := h; rfl
  · obtain ⟨a, b, rfl, la, lb, k⟩ := h
    refine ⟨_, (pss_cons (ps_if (pt_cmpR G.op_neI (pe_callB G.call_lenS (by rfl) T.n_len (by decide +kernel) (pa_cons (pv 0) pa_nil)) (pe_callB G.call_lenS (by rfl) T.n_len (by decide +kernel) (pa_cons (pv 1) pa_nil)) (nomark _)) (pss_one (ps_ret (pe_cmpR op_lt (pe_callB G.call_lenS (by rfl) T.n_len (by decide +kernel) (pa_cons (pv 0) pa_nil)) (pe_callB G.call_lenS (by rfl) T.n_len (by decide +kernel) (pa_cons (pv 1) pa_nil)) (nomark _)))) pss_nil)
      (pss_one (ps_ret (pe_cmpR G.op_ltS (pv 0) (pv 1) (nomark _))))), ?_⟩
    simp only [tVar, tC, G.sl_is, G.lt1, Int.reduceLT, Int.reduceLE, Int.reduceNeg, Int.reducePow, Int.reduceToNat, Int.reduceSub, Int.reduceAdd, Int.reduceMul, Nat.reduceLT, Nat.reduceLeDiff, Int.zero_add, ne_eq,  HO.lst.injEq, List.dropLast_concat, G.last_get,  HO.tup.injEq, G.rII, G.rBB, G.rSS,  tOp, tUn, rI, rI0, rU, tAndV, tOrV, tNotV, tIf, tAnd, tOr, tNot, tNext, tSeq, tBreak, tCont, tDrop, tRet, tRetN, tIfS, gName, gNil, gCons, G.gTupT, G.gUnlT, gSub, gUnl, tAsg, tPar, tTest, tB, tChain,
      tNil, tCons, tTup, tLst, tCall, tCB, tBM, tBM0, tSl, tNoPart, tPart, rSetL, G.atI0, G.atI1, G.atI2, G.ixN30, G.ixN31, G.ixN32, G.cx_K, and_self, rEq, rNe, G.scal_bl, G.scal_int, G.scal_sv,  G.sv_str, G.Kn_sv, G.Kn_int, G.Kn_bl, G.Kn_non, G.isI_int, G.isI_bl, G.isI_sv, G.isI_ref, G.isI_non, G.isB_int, G.isB_bl, G.isB_sv, G.isB_ref, G.isB_non, G.isS_int, G.isS_bl, G.isS_sv, G.isS_ref, G.isS_non, G.isT_int, G.isT_bl, G.isT_sv, G.isT_non, G.isL_int, G.isL_bl, G.isL_sv, G.isL_non,  L2.upd_same,  rAppend, rExtend, rPop, iRng1, iRng2, iList, iTup, iStr, CDivN, CPow, CMul, rIsB, rNotB, rAdd, rSub, G.tFor_eq, G.tLc_eq, G.tLc2_eq, tM0, tM1, G.rJoinS, G.rIndexAz, G.ex_str, G.iZ2, G.iZ3, G.iZE, G.Kd.is, G.tRevS, G.rSlA1, G.at_lst, G.at_tup, G.at_txt, tYes, wipe,
      List.getElem?_cons_succ, List.getElem?_cons_zero, List.set_cons_succ, List.set_cons_zero, Option.some.injEq, exists_eq_left', exists_eq_left, exists_eq', exists_eq, V.int.injEq, V.bl.injEq, V.ref.injEq, G.sv_inj, List.cons.injEq, and_true, true_and,
      exists_and_left, and_assoc, exists_eq_right_right, exists_eq_right, decide_eq_true_eq, List.append_nil, List.nil_append, List.cons_append, Bool.not_eq_true', decide_eq_false_iff_not, Bool.not_false, Bool.not_true, Bool.false_eq_true, Bool.true_eq_false, not_true, not_false_iff, L2.start, List.map_cons, List.map_nil, List.length_cons, List.length_nil, List.replicate_zero, List.replicate_succ,
      Nat.reduceAdd, Nat.reduceSub, Nat.add_zero, Nat.zero_add, reduceCtorEq, false_and, exists_false, false_or, or_false, ite_true, ite_false, if_true, if_false]
    refine ⟨la, lb, ?_⟩
    refine G.ite_i (fun h1 => ⟨la, lb, ?_⟩) fun h1 => ?_
    · have e : decide ((a.length : Int) < b.length) = decide (G.wlt a b) := decide_eq_decide.mpr ⟨fun h => .inl (by omega), fun h => by rcases h with h | h <;> omega⟩
      rw [e]; exact k
    · have e : decide (a < b) = decide (G.wlt a b) := decide_eq_decide.mpr ⟨fun h => .inr ⟨by omega, h⟩, fun h => by rcases h with h | h; · omega
                                                                                                                     · exact h.2⟩
      rw [e]; exact k

theorem ok__law_sample (T : Tx K mg) : T.d__law_sample.Ok P w base CX0 3 spSampG := by
  refine T.d__law_sample.F.ok sc__law_sample (fun vs H Q E h => ?_) (fun cdv A outer s H vs Q E hr h => ?_)
  · obtain ⟨_, _, _, _, rfl, _⟩ := h; rfl
  · obtain ⟨st, L, many, total, rfl, hS, hL, hm0, hm, ht0, ht, k⟩ := h
    have G__law_next := ok__law_next (P := P) (w := w) (base := base) T
    have G__law_word_at := ok__law_word_at (P := P) (w := w) (base := base) T
    have lL := hL.2.1
    refine ⟨_, (pss_cons (ps_set (i := 4) sc__law_sample.nd rfl (Or.inl rfl) (pe_lst pa_nil))
      (pss_cons (ps_set (i := 5) sc__law_sample.nd rfl (Or.inl rfl) (G.pe_callD T.d__law_next G__law_next (hr.mono (by decide)) (pa_cons (pv 0) (pa_cons pe_int pa_nil))))
      (pss_cons (ps_for PassesOwn.never rfl (pi_range1 (by rfl) T.n_range (pa_cons (pv 2) pa_nil)) (pg_name (i := 6) sc__law_sample.nd rfl (Or.inl rfl)) (pss_cons (ps_set (i := 7) sc__law_sample.nd rfl (Or.inl rfl) (G.pe_callD T.d__law_word_at G__law_word_at (hr.mono (by decide)) (pa_cons (pv 1) (pa_cons (pv 5) pa_nil))))
        (pss_cons (ps_if (pt_cmpR op_gt (pe_callB G.call_lenS (by rfl) T.n_len (by decide +kernel) (pa_cons (pv 7) pa_nil)) (pv 3) (nomark _)) (pss_one ps_break) pss_nil)
        (pss_cons (ps_expr (pe_bm PySem.F.plainAttrs_list PySem.F.slot_list_append PySem.F.type_list_append mt_append (pv 4) (pa_cons (pv 7) pa_nil)))
        (pss_cons (ps_set (i := 3) sc__law_sample.nd rfl (Or.inl rfl) (pe_op op_sub (pv 3) (pe_callB G.call_lenS (by rfl) T.n_len (by decide +kernel) (pa_cons (pv 7) pa_nil))))
        (pss_one (ps_set (i := 5) sc__law_sample.nd rfl (Or.inl rfl) (pe_op op_add (pe_op op_add (pv 5) pe_int) (G.pe_callD T.d__law_next G__law_next (hr.mono (by decide)) (pa_cons (pv 0) (pa_cons pe_int pa_nil)))))))))))
      (pss_one (ps_ret (pe_callTy call_tuple_of (by rfl) T.n_tuple (by decide +kernel) (pa_cons (pv 4) pa_nil))))))), ?_⟩
    simp only [tVar, tC, G.sl_is, G.lt1, Int.reduceLT, Int.reduceLE, Int.reduceNeg, Int.reducePow, Int.reduceToNat, Int.reduceSub, Int.reduceAdd, Int.reduceMul, Nat.reduceLT, Nat.reduceLeDiff, Int.zero_add, ne_eq,  HO.lst.injEq, List.dropLast_concat, G.last_get,  HO.tup.injEq, G.rII, G.rBB, G.rSS,  tOp, tUn, rI, rI0, rU, tAndV, tOrV, tNotV, tIf, tAnd, tOr, tNot, tNext, tSeq, tBreak, tCont, tDrop, tRet, tRetN, tIfS, gName, gNil, gCons, G.gTupT, G.gUnlT, gSub, gUnl, tAsg, tPar, tTest, tB, tChain,
      tNil, tCons, tTup, tLst, tCall, tCB, tBM, tBM0, tSl, tNoPart, tPart, rSetL, G.atI0, G.atI1, G.atI2, G.ixN30, G.ixN31, G.ixN32, G.cx_K, and_self, rEq, rNe, G.scal_bl, G.scal_int, G.scal_sv,  G.sv_str, G.Kn_sv, G.Kn_int, G.Kn_bl, G.Kn_non, G.isI_int, G.isI_bl, G.isI_sv, G.isI_ref, G.isI_non, G.isB_int, G.isB_bl, G.isB_sv, G.isB_ref, G.isB_non, G.isS_int, G.isS_bl, G.isS_sv, G.isS_ref, G.isS_non, G.isT_int, G.isT_bl, G.isT_sv, G.isT_non, G.isL_int, G.isL_bl, G.isL_sv, G.isL_non,  L2.upd_same,  rAppend, rExtend, rPop, iRng1, iRng2, iList, iTup, iStr, CDivN, CPow, CMul, rIsB, rNotB, rAdd, rSub, G.tFor_eq, G.tLc_eq, G.tLc2_eq, tM0, tM1, G.rJoinS, G.rIndexAz, G.ex_str, G.iZ2, G.iZ3, G.iZE, G.Kd.is, G.tRevS, G.rSlA1, G.at_lst, G.at_tup, G.at_txt, tYes, wipe,
      List.getElem?_cons_succ, List.getElem?_cons_zero, List.set_cons_succ, List.set_cons_zero, Option.some.injEq, exists_eq_left', exists_eq_left, exists_eq', exists_eq, V.int.injEq, V.bl.injEq, V.ref.injEq, G.sv_inj, List.cons.injEq, and_true, true_and,
      exists_and_left, and_assoc, exists_eq_right_right, exists_eq_right, decide_eq_true_eq, List.append_nil, List.nil_append, List.cons_append, Bool.not_eq_true', decide_eq_false_iff_not, Bool.not_false, Bool.not_true, Bool.false_eq_true, Bool.true_eq_false, not_true, not_false_iff, L2.start, List.map_cons, List.map_nil, List.length_cons, List.length_nil, List.replicate_zero, List.replicate_succ,
      Nat.reduceAdd, Nat.reduceSub, Nat.add_zero, Nat.zero_add, reduceCtorEq, false_and, exists_false, false_or, or_false, ite_true, ite_false, if_true, if_false, G.spNext, G.spWordAt]
    intro p np
    refine ⟨hS.same (G.same_upd np), fun d H1 d0 d1 ad1 => ⟨by omega, by omega, ?_⟩⟩
    have hne : p ≠ st := hS.neNew np
    refine G.loop_range (fun i σ H2 => ∃ (ws : List (List Nat)) (tt j : Int) (v6 v7 : Option V), σ = [some (.ref st), some (G.sv L), some (.int many), some (.int tt), some (.ref p), some (.int j), v6, v7] ∧ H2 p = some (.lst (ws.map G.sv)) ∧ ws.length = i ∧ G.Asc ws ∧ (G.lenS ws : Int) + tt = total ∧ 0 ≤ tt ∧ 0 ≤ j ∧ j ≤ 2 + 3 * (i : Int) ∧ (∀ w ∈ ws, ∃ m : Nat, (m : Int) < j ∧ w = G.wordAt L m) ∧ G.Adv st H H2)
      ⟨[], total, d, _, _, rfl, ad1.1 _ _ hne upd_same, rfl, List.Pairwise.nil, by simp [G.lenS], ht0, d0, by omega, by simp, (hS.adv (G.same_upd np)).trans ad1⟩ (fun M hM i σ H2 hi hP => ?_) (fun σ H2 hP => ?_)
    · obtain ⟨ws, tt, j, v6, v7, rfl, h2, hl, ha, htt, ht2, j0, j1, hw, ad2⟩ := hP
      have hwl := G.wordAt_le (L := L) j.toNat
      have hov : ∀ w ∈ ws, ∀ c ∈ w, c ∈ L := fun w h => by
        obtain ⟨m, _, rfl⟩ := hw w h
        exact G.wordAt_mem hL.1 m
      simp only [tVar, tC, G.sl_is, G.lt1, Int.reduceLT, Int.reduceLE, Int.reduceNeg, Int.reducePow, Int.reduceToNat, Int.reduceSub, Int.reduceAdd, Int.reduceMul, Nat.reduceLT, Nat.reduceLeDiff, Int.zero_add, ne_eq,  HO.lst.injEq, List.dropLast_concat, G.last_get,  HO.tup.injEq, G.rII, G.rBB, G.rSS,  tOp, tUn, rI, rI0, rU, tAndV, tOrV, tNotV, tIf, tAnd, tOr, tNot, tNext, tSeq, tBreak, tCont, tDrop, tRet, tRetN, tIfS, gName, gNil, gCons, G.gTupT, G.gUnlT, gSub, gUnl, tAsg, tPar, tTest, tB, tChain,
      tNil, tCons, tTup, tLst, tCall, tCB, tBM, tBM0, tSl, tNoPart, tPart, rSetL, G.atI0, G.atI1, G.atI2, G.ixN30, G.ixN31, G.ixN32, G.cx_K, and_self, rEq, rNe, G.scal_bl, G.scal_int, G.scal_sv,  G.sv_str, G.Kn_sv, G.Kn_int, G.Kn_bl, G.Kn_non, G.isI_int, G.isI_bl, G.isI_sv, G.isI_ref, G.isI_non, G.isB_int, G.isB_bl, G.isB_sv, G.isB_ref, G.isB_non, G.isS_int, G.isS_bl, G.isS_sv, G.isS_ref, G.isS_non, G.isT_int, G.isT_bl, G.isT_sv, G.isT_non, G.isL_int, G.isL_bl, G.isL_sv, G.isL_non,  L2.upd_same,  rAppend, rExtend, rPop, iRng1, iRng2, iList, iTup, iStr, CDivN, CPow, CMul, rIsB, rNotB, rAdd, rSub, G.tFor_eq, G.tLc_eq, G.tLc2_eq, tM0, tM1, G.rJoinS, G.rIndexAz, G.ex_str, G.iZ2, G.iZ3, G.iZE, G.Kd.is, G.tRevS, G.rSlA1, G.at_lst, G.at_tup, G.at_txt, tYes, wipe,
      List.getElem?_cons_succ, List.getElem?_cons_zero, List.set_cons_succ, List.set_cons_zero, Option.some.injEq, exists_eq_left', exists_eq_left, exists_eq', exists_eq, V.int.injEq, V.bl.injEq, V.ref.injEq, G.sv_inj, List.cons.injEq, and_true, true_and,
      exists_and_left, and_assoc, exists_eq_right_right, exists_eq_right, decide_eq_true_eq, List.append_nil, List.nil_append, List.cons_append, Bool.not_eq_true', decide_eq_false_iff_not, Bool.not_false, Bool.not_true, Bool.false_eq_true, Bool.true_eq_false, not_true, not_false_iff, L2.start, List.map_cons, List.map_nil, List.length_cons, List.length_nil, List.replicate_zero, List.replicate_succ,
      Nat.reduceAdd, Nat.reduceSub, Nat.add_zero, Nat.zero_add, reduceCtorEq, false_and, exists_false, false_or, or_false, ite_true, ite_false, if_true, if_false, G.spNext, G.spWordAt]
      refine ⟨hL.1, by omega, j0, by omega, by omega, ?_⟩
      refine G.ite_i (fun h1 => ?_) fun h1 => ?_
      · exact ⟨_, .inl ⟨.inl (.inl h2), fun l nl => k l ws _ upd_same (by omega) hov ha (by omega) (ad2.same (G.same_upd nl))⟩⟩
      have ad3 := ad2.set (o := .lst (ws.map G.sv ++ [G.sv (G.wordAt L j.toNat)])) hS np
      refine ⟨G.tyL h2, _, h2, by rw [List.length_map]; omega, by omega, ad3.2, fun e H3 e0 e1 ad4 => ?_⟩
      rw [hM]
      refine ⟨ws ++ [G.wordAt L j.toNat], _, _, _, _, rfl, ad4.1 _ _ hne (by rw [upd_same, List.map_append]; rfl), by simp [hl], asc_snoc ha fun x hx => ?_, by rw [G.lenS_app, G.lenS_one]; omega, by omega, by omega, by omega, fun x hx => ?_, ad3.trans ad4⟩
      · obtain ⟨m, hm, rfl⟩ := hw x hx
        exact G.wordAt_asc hL.1 hL.2.2.2 (by omega)
      · rcases List.mem_append.mp hx with hx | hx
        · obtain ⟨m, hm, e⟩ := hw x hx
          exact ⟨m, by omega, e⟩
        · exact ⟨j.toNat, by omega, List.mem_singleton.mp hx⟩
    · obtain ⟨ws, tt, j, v6, v7, rfl, h2, hl, ha, htt, ht2, j0, j1, hw, ad2⟩ := hP
      have hov : ∀ w ∈ ws, ∀ c ∈ w, c ∈ L := fun w h => by
        obtain ⟨m, _, rfl⟩ := hw w h
        exact G.wordAt_mem hL.1 m
      simp only [tVar, tC, G.sl_is, G.lt1, Int.reduceLT, Int.reduceLE, Int.reduceNeg, Int.reducePow, Int.reduceToNat, Int.reduceSub, Int.reduceAdd, Int.reduceMul, Nat.reduceLT, Nat.reduceLeDiff, Int.zero_add, ne_eq,  HO.lst.injEq, List.dropLast_concat, G.last_get,  HO.tup.injEq, G.rII, G.rBB, G.rSS,  tOp, tUn, rI, rI0, rU, tAndV, tOrV, tNotV, tIf, tAnd, tOr, tNot, tNext, tSeq, tBreak, tCont, tDrop, tRet, tRetN, tIfS, gName, gNil, gCons, G.gTupT, G.gUnlT, gSub, gUnl, tAsg, tPar, tTest, tB, tChain,
      tNil, tCons, tTup, tLst, tCall, tCB, tBM, tBM0, tSl, tNoPart, tPart, rSetL, G.atI0, G.atI1, G.atI2, G.ixN30, G.ixN31, G.ixN32, G.cx_K, and_self, rEq, rNe, G.scal_bl, G.scal_int, G.scal_sv,  G.sv_str, G.Kn_sv, G.Kn_int, G.Kn_bl, G.Kn_non, G.isI_int, G.isI_bl, G.isI_sv, G.isI_ref, G.isI_non, G.isB_int, G.isB_bl, G.isB_sv, G.isB_ref, G.isB_non, G.isS_int, G.isS_bl, G.isS_sv, G.isS_ref, G.isS_non, G.isT_int, G.isT_bl, G.isT_sv, G.isT_non, G.isL_int, G.isL_bl, G.isL_sv, G.isL_non,  L2.upd_same,  rAppend, rExtend, rPop, iRng1, iRng2, iList, iTup, iStr, CDivN, CPow, CMul, rIsB, rNotB, rAdd, rSub, G.tFor_eq, G.tLc_eq, G.tLc2_eq, tM0, tM1, G.rJoinS, G.rIndexAz, G.ex_str, G.iZ2, G.iZ3, G.iZE, G.Kd.is, G.tRevS, G.rSlA1, G.at_lst, G.at_tup, G.at_txt, tYes, wipe,
      List.getElem?_cons_succ, List.getElem?_cons_zero, List.set_cons_succ, List.set_cons_zero, Option.some.injEq, exists_eq_left', exists_eq_left, exists_eq', exists_eq, V.int.injEq, V.bl.injEq, V.ref.injEq, G.sv_inj, List.cons.injEq, and_true, true_and,
      exists_and_left, and_assoc, exists_eq_right_right, exists_eq_right, decide_eq_true_eq, List.append_nil, List.nil_append, List.cons_append, Bool.not_eq_true', decide_eq_false_iff_not, Bool.not_false, Bool.not_true, Bool.false_eq_true, Bool.true_eq_false, not_true, not_false_iff, L2.start, List.map_cons, List.map_nil, List.length_cons, List.length_nil, List.replicate_zero, List.replicate_succ,
      Nat.reduceAdd, Nat.reduceSub, Nat.add_zero, Nat.zero_add, reduceCtorEq, false_and, exists_false, false_or, or_false, ite_true, ite_false, if_true, if_false]
      exact ⟨_, .inl ⟨.inl (.inl h2), fun l nl => k l ws _ upd_same (by omega) hov ha (by omega) (ad2.same (G.same_upd nl))⟩⟩
end
end Lw

namespace Lw
open PySem PySem.Spec L2 LamX
def tabsOf {K : PySem.W.Frag} {mg : Str → Option Value} (T : Tx K mg) : List (Addr × Str) := [(T.m__law_rich.P, "_law_rich.<locals>.<lambda>"), (T.m_law.P, "law.<locals>.<lambda>")]
def csOf {K : PySem.W.Frag} {mg : Str → Option Value} (T : Tx K mg) : List (Addr × Addr) := [(T.m__law_rich.c, T.m__law_rich.P), (T.m_law.c, T.m_law.P)]
/-- all but the stream and the tables is kept -/
def AdvN (T : List (Addr × Str)) (st : Addr) (H H' : Hp) : Prop := (∀ b o, b ≠ st → (∀ ps, o ≠ .tbl ps) → H b = some o → H' b = some o) ∧ G.Strm H' st ∧ Tabs T H'
theorem strm_ne {H : Hp} {st q : Addr} {xs : List V} (hs : G.Strm H st) (h : H q = some (.tup xs)) : q ≠ st := fun e => by
  obtain ⟨_, _, _, _, q, _⟩ := hs
  rw [e, q] at h; cases h
theorem strm_tab {H : Hp} {st P : Addr} {q : Str} (hs : G.Strm H st) (h : TabS H P q) : P ≠ st := fun e => by
  obtain ⟨_, _, _, _, q1, _⟩ := hs
  obtain ⟨ps, h1, _⟩ := h
  rw [e, q1] at h1; cases h1
theorem codeO_l {c : Addr} {q : Str} {xs : List V} : CodeO c q ≠ .lst xs := fun z => by
  unfold CodeO at z; cases z
theorem strm_code {H : Hp} {st c : Addr} {q : Str} (hs : G.Strm H st) (h : H c = some (CodeO c q)) : c ≠ st := fun e => by
  obtain ⟨_, _, _, _, q1, _⟩ := hs
  rw [e, q1] at h
  exact codeO_l (Option.some.inj h).symm
theorem Tabs.adv {T : List (Addr × Str)} {H H' : Hp} {st : Addr} (t : Tabs T H) (hs : G.Strm H st) (a : G.Adv st H H') : Tabs T H' := fun p hp => by
  obtain ⟨ps, h1, h2, h3⟩ := t p hp
  refine ⟨ps, a.1 _ _ (strm_tab hs (t p hp)) h1, h2, fun pos cv hc => ?_⟩
  obtain ⟨c, e1, e2⟩ := h3 pos cv hc
  exact ⟨c, e1, a.1 _ _ (strm_code hs e2) e2⟩
theorem AdvN.of {T : List (Addr × Str)} {H H' : Hp} {st : Addr} (hs : G.Strm H st) (t : Tabs T H) (a : G.Adv st H H') : AdvN T st H H' := ⟨fun b o n _ e => a.1 b o n e, a.2, Tabs.adv t hs a⟩
theorem AdvN.trans {T : List (Addr × Str)} {H H1 H2 : Hp} {st : Addr} (a : AdvN T st H H1) (b : AdvN T st H1 H2) : AdvN T st H H2 := ⟨fun c o n m e => b.1 c o n m (a.1 c o n m e), b.2⟩
theorem strm_ext {H H' : Hp} {st : Addr} (hs : G.Strm H st) (e : ExtN H H') : G.Strm H' st := by
  obtain ⟨sc, c, k, ns, h1, h2, h3, h4⟩ := hs
  exact ⟨sc, c, k, ns, e _ _ h1 (fun _ z => by cases z), e _ _ h2 (fun _ z => by cases z), h3, h4⟩
def spRich {K : PySem.W.Frag} {mg : Str → Option Value} (T : Tx K mg) : Sp := fun vs H Q _ => ∃ (st : Addr) (L : List Nat), vs = [.ref st, G.sv L] ∧ G.Strm H st ∧ G.Ltr L ∧ Tabs (tabsOf T) H ∧
  ∀ (p : Addr) (ws : List (List Nat)) (H' : Hp), H' p = some (.tup (ws.map G.sv)) → G.Good L ws → AdvN (tabsOf T) st H H' → Q (.ref p) H'
section
variable {P : Program} {w : World} {K : PySem.W.Frag} {mg : Str → Option Value} {base : Heap}
theorem ok__law_rich (T : Tx K mg) (TB : ∀ p ∈ csOf T, TabB base mg p.1 p.2) : T.d__law_rich.Ok P w base CX0 4 (spRich T) := by
  refine G.okL T.d__law_rich.F T.m__law_rich.e sc__law_rich (fun vs H Q E h => ?_) (fun A outer s H vs Q E hr h => ?_)
  · obtain ⟨_, _, rfl, _⟩ := h; rfl
  · obtain ⟨st, L, rfl, hS, hL, hT, k⟩ := h
    have G__law_next := ok__law_next (P := P) (w := w) (base := base) T
    have G__law_word := ok__law_word (P := P) (w := w) (base := base) T
    have G__law_sample := ok__law_sample (P := P) (w := w) (base := base) T
    have G__law_before := ok__law_before (P := P) (w := w) (base := base) T
    have TB := TB _ (List.mem_cons_self)
    have hmT : (T.m__law_rich.P, ("_law_rich.<locals>.<lambda>" : Str)) ∈ tabsOf T := List.mem_cons_self
    have huT : ∀ p ∈ tabsOf T, p.1 = T.m__law_rich.P → p.2 = ("_law_rich.<locals>.<lambda>" : Str) := fun p hp e => by
      rcases List.mem_cons.mp hp with rfl | hp
      · rfl
      · rw [List.mem_singleton.mp hp] at e
        have := T.mP
        simp at this
        exact absurd e.symm this
    refine ⟨_, (pss_cons (ps_set (i := 2) sc__law_rich.nd rfl (Or.inl rfl) (G.pe_callD T.d__law_next G__law_next (hr.mono (by decide)) (pa_cons (pv 0) (pa_cons pe_int pa_nil))))
      (pss_cons (ps_if (pt_cmpR op_lt (pv 2) pe_int (nomark _)) (pss_cons (ps_set (i := 3) sc__law_rich.nd rfl (Or.inl rfl) (pe_lst pa_nil))
        (pss_cons (ps_set (i := 4) sc__law_rich.nd rfl (Or.inl rfl) (G.pe_callD T.d__law_word G__law_word (hr.mono (by decide)) (pa_cons (pv 0) (pa_cons (pv 1) (pa_cons pe_int (pa_cons pe_int pa_nil))))))
        (pss_cons (ps_for PassesOwn.never rfl (pi_range1 (by rfl) T.n_range (pa_cons (G.pe_callD T.d__law_next G__law_next (hr.mono (by decide)) (pa_cons (pv 0) (pa_cons pe_int pa_nil))) pa_nil)) (pg_name (i := 5) sc__law_rich.nd rfl (Or.inl rfl)) (pss_cons (ps_set (i := 6) sc__law_rich.nd rfl (Or.inl rfl) (pe_op G.op_addS (pe_slice G.sl_S (pv 4) po_none (po_some (G.pe_callD T.d__law_next G__law_next (hr.mono (by decide)) (pa_cons (pv 0) (pa_cons (pe_op op_add (pe_callB G.call_lenS (by rfl) T.n_len (by decide +kernel) (pa_cons (pv 4) pa_nil)) pe_int) pa_nil))))) (G.pe_callD T.d__law_word G__law_word (hr.mono (by decide)) (pa_cons (pv 0) (pa_cons (pv 1) (pa_cons pe_int (pa_cons pe_int pa_nil)))))))
          (pss_one (ps_if (pt_cmpR G.op_notInTx (pv 6) (pv 3) rfl) (pss_one (ps_expr (pe_bm PySem.F.plainAttrs_list PySem.F.slot_list_append PySem.F.type_list_append mt_append (pv 3) (pa_cons (pv 6) pa_nil)))) pss_nil))))
        (pss_one (ps_ret (pe_callTy call_tuple_of (by rfl) T.n_tuple (by decide +kernel) (pa_cons (G.pe_sortLam (nm := "text") hr TB rfl hmT huT (Or.inl rfl) T.n_len T.n_sorted (pa_cons (pv 3) pa_nil)) pa_nil))))))) pss_nil)
      (pss_cons (ps_set (i := 3) sc__law_rich.nd rfl (Or.inl rfl) (G.pe_callD T.d__law_sample G__law_sample (hr.mono (by decide)) (pa_cons (pv 0) (pa_cons (pv 1) (pa_cons (G.pe_callD T.d__law_next G__law_next (hr.mono (by decide)) (pa_cons (pv 0) (pa_cons (pe_ifExp (pt_cmpR G.op_eqI (pv 2) pe_int (nomark _)) pe_int pe_int) pa_nil))) (pa_cons pe_int pa_nil))))))
      (pss_cons (ps_if (pt_cmpR op_lt (pv 2) pe_int (nomark _)) (pss_one (ps_ret (pv 3))) pss_nil)
      (pss_cons (ps_set (i := 7) sc__law_rich.nd rfl (Or.inl rfl) (pe_op op_add pe_int (G.pe_callD T.d__law_next G__law_next (hr.mono (by decide)) (pa_cons (pv 0) (pa_cons (pe_op op_sub pe_int (pe_callB (cr_sum rfl) (by rfl) T.n_sum (by decide +kernel) (pa_cons (pe_lc (own := [("word", 6)]) (g := gName 6) (tt := tYes) rfl sc__law_rich.nd (pi_tup (pv 3)) (blkOk_by (own := [("word", 6)]) (N := ["stream", "letters", "kind", "found", "ahead", "turn", "word", "left", "long"]) (sc := defScope s__law_rich) (by decide +kernel)) (fun _ _ _ _ _ => pg_name (i := 6) sc__law_rich.nd rfl (Or.inl rfl)) (fun _ _ _ _ _ => pts_nil) (fun _ _ _ _ _ => (pe_callB G.call_lenS (by rfl) T.n_len (by decide +kernel) (pa_cons (pv 6) pa_nil)))) pa_nil))) pa_nil)))))
      (pss_cons (ps_set (i := 8) sc__law_rich.nd rfl (Or.inl rfl) (pe_op G.op_mulS (G.pe_callD T.d__law_word G__law_word (hr.mono (by decide)) (pa_cons (pv 0) (pa_cons (pv 1) (pa_cons pe_int (pa_cons pe_int pa_nil))))) pe_int))
      (pss_one (ps_ret (pe_ifExp (PW.pt (pw_or (pt_cmpR G.op_inTt (pe_slice G.sl_S (pv 8) po_none (po_some (pv 7))) (pv 3) rfl) (pw_or1 (PW.pt (pw_and (pt_cmpR op_gt (pe_callB G.call_lenT (by rfl) T.n_len (by decide +kernel) (pa_cons (pv 3) pa_nil)) pe_int (nomark _)) (pw_and1 (pt_not (pt_val (G.pe_callD T.d__law_before G__law_before (hr.mono (by decide)) (pa_cons (pe_ix G.ix_tpl (pv 3) (pe_un un_neg pe_int) (fun _ _ => rfl)) (pa_cons (pe_slice G.sl_S (pv 8) po_none (po_some (pv 7))) pa_nil))))))))))) (pv 3) (pe_op G.op_catA1 (pv 3) (pe_tup (pa_cons (pe_slice G.sl_S (pv 8) po_none (po_some (pv 7))) pa_nil)))))))))))), ?_⟩
    simp only [tVar, tC, G.sl_is, G.lt1, Int.reduceLT, Int.reduceLE, Int.reduceNeg, Int.reducePow, Int.reduceToNat, Int.reduceSub, Int.reduceAdd, Int.reduceMul, Nat.reduceLT, Nat.reduceLeDiff, Int.zero_add, ne_eq,  HO.lst.injEq, List.dropLast_concat, G.last_get,  HO.tup.injEq, G.rII, G.rBB, G.rSS,  tOp, tUn, rI, rI0, rU, tAndV, tOrV, tNotV, tIf, tAnd, tOr, tNot, tNext, tSeq, tBreak, tCont, tDrop, tRet, tRetN, tIfS, gName, gNil, gCons, G.gTupT, G.gUnlT, gSub, gUnl, tAsg, tPar, tTest, tB, tChain,
      tNil, tCons, tTup, tLst, tCall, tCB, tBM, tBM0, tSl, tNoPart, tPart, rSetL, G.atI0, G.atI1, G.atI2, G.ixN30, G.ixN31, G.ixN32, G.cx_K, and_self, rEq, rNe, G.scal_bl, G.scal_int, G.scal_sv,  G.sv_str, G.Kn_sv, G.Kn_int, G.Kn_bl, G.Kn_non, G.isI_int, G.isI_bl, G.isI_sv, G.isI_ref, G.isI_non, G.isB_int, G.isB_bl, G.isB_sv, G.isB_ref, G.isB_non, G.isS_int, G.isS_bl, G.isS_sv, G.isS_ref, G.isS_non, G.isT_int, G.isT_bl, G.isT_sv, G.isT_non, G.isL_int, G.isL_bl, G.isL_sv, G.isL_non,  L2.upd_same,  rAppend, rExtend, rPop, iRng1, iRng2, iList, iTup, iStr, CDivN, CPow, CMul, rIsB, rNotB, rAdd, rSub, G.tFor_eq, G.tLc_eq, G.tLc2_eq, tM0, tM1, G.rJoinS, G.rIndexAz, G.ex_str, G.iZ2, G.iZ3, G.iZE, G.Kd.is, G.tRevS, G.rSlA1, G.at_lst, G.at_tup, G.at_txt, tYes, wipe,
      List.getElem?_cons_succ, List.getElem?_cons_zero, List.set_cons_succ, List.set_cons_zero, Option.some.injEq, exists_eq_left', exists_eq_left, exists_eq', exists_eq, V.int.injEq, V.bl.injEq, V.ref.injEq, G.sv_inj, List.cons.injEq, and_true, true_and,
      exists_and_left, and_assoc, exists_eq_right_right, exists_eq_right, decide_eq_true_eq, List.append_nil, List.nil_append, List.cons_append, Bool.not_eq_true', decide_eq_false_iff_not, Bool.not_false, Bool.not_true, Bool.false_eq_true, Bool.true_eq_false, not_true, not_false_iff, L2.start, List.map_cons, List.map_nil, List.length_cons, List.length_nil, List.replicate_zero, List.replicate_succ,
      Nat.reduceAdd, Nat.reduceSub, Nat.add_zero, Nat.zero_add, reduceCtorEq, false_and, exists_false, false_or, or_false, ite_true, ite_false, if_true, if_false, G.spNext, G.spWord, spSampG, spBef, G.rCatA1, G.tSortLam]
    refine ⟨hS, fun d H1 d0 d1 ad1 => G.ite_i (fun h1 => ?_) fun h1 => ?_⟩
    · intro p np
      have ad1' := ad1.same (G.same_upd (o := .lst []) np)
      have np0 : H p = none := ad1.free np
      have hne : p ≠ st := hS.neNew np0
      refine ⟨ad1'.2, hL.1, by have := hL.2.1; omega, fun wa H2 _ a8 ha ad2 => ⟨ad2.2, fun m H3 m0 m12 ad3 => ⟨by omega, by omega, ?_⟩⟩⟩
      have hp3 : H3 p = some (.lst []) := ad3.1 _ _ hne (ad2.1 _ _ hne upd_same)
      have ad03 := (ad1'.trans ad2).trans ad3
      refine G.loop_range (fun i σ H4 => ∃ (ws : List (List Nat)) (v5 v6 : Option V), σ = [some (.ref st), some (G.sv L), some (.int d), some (.ref p), some (G.sv wa), v5, v6, none, none] ∧ H4 p = some (.lst (ws.map G.sv)) ∧ ws.length ≤ i ∧ ws.Nodup ∧ (∀ w ∈ ws, w.length ≤ 17 ∧ ∀ c ∈ w, c ∈ L) ∧ G.Adv st H H4) ⟨[], _, _, rfl, hp3, by simp, .nil, by simp, ad03⟩ (fun M hM i σ H4 hi hP => ?_) (fun σ H4 hP => ?_)
      · obtain ⟨ws, v5, v6, rfl, h4, hl, hn, hw, ad4⟩ := hP
        simp only [tVar, tC, G.sl_is, G.lt1, Int.reduceLT, Int.reduceLE, Int.reduceNeg, Int.reducePow, Int.reduceToNat, Int.reduceSub, Int.reduceAdd, Int.reduceMul, Nat.reduceLT, Nat.reduceLeDiff, Int.zero_add, ne_eq,  HO.lst.injEq, List.dropLast_concat, G.last_get,  HO.tup.injEq, G.rII, G.rBB, G.rSS,  tOp, tUn, rI, rI0, rU, tAndV, tOrV, tNotV, tIf, tAnd, tOr, tNot, tNext, tSeq, tBreak, tCont, tDrop, tRet, tRetN, tIfS, gName, gNil, gCons, G.gTupT, G.gUnlT, gSub, gUnl, tAsg, tPar, tTest, tB, tChain,
      tNil, tCons, tTup, tLst, tCall, tCB, tBM, tBM0, tSl, tNoPart, tPart, rSetL, G.atI0, G.atI1, G.atI2, G.ixN30, G.ixN31, G.ixN32, G.cx_K, and_self, rEq, rNe, G.scal_bl, G.scal_int, G.scal_sv,  G.sv_str, G.Kn_sv, G.Kn_int, G.Kn_bl, G.Kn_non, G.isI_int, G.isI_bl, G.isI_sv, G.isI_ref, G.isI_non, G.isB_int, G.isB_bl, G.isB_sv, G.isB_ref, G.isB_non, G.isS_int, G.isS_bl, G.isS_sv, G.isS_ref, G.isS_non, G.isT_int, G.isT_bl, G.isT_sv, G.isT_non, G.isL_int, G.isL_bl, G.isL_sv, G.isL_non,  L2.upd_same,  rAppend, rExtend, rPop, iRng1, iRng2, iList, iTup, iStr, CDivN, CPow, CMul, rIsB, rNotB, rAdd, rSub, G.tFor_eq, G.tLc_eq, G.tLc2_eq, tM0, tM1, G.rJoinS, G.rIndexAz, G.ex_str, G.iZ2, G.iZ3, G.iZE, G.Kd.is, G.tRevS, G.rSlA1, G.at_lst, G.at_tup, G.at_txt, tYes, wipe,
      List.getElem?_cons_succ, List.getElem?_cons_zero, List.set_cons_succ, List.set_cons_zero, Option.some.injEq, exists_eq_left', exists_eq_left, exists_eq', exists_eq, V.int.injEq, V.bl.injEq, V.ref.injEq, G.sv_inj, List.cons.injEq, and_true, true_and,
      exists_and_left, and_assoc, exists_eq_right_right, exists_eq_right, decide_eq_true_eq, List.append_nil, List.nil_append, List.cons_append, Bool.not_eq_true', decide_eq_false_iff_not, Bool.not_false, Bool.not_true, Bool.false_eq_true, Bool.true_eq_false, not_true, not_false_iff, L2.start, List.map_cons, List.map_nil, List.length_cons, List.length_nil, List.replicate_zero, List.replicate_succ,
      Nat.reduceAdd, Nat.reduceSub, Nat.add_zero, Nat.zero_add, reduceCtorEq, false_and, exists_false, false_or, or_false, ite_true, ite_false, if_true, if_false, G.spNext, G.spWord, G.rCatA1, G.tSortLam]
        refine ⟨by omega, ad4.2, by omega, by omega, fun e H5 e0 e1 ad5 => ⟨by omega, ad5.2, hL.1, by have := hL.2.1; omega, fun wb H6 _ b9 hb ad6 => ?_⟩⟩
        have ad46 := (ad4.trans ad5).trans ad6
        have h6 := ad6.1 _ _ hne (ad5.1 _ _ hne h4)
        have cl := G.cutL_len wa none (some e)
        refine ⟨by omega, ws, h6, G.ite_i (fun hi2 => ⟨G.tyL h6, _, h6, by rw [List.length_map]; omega, ?_⟩) fun hi2 => ?_⟩
        · rw [hM]
          refine ⟨ws ++ [G.cutL wa none (some e) ++ wb], _, _, rfl, by rw [upd_same, List.map_append]; rfl, by simp; omega, ?_, fun w hw2 => ?_, ad46.set hS np0⟩
          · rw [List.nodup_append]
            exact ⟨hn, by simp, fun a ha b hb e => by rw [List.mem_singleton.mp hb] at e; exact hi2 (e ▸ ha)⟩
          · rcases List.mem_append.mp hw2 with hw2 | hw2
            · exact hw w hw2
            · rw [List.mem_singleton.mp hw2]
              refine ⟨by rw [List.length_append]; omega, fun c hc => ?_⟩
              rcases List.mem_append.mp hc with hc | hc
              · rw [G.cutL_toI wa e0] at hc
                exact ha c (List.mem_of_mem_take hc)
              · exact hb c hc
        · rw [hM]
          exact ⟨ws, _, _, rfl, h6, by omega, hn, hw, ad46⟩
      · obtain ⟨ws, v5, v6, rfl, h4, hl, hn, hw, ad4⟩ := hP
        simp only [tVar, tC, G.sl_is, G.lt1, Int.reduceLT, Int.reduceLE, Int.reduceNeg, Int.reducePow, Int.reduceToNat, Int.reduceSub, Int.reduceAdd, Int.reduceMul, Nat.reduceLT, Nat.reduceLeDiff, Int.zero_add, ne_eq,  HO.lst.injEq, List.dropLast_concat, G.last_get,  HO.tup.injEq, G.rII, G.rBB, G.rSS,  tOp, tUn, rI, rI0, rU, tAndV, tOrV, tNotV, tIf, tAnd, tOr, tNot, tNext, tSeq, tBreak, tCont, tDrop, tRet, tRetN, tIfS, gName, gNil, gCons, G.gTupT, G.gUnlT, gSub, gUnl, tAsg, tPar, tTest, tB, tChain,
      tNil, tCons, tTup, tLst, tCall, tCB, tBM, tBM0, tSl, tNoPart, tPart, rSetL, G.atI0, G.atI1, G.atI2, G.ixN30, G.ixN31, G.ixN32, G.cx_K, and_self, rEq, rNe, G.scal_bl, G.scal_int, G.scal_sv,  G.sv_str, G.Kn_sv, G.Kn_int, G.Kn_bl, G.Kn_non, G.isI_int, G.isI_bl, G.isI_sv, G.isI_ref, G.isI_non, G.isB_int, G.isB_bl, G.isB_sv, G.isB_ref, G.isB_non, G.isS_int, G.isS_bl, G.isS_sv, G.isS_ref, G.isS_non, G.isT_int, G.isT_bl, G.isT_sv, G.isT_non, G.isL_int, G.isL_bl, G.isL_sv, G.isL_non,  L2.upd_same,  rAppend, rExtend, rPop, iRng1, iRng2, iList, iTup, iStr, CDivN, CPow, CMul, rIsB, rNotB, rAdd, rSub, G.tFor_eq, G.tLc_eq, G.tLc2_eq, tM0, tM1, G.rJoinS, G.rIndexAz, G.ex_str, G.iZ2, G.iZ3, G.iZE, G.Kd.is, G.tRevS, G.rSlA1, G.at_lst, G.at_tup, G.at_txt, tYes, wipe,
      List.getElem?_cons_succ, List.getElem?_cons_zero, List.set_cons_succ, List.set_cons_zero, Option.some.injEq, exists_eq_left', exists_eq_left, exists_eq', exists_eq, V.int.injEq, V.bl.injEq, V.ref.injEq, G.sv_inj, List.cons.injEq, and_true, true_and,
      exists_and_left, and_assoc, exists_eq_right_right, exists_eq_right, decide_eq_true_eq, List.append_nil, List.nil_append, List.cons_append, Bool.not_eq_true', decide_eq_false_iff_not, Bool.not_false, Bool.not_true, Bool.false_eq_true, Bool.true_eq_false, not_true, not_false_iff, L2.start, List.map_cons, List.map_nil, List.length_cons, List.length_nil, List.replicate_zero, List.replicate_succ,
      Nat.reduceAdd, Nat.reduceSub, Nat.add_zero, Nat.zero_add, reduceCtorEq, false_and, exists_false, false_or, or_false, ite_true, ite_false, if_true, if_false, G.spNext, G.spWord, G.rCatA1, G.tSortLam]
        refine ⟨Tabs.adv hT hS ad4, ws, h4, fun w h => Nat.le_trans (hw w h).1 (by decide), fun H5 ys q eN T5 hp2 hs2 n5 => ⟨_, .inl ⟨.inl (.inl upd_same), fun l nl => ?_⟩⟩⟩
        have nd : ys.Nodup := hp2.nodup_iff.mpr hn
        have hg : G.Good L ys := ⟨by rw [hp2.length_eq]; omega, fun w h => (hw w (hp2.mem_iff.mp h)).2, G.asc_of nd hs2, ?_⟩
        · have sm : Same H5 (upd (upd H5 q (.lst (ys.map G.sv))) l (.tup (ys.map G.sv))) := (G.same_upd n5).trans (G.same_upd nl)
          refine k l ys _ upd_same hg ⟨fun b o nb no e => sm _ _ (eN _ _ (ad4.1 b o nb e) no), (strm_ext ad4.2 eN).same sm, T5.ext sm⟩
        · have hle : ∀ l : List (List Nat), (∀ w ∈ l, w.length ≤ 17) → G.lenS l ≤ 17 * l.length := fun l => by
            induction l with
            | nil => intro _; simp [G.lenS]
            | cons x r ih =>
              intro h
              have h1 := ih fun w hw => h w (List.mem_cons_of_mem _ hw)
              have h2 := h x List.mem_cons_self
              unfold G.lenS at *
              rw [List.map_cons, List.sum_cons, List.length_cons]; omega
          have h1 := hle ys fun w h => (hw w (hp2.mem_iff.mp h)).1
          rw [hp2.length_eq] at h1
          omega
    · refine G.ite_i (fun h4 => ?_) fun h4 => ?_
      · refine ⟨ad1.2, fun e H2 e0 e1 ad2 => ⟨ad2.2, hL, e0, by omega, fun p ws H3 hp hn ho ha ht ad3 => ?_⟩⟩
        rw [if_pos (by omega)]
        exact k p ws H3 hp ⟨by omega, ho, ha, by omega⟩ (.of hS hT ((ad1.trans ad2).trans ad3))
      · refine ⟨ad1.2, fun e H2 e0 e1 ad2 => ⟨ad2.2, hL, e0, by omega, fun p ws H3 hp hn ho ha ht ad3 => ?_⟩⟩
        have ad03 := (ad1.trans ad2).trans ad3
        refine G.ite_i (fun h7 => k p ws H3 hp ⟨by omega, ho, ha, by omega⟩ (.of hS hT ad03)) fun h7 => ?_
        refine ⟨⟨_, .inl (.inl hp)⟩, ?_⟩
        refine G.comp_itF (walk_tup (K := K) (a := p) (xs := ws.map G.sv)) (fun _ => true) (G.atD ws (fun w => .int w.length) .non) (by rw [G.sl_is, List.length_map]; omega) (fun H s => .inl (.inl (s _ _ hp))) (fun i H H' v hy => by rw [hy.1]; exact Same.refl _) (fun i x H5 H6 hi s5 hy Z W hZ hW => ?_) (fun D H5 hD s5 h5 => ?_)
        · obtain ⟨rfl, hx1⟩ := hy
          have hx2 : (ws.map G.sv)[i]? = some x := hx1
          rw [List.getElem?_map] at hx2
          obtain ⟨wd, hwd, rfl⟩ := Option.map_eq_some_iff.mp hx2
          have hw := hW _ (Same.refl _) rfl
          simp only [G.atD, hwd] at hw
          simp only [tVar, tC, G.sl_is, G.lt1, Int.reduceLT, Int.reduceLE, Int.reduceNeg, Int.reducePow, Int.reduceToNat, Int.reduceSub, Int.reduceAdd, Int.reduceMul, Nat.reduceLT, Nat.reduceLeDiff, Int.zero_add, ne_eq,  HO.lst.injEq, List.dropLast_concat, G.last_get,  HO.tup.injEq, G.rII, G.rBB, G.rSS,  tOp, tUn, rI, rI0, rU, tAndV, tOrV, tNotV, tIf, tAnd, tOr, tNot, tNext, tSeq, tBreak, tCont, tDrop, tRet, tRetN, tIfS, gName, gNil, gCons, G.gTupT, G.gUnlT, gSub, gUnl, tAsg, tPar, tTest, tB, tChain,
      tNil, tCons, tTup, tLst, tCall, tCB, tBM, tBM0, tSl, tNoPart, tPart, rSetL, G.atI0, G.atI1, G.atI2, G.ixN30, G.ixN31, G.ixN32, G.cx_K, and_self, rEq, rNe, G.scal_bl, G.scal_int, G.scal_sv,  G.sv_str, G.Kn_sv, G.Kn_int, G.Kn_bl, G.Kn_non, G.isI_int, G.isI_bl, G.isI_sv, G.isI_ref, G.isI_non, G.isB_int, G.isB_bl, G.isB_sv, G.isB_ref, G.isB_non, G.isS_int, G.isS_bl, G.isS_sv, G.isS_ref, G.isS_non, G.isT_int, G.isT_bl, G.isT_sv, G.isT_non, G.isL_int, G.isL_bl, G.isL_sv, G.isL_non,  L2.upd_same,  rAppend, rExtend, rPop, iRng1, iRng2, iList, iTup, iStr, CDivN, CPow, CMul, rIsB, rNotB, rAdd, rSub, G.tFor_eq, G.tLc_eq, G.tLc2_eq, tM0, tM1, G.rJoinS, G.rIndexAz, G.ex_str, G.iZ2, G.iZ3, G.iZE, G.Kd.is, G.tRevS, G.rSlA1, G.at_lst, G.at_tup, G.at_txt, tYes, wipe,
      List.getElem?_cons_succ, List.getElem?_cons_zero, List.set_cons_succ, List.set_cons_zero, Option.some.injEq, exists_eq_left', exists_eq_left, exists_eq', exists_eq, V.int.injEq, V.bl.injEq, V.ref.injEq, G.sv_inj, List.cons.injEq, and_true, true_and,
      exists_and_left, and_assoc, exists_eq_right_right, exists_eq_right, decide_eq_true_eq, List.append_nil, List.nil_append, List.cons_append, Bool.not_eq_true', decide_eq_false_iff_not, Bool.not_false, Bool.not_true, Bool.false_eq_true, Bool.true_eq_false, not_true, not_false_iff, L2.start, List.map_cons, List.map_nil, List.length_cons, List.length_nil, List.replicate_zero, List.replicate_succ,
      Nat.reduceAdd, Nat.reduceSub, Nat.add_zero, Nat.zero_add, reduceCtorEq, false_and, exists_false, false_or, or_false, ite_true, ite_false, if_true, if_false]
          have := G.lenS_mem (List.mem_of_getElem? hwd)
          exact ⟨by omega, hw⟩
        · rw [G.filt_all, List.length_map, G.map_range_get] at h5
          refine ⟨D, ws.map fun w => (w.length : Int), rfl, .inl (.inl (by rw [h5, List.map_map]; rfl)), ?_⟩
          have hsum : (ws.map fun w => (w.length : Int)).sum = (G.lenS ws : Int) := by
            have := G.totV_lenS ws
            unfold G.totV at this
            rw [List.map_map] at this
            rw [← this]
            congr 1
          rw [hsum]
          have hp5 := s5 _ _ hp
          refine ⟨_, rfl, (ad03.same s5).2, by omega, by omega, fun f H6 f0 f1 ad6 => ⟨ad6.2, hL.1, by have := hL.2.1; omega, fun wd H7 w1 w12 hwd ad7 => ?_⟩⟩
          have ad07 := ((ad03.same s5).trans ad6).trans ad7
          have hp7 := ad7.1 _ _ (strm_ne ad6.2 (ad6.1 _ _ (strm_ne (ad03.same s5).2 hp5) hp5)) (ad6.1 _ _ (strm_ne (ad03.same s5).2 hp5) hp5)
          have hlR := G.repL_len wd 2000
          have hlR2 : (G.repL wd 2000).length ≤ 24000 := by rw [hlR]; have : (2000 : Int).toNat = 2000 := rfl; rw [this]; omega
          have hcut : G.cutL (G.repL wd 2000) none (some (1 + f)) = (G.repL wd 2000).take (1 + f).toNat := G.cutL_toI _ (by omega)
          rw [hcut]
          have lgc : ∀ c ∈ (G.repL wd 2000).take (1 + f).toNat, c ∈ L := fun c hc => hwd c (G.repL_mem (List.mem_of_mem_take hc))
          have lgl : ((G.repL wd 2000).take (1 + f).toNat).length ≤ (1 + f).toNat := List.length_take_le _ _
          generalize (G.repL wd 2000).take (1 + f).toNat = lg at lgc lgl
          have base7 : Q (.ref p) H7 := k p ws H7 hp7 ⟨by omega, ho, ha, by omega⟩ (.of hS hT ad07)
          have add : G.Asc (ws ++ [lg]) → ∀ (p_1 : Addr), H7 p_1 = none → ∃ x, upd H7 p_1 (.tup [G.sv lg]) p = some (.tup x) ∧ x.length ≤ 16777215 ∧ ∀ (p : Addr) (H' : Hp), Same (upd H7 p_1 (.tup [G.sv lg])) H' → H' p = some (.tup (x ++ [G.sv lg])) → Q (.ref p) H' := fun has p1 n1 => by
            refine ⟨_, G.same_upd n1 _ _ hp7, by rw [List.length_map]; omega, fun q H8 s8 h8 => k q (ws ++ [lg]) H8 (by rw [h8, List.map_append]; rfl) ⟨by simp; omega, fun w hw c hc => ?_, has, by rw [G.lenS_app, G.lenS_one]; omega⟩ (.of hS hT (ad07.same ((G.same_upd n1).trans s8)))⟩
            rcases List.mem_append.mp hw with hw | hw
            · exact ho w hw c hc
            · rw [List.mem_singleton.mp hw] at hc; exact lgc c hc
          refine ⟨by omega, by omega, ws, hp7, G.ite_i (fun _ => base7) fun _ => ⟨_, hp7, G.ite_i (fun h8 => ?_) fun h8 => ⟨by omega, add ?_⟩⟩⟩
          · rw [List.length_map] at h8
            have hws : ws ≠ [] := fun e => by rw [e] at h8; simp at h8
            obtain ⟨ws0, wl, rfl⟩ : ∃ a b, ws = a ++ [b] := ⟨ws.dropLast, ws.getLast hws, (List.dropLast_concat_getLast hws).symm⟩
            rw [List.map_append] at hp7
            refine ⟨_, hp7, _, G.atI_last, by omega, wl, rfl, ?_, by omega, G.ite_i (fun _ => base7) fun h9 => ⟨by omega, ?_⟩⟩
            · have := G.lenS_mem (ws := ws0 ++ [wl]) (w := wl) (by simp); omega
            · have h10 : G.wlt wl lg := Classical.not_not.mp h9
              refine add (asc_snoc ha fun x hx => ?_)
              rcases List.mem_append.mp hx with hx | hx
              · unfold G.Asc at ha
                rw [List.pairwise_append] at ha
                exact G.wlt_trans (ha.2.2 x hx wl List.mem_cons_self) h10
              · rw [List.mem_singleton.mp hx]; exact h10
          · have hws : ws = [] := List.length_eq_zero_iff.mp (by rw [List.length_map] at h8; omega)
            subst hws
            exact List.pairwise_singleton _ _
end
end Lw

namespace Lw
open PySem PySem.Spec L2 LamX
def spMany : Sp := fun vs H Q _ => ∃ (p : Addr) (ws : List (List Nat)), vs = [.ref p] ∧ H p = some (.tup (ws.map G.sv)) ∧ ws.length ≤ 1000 ∧ (∀ w ∈ ws, w.length ≤ 3000) ∧
  ∀ (rows : List (List Nat)) (H' : Hp), rows.Perm ws → rows.Pairwise (fun x y => ¬ y < x) → Same H H' → Q (.int (G.manyB rows rows.length)) H'
def spRight : Sp := fun vs H Q _ => ∃ (p q : Addr) (ws ys : List (List Nat)), vs = [.ref p, .ref q] ∧ H p = some (.tup (ws.map G.sv)) ∧ H q = some (.tup (ys.map G.sv)) ∧ ws.length ≤ 1000 ∧ (∀ w ∈ ws, w.length ≤ 3000) ∧ ys.length ≤ 10000000 ∧
  G.Asc ys ∧ (∀ w, w ∈ ys ↔ ∃ u ∈ ws, w <+: u) ∧ ∀ H', Same H H' → Q (.bl true) H'
section
variable {P : Program} {w : World} {K : PySem.W.Frag} {mg : Str → Option Value} {base : Heap}
theorem ok__law_many (T : Tx K mg) : T.d__law_many.Ok P w base CX0 1 spMany := by
  refine T.d__law_many.F.ok sc__law_many (fun vs H Q E h => ?_) (fun cdv A outer s H vs Q E hr h => ?_)
  · obtain ⟨_, _, rfl, _⟩ := h; rfl
  · obtain ⟨p, ws, rfl, hp, hn, hw, k⟩ := h
    refine ⟨_, (pss_cons (ps_set (i := 1) sc__law_many.nd rfl (Or.inl rfl) (pe_callB (G.cr_sortTx hr) (by rfl) T.n_sorted (by decide +kernel) (pa_cons (pv 0) pa_nil)))
      (pss_cons (ps_set (i := 2) sc__law_many.nd rfl (Or.inl rfl) (pe_ifExp (pt_cmpR G.op_eqI (pe_callB G.call_lenL (by rfl) T.n_len (by decide +kernel) (pa_cons (pv 1) pa_nil)) pe_int (nomark _)) pe_int (pe_op op_add pe_int (pe_callB G.call_lenS (by rfl) T.n_len (by decide +kernel) (pa_cons (pe_ix G.ix_lst (pv 1) pe_int (fun _ _ => rfl)) pa_nil)))))
      (pss_cons (ps_for PassesOwn.never rfl (pi_range2 (by rfl) T.n_range (pa_cons pe_int (pa_cons (pe_callB G.call_lenL (by rfl) T.n_len (by decide +kernel) (pa_cons (pv 1) pa_nil)) pa_nil))) (pg_name (i := 3) sc__law_many.nd rfl (Or.inl rfl)) (pss_cons (ps_set (i := 4) sc__law_many.nd rfl (Or.inl rfl) pe_int)
        (pss_cons (ps_while PassesOwn.never (PW.pt (pw_and (pt_cmpR op_lt (pv 4) (pe_callB G.call_lenS (by rfl) T.n_len (by decide +kernel) (pa_cons (pe_ix G.ix_lst (pv 1) (pe_op op_sub (pv 3) pe_int) (fun _ _ => rfl)) pa_nil)) (nomark _)) (pw_and (pt_cmpR op_lt (pv 4) (pe_callB G.call_lenS (by rfl) T.n_len (by decide +kernel) (pa_cons (pe_ix G.ix_lst (pv 1) (pv 3) (fun _ _ => rfl)) pa_nil)) (nomark _)) (pw_and1 (pt_cmpR G.op_eqS (pe_ix G.ix_S (pe_ix G.ix_lst (pv 1) (pe_op op_sub (pv 3) pe_int) (fun _ _ => rfl)) (pv 4) (fun _ _ => rfl)) (pe_ix G.ix_S (pe_ix G.ix_lst (pv 1) (pv 3) (fun _ _ => rfl)) (pv 4) (fun _ _ => rfl)) (nomark _)))))) (pss_one (ps_set (i := 4) sc__law_many.nd rfl (Or.inl rfl) (pe_op op_add (pv 4) pe_int))))
        (pss_one (ps_set (i := 2) sc__law_many.nd rfl (Or.inl rfl) (pe_op op_sub (pe_op op_add (pv 2) (pe_callB G.call_lenS (by rfl) T.n_len (by decide +kernel) (pa_cons (pe_ix G.ix_lst (pv 1) (pv 3) (fun _ _ => rfl)) pa_nil))) (pv 4)))))))
      (pss_one (ps_ret (pv 2)))))), ?_⟩
    simp only [tVar, tC, G.sl_is, G.lt1, Int.reduceLT, Int.reduceLE, Int.reduceNeg, Int.reducePow, Int.reduceToNat, Int.reduceSub, Int.reduceAdd, Int.reduceMul, Nat.reduceLT, Nat.reduceLeDiff, Int.zero_add, ne_eq,  HO.lst.injEq, List.dropLast_concat, G.last_get,  HO.tup.injEq, G.rII, G.rBB, G.rSS,  tOp, tUn, rI, rI0, rU, tAndV, tOrV, tNotV, tIf, tAnd, tOr, tNot, tNext, tSeq, tBreak, tCont, tDrop, tRet, tRetN, tIfS, gName, gNil, gCons, G.gTupT, G.gUnlT, gSub, gUnl, tAsg, tPar, tTest, tB, tChain,
      tNil, tCons, tTup, tLst, tCall, tCB, tBM, tBM0, tSl, tNoPart, tPart, rSetL, G.atI0, G.atI1, G.atI2, G.ixN30, G.ixN31, G.ixN32, G.cx_K, and_self, rEq, rNe, G.scal_bl, G.scal_int, G.scal_sv,  G.sv_str, G.Kn_sv, G.Kn_int, G.Kn_bl, G.Kn_non, G.isI_int, G.isI_bl, G.isI_sv, G.isI_ref, G.isI_non, G.isB_int, G.isB_bl, G.isB_sv, G.isB_ref, G.isB_non, G.isS_int, G.isS_bl, G.isS_sv, G.isS_ref, G.isS_non, G.isT_int, G.isT_bl, G.isT_sv, G.isT_non, G.isL_int, G.isL_bl, G.isL_sv, G.isL_non,  L2.upd_same,  rAppend, rExtend, rPop, iRng1, iRng2, iList, iTup, iStr, CDivN, CPow, CMul, rIsB, rNotB, rAdd, rSub, G.tFor_eq, G.tLc_eq, G.tLc2_eq, tM0, tM1, G.rJoinS, G.rIndexAz, G.ex_str, G.iZ2, G.iZ3, G.iZE, G.Kd.is, G.tRevS, G.rSlA1, G.at_lst, G.at_tup, G.at_txt, tYes, wipe,
      List.getElem?_cons_succ, List.getElem?_cons_zero, List.set_cons_succ, List.set_cons_zero, Option.some.injEq, exists_eq_left', exists_eq_left, exists_eq', exists_eq, V.int.injEq, V.bl.injEq, V.ref.injEq, G.sv_inj, List.cons.injEq, and_true, true_and,
      exists_and_left, and_assoc, exists_eq_right_right, exists_eq_right, decide_eq_true_eq, List.append_nil, List.nil_append, List.cons_append, Bool.not_eq_true', decide_eq_false_iff_not, Bool.not_false, Bool.not_true, Bool.false_eq_true, Bool.true_eq_false, not_true, not_false_iff, L2.start, List.map_cons, List.map_nil, List.length_cons, List.length_nil, List.replicate_zero, List.replicate_succ,
      Nat.reduceAdd, Nat.reduceSub, Nat.add_zero, Nat.zero_add, reduceCtorEq, false_and, exists_false, false_or, or_false, ite_true, ite_false, if_true, if_false, G.rSortTx]
    refine ⟨ws, .inr (.inl (.inl hp)), fun rows r hperm hs nr => ?_⟩
    have hrl : rows.length ≤ 1000 := by rw [hperm.length_eq]; exact hn
    have hrw : ∀ w ∈ rows, w.length ≤ 3000 := fun w h => hw w (hperm.mem_iff.mp h)
    have hlm : (rows.map G.sv).length = rows.length := List.length_map ..
    have fin : ∀ {m : Int}, m = (G.manyB rows rows.length : Int) → Q (.int m) (upd H r (.lst (rows.map G.sv))) := fun e => by rw [e]; exact k rows _ hperm hs (G.same_upd nr)
    refine G.ite_i (fun h0 => ?_) fun h0 => ?_
    · have e : rows = [] := List.length_eq_zero_iff.mp (by rw [hlm] at h0; omega)
      subst e
      refine ⟨by simp, by simp, ?_⟩
      rw [show ((([] : List (List Nat)).map G.sv).length : Int) - 1 = -1 from rfl, show (-1 : Int).toNat = 0 from rfl]
      refine G.loop_range (fun i σ H' => H' = upd H r (.lst ([].map G.sv)) ∧ ∃ v3 v4, σ = [some (.ref p), some (.ref r), some (.int 0), v3, v4]) ⟨rfl, _, _, rfl⟩ (fun M hM i σ H2 hi hP => absurd hi (by omega)) (fun σ H2 hP => ?_)
      obtain ⟨rfl, v3, v4, rfl⟩ := hP
      simp only [tVar, tC, G.sl_is, G.lt1, Int.reduceLT, Int.reduceLE, Int.reduceNeg, Int.reducePow, Int.reduceToNat, Int.reduceSub, Int.reduceAdd, Int.reduceMul, Nat.reduceLT, Nat.reduceLeDiff, Int.zero_add, ne_eq,  HO.lst.injEq, List.dropLast_concat, G.last_get,  HO.tup.injEq, G.rII, G.rBB, G.rSS,  tOp, tUn, rI, rI0, rU, tAndV, tOrV, tNotV, tIf, tAnd, tOr, tNot, tNext, tSeq, tBreak, tCont, tDrop, tRet, tRetN, tIfS, gName, gNil, gCons, G.gTupT, G.gUnlT, gSub, gUnl, tAsg, tPar, tTest, tB, tChain,
      tNil, tCons, tTup, tLst, tCall, tCB, tBM, tBM0, tSl, tNoPart, tPart, rSetL, G.atI0, G.atI1, G.atI2, G.ixN30, G.ixN31, G.ixN32, G.cx_K, and_self, rEq, rNe, G.scal_bl, G.scal_int, G.scal_sv,  G.sv_str, G.Kn_sv, G.Kn_int, G.Kn_bl, G.Kn_non, G.isI_int, G.isI_bl, G.isI_sv, G.isI_ref, G.isI_non, G.isB_int, G.isB_bl, G.isB_sv, G.isB_ref, G.isB_non, G.isS_int, G.isS_bl, G.isS_sv, G.isS_ref, G.isS_non, G.isT_int, G.isT_bl, G.isT_sv, G.isT_non, G.isL_int, G.isL_bl, G.isL_sv, G.isL_non,  L2.upd_same,  rAppend, rExtend, rPop, iRng1, iRng2, iList, iTup, iStr, CDivN, CPow, CMul, rIsB, rNotB, rAdd, rSub, G.tFor_eq, G.tLc_eq, G.tLc2_eq, tM0, tM1, G.rJoinS, G.rIndexAz, G.ex_str, G.iZ2, G.iZ3, G.iZE, G.Kd.is, G.tRevS, G.rSlA1, G.at_lst, G.at_tup, G.at_txt, tYes, wipe,
      List.getElem?_cons_succ, List.getElem?_cons_zero, List.set_cons_succ, List.set_cons_zero, Option.some.injEq, exists_eq_left', exists_eq_left, exists_eq', exists_eq, V.int.injEq, V.bl.injEq, V.ref.injEq, G.sv_inj, List.cons.injEq, and_true, true_and,
      exists_and_left, and_assoc, exists_eq_right_right, exists_eq_right, decide_eq_true_eq, List.append_nil, List.nil_append, List.cons_append, Bool.not_eq_true', decide_eq_false_iff_not, Bool.not_false, Bool.not_true, Bool.false_eq_true, Bool.true_eq_false, not_true, not_false_iff, L2.start, List.map_cons, List.map_nil, List.length_cons, List.length_nil, List.replicate_zero, List.replicate_succ,
      Nat.reduceAdd, Nat.reduceSub, Nat.add_zero, Nat.zero_add, reduceCtorEq, false_and, exists_false, false_or, or_false, ite_true, ite_false, if_true, if_false]
      exact fin rfl
    · have hpos : 0 < rows.length := by rw [hlm] at h0; omega
      have h0r : atI (rows.map G.sv) 0 = some (G.sv rows[0]) := G.atI_of (by simp [hpos]) (by omega)
      have h0l := hrw _ (List.getElem_mem hpos)
      refine ⟨_, h0r, _, rfl, by omega, by rw [hlm]; omega, by rw [hlm]; omega, ?_⟩
      rw [hlm, show ((rows.length : Int) - 1).toNat = rows.length - 1 by omega]
      have hm1 : (1 : Int) + (rows[0].length : Int) = (G.manyB rows 1 : Int) := by simp [G.manyB, List.getD, hpos]
      rw [hm1]
      refine G.loop_range (fun i σ H' => H' = upd H r (.lst (rows.map G.sv)) ∧ ∃ v3 v4, σ = [some (.ref p), some (.ref r), some (.int (G.manyB rows (i + 1))), v3, v4]) ⟨rfl, _, _, rfl⟩ (fun M hM i σ H2 hi hP => ?_) (fun σ H2 hP => ?_)
      · obtain ⟨rfl, v3, v4, rfl⟩ := hP
        have hi0 : i < rows.length := by omega
        have hi1 : i + 1 < rows.length := by omega
        have ha : atI (rows.map G.sv) (1 + (i : Int) - 1) = some (G.sv rows[i]) := G.atI_of (by rw [show (1 + (i : Int) - 1).toNat = i by omega]; simp [hi0]) (by omega)
        have hb : atI (rows.map G.sv) (1 + (i : Int)) = some (G.sv rows[i + 1]) := G.atI_of (by rw [show (1 + (i : Int)).toNat = i + 1 by omega]; simp [hi1]) (by omega)
        have hst := G.manyB_step rows i
        have eq1 : rows.getD i [] = rows[i] := by simp [List.getD, hi0]
        have eq2 : rows.getD (i + 1) [] = rows[i + 1] := by simp [List.getD, hi1]
        rw [eq1, eq2] at hst
        have la := hrw _ (List.getElem_mem hi0)
        have lb := hrw _ (List.getElem_mem hi1)
        have l1 := G.lcpB_le1 rows[i] rows[i + 1]
        have l2 := G.lcpB_le2 rows[i] rows[i + 1]
        have q1 := @G.lcpB_eq rows[i] rows[i + 1]
        have q2 := @G.lcpB_ne rows[i] rows[i + 1]
        generalize rows[i] = a at ha hst la l1 l2 q1 q2
        generalize rows[i + 1] = b at hb hst lb l1 l2 q1 q2
        simp only [tVar, tC, G.sl_is, G.lt1, Int.reduceLT, Int.reduceLE, Int.reduceNeg, Int.reducePow, Int.reduceToNat, Int.reduceSub, Int.reduceAdd, Int.reduceMul, Nat.reduceLT, Nat.reduceLeDiff, Int.zero_add, ne_eq,  HO.lst.injEq, List.dropLast_concat, G.last_get,  HO.tup.injEq, G.rII, G.rBB, G.rSS,  tOp, tUn, rI, rI0, rU, tAndV, tOrV, tNotV, tIf, tAnd, tOr, tNot, tNext, tSeq, tBreak, tCont, tDrop, tRet, tRetN, tIfS, gName, gNil, gCons, G.gTupT, G.gUnlT, gSub, gUnl, tAsg, tPar, tTest, tB, tChain,
      tNil, tCons, tTup, tLst, tCall, tCB, tBM, tBM0, tSl, tNoPart, tPart, rSetL, G.atI0, G.atI1, G.atI2, G.ixN30, G.ixN31, G.ixN32, G.cx_K, and_self, rEq, rNe, G.scal_bl, G.scal_int, G.scal_sv,  G.sv_str, G.Kn_sv, G.Kn_int, G.Kn_bl, G.Kn_non, G.isI_int, G.isI_bl, G.isI_sv, G.isI_ref, G.isI_non, G.isB_int, G.isB_bl, G.isB_sv, G.isB_ref, G.isB_non, G.isS_int, G.isS_bl, G.isS_sv, G.isS_ref, G.isS_non, G.isT_int, G.isT_bl, G.isT_sv, G.isT_non, G.isL_int, G.isL_bl, G.isL_sv, G.isL_non,  L2.upd_same,  rAppend, rExtend, rPop, iRng1, iRng2, iList, iTup, iStr, CDivN, CPow, CMul, rIsB, rNotB, rAdd, rSub, G.tFor_eq, G.tLc_eq, G.tLc2_eq, tM0, tM1, G.rJoinS, G.rIndexAz, G.ex_str, G.iZ2, G.iZ3, G.iZE, G.Kd.is, G.tRevS, G.rSlA1, G.at_lst, G.at_tup, G.at_txt, tYes, wipe,
      List.getElem?_cons_succ, List.getElem?_cons_zero, List.set_cons_succ, List.set_cons_zero, Option.some.injEq, exists_eq_left', exists_eq_left, exists_eq', exists_eq, V.int.injEq, V.bl.injEq, V.ref.injEq, G.sv_inj, List.cons.injEq, and_true, true_and,
      exists_and_left, and_assoc, exists_eq_right_right, exists_eq_right, decide_eq_true_eq, List.append_nil, List.nil_append, List.cons_append, Bool.not_eq_true', decide_eq_false_iff_not, Bool.not_false, Bool.not_true, Bool.false_eq_true, Bool.true_eq_false, not_true, not_false_iff, L2.start, List.map_cons, List.map_nil, List.length_cons, List.length_nil, List.replicate_zero, List.replicate_succ,
      Nat.reduceAdd, Nat.reduceSub, Nat.add_zero, Nat.zero_add, reduceCtorEq, false_and, exists_false, false_or, or_false, ite_true, ite_false, if_true, if_false, G.rSortTx]
        refine G.loop_while (fun σ H' => H' = upd H r (.lst (rows.map G.sv)) ∧ ∃ n : Nat, n ≤ G.lcpB a b ∧ σ = [some (.ref p), some (.ref r), some (.int (G.manyB rows (i + 1))), some (.int (1 + (i : Int))), some (.int n)]) (fun σ _ => match σ with | [_, _, _, _, some (.int n)] => a.length - n.toNat | _ => 0) ⟨rfl, 0, Nat.zero_le _, rfl⟩ ?_
        rintro σ H' m hm ⟨rfl, n, hn, rfl⟩
        simp only [tVar, tC, G.sl_is, G.lt1, Int.reduceLT, Int.reduceLE, Int.reduceNeg, Int.reducePow, Int.reduceToNat, Int.reduceSub, Int.reduceAdd, Int.reduceMul, Nat.reduceLT, Nat.reduceLeDiff, Int.zero_add, ne_eq,  HO.lst.injEq, List.dropLast_concat, G.last_get,  HO.tup.injEq, G.rII, G.rBB, G.rSS,  tOp, tUn, rI, rI0, rU, tAndV, tOrV, tNotV, tIf, tAnd, tOr, tNot, tNext, tSeq, tBreak, tCont, tDrop, tRet, tRetN, tIfS, gName, gNil, gCons, G.gTupT, G.gUnlT, gSub, gUnl, tAsg, tPar, tTest, tB, tChain,
      tNil, tCons, tTup, tLst, tCall, tCB, tBM, tBM0, tSl, tNoPart, tPart, rSetL, G.atI0, G.atI1, G.atI2, G.ixN30, G.ixN31, G.ixN32, G.cx_K, and_self, rEq, rNe, G.scal_bl, G.scal_int, G.scal_sv,  G.sv_str, G.Kn_sv, G.Kn_int, G.Kn_bl, G.Kn_non, G.isI_int, G.isI_bl, G.isI_sv, G.isI_ref, G.isI_non, G.isB_int, G.isB_bl, G.isB_sv, G.isB_ref, G.isB_non, G.isS_int, G.isS_bl, G.isS_sv, G.isS_ref, G.isS_non, G.isT_int, G.isT_bl, G.isT_sv, G.isT_non, G.isL_int, G.isL_bl, G.isL_sv, G.isL_non,  L2.upd_same,  rAppend, rExtend, rPop, iRng1, iRng2, iList, iTup, iStr, CDivN, CPow, CMul, rIsB, rNotB, rAdd, rSub, G.tFor_eq, G.tLc_eq, G.tLc2_eq, tM0, tM1, G.rJoinS, G.rIndexAz, G.ex_str, G.iZ2, G.iZ3, G.iZE, G.Kd.is, G.tRevS, G.rSlA1, G.at_lst, G.at_tup, G.at_txt, tYes, wipe,
      List.getElem?_cons_succ, List.getElem?_cons_zero, List.set_cons_succ, List.set_cons_zero, Option.some.injEq, exists_eq_left', exists_eq_left, exists_eq', exists_eq, V.int.injEq, V.bl.injEq, V.ref.injEq, G.sv_inj, List.cons.injEq, and_true, true_and,
      exists_and_left, and_assoc, exists_eq_right_right, exists_eq_right, decide_eq_true_eq, List.append_nil, List.nil_append, List.cons_append, Bool.not_eq_true', decide_eq_false_iff_not, Bool.not_false, Bool.not_true, Bool.false_eq_true, Bool.true_eq_false, not_true, not_false_iff, L2.start, List.map_cons, List.map_nil, List.length_cons, List.length_nil, List.replicate_zero, List.replicate_succ,
      Nat.reduceAdd, Nat.reduceSub, Nat.add_zero, Nat.zero_add, reduceCtorEq, false_and, exists_false, false_or, or_false, ite_true, ite_false, if_true, if_false, ha, hb]
        have fin2 : ¬ n < G.lcpB a b → b.length ≤ 16777216 ∧ M (i + 1) [some (.ref p), some (.ref r), some (.int (↑(G.manyB rows (i + 1)) + ↑b.length - ↑n)), some (.int (1 + ↑i)), some (.int ↑n)] (upd H r (.lst (rows.map G.sv))) := fun h => by
          have e : n = G.lcpB a b := by omega
          subst e
          rw [hM]
          refine ⟨by omega, rfl, some (.int (1 + (i : Int))), some (.int (G.lcpB a b : Int)), ?_⟩
          rw [show ((G.manyB rows (i + 1) : Nat) : Int) + (b.length : Int) - (G.lcpB a b : Int) = (G.manyB rows (i + 1 + 1) : Int) by show _ = ((G.manyB rows (i + 2) : Nat) : Int); omega]
        refine ⟨by omega, G.ite_i (fun h1 => ⟨by omega, G.ite_i (fun h2 => ?_) fun h2 => fin2 (by omega)⟩) fun h1 => fin2 (by omega)⟩
        have h1' : n < a.length := by omega
        have h2' : n < b.length := by omega
        refine ⟨by omega, a[n], G.atI_of (by simp [h1']) (by omega), by omega, b[n], G.atI_of (by simp [h2']) (by omega), ?_⟩
        refine G.ite_i (fun h3 => G.WT.mk fun M2 hM2 => ?_) fun h3 => fin2 fun h => h3 ?_
        · simp only [tVar, tC, G.sl_is, G.lt1, Int.reduceLT, Int.reduceLE, Int.reduceNeg, Int.reducePow, Int.reduceToNat, Int.reduceSub, Int.reduceAdd, Int.reduceMul, Nat.reduceLT, Nat.reduceLeDiff, Int.zero_add, ne_eq,  HO.lst.injEq, List.dropLast_concat, G.last_get,  HO.tup.injEq, G.rII, G.rBB, G.rSS,  tOp, tUn, rI, rI0, rU, tAndV, tOrV, tNotV, tIf, tAnd, tOr, tNot, tNext, tSeq, tBreak, tCont, tDrop, tRet, tRetN, tIfS, gName, gNil, gCons, G.gTupT, G.gUnlT, gSub, gUnl, tAsg, tPar, tTest, tB, tChain,
      tNil, tCons, tTup, tLst, tCall, tCB, tBM, tBM0, tSl, tNoPart, tPart, rSetL, G.atI0, G.atI1, G.atI2, G.ixN30, G.ixN31, G.ixN32, G.cx_K, and_self, rEq, rNe, G.scal_bl, G.scal_int, G.scal_sv,  G.sv_str, G.Kn_sv, G.Kn_int, G.Kn_bl, G.Kn_non, G.isI_int, G.isI_bl, G.isI_sv, G.isI_ref, G.isI_non, G.isB_int, G.isB_bl, G.isB_sv, G.isB_ref, G.isB_non, G.isS_int, G.isS_bl, G.isS_sv, G.isS_ref, G.isS_non, G.isT_int, G.isT_bl, G.isT_sv, G.isT_non, G.isL_int, G.isL_bl, G.isL_sv, G.isL_non,  L2.upd_same,  rAppend, rExtend, rPop, iRng1, iRng2, iList, iTup, iStr, CDivN, CPow, CMul, rIsB, rNotB, rAdd, rSub, G.tFor_eq, G.tLc_eq, G.tLc2_eq, tM0, tM1, G.rJoinS, G.rIndexAz, G.ex_str, G.iZ2, G.iZ3, G.iZE, G.Kd.is, G.tRevS, G.rSlA1, G.at_lst, G.at_tup, G.at_txt, tYes, wipe,
      List.getElem?_cons_succ, List.getElem?_cons_zero, List.set_cons_succ, List.set_cons_zero, Option.some.injEq, exists_eq_left', exists_eq_left, exists_eq', exists_eq, V.int.injEq, V.bl.injEq, V.ref.injEq, G.sv_inj, List.cons.injEq, and_true, true_and,
      exists_and_left, and_assoc, exists_eq_right_right, exists_eq_right, decide_eq_true_eq, List.append_nil, List.nil_append, List.cons_append, Bool.not_eq_true', decide_eq_false_iff_not, Bool.not_false, Bool.not_true, Bool.false_eq_true, Bool.true_eq_false, not_true, not_false_iff, L2.start, List.map_cons, List.map_nil, List.length_cons, List.length_nil, List.replicate_zero, List.replicate_succ,
      Nat.reduceAdd, Nat.reduceSub, Nat.add_zero, Nat.zero_add, reduceCtorEq, false_and, exists_false, false_or, or_false, ite_true, ite_false, if_true, if_false]
          rw [hM2]
          have hn1 : n < G.lcpB a b := by
            by_cases e : n = G.lcpB a b
            · subst e
              exact absurd h3 (q2 (List.getElem?_eq_getElem h1') (List.getElem?_eq_getElem h2'))
            · omega
          subst hm
          refine ⟨⟨rfl, n + 1, by omega, by simp⟩, ?_⟩
          show a.length - ((n : Int) + 1).toNat < a.length - (n : Int).toNat
          omega
        · have h4 := q1 h
          rw [List.getElem?_eq_getElem h1', List.getElem?_eq_getElem h2'] at h4
          exact Option.some.inj h4
      · obtain ⟨rfl, v3, v4, rfl⟩ := hP
        simp only [tVar, tC, G.sl_is, G.lt1, Int.reduceLT, Int.reduceLE, Int.reduceNeg, Int.reducePow, Int.reduceToNat, Int.reduceSub, Int.reduceAdd, Int.reduceMul, Nat.reduceLT, Nat.reduceLeDiff, Int.zero_add, ne_eq,  HO.lst.injEq, List.dropLast_concat, G.last_get,  HO.tup.injEq, G.rII, G.rBB, G.rSS,  tOp, tUn, rI, rI0, rU, tAndV, tOrV, tNotV, tIf, tAnd, tOr, tNot, tNext, tSeq, tBreak, tCont, tDrop, tRet, tRetN, tIfS, gName, gNil, gCons, G.gTupT, G.gUnlT, gSub, gUnl, tAsg, tPar, tTest, tB, tChain,
      tNil, tCons, tTup, tLst, tCall, tCB, tBM, tBM0, tSl, tNoPart, tPart, rSetL, G.atI0, G.atI1, G.atI2, G.ixN30, G.ixN31, G.ixN32, G.cx_K, and_self, rEq, rNe, G.scal_bl, G.scal_int, G.scal_sv,  G.sv_str, G.Kn_sv, G.Kn_int, G.Kn_bl, G.Kn_non, G.isI_int, G.isI_bl, G.isI_sv, G.isI_ref, G.isI_non, G.isB_int, G.isB_bl, G.isB_sv, G.isB_ref, G.isB_non, G.isS_int, G.isS_bl, G.isS_sv, G.isS_ref, G.isS_non, G.isT_int, G.isT_bl, G.isT_sv, G.isT_non, G.isL_int, G.isL_bl, G.isL_sv, G.isL_non,  L2.upd_same,  rAppend, rExtend, rPop, iRng1, iRng2, iList, iTup, iStr, CDivN, CPow, CMul, rIsB, rNotB, rAdd, rSub, G.tFor_eq, G.tLc_eq, G.tLc2_eq, tM0, tM1, G.rJoinS, G.rIndexAz, G.ex_str, G.iZ2, G.iZ3, G.iZE, G.Kd.is, G.tRevS, G.rSlA1, G.at_lst, G.at_tup, G.at_txt, tYes, wipe,
      List.getElem?_cons_succ, List.getElem?_cons_zero, List.set_cons_succ, List.set_cons_zero, Option.some.injEq, exists_eq_left', exists_eq_left, exists_eq', exists_eq, V.int.injEq, V.bl.injEq, V.ref.injEq, G.sv_inj, List.cons.injEq, and_true, true_and,
      exists_and_left, and_assoc, exists_eq_right_right, exists_eq_right, decide_eq_true_eq, List.append_nil, List.nil_append, List.cons_append, Bool.not_eq_true', decide_eq_false_iff_not, Bool.not_false, Bool.not_true, Bool.false_eq_true, Bool.true_eq_false, not_true, not_false_iff, L2.start, List.map_cons, List.map_nil, List.length_cons, List.length_nil, List.replicate_zero, List.replicate_succ,
      Nat.reduceAdd, Nat.reduceSub, Nat.add_zero, Nat.zero_add, reduceCtorEq, false_and, exists_false, false_or, or_false, ite_true, ite_false, if_true, if_false]
        rw [show rows.length - 1 + 1 = rows.length by omega]
        exact fin rfl
theorem ok__law_right (T : Tx K mg) : T.d__law_right.Ok P w base CX0 2 spRight := by
  refine T.d__law_right.F.ok sc__law_right (fun vs H Q E h => ?_) (fun cdv A outer s H vs Q E hr h => ?_)
  · obtain ⟨_, _, _, _, rfl, _⟩ := h; rfl
  · obtain ⟨p, q, ws, ys, rfl, hp, hq, hn, hw, hyn, ha, hm, k⟩ := h
    have G__law_many := ok__law_many (P := P) (w := w) (base := base) T
    have G__law_before := ok__law_before (P := P) (w := w) (base := base) T
    refine ⟨_, (pss_cons (ps_if (PW.pt (pw_or (pt_not (pt_val (pe_callB G.is_tup (by rfl) T.n_isinstance (by decide +kernel) (pa_cons (pv 1) (pa_cons (G.pe_ty (n := "tuple") (by rfl) T.n_tuple) pa_nil))))) (pw_or1 (pt_cmpR G.op_neI (pe_callB G.call_lenT (by rfl) T.n_len (by decide +kernel) (pa_cons (pv 1) pa_nil)) (G.pe_callD T.d__law_many G__law_many (hr.mono (by decide)) (pa_cons (pv 0) pa_nil)) (nomark _))))) (pss_one (ps_ret pe_bl)) pss_nil)
      (pss_cons (ps_set (i := 2) sc__law_right.nd rfl (Or.inl rfl) pe_dnewK)
      (pss_cons (ps_for PassesOwn.never rfl (pi_range1 (by rfl) T.n_range (pa_cons (pe_callB G.call_lenT (by rfl) T.n_len (by decide +kernel) (pa_cons (pv 1) pa_nil)) pa_nil)) (pg_name (i := 3) sc__law_right.nd rfl (Or.inl rfl)) (pss_cons (ps_set (i := 4) sc__law_right.nd rfl (Or.inl rfl) (pe_ix G.ix_tpl (pv 1) (pv 3) (fun _ _ => rfl)))
        (pss_cons (ps_if (PW.pt (pw_or (pt_not (pt_val (pe_callB G.is_str (by rfl) T.n_isinstance (by decide +kernel) (pa_cons (pv 4) (pa_cons (G.pe_ty (n := "str") (by rfl) T.n_str) pa_nil))))) (pw_or1 (PW.pt (pw_and (pt_cmpR op_gt (pv 3) pe_int (nomark _)) (pw_and1 (pt_not (pt_val (G.pe_callD T.d__law_before G__law_before (hr.mono (by decide)) (pa_cons (pe_ix G.ix_tpl (pv 1) (pe_op op_sub (pv 3) pe_int) (fun _ _ => rfl)) (pa_cons (pv 4) pa_nil))))))))))) (pss_one (ps_ret pe_bl)) pss_nil)
        (pss_cons (ps_if (PW.pt (pw_and (pt_cmp (pc_dnotin (hu_of hr) (pe_slice G.sl_S (pv 4) po_none (po_some (pe_un un_neg pe_int))) (pv 2))) (pw_and1 (pt_cmpR G.op_neS (pv 4) (G.pe_strS (l := []) (by decide +kernel)) (nomark _))))) (pss_one (ps_ret pe_bl)) pss_nil)
        (pss_one (ps_asg pe_bl (pg_sub (pv 2) (pv 4) (G.set_dS hr))))))))
      (pss_cons (ps_for PassesOwn.never rfl (pi_tup (pv 0)) (pg_name (i := 5) sc__law_right.nd rfl (Or.inl rfl)) (pss_one (ps_if (pt_cmp (pc_dnotin (hu_of hr) (pv 5) (pv 2))) (pss_one (ps_ret pe_bl)) pss_nil)))
      (pss_one (ps_ret pe_bl)))))), ?_⟩
    simp only [tVar, tC, G.sl_is, G.lt1, Int.reduceLT, Int.reduceLE, Int.reduceNeg, Int.reducePow, Int.reduceToNat, Int.reduceSub, Int.reduceAdd, Int.reduceMul, Nat.reduceLT, Nat.reduceLeDiff, Int.zero_add, ne_eq,  HO.lst.injEq, List.dropLast_concat, G.last_get,  HO.tup.injEq, G.rII, G.rBB, G.rSS,  tOp, tUn, rI, rI0, rU, tAndV, tOrV, tNotV, tIf, tAnd, tOr, tNot, tNext, tSeq, tBreak, tCont, tDrop, tRet, tRetN, tIfS, gName, gNil, gCons, G.gTupT, G.gUnlT, gSub, gUnl, tAsg, tPar, tTest, tB, tChain,
      tNil, tCons, tTup, tLst, tCall, tCB, tBM, tBM0, tSl, tNoPart, tPart, rSetL, G.atI0, G.atI1, G.atI2, G.ixN30, G.ixN31, G.ixN32, G.cx_K, and_self, rEq, rNe, G.scal_bl, G.scal_int, G.scal_sv,  G.sv_str, G.Kn_sv, G.Kn_int, G.Kn_bl, G.Kn_non, G.isI_int, G.isI_bl, G.isI_sv, G.isI_ref, G.isI_non, G.isB_int, G.isB_bl, G.isB_sv, G.isB_ref, G.isB_non, G.isS_int, G.isS_bl, G.isS_sv, G.isS_ref, G.isS_non, G.isT_int, G.isT_bl, G.isT_sv, G.isT_non, G.isL_int, G.isL_bl, G.isL_sv, G.isL_non,  L2.upd_same,  rAppend, rExtend, rPop, iRng1, iRng2, iList, iTup, iStr, CDivN, CPow, CMul, rIsB, rNotB, rAdd, rSub, G.tFor_eq, G.tLc_eq, G.tLc2_eq, tM0, tM1, G.rJoinS, G.rIndexAz, G.ex_str, G.iZ2, G.iZ3, G.iZE, G.Kd.is, G.tRevS, G.rSlA1, G.at_lst, G.at_tup, G.at_txt, tYes, wipe,
      List.getElem?_cons_succ, List.getElem?_cons_zero, List.set_cons_succ, List.set_cons_zero, Option.some.injEq, exists_eq_left', exists_eq_left, exists_eq', exists_eq, V.int.injEq, V.bl.injEq, V.ref.injEq, G.sv_inj, List.cons.injEq, and_true, true_and,
      exists_and_left, and_assoc, exists_eq_right_right, exists_eq_right, decide_eq_true_eq, List.append_nil, List.nil_append, List.cons_append, Bool.not_eq_true', decide_eq_false_iff_not, Bool.not_false, Bool.not_true, Bool.false_eq_true, Bool.true_eq_false, not_true, not_false_iff, L2.start, List.map_cons, List.map_nil, List.length_cons, List.length_nil, List.replicate_zero, List.replicate_succ,
      Nat.reduceAdd, Nat.reduceSub, Nat.add_zero, Nat.zero_add, reduceCtorEq, false_and, exists_false, false_or, or_false, ite_true, ite_false, if_true, if_false, spMany, spBef, tCKw, tDNewK, G.rSetS, hq, G.Kn_tup hq, G.isT_tup hq]
    refine ⟨ws, hp, hn, hw, fun rows H1 hperm hs s1 => ?_⟩
    have hcount := G.begs_len hperm hs ha.nodup hm
    rw [if_neg (by rw [List.length_map, hcount]; simp)]
    intro d nd
    have s2 := s1.trans (G.same_upd (o := .dK []) nd)
    have nd0 : H d = none := s1.free nd
    refine ⟨_, s2 _ _ hq, by rw [List.length_map]; omega, by rw [List.length_map]; omega, ?_⟩
    rw [show (((ys.map G.sv).length : Nat) : Int).toNat = ys.length by rw [List.length_map, Int.toNat_natCast]]
    refine G.loop_range (fun i σ H' => Same H H' ∧ H' d = some (.dK (G.kAll (.bl true) (ys.take i))) ∧ ∃ v3 v4, σ = [some (.ref p), some (.ref q), some (.ref d), v3, v4, none]) ⟨s2, by rw [upd_same]; rfl, _, _, rfl⟩ (fun M hM i σ H2 hi hP => ?_) (fun σ H2 hP => ?_)
    · obtain ⟨sA, hd, v3, v4, rfl⟩ := hP
      have hqA := sA _ _ hq
      have hyi : ys[i]? = some ys[i] := List.getElem?_eq_getElem hi
      have hat : atI (ys.map G.sv) (i : Int) = some (G.sv ys[i]) := G.atI_of (by rw [Int.toNat_natCast]; simp [hi]) (by omega)
      have hlen : ys[i].length ≤ 3000 := by
        obtain ⟨u, hu, hpre⟩ := (hm ys[i]).mp (List.getElem_mem hi)
        exact Nat.le_trans hpre.length_le (hw u hu)
      generalize ys[i] = y at hyi hat hlen
      simp only [tVar, tC, G.sl_is, G.lt1, Int.reduceLT, Int.reduceLE, Int.reduceNeg, Int.reducePow, Int.reduceToNat, Int.reduceSub, Int.reduceAdd, Int.reduceMul, Nat.reduceLT, Nat.reduceLeDiff, Int.zero_add, ne_eq,  HO.lst.injEq, List.dropLast_concat, G.last_get,  HO.tup.injEq, G.rII, G.rBB, G.rSS,  tOp, tUn, rI, rI0, rU, tAndV, tOrV, tNotV, tIf, tAnd, tOr, tNot, tNext, tSeq, tBreak, tCont, tDrop, tRet, tRetN, tIfS, gName, gNil, gCons, G.gTupT, G.gUnlT, gSub, gUnl, tAsg, tPar, tTest, tB, tChain,
      tNil, tCons, tTup, tLst, tCall, tCB, tBM, tBM0, tSl, tNoPart, tPart, rSetL, G.atI0, G.atI1, G.atI2, G.ixN30, G.ixN31, G.ixN32, G.cx_K, and_self, rEq, rNe, G.scal_bl, G.scal_int, G.scal_sv,  G.sv_str, G.Kn_sv, G.Kn_int, G.Kn_bl, G.Kn_non, G.isI_int, G.isI_bl, G.isI_sv, G.isI_ref, G.isI_non, G.isB_int, G.isB_bl, G.isB_sv, G.isB_ref, G.isB_non, G.isS_int, G.isS_bl, G.isS_sv, G.isS_ref, G.isS_non, G.isT_int, G.isT_bl, G.isT_sv, G.isT_non, G.isL_int, G.isL_bl, G.isL_sv, G.isL_non,  L2.upd_same,  rAppend, rExtend, rPop, iRng1, iRng2, iList, iTup, iStr, CDivN, CPow, CMul, rIsB, rNotB, rAdd, rSub, G.tFor_eq, G.tLc_eq, G.tLc2_eq, tM0, tM1, G.rJoinS, G.rIndexAz, G.ex_str, G.iZ2, G.iZ3, G.iZE, G.Kd.is, G.tRevS, G.rSlA1, G.at_lst, G.at_tup, G.at_txt, tYes, wipe,
      List.getElem?_cons_succ, List.getElem?_cons_zero, List.set_cons_succ, List.set_cons_zero, Option.some.injEq, exists_eq_left', exists_eq_left, exists_eq', exists_eq, V.int.injEq, V.bl.injEq, V.ref.injEq, G.sv_inj, List.cons.injEq, and_true, true_and,
      exists_and_left, and_assoc, exists_eq_right_right, exists_eq_right, decide_eq_true_eq, List.append_nil, List.nil_append, List.cons_append, Bool.not_eq_true', decide_eq_false_iff_not, Bool.not_false, Bool.not_true, Bool.false_eq_true, Bool.true_eq_false, not_true, not_false_iff, L2.start, List.map_cons, List.map_nil, List.length_cons, List.length_nil, List.replicate_zero, List.replicate_succ,
      Nat.reduceAdd, Nat.reduceSub, Nat.add_zero, Nat.zero_add, reduceCtorEq, false_and, exists_false, false_or, or_false, ite_true, ite_false, if_true, if_false, spBef, tDNotIn, G.rSetS, hqA, hat]
      have put : ∃ x, H2 d = some (.dK x) ∧ x.length < 16777216 ∧ M (i + 1) [some (.ref p), some (.ref q), some (.ref d), some (.int ↑i), some (G.sv y), none] (upd H2 d (.dK (putK x (G.kS y) (.bl true)))) := by
        refine ⟨_, hd, by rw [G.kAll_len, List.length_take]; omega, ?_⟩
        rw [hM, G.kAll_put, if_neg (ha.new hyi)]
        exact ⟨G.same_set sA nd0, by rw [upd_same, List.take_add_one, hyi]; rfl, some (.int (i : Int)), some (G.sv y), rfl⟩
      have rest : y.length ≤ 16777216 ∧ ∃ x, DGet H2 d (G.sv (G.cutL y none (some (-1)))) x ∧ if x.isSome = false then if ¬y = [] then Q (.bl false) H2 else ∃ x, H2 d = some (.dK x) ∧ x.length < 16777216 ∧ M (i + 1) [some (.ref p), some (.ref q), some (.ref d), some (.int ↑i), some (G.sv y), none] (upd H2 d (.dK (putK x (G.kS y) (.bl true))))
          else ∃ x, H2 d = some (.dK x) ∧ x.length < 16777216 ∧ M (i + 1) [some (.ref p), some (.ref q), some (.ref d), some (.int ↑i), some (G.sv y), none] (upd H2 d (.dK (putK x (G.kS y) (.bl true)))) := by
        refine ⟨by omega, _, .k (k := G.kS (G.cutL y none (some (-1)))) hd, G.ite_i (fun h => G.ite_i (fun h2 => ?_) fun _ => put) fun _ => put⟩
        exfalso
        rw [G.kAll_val, decide_eq_false_iff_not] at h
        apply h
        rw [G.cutL_init]
        refine ha.before hyi ((hm _).mpr ?_) (.inl ?_)
        · obtain ⟨u, hu, hpre⟩ := (hm y).mp (List.mem_of_getElem? hyi)
          exact ⟨u, hu, (List.dropLast_prefix y).trans hpre⟩
        · rw [List.length_dropLast]
          have := List.length_pos_iff.mpr h2
          omega
      refine G.ite_i (fun h1 => ?_) fun _ => rest
      have i2 : i - 1 < ys.length := by omega
      have hzi : ys[i - 1]? = some ys[i - 1] := List.getElem?_eq_getElem i2
      have hzl : ys[i - 1].length ≤ 3000 := by
        obtain ⟨u, hu, hpre⟩ := (hm ys[i - 1]).mp (List.getElem_mem i2)
        exact Nat.le_trans hpre.length_le (hw u hu)
      refine ⟨_, G.atI_of (by rw [show ((i : Int) - 1).toNat = i - 1 by omega, List.getElem?_map, hzi]; rfl) (by omega), _, rfl, by omega, by omega, ?_⟩
      rw [if_neg (fun h => h (ha.at hzi hyi (by omega)))]
      exact rest
    · obtain ⟨sA, hd, v3, v4, rfl⟩ := hP
      simp only [tVar, tC, G.sl_is, G.lt1, Int.reduceLT, Int.reduceLE, Int.reduceNeg, Int.reducePow, Int.reduceToNat, Int.reduceSub, Int.reduceAdd, Int.reduceMul, Nat.reduceLT, Nat.reduceLeDiff, Int.zero_add, ne_eq,  HO.lst.injEq, List.dropLast_concat, G.last_get,  HO.tup.injEq, G.rII, G.rBB, G.rSS,  tOp, tUn, rI, rI0, rU, tAndV, tOrV, tNotV, tIf, tAnd, tOr, tNot, tNext, tSeq, tBreak, tCont, tDrop, tRet, tRetN, tIfS, gName, gNil, gCons, G.gTupT, G.gUnlT, gSub, gUnl, tAsg, tPar, tTest, tB, tChain,
      tNil, tCons, tTup, tLst, tCall, tCB, tBM, tBM0, tSl, tNoPart, tPart, rSetL, G.atI0, G.atI1, G.atI2, G.ixN30, G.ixN31, G.ixN32, G.cx_K, and_self, rEq, rNe, G.scal_bl, G.scal_int, G.scal_sv,  G.sv_str, G.Kn_sv, G.Kn_int, G.Kn_bl, G.Kn_non, G.isI_int, G.isI_bl, G.isI_sv, G.isI_ref, G.isI_non, G.isB_int, G.isB_bl, G.isB_sv, G.isB_ref, G.isB_non, G.isS_int, G.isS_bl, G.isS_sv, G.isS_ref, G.isS_non, G.isT_int, G.isT_bl, G.isT_sv, G.isT_non, G.isL_int, G.isL_bl, G.isL_sv, G.isL_non,  L2.upd_same,  rAppend, rExtend, rPop, iRng1, iRng2, iList, iTup, iStr, CDivN, CPow, CMul, rIsB, rNotB, rAdd, rSub, G.tFor_eq, G.tLc_eq, G.tLc2_eq, tM0, tM1, G.rJoinS, G.rIndexAz, G.ex_str, G.iZ2, G.iZ3, G.iZE, G.Kd.is, G.tRevS, G.rSlA1, G.at_lst, G.at_tup, G.at_txt, tYes, wipe,
      List.getElem?_cons_succ, List.getElem?_cons_zero, List.set_cons_succ, List.set_cons_zero, Option.some.injEq, exists_eq_left', exists_eq_left, exists_eq', exists_eq, V.int.injEq, V.bl.injEq, V.ref.injEq, G.sv_inj, List.cons.injEq, and_true, true_and,
      exists_and_left, and_assoc, exists_eq_right_right, exists_eq_right, decide_eq_true_eq, List.append_nil, List.nil_append, List.cons_append, Bool.not_eq_true', decide_eq_false_iff_not, Bool.not_false, Bool.not_true, Bool.false_eq_true, Bool.true_eq_false, not_true, not_false_iff, L2.start, List.map_cons, List.map_nil, List.length_cons, List.length_nil, List.replicate_zero, List.replicate_succ,
      Nat.reduceAdd, Nat.reduceSub, Nat.add_zero, Nat.zero_add, reduceCtorEq, false_and, exists_false, false_or, or_false, ite_true, ite_false, if_true, if_false, tDNotIn]
      rw [List.take_length] at hd
      refine ⟨⟨_, .inl (.inl (sA _ _ hp))⟩, ?_⟩
      refine G.loop_tup (xs := ws.map G.sv) (fun i σ H' => H' = H2 ∧ ∃ v5, σ = [some (.ref p), some (.ref q), some (.ref d), v3, v4, v5]) ⟨rfl, _, rfl⟩ (fun i σ H' hi hP => .inl (.inl (by rw [hP.1]; exact sA _ _ hp))) (fun M hM i x σ H' hx hP => ?_) (fun σ H' hP => ?_)
      · obtain ⟨rfl, v5, rfl⟩ := hP
        rw [List.getElem?_map] at hx
        obtain ⟨u, hu, rfl⟩ := Option.map_eq_some_iff.mp hx
        simp only [tVar, tC, G.sl_is, G.lt1, Int.reduceLT, Int.reduceLE, Int.reduceNeg, Int.reducePow, Int.reduceToNat, Int.reduceSub, Int.reduceAdd, Int.reduceMul, Nat.reduceLT, Nat.reduceLeDiff, Int.zero_add, ne_eq,  HO.lst.injEq, List.dropLast_concat, G.last_get,  HO.tup.injEq, G.rII, G.rBB, G.rSS,  tOp, tUn, rI, rI0, rU, tAndV, tOrV, tNotV, tIf, tAnd, tOr, tNot, tNext, tSeq, tBreak, tCont, tDrop, tRet, tRetN, tIfS, gName, gNil, gCons, G.gTupT, G.gUnlT, gSub, gUnl, tAsg, tPar, tTest, tB, tChain,
      tNil, tCons, tTup, tLst, tCall, tCB, tBM, tBM0, tSl, tNoPart, tPart, rSetL, G.atI0, G.atI1, G.atI2, G.ixN30, G.ixN31, G.ixN32, G.cx_K, and_self, rEq, rNe, G.scal_bl, G.scal_int, G.scal_sv,  G.sv_str, G.Kn_sv, G.Kn_int, G.Kn_bl, G.Kn_non, G.isI_int, G.isI_bl, G.isI_sv, G.isI_ref, G.isI_non, G.isB_int, G.isB_bl, G.isB_sv, G.isB_ref, G.isB_non, G.isS_int, G.isS_bl, G.isS_sv, G.isS_ref, G.isS_non, G.isT_int, G.isT_bl, G.isT_sv, G.isT_non, G.isL_int, G.isL_bl, G.isL_sv, G.isL_non,  L2.upd_same,  rAppend, rExtend, rPop, iRng1, iRng2, iList, iTup, iStr, CDivN, CPow, CMul, rIsB, rNotB, rAdd, rSub, G.tFor_eq, G.tLc_eq, G.tLc2_eq, tM0, tM1, G.rJoinS, G.rIndexAz, G.ex_str, G.iZ2, G.iZ3, G.iZE, G.Kd.is, G.tRevS, G.rSlA1, G.at_lst, G.at_tup, G.at_txt, tYes, wipe,
      List.getElem?_cons_succ, List.getElem?_cons_zero, List.set_cons_succ, List.set_cons_zero, Option.some.injEq, exists_eq_left', exists_eq_left, exists_eq', exists_eq, V.int.injEq, V.bl.injEq, V.ref.injEq, G.sv_inj, List.cons.injEq, and_true, true_and,
      exists_and_left, and_assoc, exists_eq_right_right, exists_eq_right, decide_eq_true_eq, List.append_nil, List.nil_append, List.cons_append, Bool.not_eq_true', decide_eq_false_iff_not, Bool.not_false, Bool.not_true, Bool.false_eq_true, Bool.true_eq_false, not_true, not_false_iff, L2.start, List.map_cons, List.map_nil, List.length_cons, List.length_nil, List.replicate_zero, List.replicate_succ,
      Nat.reduceAdd, Nat.reduceSub, Nat.add_zero, Nat.zero_add, reduceCtorEq, false_and, exists_false, false_or, or_false, ite_true, ite_false, if_true, if_false, tDNotIn]
        refine ⟨_, .k (k := G.kS u) hd, ?_⟩
        rw [G.kAll_val, if_neg (by rw [decide_eq_false_iff_not]; exact fun h => h ((hm u).mpr ⟨u, List.mem_of_getElem? hu, List.prefix_rfl⟩))]
        rw [hM]
        exact ⟨rfl, some (G.sv u), rfl⟩
      · obtain ⟨rfl, v5, rfl⟩ := hP
        simp only [tVar, tC, G.sl_is, G.lt1, Int.reduceLT, Int.reduceLE, Int.reduceNeg, Int.reducePow, Int.reduceToNat, Int.reduceSub, Int.reduceAdd, Int.reduceMul, Nat.reduceLT, Nat.reduceLeDiff, Int.zero_add, ne_eq,  HO.lst.injEq, List.dropLast_concat, G.last_get,  HO.tup.injEq, G.rII, G.rBB, G.rSS,  tOp, tUn, rI, rI0, rU, tAndV, tOrV, tNotV, tIf, tAnd, tOr, tNot, tNext, tSeq, tBreak, tCont, tDrop, tRet, tRetN, tIfS, gName, gNil, gCons, G.gTupT, G.gUnlT, gSub, gUnl, tAsg, tPar, tTest, tB, tChain,
      tNil, tCons, tTup, tLst, tCall, tCB, tBM, tBM0, tSl, tNoPart, tPart, rSetL, G.atI0, G.atI1, G.atI2, G.ixN30, G.ixN31, G.ixN32, G.cx_K, and_self, rEq, rNe, G.scal_bl, G.scal_int, G.scal_sv,  G.sv_str, G.Kn_sv, G.Kn_int, G.Kn_bl, G.Kn_non, G.isI_int, G.isI_bl, G.isI_sv, G.isI_ref, G.isI_non, G.isB_int, G.isB_bl, G.isB_sv, G.isB_ref, G.isB_non, G.isS_int, G.isS_bl, G.isS_sv, G.isS_ref, G.isS_non, G.isT_int, G.isT_bl, G.isT_sv, G.isT_non, G.isL_int, G.isL_bl, G.isL_sv, G.isL_non,  L2.upd_same,  rAppend, rExtend, rPop, iRng1, iRng2, iList, iTup, iStr, CDivN, CPow, CMul, rIsB, rNotB, rAdd, rSub, G.tFor_eq, G.tLc_eq, G.tLc2_eq, tM0, tM1, G.rJoinS, G.rIndexAz, G.ex_str, G.iZ2, G.iZ3, G.iZE, G.Kd.is, G.tRevS, G.rSlA1, G.at_lst, G.at_tup, G.at_txt, tYes, wipe,
      List.getElem?_cons_succ, List.getElem?_cons_zero, List.set_cons_succ, List.set_cons_zero, Option.some.injEq, exists_eq_left', exists_eq_left, exists_eq', exists_eq, V.int.injEq, V.bl.injEq, V.ref.injEq, G.sv_inj, List.cons.injEq, and_true, true_and,
      exists_and_left, and_assoc, exists_eq_right_right, exists_eq_right, decide_eq_true_eq, List.append_nil, List.nil_append, List.cons_append, Bool.not_eq_true', decide_eq_false_iff_not, Bool.not_false, Bool.not_true, Bool.false_eq_true, Bool.true_eq_false, not_true, not_false_iff, L2.start, List.map_cons, List.map_nil, List.length_cons, List.length_nil, List.replicate_zero, List.replicate_succ,
      Nat.reduceAdd, Nat.reduceSub, Nat.add_zero, Nat.zero_add, reduceCtorEq, false_and, exists_false, false_or, or_false, ite_true, ite_false, if_true, if_false]
        exact k H' sA
end
end Lw

namespace Lw
open PySem PySem.Spec L2 LamX
def spLawT {mg : Str → Option Value} (K : PySem.W.Frag) (T : Tx K mg) : Sp := fun vs H Q _ => ∃ (a : Addr) (ns : List Int), vs = [.ref a] ∧ SqL K H a (ns.map V.int) ∧ Tabs (tabsOf T) H ∧ ∀ H', Q (.bl true) H'
theorem sum_len (ws : List (List Nat)) : (ws.map fun w => (w.length : Int)).sum = (G.lenS ws : Int) := by
  have := G.totV_lenS ws
  unfold G.totV at this
  rw [List.map_map] at this
  rw [← this]
  congr 1
section
variable {P : Program} {w : World} {K : PySem.W.Frag} {mg : Str → Option Value} {base : Heap}
theorem ok_law (T : Tx K mg) (TB : ∀ p ∈ csOf T, TabB base mg p.1 p.2) : T.d_law.Ok P w base CX0 6 (spLawT K T) := by
  refine G.okL T.d_law.F T.m_law.e sc_law (fun vs H Q E h => ?_) (fun A outer s H vs Q E hr h => ?_)
  · obtain ⟨_, _, rfl, _⟩ := h; rfl
  · obtain ⟨a, ns, rfl, hS, hT, k⟩ := h
    have G__law_stream := ok__law_stream (P := P) (w := w) (base := base) T
    have G__law_letters := ok__law_letters (P := P) (w := w) (base := base) T
    have G__law_rich := ok__law_rich (P := P) (w := w) (base := base) T TB
    have G__law_right := ok__law_right (P := P) (w := w) (base := base) T
    have G__law_same := ok__law_same (P := P) (w := w) (base := base) T
    have G__law_word := ok__law_word (P := P) (w := w) (base := base) T
    have G_beginnings := ok_beginnings (P := P) (w := w) (base := base) T
    have hmT : (T.m_law.P, ("law.<locals>.<lambda>" : Str)) ∈ tabsOf T := List.mem_cons_of_mem _ List.mem_cons_self
    have huT : ∀ p ∈ tabsOf T, p.1 = T.m_law.P → p.2 = ("law.<locals>.<lambda>" : Str) := fun p hp e => by
      rcases List.mem_cons.mp hp with rfl | hp
      · have := T.mP
        simp at this
        exact absurd e this
      · rw [List.mem_singleton.mp hp]
    have TB := TB _ (List.mem_cons_of_mem _ List.mem_cons_self)
    refine ⟨_, (pss_cons (ps_set (i := 1) sc_law.nd rfl (Or.inl rfl) (G.pe_callD T.d__law_stream G__law_stream (hr.mono (by decide)) (pa_cons (pv 0) pa_nil)))
      (pss_cons (ps_set (i := 2) sc_law.nd rfl (Or.inl rfl) (G.pe_callD T.d__law_letters G__law_letters (hr.mono (by decide)) (pa_cons (pv 1) pa_nil)))
      (pss_cons (ps_set (i := 3) sc_law.nd rfl (Or.inl rfl) (G.pe_callD T.d__law_rich G__law_rich (hr.mono (by decide)) (pa_cons (pv 1) (pa_cons (pv 2) pa_nil))))
      (pss_cons (ps_set (i := 4) sc_law.nd rfl (Or.inl rfl) (G.pe_callD T.d_beginnings G_beginnings (hr.mono (by decide)) (pa_cons (pv 2) (pa_cons (pv 3) pa_nil))))
      (pss_cons (ps_if (pt_not (pt_val (G.pe_callD T.d__law_right G__law_right (hr.mono (by decide)) (pa_cons (pv 3) (pa_cons (pv 4) pa_nil))))) (pss_one (ps_ret pe_bl)) pss_nil)
      (pss_cons (ps_set (i := 5) sc_law.nd rfl (Or.inr rfl) pe_dnewK)
      (pss_cons (ps_for PassesOwn.never rfl (pi_tup (pv 4)) (pg_name (i := 6) sc_law.nd rfl (Or.inl rfl)) (pss_one (ps_asg pe_bl (pg_sub (pv 5) (pv 6) (G.set_dS hr)))))
      (C8.pss_cut (ps_if (PW.pt (pw_and (pt_cmpR op_le (pe_callB G.call_lenT (by rfl) T.n_len (by decide +kernel) (pa_cons (pv 4) pa_nil)) pe_int (nomark _)) (pw_and (pt_cmpR op_le (pe_callB (cr_sum rfl) (by rfl) T.n_sum (by decide +kernel) (pa_cons (pe_lc (own := [("word", 7)]) (g := gName 7) (tt := tYes) rfl sc_law.nd (pi_tup (pv 4)) (blkOk_by (own := [("word", 7)]) (N := ["script", "stream", "letters", "sample", "told", "known", "name", "word", "larger", "own", "further", "at", "one"]) (sc := defScope s_law) (by decide +kernel)) (fun _ _ _ _ _ => pg_name (i := 7) sc_law.nd rfl (Or.inl rfl)) (fun _ _ _ _ _ => pts_nil) (fun _ _ _ _ _ => (pe_callB G.call_lenS (by rfl) T.n_len (by decide +kernel) (pa_cons (pv 7) pa_nil)))) pa_nil)) pe_int (nomark _)) (pw_and1 (pt_not (pt_val (G.pe_callD T.d__law_same G__law_same (hr.mono (by decide)) (pa_cons (G.pe_callD T.d_beginnings G_beginnings (hr.mono (by decide)) (pa_cons (pv 2) (pa_cons (pv 4) pa_nil))) (pa_cons (pv 4) pa_nil))))))))) (pss_one (ps_ret pe_bl)) pss_nil)
      (pss_cons (ps_set (i := 7) sc_law.nd rfl (Or.inr rfl) (G.pe_callD T.d__law_word G__law_word (hr.mono (by decide)) (pa_cons (pv 1) (pa_cons (pv 2) (pa_cons pe_int (pa_cons pe_int pa_nil))))))
      (pss_cons (ps_if (PW.pt (pw_or (pt_cmpR G.op_inTt (pv 7) (pv 3) rfl) (pw_or (pt_cmpR G.op_eqI (pe_callB G.call_lenT (by rfl) T.n_len (by decide +kernel) (pa_cons (pv 3) pa_nil)) pe_int (nomark _)) (pw_or1 (pt_cmpR op_gt (pe_op op_add (pe_callB (cr_sum rfl) (by rfl) T.n_sum (by decide +kernel) (pa_cons (pe_lc (own := [("one", 12)]) (g := gName 12) (tt := tYes) rfl sc_law.nd (pi_tup (pv 3)) (blkOk_by (own := [("one", 12)]) (N := ["script", "stream", "letters", "sample", "told", "known", "name", "word", "larger", "own", "further", "at", "one"]) (sc := defScope s_law) (by decide +kernel)) (fun _ _ _ _ _ => pg_name (i := 12) sc_law.nd rfl (Or.inl rfl)) (fun _ _ _ _ _ => pts_nil) (fun _ _ _ _ _ => (pe_callB G.call_lenS (by rfl) T.n_len (by decide +kernel) (pa_cons (pv 12) pa_nil)))) pa_nil)) (pe_callB G.call_lenS (by rfl) T.n_len (by decide +kernel) (pa_cons (pv 7) pa_nil))) pe_int (nomark _)))))) (pss_one (ps_ret pe_bl)) pss_nil)
      (pss_cons (ps_set (i := 8) sc_law.nd rfl (Or.inl rfl) (pe_callTy call_tuple_of (by rfl) T.n_tuple (by decide +kernel) (pa_cons (G.pe_sortLam (nm := "text") hr TB rfl hmT huT (Or.inl rfl) T.n_len T.n_sorted (pa_cons (pe_op op_cat (pe_callTy call_list_of (by rfl) T.n_list (by decide +kernel) (pa_cons (pv 3) pa_nil)) (pe_lst (pa_cons (pv 7) pa_nil))) pa_nil)) pa_nil)))
      (pss_cons (ps_setLc (i := 9) (own := [("name", 6)]) (g := gName 6) (tt := _) (by rfl) sc_law.nd rfl rfl (sw_true rfl rfl rfl (by decide +kernel)) (pi_list (pe_lc (own := [("at", 11)]) (g := gName 11) (tt := tYes) rfl sc_law.nd (pi_range1 (by rfl) T.n_range (pa_cons (pe_op op_add (pe_callB G.call_lenS (by rfl) T.n_len (by decide +kernel) (pa_cons (pv 7) pa_nil)) pe_int) pa_nil)) (blkOk_by (own := [("at", 11)]) (N := ["script", "stream", "letters", "sample", "told", "known", "name", "word", "larger", "own", "further", "at", "one"]) (sc := defScope s_law) (by decide +kernel)) (fun _ _ _ _ _ => pg_name (i := 11) sc_law.nd rfl (Or.inl rfl)) (fun _ _ _ _ _ => pts_nil) (fun _ _ _ _ _ => (pe_slice G.sl_S (pv 7) po_none (po_some (pv 11)))))) (blkOk_by (own := [("name", 6)]) (N := ["script", "stream", "letters", "sample", "told", "known", "name", "word", "larger", "own", "further", "at", "one"]) (sc := defScope s_law) (by decide +kernel)) (fun _ _ _ _ _ => pg_name (i := 6) sc_law.nd rfl (Or.inl rfl)) (fun _ _ _ _ _ => pts_one (pt_cmp (pc_dnotin (hu_of hr) (pv 6) (pv 5)))) (fun _ _ _ _ _ => (pv 6)))
      (pss_cons (ps_set (i := 10) sc_law.nd rfl (Or.inl rfl) (G.pe_callD T.d_beginnings G_beginnings (hr.mono (by decide)) (pa_cons (pv 2) (pa_cons (pv 8) pa_nil))))
      (pss_one (ps_ret (pe_and (G.pe_callD T.d__law_right G__law_right (hr.mono (by decide)) (pa_cons (pv 8) (pa_cons (pv 10) pa_nil))) (pe_one (pe_cmpR (op_eqD hr.units) (pe_lc (own := [("name", 6)]) (g := gName 6) (tt := _) rfl sc_law.nd (pi_tup (pv 10)) (blkOk_by (own := [("name", 6)]) (N := ["script", "stream", "letters", "sample", "told", "known", "name", "word", "larger", "own", "further", "at", "one"]) (sc := defScope s_law) (by decide +kernel)) (fun _ _ _ _ _ => pg_name (i := 6) sc_law.nd rfl (Or.inl rfl)) (fun _ _ _ _ _ => pts_one (pt_cmp (pc_dnotin (hu_of hr) (pv 6) (pv 5)))) (fun _ _ _ _ _ => (pv 6))) (pv 9) (nomark _))))))))))))))))))), ?_⟩
    simp (maxSteps := 2000000) only [tVar, tC, G.sl_is, G.lt1, Int.reduceLT, Int.reduceLE, Int.reduceNeg, Int.reducePow, Int.reduceToNat, Int.reduceSub, Int.reduceAdd, Int.reduceMul, Nat.reduceLT, Nat.reduceLeDiff, Int.zero_add, ne_eq,  HO.lst.injEq, List.dropLast_concat, G.last_get,  HO.tup.injEq, G.rII, G.rBB, G.rSS,  tOp, tUn, rI, rI0, rU, tAndV, tOrV, tNotV, tIf, tAnd, tOr, tNot, tNext, tSeq, tBreak, tCont, tDrop, tRet, tRetN, tIfS, gName, gNil, gCons, G.gTupT, G.gUnlT, gSub, gUnl, tAsg, tPar, tTest, tB, tChain,
      tNil, tCons, tTup, tLst, tCall, tCB, tBM, tBM0, tSl, tNoPart, tPart, rSetL, G.atI0, G.atI1, G.atI2, G.ixN30, G.ixN31, G.ixN32, G.cx_K, and_self, rEq, rNe, G.scal_bl, G.scal_int, G.scal_sv,  G.sv_str, G.Kn_sv, G.Kn_int, G.Kn_bl, G.Kn_non, G.isI_int, G.isI_bl, G.isI_sv, G.isI_ref, G.isI_non, G.isB_int, G.isB_bl, G.isB_sv, G.isB_ref, G.isB_non, G.isS_int, G.isS_bl, G.isS_sv, G.isS_ref, G.isS_non, G.isT_int, G.isT_bl, G.isT_sv, G.isT_non, G.isL_int, G.isL_bl, G.isL_sv, G.isL_non,  L2.upd_same,  rAppend, rExtend, rPop, iRng1, iRng2, iList, iTup, iStr, CDivN, CPow, CMul, rIsB, rNotB, rAdd, rSub, G.tFor_eq, G.tLc_eq, G.tLc2_eq, tM0, tM1, G.rJoinS, G.rIndexAz, G.ex_str, G.iZ2, G.iZ3, G.iZE, G.Kd.is, G.tRevS, G.rSlA1, G.at_lst, G.at_tup, G.at_txt, tYes, wipe,
      List.getElem?_cons_succ, List.getElem?_cons_zero, List.set_cons_succ, List.set_cons_zero, Option.some.injEq, exists_eq_left', exists_eq_left, exists_eq', exists_eq, V.int.injEq, V.bl.injEq, V.ref.injEq, G.sv_inj, List.cons.injEq, and_true, true_and,
      exists_and_left, and_assoc, exists_eq_right_right, exists_eq_right, decide_eq_true_eq, List.append_nil, List.nil_append, List.cons_append, Bool.not_eq_true', decide_eq_false_iff_not, Bool.not_false, Bool.not_true, Bool.false_eq_true, Bool.true_eq_false, not_true, not_false_iff, L2.start, List.map_cons, List.map_nil, List.length_cons, List.length_nil, List.replicate_zero, List.replicate_succ,
      Nat.reduceAdd, Nat.reduceSub, Nat.add_zero, Nat.zero_add, reduceCtorEq, false_and, exists_false, false_or, or_false, ite_true, ite_false, if_true, if_false, G.spStream, G.spLetters, spRich, spBegsR, spRight, tDNewK]
    refine ⟨ns, hS, fun st H1 s1 n1 S1 => ⟨S1, fun L H2 hL ad2 => ⟨ad2.2, hL, Tabs.adv (hT.ext s1) S1 ad2, fun p ws H3 hp hg an3 => ⟨hL, ws, hp, hg, fun ys q H4 ha hm s4 hq => ?_⟩⟩⟩⟩
    have hyn : ys.length ≤ 2200 := Nat.le_trans (G.begs_le ha.nodup hm) hg.cost
    have hyl : ∀ y ∈ ys, y.length ≤ 2000 := fun y hy => by
      obtain ⟨u, hu, hpre⟩ := (hm y).mp hy
      exact Nat.le_trans hpre.length_le (hg.len hu)
    have hwl : ∀ w ∈ ws, w.length ≤ 3000 := fun w h => Nat.le_trans (hg.len h) (by decide)
    have hwn := hg.n
    refine ⟨ws, s4 _ _ hp, ys, hq, by omega, hwl, by omega, ha, hm, fun H5 s5 d nd => ⟨⟨_, .inl (.inl (G.same_upd nd _ _ (s5 _ _ hq)))⟩, ?_⟩⟩
    have hq6 : ∀ {H' : Hp}, Same H5 H' → H' q = some (.tup (ys.map G.sv)) := fun s => s _ _ (s5 _ _ hq)
    refine G.loop_tup (xs := ys.map G.sv) (fun i σ H' => Same H5 H' ∧ H' d = some (.dK (G.kAll (.bl true) (ys.take i))) ∧ ∃ v6, σ = [some (.ref a), some (.ref st), some (G.sv L), some (.ref p), some (.ref q), some (.ref d), v6, none, none, none, none, none, none]) ⟨G.same_upd nd, by rw [upd_same]; rfl, _, rfl⟩ (fun i σ H' hi hP => .inl (.inl (hq6 hP.1))) (fun M hM i x σ H' hx hP => ?_) (fun σ H6 hP => ?_)
    · obtain ⟨sA, hd, v6, rfl⟩ := hP
      rw [List.getElem?_map] at hx
      obtain ⟨y, hyi, rfl⟩ := Option.map_eq_some_iff.mp hx
      simp only [tVar, tC, G.sl_is, G.lt1, Int.reduceLT, Int.reduceLE, Int.reduceNeg, Int.reducePow, Int.reduceToNat, Int.reduceSub, Int.reduceAdd, Int.reduceMul, Nat.reduceLT, Nat.reduceLeDiff, Int.zero_add, ne_eq,  HO.lst.injEq, List.dropLast_concat, G.last_get,  HO.tup.injEq, G.rII, G.rBB, G.rSS,  tOp, tUn, rI, rI0, rU, tAndV, tOrV, tNotV, tIf, tAnd, tOr, tNot, tNext, tSeq, tBreak, tCont, tDrop, tRet, tRetN, tIfS, gName, gNil, gCons, G.gTupT, G.gUnlT, gSub, gUnl, tAsg, tPar, tTest, tB, tChain,
      tNil, tCons, tTup, tLst, tCall, tCB, tBM, tBM0, tSl, tNoPart, tPart, rSetL, G.atI0, G.atI1, G.atI2, G.ixN30, G.ixN31, G.ixN32, G.cx_K, and_self, rEq, rNe, G.scal_bl, G.scal_int, G.scal_sv,  G.sv_str, G.Kn_sv, G.Kn_int, G.Kn_bl, G.Kn_non, G.isI_int, G.isI_bl, G.isI_sv, G.isI_ref, G.isI_non, G.isB_int, G.isB_bl, G.isB_sv, G.isB_ref, G.isB_non, G.isS_int, G.isS_bl, G.isS_sv, G.isS_ref, G.isS_non, G.isT_int, G.isT_bl, G.isT_sv, G.isT_non, G.isL_int, G.isL_bl, G.isL_sv, G.isL_non,  L2.upd_same,  rAppend, rExtend, rPop, iRng1, iRng2, iList, iTup, iStr, CDivN, CPow, CMul, rIsB, rNotB, rAdd, rSub, G.tFor_eq, G.tLc_eq, G.tLc2_eq, tM0, tM1, G.rJoinS, G.rIndexAz, G.ex_str, G.iZ2, G.iZ3, G.iZE, G.Kd.is, G.tRevS, G.rSlA1, G.at_lst, G.at_tup, G.at_txt, tYes, wipe,
      List.getElem?_cons_succ, List.getElem?_cons_zero, List.set_cons_succ, List.set_cons_zero, Option.some.injEq, exists_eq_left', exists_eq_left, exists_eq', exists_eq, V.int.injEq, V.bl.injEq, V.ref.injEq, G.sv_inj, List.cons.injEq, and_true, true_and,
      exists_and_left, and_assoc, exists_eq_right_right, exists_eq_right, decide_eq_true_eq, List.append_nil, List.nil_append, List.cons_append, Bool.not_eq_true', decide_eq_false_iff_not, Bool.not_false, Bool.not_true, Bool.false_eq_true, Bool.true_eq_false, not_true, not_false_iff, L2.start, List.map_cons, List.map_nil, List.length_cons, List.length_nil, List.replicate_zero, List.replicate_succ,
      Nat.reduceAdd, Nat.reduceSub, Nat.add_zero, Nat.zero_add, reduceCtorEq, false_and, exists_false, false_or, or_false, ite_true, ite_false, if_true, if_false, G.rSetS]
      refine ⟨_, hd, by rw [G.kAll_len, List.length_take]; omega, ?_⟩
      rw [hM, G.kAll_put, if_neg (ha.new hyi)]
      exact ⟨G.same_set sA nd, by rw [upd_same, List.take_add_one, hyi]; rfl, some (G.sv y), rfl⟩
    · obtain ⟨s6, hd, v6, rfl⟩ := hP
      rw [List.length_map, List.take_length] at hd
      have hp6 := s6 _ _ (s5 _ _ (s4 _ _ hp))
      have hq6' := hq6 s6
      have S6 : G.Strm H6 st := (an3.2.1.same (s4.trans s5)).same s6
      have T6 : Tabs (tabsOf T) H6 := an3.2.2.ext ((s4.trans s5).trans s6)
      refine G.cutM (fun σ H' => Same H6 H' ∧ ∃ v6, σ = [some (.ref a), some (.ref st), some (G.sv L), some (.ref p), some (.ref q), some (.ref d), v6, none, none, none, none, none, none]) (fun M hM => ?_) (fun σ H7 hP => ?_)
      · simp (maxSteps := 2000000) only [tVar, tC, G.sl_is, G.lt1, Int.reduceLT, Int.reduceLE, Int.reduceNeg, Int.reducePow, Int.reduceToNat, Int.reduceSub, Int.reduceAdd, Int.reduceMul, Nat.reduceLT, Nat.reduceLeDiff, Int.zero_add, ne_eq,  HO.lst.injEq, List.dropLast_concat, G.last_get,  HO.tup.injEq, G.rII, G.rBB, G.rSS,  tOp, tUn, rI, rI0, rU, tAndV, tOrV, tNotV, tIf, tAnd, tOr, tNot, tNext, tSeq, tBreak, tCont, tDrop, tRet, tRetN, tIfS, gName, gNil, gCons, G.gTupT, G.gUnlT, gSub, gUnl, tAsg, tPar, tTest, tB, tChain,
      tNil, tCons, tTup, tLst, tCall, tCB, tBM, tBM0, tSl, tNoPart, tPart, rSetL, G.atI0, G.atI1, G.atI2, G.ixN30, G.ixN31, G.ixN32, G.cx_K, and_self, rEq, rNe, G.scal_bl, G.scal_int, G.scal_sv,  G.sv_str, G.Kn_sv, G.Kn_int, G.Kn_bl, G.Kn_non, G.isI_int, G.isI_bl, G.isI_sv, G.isI_ref, G.isI_non, G.isB_int, G.isB_bl, G.isB_sv, G.isB_ref, G.isB_non, G.isS_int, G.isS_bl, G.isS_sv, G.isS_ref, G.isS_non, G.isT_int, G.isT_bl, G.isT_sv, G.isT_non, G.isL_int, G.isL_bl, G.isL_sv, G.isL_non,  L2.upd_same,  rAppend, rExtend, rPop, iRng1, iRng2, iList, iTup, iStr, CDivN, CPow, CMul, rIsB, rNotB, rAdd, rSub, G.tFor_eq, G.tLc_eq, G.tLc2_eq, tM0, tM1, G.rJoinS, G.rIndexAz, G.ex_str, G.iZ2, G.iZ3, G.iZE, G.Kd.is, G.tRevS, G.rSlA1, G.at_lst, G.at_tup, G.at_txt, tYes, wipe,
      List.getElem?_cons_succ, List.getElem?_cons_zero, List.set_cons_succ, List.set_cons_zero, Option.some.injEq, exists_eq_left', exists_eq_left, exists_eq', exists_eq, V.int.injEq, V.bl.injEq, V.ref.injEq, G.sv_inj, List.cons.injEq, and_true, true_and,
      exists_and_left, and_assoc, exists_eq_right_right, exists_eq_right, decide_eq_true_eq, List.append_nil, List.nil_append, List.cons_append, Bool.not_eq_true', decide_eq_false_iff_not, Bool.not_false, Bool.not_true, Bool.false_eq_true, Bool.true_eq_false, not_true, not_false_iff, L2.start, List.map_cons, List.map_nil, List.length_cons, List.length_nil, List.replicate_zero, List.replicate_succ,
      Nat.reduceAdd, Nat.reduceSub, Nat.add_zero, Nat.zero_add, reduceCtorEq, false_and, exists_false, false_or, or_false, ite_true, ite_false, if_true, if_false, spBegsR, G.spSame, hq6', hp6]
        have done : ∀ {H'}, Same H6 H' → M [some (.ref a), some (.ref st), some (G.sv L), some (.ref p), some (.ref q), some (.ref d), v6, none, none, none, none, none, none] H' := fun s => by
          rw [hM]; exact ⟨s, _, rfl⟩
        refine G.ite_i (fun h1 => ?_) fun _ => done (Same.refl _)
        refine ⟨⟨_, .inl (.inl hq6')⟩, ?_⟩
        refine G.comp_itF (walk_tup (K := K) (a := q) (xs := ys.map G.sv)) (fun _ => true) (G.atD ys (fun w => .int w.length) .non) (by rw [G.sl_is, List.length_map]; omega) (fun H s => .inl (.inl (s _ _ hq6'))) (fun i H H' v hy => by rw [hy.1]; exact Same.refl _) (fun i x H8 H9 hi s8 hy Z W hZ hW => ?_) (fun D H8 hD s8 h8 => ?_)
        · obtain ⟨rfl, hx1⟩ := hy
          have hx2 : (ys.map G.sv)[i]? = some x := hx1
          rw [List.getElem?_map] at hx2
          obtain ⟨wd, hwd, rfl⟩ := Option.map_eq_some_iff.mp hx2
          have hw := hW _ (Same.refl _) rfl
          simp only [G.atD, hwd] at hw
          simp only [tVar, tC, G.sl_is, G.lt1, Int.reduceLT, Int.reduceLE, Int.reduceNeg, Int.reducePow, Int.reduceToNat, Int.reduceSub, Int.reduceAdd, Int.reduceMul, Nat.reduceLT, Nat.reduceLeDiff, Int.zero_add, ne_eq,  HO.lst.injEq, List.dropLast_concat, G.last_get,  HO.tup.injEq, G.rII, G.rBB, G.rSS,  tOp, tUn, rI, rI0, rU, tAndV, tOrV, tNotV, tIf, tAnd, tOr, tNot, tNext, tSeq, tBreak, tCont, tDrop, tRet, tRetN, tIfS, gName, gNil, gCons, G.gTupT, G.gUnlT, gSub, gUnl, tAsg, tPar, tTest, tB, tChain,
      tNil, tCons, tTup, tLst, tCall, tCB, tBM, tBM0, tSl, tNoPart, tPart, rSetL, G.atI0, G.atI1, G.atI2, G.ixN30, G.ixN31, G.ixN32, G.cx_K, and_self, rEq, rNe, G.scal_bl, G.scal_int, G.scal_sv,  G.sv_str, G.Kn_sv, G.Kn_int, G.Kn_bl, G.Kn_non, G.isI_int, G.isI_bl, G.isI_sv, G.isI_ref, G.isI_non, G.isB_int, G.isB_bl, G.isB_sv, G.isB_ref, G.isB_non, G.isS_int, G.isS_bl, G.isS_sv, G.isS_ref, G.isS_non, G.isT_int, G.isT_bl, G.isT_sv, G.isT_non, G.isL_int, G.isL_bl, G.isL_sv, G.isL_non,  L2.upd_same,  rAppend, rExtend, rPop, iRng1, iRng2, iList, iTup, iStr, CDivN, CPow, CMul, rIsB, rNotB, rAdd, rSub, G.tFor_eq, G.tLc_eq, G.tLc2_eq, tM0, tM1, G.rJoinS, G.rIndexAz, G.ex_str, G.iZ2, G.iZ3, G.iZE, G.Kd.is, G.tRevS, G.rSlA1, G.at_lst, G.at_tup, G.at_txt, tYes, wipe,
      List.getElem?_cons_succ, List.getElem?_cons_zero, List.set_cons_succ, List.set_cons_zero, Option.some.injEq, exists_eq_left', exists_eq_left, exists_eq', exists_eq, V.int.injEq, V.bl.injEq, V.ref.injEq, G.sv_inj, List.cons.injEq, and_true, true_and,
      exists_and_left, and_assoc, exists_eq_right_right, exists_eq_right, decide_eq_true_eq, List.append_nil, List.nil_append, List.cons_append, Bool.not_eq_true', decide_eq_false_iff_not, Bool.not_false, Bool.not_true, Bool.false_eq_true, Bool.true_eq_false, not_true, not_false_iff, L2.start, List.map_cons, List.map_nil, List.length_cons, List.length_nil, List.replicate_zero, List.replicate_succ,
      Nat.reduceAdd, Nat.reduceSub, Nat.add_zero, Nat.zero_add, reduceCtorEq, false_and, exists_false, false_or, or_false, ite_true, ite_false, if_true, if_false]
          have := hyl wd (List.mem_of_getElem? hwd)
          exact ⟨by omega, hw⟩
        · rw [G.filt_all, List.length_map, G.map_range_get] at h8
          refine ⟨D, ys.map fun w => (w.length : Int), rfl, .inl (.inl (by rw [h8, List.map_map]; rfl)), _, rfl, ?_⟩
          rw [sum_len]
          refine G.ite_i (fun h2 => ?_) fun _ => done s8
          have hgy : G.Good L ys := ⟨by rw [List.length_map] at h1; omega, fun y hy c hc => ?_, ha, by omega⟩
          · refine ⟨hL, ys, s8 _ _ hq6', hgy, fun zs q2 H9 hz1 hz2 s9 h9 => ?_⟩
            have ez : zs = ys := G.asc_unique hz1 ha fun w => by
              rw [hz2]
              constructor
              · rintro ⟨u, hu, hpre⟩
                obtain ⟨u2, hu2, hpre2⟩ := (hm u).mp hu
                exact (hm w).mpr ⟨u2, hu2, hpre.trans hpre2⟩
              · exact fun h => ⟨w, h, List.prefix_rfl⟩
            subst ez
            refine ⟨.tup (zs.map G.Dat.str), ⟨_, _, rfl, h9, G.rpl_str _⟩, ⟨_, _, rfl, s9 _ _ (s8 _ _ hq6'), G.rpl_str _⟩, ?_, fun H' s => done ((s8.trans s9).trans s)⟩
            simp only [G.Dat.sz, G.sz_str]
            rw [List.length_map] at h1
            omega
          · obtain ⟨u, hu, hpre⟩ := (hm y).mp hy
            exact hg.o u hu c (hpre.subset hc)
      obtain ⟨s7, v6', rfl⟩ := hP
      have hp7 := s7 _ _ hp6
      have hq7 := s7 _ _ hq6'
      have hd7 := s7 _ _ hd
      have S7 := S6.same s7
      have T7 : Tabs (tabsOf T) H7 := T6.ext s7
      simp (maxSteps := 2000000) only [tVar, tC, G.sl_is, G.lt1, Int.reduceLT, Int.reduceLE, Int.reduceNeg, Int.reducePow, Int.reduceToNat, Int.reduceSub, Int.reduceAdd, Int.reduceMul, Nat.reduceLT, Nat.reduceLeDiff, Int.zero_add, ne_eq,  HO.lst.injEq, List.dropLast_concat, G.last_get,  HO.tup.injEq, G.rII, G.rBB, G.rSS,  tOp, tUn, rI, rI0, rU, tAndV, tOrV, tNotV, tIf, tAnd, tOr, tNot, tNext, tSeq, tBreak, tCont, tDrop, tRet, tRetN, tIfS, gName, gNil, gCons, G.gTupT, G.gUnlT, gSub, gUnl, tAsg, tPar, tTest, tB, tChain,
      tNil, tCons, tTup, tLst, tCall, tCB, tBM, tBM0, tSl, tNoPart, tPart, rSetL, G.atI0, G.atI1, G.atI2, G.ixN30, G.ixN31, G.ixN32, G.cx_K, and_self, rEq, rNe, G.scal_bl, G.scal_int, G.scal_sv,  G.sv_str, G.Kn_sv, G.Kn_int, G.Kn_bl, G.Kn_non, G.isI_int, G.isI_bl, G.isI_sv, G.isI_ref, G.isI_non, G.isB_int, G.isB_bl, G.isB_sv, G.isB_ref, G.isB_non, G.isS_int, G.isS_bl, G.isS_sv, G.isS_ref, G.isS_non, G.isT_int, G.isT_bl, G.isT_sv, G.isT_non, G.isL_int, G.isL_bl, G.isL_sv, G.isL_non,  L2.upd_same,  rAppend, rExtend, rPop, iRng1, iRng2, iList, iTup, iStr, CDivN, CPow, CMul, rIsB, rNotB, rAdd, rSub, G.tFor_eq, G.tLc_eq, G.tLc2_eq, tM0, tM1, G.rJoinS, G.rIndexAz, G.ex_str, G.iZ2, G.iZ3, G.iZE, G.Kd.is, G.tRevS, G.rSlA1, G.at_lst, G.at_tup, G.at_txt, tYes, wipe,
      List.getElem?_cons_succ, List.getElem?_cons_zero, List.set_cons_succ, List.set_cons_zero, Option.some.injEq, exists_eq_left', exists_eq_left, exists_eq', exists_eq, V.int.injEq, V.bl.injEq, V.ref.injEq, G.sv_inj, List.cons.injEq, and_true, true_and,
      exists_and_left, and_assoc, exists_eq_right_right, exists_eq_right, decide_eq_true_eq, List.append_nil, List.nil_append, List.cons_append, Bool.not_eq_true', decide_eq_false_iff_not, Bool.not_false, Bool.not_true, Bool.false_eq_true, Bool.true_eq_false, not_true, not_false_iff, L2.start, List.map_cons, List.map_nil, List.length_cons, List.length_nil, List.replicate_zero, List.replicate_succ,
      Nat.reduceAdd, Nat.reduceSub, Nat.add_zero, Nat.zero_add, reduceCtorEq, false_and, exists_false, false_or, or_false, ite_true, ite_false, if_true, if_false, spBegsR, spRight, G.spWord, G.tSortLam, tDNotIn, rCat]
      refine ⟨S7, hL.1, by have := hL.2.1; omega, fun wd H8 _ w10 hwd ad8 => ?_⟩
      have hp8 := ad8.1 _ _ (strm_ne S7 hp7) hp7
      refine ⟨ws, hp8, G.ite_i (fun _ => k H8) fun hnew => ⟨_, hp8, G.ite_i (fun _ => k H8) fun h200 => ⟨⟨_, .inl (.inl hp8)⟩, ?_⟩⟩⟩
      refine G.comp_itF (walk_tup (K := K) (a := p) (xs := ws.map G.sv)) (fun _ => true) (G.atD ws (fun w => .int w.length) .non) (by rw [G.sl_is, List.length_map]; omega) (fun H s => .inl (.inl (s _ _ hp8))) (fun i H H' v hy => by rw [hy.1]; exact Same.refl _) (fun i x H9 H10 hi s9 hy Z W hZ hW => ?_) (fun D H9 hD s9 h9 => ?_)
      · obtain ⟨rfl, hx1⟩ := hy
        have hx2 : (ws.map G.sv)[i]? = some x := hx1
        rw [List.getElem?_map] at hx2
        obtain ⟨u, hu, rfl⟩ := Option.map_eq_some_iff.mp hx2
        have hw := hW _ (Same.refl _) rfl
        simp only [G.atD, hu] at hw
        simp only [tVar, tC, G.sl_is, G.lt1, Int.reduceLT, Int.reduceLE, Int.reduceNeg, Int.reducePow, Int.reduceToNat, Int.reduceSub, Int.reduceAdd, Int.reduceMul, Nat.reduceLT, Nat.reduceLeDiff, Int.zero_add, ne_eq,  HO.lst.injEq, List.dropLast_concat, G.last_get,  HO.tup.injEq, G.rII, G.rBB, G.rSS,  tOp, tUn, rI, rI0, rU, tAndV, tOrV, tNotV, tIf, tAnd, tOr, tNot, tNext, tSeq, tBreak, tCont, tDrop, tRet, tRetN, tIfS, gName, gNil, gCons, G.gTupT, G.gUnlT, gSub, gUnl, tAsg, tPar, tTest, tB, tChain,
      tNil, tCons, tTup, tLst, tCall, tCB, tBM, tBM0, tSl, tNoPart, tPart, rSetL, G.atI0, G.atI1, G.atI2, G.ixN30, G.ixN31, G.ixN32, G.cx_K, and_self, rEq, rNe, G.scal_bl, G.scal_int, G.scal_sv,  G.sv_str, G.Kn_sv, G.Kn_int, G.Kn_bl, G.Kn_non, G.isI_int, G.isI_bl, G.isI_sv, G.isI_ref, G.isI_non, G.isB_int, G.isB_bl, G.isB_sv, G.isB_ref, G.isB_non, G.isS_int, G.isS_bl, G.isS_sv, G.isS_ref, G.isS_non, G.isT_int, G.isT_bl, G.isT_sv, G.isT_non, G.isL_int, G.isL_bl, G.isL_sv, G.isL_non,  L2.upd_same,  rAppend, rExtend, rPop, iRng1, iRng2, iList, iTup, iStr, CDivN, CPow, CMul, rIsB, rNotB, rAdd, rSub, G.tFor_eq, G.tLc_eq, G.tLc2_eq, tM0, tM1, G.rJoinS, G.rIndexAz, G.ex_str, G.iZ2, G.iZ3, G.iZE, G.Kd.is, G.tRevS, G.rSlA1, G.at_lst, G.at_tup, G.at_txt, tYes, wipe,
      List.getElem?_cons_succ, List.getElem?_cons_zero, List.set_cons_succ, List.set_cons_zero, Option.some.injEq, exists_eq_left', exists_eq_left, exists_eq', exists_eq, V.int.injEq, V.bl.injEq, V.ref.injEq, G.sv_inj, List.cons.injEq, and_true, true_and,
      exists_and_left, and_assoc, exists_eq_right_right, exists_eq_right, decide_eq_true_eq, List.append_nil, List.nil_append, List.cons_append, Bool.not_eq_true', decide_eq_false_iff_not, Bool.not_false, Bool.not_true, Bool.false_eq_true, Bool.true_eq_false, not_true, not_false_iff, L2.start, List.map_cons, List.map_nil, List.length_cons, List.length_nil, List.replicate_zero, List.replicate_succ,
      Nat.reduceAdd, Nat.reduceSub, Nat.add_zero, Nat.zero_add, reduceCtorEq, false_and, exists_false, false_or, or_false, ite_true, ite_false, if_true, if_false]
        have := hwl u (List.mem_of_getElem? hu)
        exact ⟨by omega, hw⟩
      · rw [G.filt_all, List.length_map, G.map_range_get] at h9
        refine ⟨D, ws.map fun w => (w.length : Int), rfl, .inl (.inl (by rw [h9, List.map_map]; rfl)), by omega, _, rfl, ?_⟩
        rw [sum_len]
        refine G.ite_i (fun _ => k H9) fun h2000 => ?_
        have hp9 := s9 _ _ hp8
        have S9 := ad8.2.same s9
        have T9 : Tabs (tabsOf T) H9 := (Tabs.adv T7 S7 ad8).ext s9
        have hde : d ≠ st := fun e => by
          obtain ⟨_, _, _, _, q1, _⟩ := S7
          rw [← e, hd7] at q1; cases q1
        have hd9 := s9 _ _ (ad8.1 _ _ hde hd7)
        refine ⟨_, .inr (.inl (.inl hp9)), fun l1 m1 l2 m2 => ⟨_, (G.same_upd m2) _ _ upd_same, by rw [List.length_map]; omega, fun l3 m3 => ?_⟩⟩
        have sA := ((G.same_upd (o := .lst (ws.map G.sv)) m1).trans (G.same_upd (o := .lst [G.sv wd]) m2)).trans (G.same_upd (o := .lst (ws.map G.sv ++ [G.sv wd])) m3)
        refine ⟨T9.ext sA, ws ++ [wd], by rw [List.map_append]; rfl, fun w hw => ?_, fun HB zs l4 eN TB4 hperm hsrt n4 => ⟨_, .inl ⟨.inl (.inl upd_same), fun l5 n5 => ⟨by omega, by omega, by omega, ?_⟩⟩⟩⟩
        · rcases List.mem_append.mp hw with hw | hw
          · have := hwl w hw; omega
          · rw [List.mem_singleton.mp hw]; omega
        have hnd : zs.Nodup := hperm.nodup_iff.mpr (by
          rw [List.nodup_append]
          exact ⟨hg.a.nodup, by simp, fun x hx y hy e => by rw [List.mem_singleton.mp hy] at e; exact hnew (e ▸ hx)⟩)
        have hzm : ∀ u, u ∈ zs ↔ u ∈ ws ∨ u = wd := fun u => by rw [hperm.mem_iff, List.mem_append, List.mem_singleton]
        have hgz : G.Good L zs := by
          refine ⟨?_, fun u hu c hc => ?_, G.asc_of hnd hsrt, ?_⟩
          · rw [hperm.length_eq, List.length_append, List.length_singleton]
            rw [List.length_map] at h200
            omega
          · rcases (hzm u).mp hu with h | h
            · exact hg.o u h c hc
            · rw [h] at hc; exact hwd c hc
          · rw [G.lenS_perm hperm, G.lenS_app, G.lenS_one]; omega
        have sB := (G.same_upd (o := .lst (zs.map G.sv)) n4).trans (G.same_upd (o := .tup (zs.map G.sv)) n5)
        have hdC := sB _ _ (eN _ _ (sA _ _ hd9) (fun _ z => by cases z))
        have hl5 : (upd (upd HB l4 (.lst (zs.map G.sv))) l5 (.tup (zs.map G.sv))) l5 = some (.tup (zs.map G.sv)) := upd_same
        generalize upd (upd HB l4 (.lst (zs.map G.sv))) l5 (.tup (zs.map G.sv)) = HC at hdC hl5 ⊢
        rw [show ((wd.length : Int) + 1).toNat = wd.length + 1 by omega]
        refine G.comp_itF G.walk_rangeN (fun _ => true) (fun i => G.sv (wd.take i)) (by rw [G.sl_is]; omega) (fun _ _ => trivial) (fun i H H' v hy => by rw [hy.1]; exact Same.refl _) (fun i x H9 H10 hi s9 hy Z W hZ hW => ?_) (fun D1 HD hD1 sD h1 => ?_)
        · obtain ⟨rfl, rfl⟩ := hy
          have hw := hW _ (Same.refl _) rfl
          simp only [tVar, tC, G.sl_is, G.lt1, Int.reduceLT, Int.reduceLE, Int.reduceNeg, Int.reducePow, Int.reduceToNat, Int.reduceSub, Int.reduceAdd, Int.reduceMul, Nat.reduceLT, Nat.reduceLeDiff, Int.zero_add, ne_eq,  HO.lst.injEq, List.dropLast_concat, G.last_get,  HO.tup.injEq, G.rII, G.rBB, G.rSS,  tOp, tUn, rI, rI0, rU, tAndV, tOrV, tNotV, tIf, tAnd, tOr, tNot, tNext, tSeq, tBreak, tCont, tDrop, tRet, tRetN, tIfS, gName, gNil, gCons, G.gTupT, G.gUnlT, gSub, gUnl, tAsg, tPar, tTest, tB, tChain,
      tNil, tCons, tTup, tLst, tCall, tCB, tBM, tBM0, tSl, tNoPart, tPart, rSetL, G.atI0, G.atI1, G.atI2, G.ixN30, G.ixN31, G.ixN32, G.cx_K, and_self, rEq, rNe, G.scal_bl, G.scal_int, G.scal_sv,  G.sv_str, G.Kn_sv, G.Kn_int, G.Kn_bl, G.Kn_non, G.isI_int, G.isI_bl, G.isI_sv, G.isI_ref, G.isI_non, G.isB_int, G.isB_bl, G.isB_sv, G.isB_ref, G.isB_non, G.isS_int, G.isS_bl, G.isS_sv, G.isS_ref, G.isS_non, G.isT_int, G.isT_bl, G.isT_sv, G.isT_non, G.isL_int, G.isL_bl, G.isL_sv, G.isL_non,  L2.upd_same,  rAppend, rExtend, rPop, iRng1, iRng2, iList, iTup, iStr, CDivN, CPow, CMul, rIsB, rNotB, rAdd, rSub, G.tFor_eq, G.tLc_eq, G.tLc2_eq, tM0, tM1, G.rJoinS, G.rIndexAz, G.ex_str, G.iZ2, G.iZ3, G.iZE, G.Kd.is, G.tRevS, G.rSlA1, G.at_lst, G.at_tup, G.at_txt, tYes, wipe,
      List.getElem?_cons_succ, List.getElem?_cons_zero, List.set_cons_succ, List.set_cons_zero, Option.some.injEq, exists_eq_left', exists_eq_left, exists_eq', exists_eq, V.int.injEq, V.bl.injEq, V.ref.injEq, G.sv_inj, List.cons.injEq, and_true, true_and,
      exists_and_left, and_assoc, exists_eq_right_right, exists_eq_right, decide_eq_true_eq, List.append_nil, List.nil_append, List.cons_append, Bool.not_eq_true', decide_eq_false_iff_not, Bool.not_false, Bool.not_true, Bool.false_eq_true, Bool.true_eq_false, not_true, not_false_iff, L2.start, List.map_cons, List.map_nil, List.length_cons, List.length_nil, List.replicate_zero, List.replicate_succ,
      Nat.reduceAdd, Nat.reduceSub, Nat.add_zero, Nat.zero_add, reduceCtorEq, false_and, exists_false, false_or, or_false, ite_true, ite_false, if_true, if_false]
          rw [G.cutL_to]
          exact ⟨by omega, hw⟩
        rw [G.filt_all] at h1
        have e1 : (List.range (wd.length + 1)).map (fun i => G.sv (wd.take i)) = ((List.range (wd.length + 1)).map wd.take).map G.sv := by rw [List.map_map]; rfl
        rw [e1] at h1
        have hAa := G.takes_asc wd
        have hAm : ∀ w, w ∈ (List.range (wd.length + 1)).map wd.take ↔ w <+: wd := fun w => by
          rw [List.mem_map]
          constructor
          · rintro ⟨i, _, rfl⟩; exact List.take_prefix _ _
          · intro hpre
            exact ⟨w.length, by rw [List.mem_range]; have := hpre.length_le; omega, (List.prefix_iff_eq_take.mp hpre).symm⟩
        have hAl : ((List.range (wd.length + 1)).map wd.take).length ≤ 11 := by rw [List.length_map, List.length_range]; omega
        generalize (List.range (wd.length + 1)).map wd.take = A at h1 hAa hAm hAl
        have hdD := sD _ _ hdC
        refine ⟨_, rfl, ⟨_, .inl (.inl h1)⟩, ?_⟩
        refine G.comp_itF (walk_list (K := K) (a := D1) (xs := A.map G.sv)) (G.atD A (fun w => !decide (w ∈ ys)) false) (G.atD A G.sv .non) (by rw [G.sl_is, List.length_map]; omega) (fun H s => .inl (.inl (s _ _ h1))) (fun i H H' v hy => by rw [hy.1]; exact Same.refl _) (fun i x H9 H10 hi s9 hy Z W hZ hW => ?_) (fun D2 HE hD2 sE h2 => ?_)
        · obtain ⟨rfl, hx1⟩ := hy
          have hx2 : (A.map G.sv)[i]? = some x := hx1
          rw [List.getElem?_map] at hx2
          obtain ⟨u, hu, rfl⟩ := Option.map_eq_some_iff.mp hx2
          have hw := hW _ (Same.refl _)
          have hz := hZ _ (Same.refl _)
          simp only [G.atD, hu] at hw hz
          simp only [tVar, tC, G.sl_is, G.lt1, Int.reduceLT, Int.reduceLE, Int.reduceNeg, Int.reducePow, Int.reduceToNat, Int.reduceSub, Int.reduceAdd, Int.reduceMul, Nat.reduceLT, Nat.reduceLeDiff, Int.zero_add, ne_eq,  HO.lst.injEq, List.dropLast_concat, G.last_get,  HO.tup.injEq, G.rII, G.rBB, G.rSS,  tOp, tUn, rI, rI0, rU, tAndV, tOrV, tNotV, tIf, tAnd, tOr, tNot, tNext, tSeq, tBreak, tCont, tDrop, tRet, tRetN, tIfS, gName, gNil, gCons, G.gTupT, G.gUnlT, gSub, gUnl, tAsg, tPar, tTest, tB, tChain,
      tNil, tCons, tTup, tLst, tCall, tCB, tBM, tBM0, tSl, tNoPart, tPart, rSetL, G.atI0, G.atI1, G.atI2, G.ixN30, G.ixN31, G.ixN32, G.cx_K, and_self, rEq, rNe, G.scal_bl, G.scal_int, G.scal_sv,  G.sv_str, G.Kn_sv, G.Kn_int, G.Kn_bl, G.Kn_non, G.isI_int, G.isI_bl, G.isI_sv, G.isI_ref, G.isI_non, G.isB_int, G.isB_bl, G.isB_sv, G.isB_ref, G.isB_non, G.isS_int, G.isS_bl, G.isS_sv, G.isS_ref, G.isS_non, G.isT_int, G.isT_bl, G.isT_sv, G.isT_non, G.isL_int, G.isL_bl, G.isL_sv, G.isL_non,  L2.upd_same,  rAppend, rExtend, rPop, iRng1, iRng2, iList, iTup, iStr, CDivN, CPow, CMul, rIsB, rNotB, rAdd, rSub, G.tFor_eq, G.tLc_eq, G.tLc2_eq, tM0, tM1, G.rJoinS, G.rIndexAz, G.ex_str, G.iZ2, G.iZ3, G.iZE, G.Kd.is, G.tRevS, G.rSlA1, G.at_lst, G.at_tup, G.at_txt, tYes, wipe,
      List.getElem?_cons_succ, List.getElem?_cons_zero, List.set_cons_succ, List.set_cons_zero, Option.some.injEq, exists_eq_left', exists_eq_left, exists_eq', exists_eq, V.int.injEq, V.bl.injEq, V.ref.injEq, G.sv_inj, List.cons.injEq, and_true, true_and,
      exists_and_left, and_assoc, exists_eq_right_right, exists_eq_right, decide_eq_true_eq, List.append_nil, List.nil_append, List.cons_append, Bool.not_eq_true', decide_eq_false_iff_not, Bool.not_false, Bool.not_true, Bool.false_eq_true, Bool.true_eq_false, not_true, not_false_iff, L2.start, List.map_cons, List.map_nil, List.length_cons, List.length_nil, List.replicate_zero, List.replicate_succ,
      Nat.reduceAdd, Nat.reduceSub, Nat.add_zero, Nat.zero_add, reduceCtorEq, false_and, exists_false, false_or, or_false, ite_true, ite_false, if_true, if_false, tDNotIn]
          refine ⟨_, .k (k := G.kS u) (s9 _ _ hdD), ?_⟩
          rw [G.kAll_val]
          by_cases hu2 : u ∈ ys
          · rw [if_neg (by simp [hu2])]; exact hz (by simp [hu2])
          · rw [if_pos (by simp [hu2])]; exact hw (by simp [hu2])
        rw [List.length_map, G.filt_range] at h2
        have hdE := sE _ _ hdD
        have h5E := sE _ _ (sD _ _ hl5)
        refine ⟨hL, zs, h5E, hgz, fun us q3 HF hua hum sF hq3 => ?_⟩
        have hun : us.length ≤ 2200 := Nat.le_trans (G.begs_le hua.nodup hum) hgz.cost
        have hul : ∀ u ∈ us, u.length ≤ 2000 := fun y hy => by
          obtain ⟨u, hu, hpre⟩ := (hum y).mp hy
          exact Nat.le_trans hpre.length_le (hgz.len hu)
        have hzn := hgz.n
        refine ⟨zs, sF _ _ h5E, us, hq3, by omega, fun u hu => Nat.le_trans (hgz.len hu) (by decide), by omega, hua, hum, fun HG sG => ⟨⟨_, .inl (.inl (sG _ _ hq3))⟩, ?_⟩⟩
        have hqG := sG _ _ hq3
        have hdG := sG _ _ (sF _ _ hdE)
        have h2G := sG _ _ (sF _ _ h2)
        refine G.comp_itF (walk_tup (K := K) (a := q3) (xs := us.map G.sv)) (G.atD us (fun w => !decide (w ∈ ys)) false) (G.atD us G.sv .non) (by rw [G.sl_is, List.length_map]; omega) (fun H s => .inl (.inl (s _ _ hqG))) (fun i H H' v hy => by rw [hy.1]; exact Same.refl _) (fun i x H9 H10 hi s9 hy Z W hZ hW => ?_) (fun D3 HI hD3 sI h3 => ?_)
        · obtain ⟨rfl, hx1⟩ := hy
          have hx2 : (us.map G.sv)[i]? = some x := hx1
          rw [List.getElem?_map] at hx2
          obtain ⟨u, hu, rfl⟩ := Option.map_eq_some_iff.mp hx2
          have hw := hW _ (Same.refl _)
          have hz := hZ _ (Same.refl _)
          simp only [G.atD, hu] at hw hz
          simp only [tVar, tC, G.sl_is, G.lt1, Int.reduceLT, Int.reduceLE, Int.reduceNeg, Int.reducePow, Int.reduceToNat, Int.reduceSub, Int.reduceAdd, Int.reduceMul, Nat.reduceLT, Nat.reduceLeDiff, Int.zero_add, ne_eq,  HO.lst.injEq, List.dropLast_concat, G.last_get,  HO.tup.injEq, G.rII, G.rBB, G.rSS,  tOp, tUn, rI, rI0, rU, tAndV, tOrV, tNotV, tIf, tAnd, tOr, tNot, tNext, tSeq, tBreak, tCont, tDrop, tRet, tRetN, tIfS, gName, gNil, gCons, G.gTupT, G.gUnlT, gSub, gUnl, tAsg, tPar, tTest, tB, tChain,
      tNil, tCons, tTup, tLst, tCall, tCB, tBM, tBM0, tSl, tNoPart, tPart, rSetL, G.atI0, G.atI1, G.atI2, G.ixN30, G.ixN31, G.ixN32, G.cx_K, and_self, rEq, rNe, G.scal_bl, G.scal_int, G.scal_sv,  G.sv_str, G.Kn_sv, G.Kn_int, G.Kn_bl, G.Kn_non, G.isI_int, G.isI_bl, G.isI_sv, G.isI_ref, G.isI_non, G.isB_int, G.isB_bl, G.isB_sv, G.isB_ref, G.isB_non, G.isS_int, G.isS_bl, G.isS_sv, G.isS_ref, G.isS_non, G.isT_int, G.isT_bl, G.isT_sv, G.isT_non, G.isL_int, G.isL_bl, G.isL_sv, G.isL_non,  L2.upd_same,  rAppend, rExtend, rPop, iRng1, iRng2, iList, iTup, iStr, CDivN, CPow, CMul, rIsB, rNotB, rAdd, rSub, G.tFor_eq, G.tLc_eq, G.tLc2_eq, tM0, tM1, G.rJoinS, G.rIndexAz, G.ex_str, G.iZ2, G.iZ3, G.iZE, G.Kd.is, G.tRevS, G.rSlA1, G.at_lst, G.at_tup, G.at_txt, tYes, wipe,
      List.getElem?_cons_succ, List.getElem?_cons_zero, List.set_cons_succ, List.set_cons_zero, Option.some.injEq, exists_eq_left', exists_eq_left, exists_eq', exists_eq, V.int.injEq, V.bl.injEq, V.ref.injEq, G.sv_inj, List.cons.injEq, and_true, true_and,
      exists_and_left, and_assoc, exists_eq_right_right, exists_eq_right, decide_eq_true_eq, List.append_nil, List.nil_append, List.cons_append, Bool.not_eq_true', decide_eq_false_iff_not, Bool.not_false, Bool.not_true, Bool.false_eq_true, Bool.true_eq_false, not_true, not_false_iff, L2.start, List.map_cons, List.map_nil, List.length_cons, List.length_nil, List.replicate_zero, List.replicate_succ,
      Nat.reduceAdd, Nat.reduceSub, Nat.add_zero, Nat.zero_add, reduceCtorEq, false_and, exists_false, false_or, or_false, ite_true, ite_false, if_true, if_false, tDNotIn]
          refine ⟨_, .k (k := G.kS u) (s9 _ _ hdG), ?_⟩
          rw [G.kAll_val]
          by_cases hu2 : u ∈ ys
          · rw [if_neg (by simp [hu2])]; exact hz (by simp [hu2])
          · rw [if_pos (by simp [hu2])]; exact hw (by simp [hu2])
        rw [List.length_map, G.filt_range] at h3
        have small : ∀ w : List Nat, (∃ u ∈ zs, w <+: u) → ∀ c ∈ w, c < 1000 := fun w ⟨u, hu, hpre⟩ c hc => by
          have h1 := hgz.o u hu c (hpre.subset hc)
          have := (hL.2.2.1 c h1).2
          omega
        have key : us.filter (fun w => !decide (w ∈ ys)) = A.filter (fun w => !decide (w ∈ ys)) := by
          refine G.asc_unique (hua.filter _) (hAa.filter _) fun w => ?_
          simp only [List.mem_filter, Bool.not_eq_true', decide_eq_false_iff_not]
          constructor
          · rintro ⟨h1, h2⟩
            obtain ⟨u, hu, hpre⟩ := (hum w).mp h1
            rcases (hzm u).mp hu with h | h
            · exact absurd ((hm w).mpr ⟨u, h, hpre⟩) h2
            · subst h; exact ⟨(hAm w).mpr hpre, h2⟩
          · rintro ⟨h1, h2⟩
            exact ⟨(hum w).mpr ⟨wd, (hzm wd).mpr (.inr rfl), (hAm w).mp h1⟩, h2⟩
        refine G.eq_txts h3 (sI _ _ h2G) (fun w hw => ?_) (fun w hw => ?_) ?_
        · exact small w ((hum w).mp (List.mem_filter.mp hw).1)
        · exact small w ⟨wd, (hzm wd).mpr (.inr rfl), (hAm w).mp (List.mem_filter.mp hw).1⟩
        · rw [decide_eq_true key]; exact k HI
end
end Lw

namespace Lw
open PySem PySem.Spec L2
section
variable {P : Program} {w : World} {K : PySem.W.Frag} {mg : Str → Option Value}
theorem finL {l : PySem.W.OpenLaw} {fa : Addr} {h : Heap} {ts : List Addr} (hfa : mg "law" = some (.ref fa)) (KX : K.In h) (hts : ∀ P ∈ ts, h.get? P = some (PySem.W.tabObj #[])) (T : Tx K mg) (hm : ∀ p ∈ csOf T, p.2 ∈ ts) : LamX.LawAtS l w K CX0 6 63 "script" mg fa h := by
  have e := hfa.symm.trans T.d_law.g
  cases e
  refine ⟨T.d_law.fd, csOf T, spLawT K T, fun p hp => hts _ (hm p hp), fun p hp => ?_, fun p hp => ?_, fun s u => T.d_law.bt s [u] rfl, fun H a ns hl hb ht hS => ⟨a, ns, rfl, hS, fun p hp => ?_, fun H' => rfl⟩, fun base _ _ TB => ok_law T TB⟩
  · simp only [csOf, List.mem_cons, List.not_mem_nil, or_false] at hp
    rcases hp with (rfl|rfl)
    all_goals exact G.Maker.kl _
  · simp only [csOf, List.mem_cons, List.not_mem_nil, or_false] at hp
    rcases hp with (rfl|rfl)
    all_goals exact PySem.W.codeHd_of_K KX (G.Maker.hd _)
  · simp only [csOf, List.mem_cons, List.not_mem_nil, or_false, forall_eq_or_imp, forall_eq] at ht
    simp only [tabsOf, List.mem_cons, List.not_mem_nil, or_false] at hp
    rcases hp with (rfl|rfl)
    all_goals exact LamX.TabS.nil (by first | exact ht | exact ht.1 | exact ht.2 | exact ht.2.1 | exact ht.2.2)
theorem walkL {l : PySem.W.OpenLaw} {q : Program} {loose : List Str} {XP : (Str → Option Value) → Heap → Prop} {YP : World → Heap → Prop} {d : DefRec} {K : Params → PySem.W.Frag} (hn : l.most = some 63) (hdf : d.params.defaults = [])
    (hY : ∀ (w : World) (h : Heap), YP w h → (K w.params).In h)
    (F : ∀ (w : World) (mg : Str → Option Value) (fa : Addr) (h : Heap), YP w h → (K w.params).In h → h.Ns mainGlobals mg → mg d.name = some (.ref fa) → LamX.LawAtS l w (K w.params) CX0 6 63 "script" mg fa h) :
    PySem.W.WalkO q loose XP YP l.row.toRowW d [] (fun f vs => PySem.call f vs) :=
  LamX.walk_ofTs (n := 63) (k := 6) (x := "script") (CX := fun _ => CX0) hn (by decide) hdf ⟨rfl, by decide, by decide⟩ hY F fun _ _ _ _ _ z => z
end

end Lw
open PySem PySem.W PyProof.Rows
set_option maxRecDepth 100000 in
set_option maxHeartbeats 0 in
theorem PySem.Challenge.cw_backseen_k05_whole_beginnings_of_samples_holds : PySem.Challenge.rw_backseen_k05_whole_beginnings_of_samples.Holds := by
  w_on; o_law; k_head; (case hw => w_witness2)
  k_fill
  refine Lw.walkL (l := PySem.Challenge.rw_backseen_k05_whole_beginnings_of_samples) rfl rfl (fun w h Y => PySem.W.km_in_of Y) ?F
  case F =>
    intro w mg fa h Y KX G0 hmg
    refine' Lw.finL hmg KX (PySem.W.km_tabs_of Y) (Lw.Tx.mk (G.mkDef (st := Lw.s_order_of) (ps := ["word"]) KX G0 ?a0 ?l0 ?c0 ?k0 (fun _ _ _ _ _ _ us hl => match us, hl with | [_], _ => rfl))
      (G.mkDef (st := Lw.s_is_text_of) (ps := ["letters", "value"]) KX G0 ?a1 ?l1 ?c1 ?k1 (fun _ _ _ _ _ _ us hl => match us, hl with | [_, _], _ => rfl))
      (G.mkDef (st := Lw.s_has_sample_form) (ps := ["letters", "value", "most", "longest"]) KX G0 ?a2 ?l2 ?c2 ?k2 (fun _ _ _ _ _ _ us hl => match us, hl with | [_, _, _, _], _ => rfl))
      (G.mkDef (st := Lw.s_check_letters) (ps := ["letters"]) KX G0 ?a3 ?l3 ?c3 ?k3 (fun _ _ _ _ _ _ us hl => match us, hl with | [_], _ => rfl))
      (XH.mkDefD (st := Lw.s_check_sample) (ps := ["letters", "sample", "name"]) (d := "sample") KX G0 ?a4 ?l4 ?t4 ?c4 ?k4 (by decide) (fun _ _ _ _ _ _ _ us its h1 h2 => match us, its, h1, h2 with | [_, _], [_], _, _ => ⟨_, rfl, rfl⟩) (fun _ _ _ _ _ _ _ us its h1 h2 => match us, its, h1, h2 with | [_, _, _], [_], _, _ => ⟨_, rfl, rfl⟩))
      (G.mkDef (st := Lw.s_beginnings_of) (ps := ["sample"]) KX G0 ?a5 ?l5 ?c5 ?k5 (fun _ _ _ _ _ _ us hl => match us, hl with | [_], _ => rfl))
      (G.mkDef (st := Lw.s_is_letters) (ps := ["value"]) KX G0 ?a6 ?l6 ?c6 ?k6 (fun _ _ _ _ _ _ us hl => match us, hl with | [_], _ => rfl))
      (G.mkDef (st := Lw.s_is_sample) (ps := ["letters", "value"]) KX G0 ?a7 ?l7 ?c7 ?k7 (fun _ _ _ _ _ _ us hl => match us, hl with | [_, _], _ => rfl))
      (G.mkDef (st := Lw.s_beginnings) (ps := ["letters", "sample"]) KX G0 ?a8 ?l8 ?c8 ?k8 (fun _ _ _ _ _ _ us hl => match us, hl with | [_, _], _ => rfl))
      (G.mkDef (st := Lw.s__law_stream) (ps := ["script"]) KX G0 ?a9 ?l9 ?c9 ?k9 (fun _ _ _ _ _ _ us hl => match us, hl with | [_], _ => rfl))
      (G.mkDef (st := Lw.s__law_next) (ps := ["stream", "many"]) KX G0 ?a10 ?l10 ?c10 ?k10 (fun _ _ _ _ _ _ us hl => match us, hl with | [_, _], _ => rfl))
      (G.mkDef (st := Lw.s__law_pick) (ps := ["stream", "rows"]) KX G0 ?a11 ?l11 ?c11 ?k11 (fun _ _ _ _ _ _ us hl => match us, hl with | [_, _], _ => rfl))
      (G.mkDef (st := Lw.s__law_letters) (ps := ["stream"]) KX G0 ?a12 ?l12 ?c12 ?k12 (fun _ _ _ _ _ _ us hl => match us, hl with | [_], _ => rfl))
      (G.mkDef (st := Lw.s__law_word) (ps := ["stream", "letters", "least", "most"]) KX G0 ?a13 ?l13 ?c13 ?k13 (fun _ _ _ _ _ _ us hl => match us, hl with | [_, _, _, _], _ => rfl))
      (G.mkDef (st := Lw.s__law_word_at) (ps := ["letters", "index"]) KX G0 ?a14 ?l14 ?c14 ?k14 (fun _ _ _ _ _ _ us hl => match us, hl with | [_, _], _ => rfl))
      (G.mkDef (st := Lw.s__law_before) (ps := ["one", "other"]) KX G0 ?a15 ?l15 ?c15 ?k15 (fun _ _ _ _ _ _ us hl => match us, hl with | [_, _], _ => rfl))
      (G.mkDef (st := Lw.s__law_sample) (ps := ["stream", "letters", "many", "total"]) KX G0 ?a16 ?l16 ?c16 ?k16 (fun _ _ _ _ _ _ us hl => match us, hl with | [_, _, _, _], _ => rfl))
      (G.mkDef (st := Lw.s__law_same) (ps := ["actual", "due"]) KX G0 ?a17 ?l17 ?c17 ?k17 (fun _ _ _ _ _ _ us hl => match us, hl with | [_, _], _ => rfl))
      (G.mkDef (st := Lw.s__law_rich) (ps := ["stream", "letters"]) KX G0 ?a18 ?l18 ?c18 ?k18 (fun _ _ _ _ _ _ us hl => match us, hl with | [_, _], _ => rfl))
      (G.mkDef (st := Lw.s__law_many) (ps := ["sample"]) KX G0 ?a19 ?l19 ?c19 ?k19 (fun _ _ _ _ _ _ us hl => match us, hl with | [_], _ => rfl))
      (G.mkDef (st := Lw.s__law_right) (ps := ["sample", "told"]) KX G0 ?a20 ?l20 ?c20 ?k20 (fun _ _ _ _ _ _ us hl => match us, hl with | [_, _], _ => rfl))
      (G.mkDef (st := Lw.s_law) (ps := ["script"]) KX G0 ?a21 ?l21 ?c21 ?k21 (fun _ _ _ _ _ _ us hl => match us, hl with | [_], _ => rfl))
      (G.mkMaker ?me__law_rich ?ml__law_rich ?mv__law_rich ?mh__law_rich ?mk__law_rich)
      (G.mkMaker ?me_law ?ml_law ?mv_law ?mh_law ?mk_law)
      ?mP
      (⟨_, PySem.W.mg_of KX G0 ?g_MOST_LETTERS⟩)
      (⟨_, PySem.W.mg_of KX G0 ?g_MOST_WORDS⟩)
      (⟨_, PySem.W.mg_of KX G0 ?g_MOST_IN_SAMPLE⟩)
      (PySem.W.mg_none_of KX G0 ?z_abs)
      (PySem.W.mg_none_of KX G0 ?z_all)
      (PySem.W.mg_none_of KX G0 ?z_bool)
      (PySem.W.mg_none_of KX G0 ?z_int)
      (PySem.W.mg_none_of KX G0 ?z_isinstance)
      (PySem.W.mg_none_of KX G0 ?z_len)
      (PySem.W.mg_none_of KX G0 ?z_list)
      (PySem.W.mg_none_of KX G0 ?z_range)
      (PySem.W.mg_none_of KX G0 ?z_sorted)
      (PySem.W.mg_none_of KX G0 ?z_str)
      (PySem.W.mg_none_of KX G0 ?z_sum)
      (PySem.W.mg_none_of KX G0 ?z_tuple)
      (PySem.W.mg_none_of KX G0 ?z_zip)) ?mem
    (case a0 => k_is); (case l0 => k_is); (case c0 => k_is); (case k0 => k_is)
    (case a1 => k_is); (case l1 => k_is); (case c1 => k_is); (case k1 => k_is)
    (case a2 => k_is); (case l2 => k_is); (case c2 => k_is); (case k2 => k_is)
    (case a3 => k_is); (case l3 => k_is); (case c3 => k_is); (case k3 => k_is)
    (case a4 => k_is); (case l4 => k_is); (case t4 => k_is); (case c4 => k_is); (case k4 => k_is)
    (case a5 => k_is); (case l5 => k_is); (case c5 => k_is); (case k5 => k_is)
    (case a6 => k_is); (case l6 => k_is); (case c6 => k_is); (case k6 => k_is)
    (case a7 => k_is); (case l7 => k_is); (case c7 => k_is); (case k7 => k_is)
    (case a8 => k_is); (case l8 => k_is); (case c8 => k_is); (case k8 => k_is)
    (case a9 => k_is); (case l9 => k_is); (case c9 => k_is); (case k9 => k_is)
    (case a10 => k_is); (case l10 => k_is); (case c10 => k_is); (case k10 => k_is)
    (case a11 => k_is); (case l11 => k_is); (case c11 => k_is); (case k11 => k_is)
    (case a12 => k_is); (case l12 => k_is); (case c12 => k_is); (case k12 => k_is)
    (case a13 => k_is); (case l13 => k_is); (case c13 => k_is); (case k13 => k_is)
    (case a14 => k_is); (case l14 => k_is); (case c14 => k_is); (case k14 => k_is)
    (case a15 => k_is); (case l15 => k_is); (case c15 => k_is); (case k15 => k_is)
    (case a16 => k_is); (case l16 => k_is); (case c16 => k_is); (case k16 => k_is)
    (case a17 => k_is); (case l17 => k_is); (case c17 => k_is); (case k17 => k_is)
    (case a18 => k_is); (case l18 => k_is); (case c18 => k_is); (case k18 => k_is)
    (case a19 => k_is); (case l19 => k_is); (case c19 => k_is); (case k19 => k_is)
    (case a20 => k_is); (case l20 => k_is); (case c20 => k_is); (case k20 => k_is)
    (case a21 => k_is); (case l21 => k_is); (case c21 => k_is); (case k21 => k_is)
    (case me__law_rich => exact rfl); (case ml__law_rich => k_is); (case mv__law_rich => exact rfl); (case mh__law_rich => kernel_rfl); (case mk__law_rich => kernel_rfl)
    (case me_law => exact rfl); (case ml_law => k_is); (case mv_law => exact rfl); (case mh_law => kernel_rfl); (case mk_law => kernel_rfl)
    (case mP => (simp only [G.mkMaker]; decide))
    (case g_MOST_LETTERS => refine' Eq.trans ?q1 ?q2; (case q1 => k_is); (case q2 => exact rfl))
    (case g_MOST_WORDS => refine' Eq.trans ?q1 ?q2; (case q1 => k_is); (case q2 => exact rfl))
    (case g_MOST_IN_SAMPLE => refine' Eq.trans ?q1 ?q2; (case q1 => k_is); (case q2 => exact rfl))
    (case z_abs => k_is)
    (case z_all => k_is)
    (case z_bool => k_is)
    (case z_int => k_is)
    (case z_isinstance => k_is)
    (case z_len => k_is)
    (case z_list => k_is)
    (case z_range => k_is)
    (case z_sorted => k_is)
    (case z_str => k_is)
    (case z_sum => k_is)
    (case z_tuple => k_is)
    (case z_zip => k_is)
    (case mem => exact List.forall_mem_cons.mpr ⟨by first | exact List.mem_cons_self | exact List.mem_cons_of_mem _ List.mem_cons_self | exact List.mem_cons_of_mem _ (List.mem_cons_of_mem _ List.mem_cons_self), List.forall_mem_cons.mpr ⟨by first | exact List.mem_cons_self | exact List.mem_cons_of_mem _ List.mem_cons_self | exact List.mem_cons_of_mem _ (List.mem_cons_of_mem _ List.mem_cons_self), (fun _ h => nomatch h)⟩⟩)

