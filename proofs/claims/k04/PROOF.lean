import PyProof.Rows.All
import Wide.All
import OpenK.AllK
import Wide.FinOn
import PyProof.StrBlock2
import HandS.ForMost
import HandS.Style
import HandS.IsInst
import HandS.NoneIn
import HandS.Codes
import HandS.Walk
import PySem.Challenge.RW_backseen_k04_whole_endings_and_words_ali
set_option Elab.async false
set_option linter.all false
set_option maxRecDepth 100000
set_option maxHeartbeats 4000000
namespace G
open PySem PySem.Spec L2
/-! texts as lists of codes -/
def sv (l : List Nat) : V := .str ⟨l.toArray⟩
theorem sv_inj {a b : List Nat} : sv a = sv b ↔ a = b := by
  constructor
  · intro h
    have h1 := V.str.inj h
    have h2 : a.toArray = b.toArray := by injection h1
    have h3 := congrArg Array.toList h2
    simpa using h3
  · intro h; rw [h]
theorem sv_dec {a b : List Nat} : decide (sv a = sv b) = decide (a = b) := decide_eq_decide.mpr sv_inj
theorem str_sv (z : Str) : V.str z = sv z.cps.toList := by cases z; simp [sv]
theorem sl_is : sizeLine = 16777216 := by decide
theorem strL (l : List Nat) : (Str.mk l.toArray).length = l.length := by simp [Str.length]
theorem sv_ne_int {l : List Nat} {i : Int} : sv l ≠ .int i := fun h => by cases h
/-- cut of a list, as Python's slices do -/
def cutL (l : List Nat) (lo hi : Option Int) : List Nat := (l.drop (HT.sIx l.length 0 lo)).take (HT.sIx l.length l.length hi - HT.sIx l.length 0 lo)
theorem cutL_from (l : List Nat) (n : Nat) : cutL l (some (n : Int)) none = l.drop n := by
  unfold cutL
  rw [HT.sIx_nat, HT.sIx_none]
  by_cases h : n ≤ l.length
  · rw [Nat.min_eq_left h]
    exact List.take_of_length_le (by rw [List.length_drop]; omega)
  · rw [Nat.min_eq_right (by omega), List.drop_of_length_le (by omega), List.drop_of_length_le (by omega)]
    simp
theorem cutL_to (l : List Nat) (n : Nat) : cutL l none (some (n : Int)) = l.take n := by
  unfold cutL
  rw [HT.sIx_nat, HT.sIx_none, List.drop_zero, Nat.sub_zero]
  by_cases h : n ≤ l.length
  · rw [Nat.min_eq_left h]
  · rw [Nat.min_eq_right (by omega), List.take_of_length_le (by omega), List.take_of_length_le (by omega)]
theorem cutL_len (l : List Nat) (lo hi : Option Int) : (cutL l lo hi).length ≤ l.length := by
  unfold cutL
  rw [List.length_take, List.length_drop]; omega
theorem cutL_fromI (l : List Nat) {d : Int} (h : 0 ≤ d) : cutL l (some d) none = l.drop d.toNat := by
  have e : d = ((d.toNat : Nat) : Int) := by omega
  conv => lhs; rw [e]
  exact cutL_from l _
theorem cutL_toI (l : List Nat) {d : Int} (h : 0 ≤ d) : cutL l none (some d) = l.take d.toNat := by
  have e : d = ((d.toNat : Nat) : Int) := by omega
  conv => lhs; rw [e]
  exact cutL_to l _
theorem lt1 {a b : Nat} : ([a] < [b]) = (a < b) := by simp [List.cons_lt_cons_iff]
/-! readings -/
abbrev rII (f : Int → Int → V) : R2 := fun x y H Q => ∃ i j, x = .int i ∧ y = .int j ∧ Q (f i j) H
abbrev rBB (f : Bool → Bool → V) : R2 := fun x y H Q => ∃ i j, x = .bl i ∧ y = .bl j ∧ Q (f i j) H
abbrev rSS (f : List Nat → List Nat → V) : R2 := fun x y H Q => ∃ a b, x = sv a ∧ y = sv b ∧ Q (f a b) H
section
variable {X : Cx}
theorem op_eqI : OpR X (compareOp .Eq) (rII fun i j => .bl (decide (i = j))) := by
  intro pins s σ H x y v u Q I rx ry h
  obtain ⟨i, j, rfl, rfl, q⟩ := h
  refine op_eq pins s σ H _ _ v u Q I rx ry ⟨rfl, ?_⟩
  rw [show decide (V.int i = V.int j) = decide (i = j) from decide_eq_decide.mpr (by simp)]
  exact q
theorem op_neI : OpR X (compareOp .NotEq) (rII fun i j => .bl (!decide (i = j))) := by
  intro pins s σ H x y v u Q I rx ry h
  obtain ⟨i, j, rfl, rfl, q⟩ := h
  refine op_ne pins s σ H _ _ v u Q I rx ry ⟨rfl, ?_⟩
  rw [show decide (V.int i = V.int j) = decide (i = j) from decide_eq_decide.mpr (by simp)]
  exact q
theorem op_eqB : OpR X (compareOp .Eq) (rBB fun i j => .bl (decide (i = j))) := by
  intro pins s σ H x y v u Q I rx ry h
  obtain ⟨i, j, rfl, rfl, q⟩ := h
  refine op_eq pins s σ H _ _ v u Q I rx ry ⟨rfl, ?_⟩
  rw [show decide (V.bl i = V.bl j) = decide (i = j) from decide_eq_decide.mpr (by simp)]
  exact q
theorem op_neB : OpR X (compareOp .NotEq) (rBB fun i j => .bl (!decide (i = j))) := by
  intro pins s σ H x y v u Q I rx ry h
  obtain ⟨i, j, rfl, rfl, q⟩ := h
  refine op_ne pins s σ H _ _ v u Q I rx ry ⟨rfl, ?_⟩
  rw [show decide (V.bl i = V.bl j) = decide (i = j) from decide_eq_decide.mpr (by simp)]
  exact q
theorem op_eqS : OpR X (compareOp .Eq) (rSS fun i j => .bl (decide (i = j))) := by
  intro pins s σ H x y v u Q I rx ry h
  obtain ⟨i, j, rfl, rfl, q⟩ := h
  refine op_eq pins s σ H _ _ v u Q I rx ry ⟨rfl, ?_⟩
  rw [sv_dec]
  exact q
theorem op_neS : OpR X (compareOp .NotEq) (rSS fun i j => .bl (!decide (i = j))) := by
  intro pins s σ H x y v u Q I rx ry h
  obtain ⟨i, j, rfl, rfl, q⟩ := h
  refine op_ne pins s σ H _ _ v u Q I rx ry ⟨rfl, ?_⟩
  rw [sv_dec]
  exact q
theorem op_ltS : OpR X (compareOp .Lt) (rSS fun i j => .bl (decide (i < j))) := by
  intro pins s σ H x y v u Q I rx ry h
  obtain ⟨i, j, rfl, rfl, q⟩ := h
  exact op_lt_str pins s σ H _ _ v u Q I rx ry ⟨_, _, rfl, rfl, by simpa using q⟩
theorem op_leS : OpR X (compareOp .LtE) (rSS fun i j => .bl (!decide (j < i))) := by
  intro pins s σ H x y v u Q I rx ry h
  obtain ⟨i, j, rfl, rfl, q⟩ := h
  exact op_le_str pins s σ H _ _ v u Q I rx ry ⟨_, _, rfl, rfl, by simpa using q⟩
theorem op_geS : OpR X (compareOp .GtE) (rSS fun i j => .bl (!decide (i < j))) := by
  intro pins s σ H x y v u Q I rx ry h
  obtain ⟨i, j, rfl, rfl, q⟩ := h
  exact op_ge_str pins s σ H _ _ v u Q I rx ry ⟨_, _, rfl, rfl, by simpa using q⟩
theorem op_inS : OpR X (compareOp .In) (fun x y H Q => ∃ (c : Nat) (l : List Nat), x = sv [c] ∧ y = sv l ∧ Q (.bl (decide (c ∈ l))) H) := by
  intro pins s σ H x y v u Q I rx ry h
  obtain ⟨c, l, rfl, rfl, q⟩ := h
  exact op_in_sign pins s σ H _ _ v u Q I rx ry ⟨c, _, rfl, rfl, by simpa using q⟩
theorem op_notInS : OpR X (compareOp .NotIn) (fun x y H Q => ∃ (c : Nat) (l : List Nat), x = sv [c] ∧ y = sv l ∧ Q (.bl (!decide (c ∈ l))) H) := by
  intro pins s σ H x y v u Q I rx ry h
  obtain ⟨c, l, rfl, rfl, q⟩ := h
  exact op_notIn_sign pins s σ H _ _ v u Q I rx ry ⟨c, _, rfl, rfl, by simpa using q⟩
theorem op_addS : OpR X (binaryOp .Add) (fun x y H Q => ∃ a b, x = sv a ∧ y = sv b ∧ a.length + b.length ≤ sizeLine ∧ Q (sv (a ++ b)) H) := by
  intro pins s σ H x y v u Q I rx ry h
  obtain ⟨a, b, rfl, rfl, hl, q⟩ := h
  refine op_add_str pins s σ H _ _ v u Q I rx ry ⟨_, _, rfl, rfl, by rw [strL, strL]; exact hl, ?_⟩
  have e : (Str.mk a.toArray) ++ (Str.mk b.toArray) = Str.mk (a ++ b).toArray := by
    show Str.append _ _ = _
    simp [Str.append]
  rw [e]; exact q
/-- text times int -/
def repL (l : List Nat) (k : Int) : List Nat := (List.replicate k.toNat l).flatten
theorem foldl_app (n : Nat) (a b : Array Nat) : (List.replicate n a).foldl (· ++ ·) b = b ++ ((List.replicate n a.toList).flatten).toArray := by
  induction n generalizing b with
  | zero => simp
  | succ n ih =>
    rw [List.replicate_succ, List.foldl_cons, ih, List.replicate_succ, List.flatten_cons]
    apply Array.ext'
    simp
theorem mulStr_eq (l : List Nat) (k : Int) : PySem.Txt.mul ⟨l.toArray⟩ k = ⟨(repL l k).toArray⟩ := by
  unfold PySem.Txt.mul repL
  by_cases h : k < 1
  · rw [if_pos h]
    have : k.toNat = 0 := by omega
    rw [this]; rfl
  · rw [if_neg h]
    by_cases h2 : (k == 1 || (Str.mk l.toArray).length == 0) = true
    · rw [if_pos h2]
      rw [strL] at h2
      simp only [Bool.or_eq_true, beq_iff_eq] at h2
      rcases h2 with h2 | h2
      · subst h2; simp
      · have : l = [] := List.length_eq_zero_iff.mp h2
        subst this; simp
    · rw [if_neg h2, foldl_app]
      simp
theorem Txtfit {n : Nat} (h : n ≤ sizeLine) : Builtin.Str.tooLong n = false := by
  unfold Builtin.Str.tooLong
  exact decide_eq_false (by omega)
theorem op_mulS : OpR X (binaryOp .Mult) (fun x y H Q => ∃ a k, x = sv a ∧ y = .int k ∧ (0 ≤ k ∧ k ≤ 1000000 ∧ a.length * k.toNat ≤ sizeLine) ∧ Q (sv (repL a k)) H) := by
  intro pins s σ H x y v u Q I rx ry h
  obtain ⟨a, k, rfl, rfl, ⟨hk, hk2, hl⟩, q⟩ := h
  obtain ⟨t, rfl⟩ := rx
  obtain ⟨t', rfl⟩ := ry
  have hsz : (sizeLine : Nat) = 16777216 := by decide
  have hmul : ¬ k < 1 → ((Str.mk a.toArray).length : Int) * k ≤ 16777216 := fun h1 => by
    rw [strL]
    have e : k = ((k.toNat : Nat) : Int) := by omega
    rw [e]
    have h3 : a.length * k.toNat ≤ 16777216 := Nat.le_trans hl (Nat.le_of_eq hsz)
    have h4 := Int.ofNat_le.mpr h3
    rw [Int.natCast_mul] at h4
    exact h4
  refine PySem.SB.mul ⟨?_, fun h1 h2 => ?_, fun h1 h2 => ?_⟩ fun t' tk => ⟨sv (repL a k), H, I.tok _, ?_, q⟩
  · rw [Bool.or_eq_false_iff]
    exact ⟨decide_eq_false (by omega), decide_eq_false (by omega)⟩
  · have hm := hmul h1
    have hkp : 0 < k := by omega
    intro hgt
    have h3 : (2 ^ 63 - 1) / k < ((Str.mk a.toArray).length : Int) := hgt
    have h4 := (Int.ediv_lt_iff_lt_mul hkp).mp h3
    omega
  · rw [strL]
    exact Txtfit (by omega)
  · refine ⟨t', ?_⟩
    rw [mulStr_eq]
/-- a slice of a text -/
theorem sl_S : SlR X (fun x lo hi H Q => ∃ l, x = sv l ∧ l.length ≤ sizeLine ∧ Q (sv (cutL l lo hi)) H) := by
  intro pins s σ H x v vl vu lo hi sl Q I rx hs pl pu h
  obtain ⟨l, rfl, hl, q⟩ := h
  refine sl_str pins s σ H _ v vl vu lo hi sl Q I rx hs pl pu ⟨_, rfl, by rw [strL]; exact hl, ?_⟩
  have e : cutS ⟨l.toArray⟩ lo hi = ⟨(cutL l lo hi).toArray⟩ := by
    unfold cutS cutL
    rw [strL]
  rw [e]; exact q
theorem ix_S : IxR X (fun x y H Q => ∃ l i c, x = sv l ∧ y = .int i ∧ l.length ≤ sizeLine ∧ atI l i = some c ∧ Q (sv [c]) H) := by
  intro value slice pins s σ H x y v u Q I rx ry h hs
  obtain ⟨l, i, c, rfl, rfl, hl, hc, q⟩ := h
  exact ix_str value slice pins s σ H _ _ v u Q I rx ry ⟨_, i, c, rfl, rfl, by rw [strL]; exact hl, by simpa using hc, q⟩ hs
theorem call_lenS : CallR X (.builtin "len") (fun xs H Q => ∃ l, xs = [sv l] ∧ l.length ≤ sizeLine ∧ Q (.int l.length) H) := by
  intro pins s σ H vs us Q I r h
  obtain ⟨l, rfl, hl, q⟩ := h
  exact call_len_str pins s σ H _ us Q I r ⟨_, rfl, by rw [strL]; exact hl, by rw [strL]; exact q⟩
theorem pe_strS {x : Str} {j : Nat} {pos : Pos} {l : List Nat} (h : x = ⟨l.toArray⟩) : PE X (.Constant (.str x) j pos) (tC (sv l)) := by
  subst h; exact pe_str
theorem pe_gint {x : Str} {i : Int} {pos : Pos} (hg : Gl X x) (hm : ∃ t, X.mg x = some (.int i t)) (hd : (x == ("__debug__" : Str)) = false := by decide) : PE X (.Name x pos) (tC (.int i)) := by
  obtain ⟨t, hm⟩ := hm
  exact pe_glob hg hm ⟨t, rfl⟩ hd
theorem pe_gstr {x z : Str} {l : List Nat} {pos : Pos} (hg : Gl X x) (hm : ∃ t, X.mg x = some (.str z t)) (hz : z = ⟨l.toArray⟩) (hd : (x == ("__debug__" : Str)) = false := by decide) : PE X (.Name x pos) (tC (sv l)) := by
  obtain ⟨t, hm⟩ := hm
  subst hz
  exact pe_glob hg hm ⟨t, rfl⟩ hd
theorem pe_ty {x : Str} {n : String} {pos : Pos} (hg : Gl X x) (hm : X.mg x = none) (hv : bootBuiltins x = some (.type n) := by decide +kernel) (hn : x ≠ "__name__" := by decide) (hd : (x == ("__debug__" : Str)) = false := by decide) : PE X (.Name x pos) (tC (.ty n)) :=
  pe_bltn hg hm hv rfl hn hd
/-- loops, their readings closed -/
def LoopOk (J : It) (g : TG) (tb : TS) (D : Ends) (σ : St) (H1 : Hp) : Prop := ∃ W : Nat → Nat → St → Hp → Prop, (∃ m, W 0 m σ H1) ∧ ∀ i m σ H, W i m σ H →
  ((J.stop i H ∧ D.nx σ H) ∨ (J.go i H ∧ ∃ N : St → Hp → Prop, (∀ σ' H', N σ' H' → ∃ m', m' < m ∧ W (i + 1) m' σ' H') ∧ ∀ x H', J.yld i H x H' → g x σ H' fun σ2 H2 => tb { D with nx := N, ct := N, bk := D.nx } σ2 H2))
theorem tFor_eq (wi : TI) (g : TG) (tb : TS) : tFor wi g tb = fun D σ H => wi σ H fun J H1 => LoopOk J g tb D σ H1 := rfl
def LcOk (J : It) (g : TG) (tt : TT) (te : TE) (vs : List Nat) (σ : St) (H1 : Hp) (Q : VK) : Prop := ∀ D, H1 D = none → ∃ W : Nat → Nat → Hp → Prop, (∃ m, W 0 m (upd H1 D (.lst []))) ∧ ∀ i m H, W i m H →
  (J.stop i H ∧ Q (.ref D) H) ∨ (J.go i H ∧ ∃ Nx : Hp → Prop, (∀ H', Nx H' → ∃ m', m' < m ∧ W (i + 1) m' H') ∧ ∀ x H', J.yld i H x H' → g x (wipe σ vs) H' fun σ2 H2 => wipe σ2 vs = wipe σ vs ∧ tt σ2 H2 fun b H3 =>
    if b = true then te σ2 H3 fun y H4 => ∃ acc, H4 D = some (.lst acc) ∧ acc.length < sizeLine ∧ Nx (upd H4 D (.lst (acc ++ [y]))) else Nx H3)
theorem tLc_eq (wi : TI) (g : TG) (tt : TT) (te : TE) (vs : List Nat) : tLc wi g tt te vs = fun σ H Q => wi σ H fun J H1 => LcOk J g tt te vs σ H1 Q := rfl
theorem loop_range {lo : Int} {n : Nat} {g : TG} {tb : TS} {D : Ends} {σ : St} {H : Hp} (Pv : Nat → St → Hp → Prop) (h0 : Pv 0 σ H)
    (hs : ∀ M, M = Pv → ∀ i σ H, i < n → Pv i σ H → g (.int (lo + i)) σ H fun σ2 H2 => tb { D with nx := M (i + 1), ct := M (i + 1), bk := D.nx } σ2 H2) (hd : ∀ σ H, Pv n σ H → D.nx σ H) :
    LoopOk (Itr lo n) g tb D σ H := for_range Pv h0 (hs Pv rfl) hd
theorem loop_list {K : PySem.W.Frag} {a : Addr} {xs : List V} {g : TG} {tb : TS} {D : Ends} {σ : St} {H : Hp} (Pv : Nat → St → Hp → Prop) (h0 : Pv 0 σ H) (hl : ∀ i σ H, i ≤ xs.length → Pv i σ H → SqL K H a xs)
    (hs : ∀ M, M = Pv → ∀ i x σ H, xs[i]? = some x → Pv i σ H → g x σ H fun σ2 H2 => tb { D with nx := M (i + 1), ct := M (i + 1), bk := D.nx } σ2 H2) (hd : ∀ σ H, Pv xs.length σ H → D.nx σ H) :
    LoopOk (Itl K a) g tb D σ H := for_list Pv h0 hl (hs Pv rfl) hd
theorem loop_tup {K : PySem.W.Frag} {a : Addr} {xs : List V} {g : TG} {tb : TS} {D : Ends} {σ : St} {H : Hp} (Pv : Nat → St → Hp → Prop) (h0 : Pv 0 σ H) (hl : ∀ i σ H, i ≤ xs.length → Pv i σ H → SqT K H a xs)
    (hs : ∀ M, M = Pv → ∀ i x σ H, xs[i]? = some x → Pv i σ H → g x σ H fun σ2 H2 => tb { D with nx := M (i + 1), ct := M (i + 1), bk := D.nx } σ2 H2) (hd : ∀ σ H, Pv xs.length σ H → D.nx σ H) :
    LoopOk (Itt K a) g tb D σ H := for_tup Pv h0 hl (hs Pv rfl) hd
/-- a while's turn: the body, from here, brings the word back with a lesser measure -/
def WT (Pv : St → Hp → Prop) (μ : St → Hp → Nat) (n : Nat) (tb : TS) (D : Ends) (σ : St) (H : Hp) : Prop := ∃ N : St → Hp → Prop, (∀ σ' H', N σ' H' → ∃ m', m' < n ∧ m' = μ σ' H' ∧ Pv σ' H') ∧ tb { D with nx := N, ct := N, bk := D.nx } σ H
theorem loop_while {c : TT} {tb : TS} {D : Ends} {σ : St} {H : Hp} (Pv : St → Hp → Prop) (μ : St → Hp → Nat) (h0 : Pv σ H)
    (hs : ∀ σ H n, n = μ σ H → Pv σ H → c σ H fun b H1 => if b = true then WT Pv μ n tb D σ H1 else D.nx σ H1) : tWhile c tb D σ H := by
  refine ⟨fun m σ H => m = μ σ H ∧ Pv σ H, ⟨_, rfl, h0⟩, ?_⟩
  rintro m σ H ⟨rfl, p⟩
  exact hs σ H _ rfl p
theorem WT.mk {tb : TS} {D : Ends} {σ : St} {H1 : Hp} {Pv : St → Hp → Prop} {μ : St → Hp → Nat} {n : Nat} (h : ∀ M : St → Hp → Prop, (M = fun σ' H' => Pv σ' H' ∧ μ σ' H' < n) → tb { D with nx := M, ct := M, bk := D.nx } σ H1) : WT Pv μ n tb D σ H1 :=
  ⟨_, fun σ' H' ⟨p, l⟩ => ⟨_, l, rfl, p⟩, h _ rfl⟩
theorem cutM {t u : TS} {D : Ends} {σ : St} {H : Hp} (M0 : St → Hp → Prop) (h1 : ∀ M, M = M0 → t { D with nx := M } σ H) (h2 : ∀ σ H, M0 σ H → u D σ H) : C8.tCut t u D σ H := ⟨M0, h1 M0 rfl, h2⟩
/-- a comprehension whose element (and test) only read: over range -/
theorem comp_range {lo : Int} {n : Nat} {g : TG} {tt : TT} {te : TE} {vs : List Nat} {σ : St} {H1 : Hp} {Q : VK} (Pv : Addr → Nat → Hp → Prop) (h0 : ∀ D, H1 D = none → Pv D 0 (upd H1 D (.lst [])))
    (hs : ∀ M, M = Pv → ∀ D, H1 D = none → ∀ i H, i < n → Pv D i H → g (.int (lo + i)) (wipe σ vs) H fun σ2 H2 => wipe σ2 vs = wipe σ vs ∧ tt σ2 H2 fun b H3 =>
      if b = true then te σ2 H3 fun y H4 => ∃ acc, H4 D = some (.lst acc) ∧ acc.length < sizeLine ∧ M D (i + 1) (upd H4 D (.lst (acc ++ [y]))) else M D (i + 1) H3) (hd : ∀ D, H1 D = none → ∀ H, Pv D n H → Q (.ref D) H) :
    LcOk (Itr lo n) g tt te vs σ H1 Q := fun D hD => lc_range (Pv D) (h0 D hD) (hs Pv rfl D hD) (hd D hD)
theorem comp_list {K : PySem.W.Frag} {a : Addr} {xs : List V} {g : TG} {tt : TT} {te : TE} {vs : List Nat} {σ : St} {H1 : Hp} {Q : VK} (Pv : Addr → Nat → Hp → Prop) (h0 : ∀ D, H1 D = none → Pv D 0 (upd H1 D (.lst [])))
    (hl : ∀ D, H1 D = none → ∀ i H, i ≤ xs.length → Pv D i H → SqL K H a xs)
    (hs : ∀ M, M = Pv → ∀ D, H1 D = none → ∀ i x H, xs[i]? = some x → Pv D i H → g x (wipe σ vs) H fun σ2 H2 => wipe σ2 vs = wipe σ vs ∧ tt σ2 H2 fun b H3 =>
      if b = true then te σ2 H3 fun y H4 => ∃ acc, H4 D = some (.lst acc) ∧ acc.length < sizeLine ∧ M D (i + 1) (upd H4 D (.lst (acc ++ [y]))) else M D (i + 1) H3) (hd : ∀ D, H1 D = none → ∀ H, Pv D xs.length H → Q (.ref D) H) :
    LcOk (Itl K a) g tt te vs σ H1 Q := fun D hD => lc_list (Pv D) (h0 D hD) (hl D hD) (hs Pv rfl D hD) (hd D hD)
/-- a text, sign by sign -/
theorem walkS (l : List Nat) : Walk (Its ⟨l.toArray⟩) l.length (fun _ => True) (fun i H v H' => H' = H ∧ ∃ c, l[i]? = some c ∧ v = sv [c]) := by
  refine ⟨fun i H hi _ => ?_, fun H _ => ?_, fun i H x H' hi _ hy => ?_⟩
  · show i < l.toArray.size
    simpa using hi
  · show l.toArray.size ≤ l.length
    simp
  · obtain ⟨e, c, hc, hv⟩ := hy
    exact ⟨e, c, by simpa using hc, hv⟩
theorem loop_str {l : List Nat} {g : TG} {tb : TS} {D : Ends} {σ : St} {H : Hp} (Pv : Nat → St → Hp → Prop) (h0 : Pv 0 σ H)
    (hs : ∀ M, M = Pv → ∀ i c σ H, l[i]? = some c → Pv i σ H → g (sv [c]) σ H fun σ2 H2 => tb { D with nx := M (i + 1), ct := M (i + 1), bk := D.nx } σ2 H2) (hd : ∀ σ H, Pv l.length σ H → D.nx σ H) :
    LoopOk (Its ⟨l.toArray⟩) g tb D σ H := for_it (walkS l) Pv h0 (fun _ _ _ _ _ => trivial) (fun i x σ H H' hi p hy => by
      obtain ⟨e, c, hc, hv⟩ := hy
      subst e; subst hv
      exact hs Pv rfl i c σ _ hc p) hd
theorem comp_str {l : List Nat} {g : TG} {tt : TT} {te : TE} {vs : List Nat} {σ : St} {H1 : Hp} {Q : VK} (Pv : Addr → Nat → Hp → Prop) (h0 : ∀ D, H1 D = none → Pv D 0 (upd H1 D (.lst [])))
    (hs : ∀ M, M = Pv → ∀ D, H1 D = none → ∀ i c H, l[i]? = some c → Pv D i H → g (sv [c]) (wipe σ vs) H fun σ2 H2 => wipe σ2 vs = wipe σ vs ∧ tt σ2 H2 fun b H3 =>
      if b = true then te σ2 H3 fun y H4 => ∃ acc, H4 D = some (.lst acc) ∧ acc.length < sizeLine ∧ M D (i + 1) (upd H4 D (.lst (acc ++ [y]))) else M D (i + 1) H3) (hd : ∀ D, H1 D = none → ∀ H, Pv D l.length H → Q (.ref D) H) :
    LcOk (Its ⟨l.toArray⟩) g tt te vs σ H1 Q := fun D hD => lc_it (walkS l) (Pv D) (h0 D hD) (fun _ _ _ _ => trivial) (fun i x H H' hi p hy => by
      obtain ⟨e, c, hc, hv⟩ := hy
      subst e; subst hv
      exact hs Pv rfl D hD i c _ hc p) (hd D hD)
/-- the comprehension over a text of an element that only reads: f of each sign; all else as it was -/
theorem comp_strF {l : List Nat} {g : TG} {te : TE} {vs : List Nat} {σ : St} {H1 : Hp} {Q : VK} (f : Nat → V) (hl : l.length ≤ sizeLine)
    (hs : ∀ c H, c ∈ l → Same H1 H → ∀ R : VK, R (f c) H → g (sv [c]) (wipe σ vs) H fun σ2 H2 => wipe σ2 vs = wipe σ vs ∧ te σ2 H2 R)
    (hd : ∀ D H, H1 D = none → Same H1 H → H D = some (.lst (l.map f)) → Q (.ref D) H) : LcOk (Its ⟨l.toArray⟩) g tYes te vs σ H1 Q := by
  refine comp_str (fun D i H => Same H1 H ∧ H D = some (.lst ((l.take i).map f))) (fun D hD => ⟨fun b x e => by rw [upd_ne (ne_of_none e hD)]; exact e, by rw [upd_same]; rfl⟩) (fun M hM D hD i c H hc hP => ?_) (fun D hD H hP => hd D H hD hP.1 (by rw [List.take_length] at hP; exact hP.2))
  have hi : i < l.length := (List.getElem?_eq_some_iff.mp hc).1
  have h1 := hs c H (List.mem_of_getElem? hc) hP.1 (fun y H4 => ∃ acc, H4 D = some (.lst acc) ∧ acc.length < sizeLine ∧ M D (i + 1) (upd H4 D (.lst (acc ++ [y])))) ⟨_, hP.2, by rw [List.length_map, List.length_take]; omega, by
    rw [hM]
    refine ⟨fun b x e => by rw [upd_ne (ne_of_none e hD)]; exact hP.1 b x e, ?_⟩
    rw [upd_same, List.take_add_one, hc, List.map_append]; rfl⟩
  simpa only [tYes, if_true] using h1
end
/-! lists and tuples that are tracked -/
section
variable {X : Cx}
theorem ix_lst : IxR X (fun x y H Q => ∃ p i xs v, x = .ref p ∧ y = .int i ∧ H p = some (.lst xs) ∧ atI xs i = some v ∧ Q v H) := by
  intro value slice pins s σ H x y v u Q I rx ry h hs
  obtain ⟨p, i, xs, w, rfl, rfl, hp, hi, q⟩ := h
  exact ix_list value slice pins s σ H _ _ v u Q I rx ry ⟨p, xs, i, w, rfl, rfl, .inl (.inl hp), hi, q⟩ hs
theorem ix_tpl : IxR X (fun x y H Q => ∃ p i xs v, x = .ref p ∧ y = .int i ∧ H p = some (.tup xs) ∧ atI xs i = some v ∧ Q v H) := by
  intro value slice pins s σ H x y v u Q I rx ry h hs
  obtain ⟨p, i, xs, w, rfl, rfl, hp, hi, q⟩ := h
  exact ix_tup value slice pins s σ H _ _ v u Q I rx ry ⟨p, xs, i, w, rfl, rfl, .inl (.inl hp), hi, q⟩ hs
theorem call_lenL : CallR X (.builtin "len") (fun xs H Q => ∃ p ys, xs = [.ref p] ∧ H p = some (.lst ys) ∧ Q (.int ys.length) H) := by
  intro pins s σ H vs us Q I r h
  obtain ⟨p, ys, rfl, hp, q⟩ := h
  exact call_len_seq pins s σ H _ us Q I r ⟨p, ys, rfl, .inl (.inl (.inl hp)), q⟩
theorem call_lenT : CallR X (.builtin "len") (fun xs H Q => ∃ p ys, xs = [.ref p] ∧ H p = some (.tup ys) ∧ Q (.int ys.length) H) := by
  intro pins s σ H vs us Q I r h
  obtain ⟨p, ys, rfl, hp, q⟩ := h
  exact call_len_seq pins s σ H _ us Q I r ⟨p, ys, rfl, .inr (.inl (.inl hp)), q⟩
theorem PE.imp {e : Expr} {t t' : TE} (h : PE X e t) (i : ∀ σ H Q, t' σ H Q → t σ H Q) : PE X e t' := ⟨fun pins s σ H Q I q => h.run pins s σ H Q I (i σ H Q q)⟩
theorem tyL {K : PySem.W.Frag} {p : Addr} {xs : List V} {H : Hp} (h : H p = some (.lst xs)) : tyV K "list" (.ref p) H := Or.inl ⟨rfl, xs, .inl (.inl h)⟩
theorem atI0 {α : Type} {x : α} {l : List α} : atI (x :: l) 0 = some x := by
  unfold atI ixN
  simp
theorem atI1 {α : Type} {x y : α} {l : List α} : atI (x :: y :: l) 1 = some y := by
  unfold atI ixN
  rw [if_pos (by decide), if_pos (by simp only [List.length_cons]; omega)]
  rfl
theorem atI2 {α : Type} {x y z : α} {l : List α} : atI (x :: y :: z :: l) 2 = some z := by
  unfold atI ixN
  rw [if_pos (by decide), if_pos (by simp only [List.length_cons]; omega)]
  rfl
theorem ixN31 : ixN 3 1 = some 1 := by decide
theorem ixN32 : ixN 3 2 = some 2 := by decide
theorem ixN30 : ixN 3 0 = some 0 := by decide
end
section
variable {X : Cx}
theorem op_mulC {c : Int} (h : -(2 ^ 64) < c ∧ c < 2 ^ 64) : OpR X (binaryOp .Mult) (fun x y H Q => ∃ i, x = .int i ∧ y = .int c ∧ Q (.int (i * c)) H) := by
  intro pins s σ H x y v u Q I rx ry q
  obtain ⟨i, rfl, rfl, q⟩ := q
  exact op_mul pins s σ H _ _ v u Q I rx ry ⟨i, c, rfl, rfl, .inr h, q⟩
theorem op_mulI : OpR X (binaryOp .Mult) (fun x y H Q => ∃ i j, x = .int i ∧ y = .int j ∧ (-(2 ^ 64) < i ∧ i < 2 ^ 64) ∧ Q (.int (i * j)) H) := by
  intro pins s σ H x y v u Q I rx ry q
  obtain ⟨i, j, rfl, rfl, h, q⟩ := q
  exact op_mul pins s σ H _ _ v u Q I rx ry ⟨i, j, rfl, rfl, .inl h, q⟩
theorem op_modC {c : Int} (h : 0 < c) : OpR X (binaryOp .Mod) (fun x y H Q => ∃ i, x = .int i ∧ y = .int c ∧ Q (.int (i % c)) H) := by
  intro pins s σ H x y v u Q I rx ry q
  obtain ⟨i, rfl, rfl, q⟩ := q
  refine op_modN pins s σ H _ _ v u Q I rx ry ⟨i, c, rfl, rfl, by omega, ?_⟩
  show Q (.int (i.fmod c)) H
  rw [Int.fmod_eq_emod_of_nonneg i (by omega)]
  exact q
theorem op_modP : OpR X (binaryOp .Mod) (fun x y H Q => ∃ i j, x = .int i ∧ y = .int j ∧ 0 < j ∧ Q (.int (i % j)) H) := by
  intro pins s σ H x y v u Q I rx ry q
  obtain ⟨i, j, rfl, rfl, h, q⟩ := q
  refine op_modN pins s σ H _ _ v u Q I rx ry ⟨i, j, rfl, rfl, by omega, ?_⟩
  show Q (.int (i.fmod j)) H
  rw [Int.fmod_eq_emod_of_nonneg i (by omega)]
  exact q
theorem op_divC {c : Int} (h : 0 < c ∧ c < 1073741824) : OpR X (binaryOp .FloorDiv) (fun x y H Q => ∃ i, x = .int i ∧ y = .int c ∧ Q (.int (i / c)) H) := by
  intro pins s σ H x y v u Q I rx ry q
  obtain ⟨i, rfl, rfl, q⟩ := q
  refine op_fdivN pins s σ H _ _ v u Q I rx ry ⟨i, c, rfl, rfl, ⟨by omega, by omega⟩, ?_⟩
  show Q (.int (i.fdiv c)) H
  rw [Int.fdiv_eq_ediv_of_nonneg i (by omega)]
  exact q
theorem op_divP : OpR X (binaryOp .FloorDiv) (fun x y H Q => ∃ i j, x = .int i ∧ y = .int j ∧ (0 < j ∧ j < 1073741824) ∧ Q (.int (i / j)) H) := by
  intro pins s σ H x y v u Q I rx ry q
  obtain ⟨i, j, rfl, rfl, h, q⟩ := q
  refine op_fdivN pins s σ H _ _ v u Q I rx ry ⟨i, j, rfl, rfl, ⟨by omega, by omega⟩, ?_⟩
  show Q (.int (i.fdiv j)) H
  rw [Int.fdiv_eq_ediv_of_nonneg i (by omega)]
  exact q
theorem op_powC {a b v : Int} (h : CPow a b) (hv : a ^ b.toNat = v) : OpR X (binaryOp .Pow) (fun x y H Q => x = .int a ∧ y = .int b ∧ Q (.int v) H) := by
  intro pins s σ H x y v u Q I rx ry q
  obtain ⟨rfl, rfl, q⟩ := q
  refine op_pow pins s σ H _ _ _ _ Q I rx ry ⟨a, b, rfl, rfl, h, ?_⟩
  show Q (.int (a ^ b.toNat)) H
  rw [hv]; exact q
theorem call_intI : CallR X (.type "int") (fun xs H Q => ∃ i, xs = [.int i] ∧ Q (.int i) H) := by
  intro pins s σ H vs us Q I r h
  obtain ⟨i, rfl, q⟩ := h
  exact call_int1 pins s σ H _ us Q I r (.inl ⟨i, rfl, q⟩)
end
/-- the items of a tracked list or tuple -/
def items (H : Hp) (a : Addr) : Option (List V) := match H a with
  | some (.lst xs) => some xs
  | some (.tup xs) => some xs
  | _ => none
theorem items_lst {H : Hp} {a : Addr} {xs : List V} (h : H a = some (.lst xs)) : items H a = some xs := by unfold items; rw [h]
theorem items_tup {H : Hp} {a : Addr} {xs : List V} (h : H a = some (.tup xs)) : items H a = some xs := by unfold items; rw [h]
theorem items_cases {H : Hp} {a : Addr} {xs : List V} (h : items H a = some xs) : H a = some (.lst xs) ∨ H a = some (.tup xs) := by
  unfold items at h
  split at h
  · next e => cases h; exact .inl e
  · next e => cases h; exact .inr e
  · cases h
theorem last_get {α : Type} {l : List α} {a : α} : (l ++ [a])[(l ++ [a]).length - 1]? = some a := by simp
section
variable {X : Cx}
theorem call_lenA : CallR X (.builtin "len") (fun xs H Q => ∃ p ys, xs = [.ref p] ∧ items H p = some ys ∧ Q (.int ys.length) H) := by
  intro pins s σ H vs us Q I r h
  obtain ⟨p, ys, rfl, hp, q⟩ := h
  rcases items_cases hp with hp | hp
  · exact call_len_seq pins s σ H _ us Q I r ⟨p, ys, rfl, .inl (.inl (.inl hp)), q⟩
  · exact call_len_seq pins s σ H _ us Q I r ⟨p, ys, rfl, .inr (.inl (.inl hp)), q⟩
theorem ix_any : IxR X (fun x y H Q => ∃ p i xs v, x = .ref p ∧ y = .int i ∧ items H p = some xs ∧ atI xs i = some v ∧ Q v H) := by
  intro value slice pins s σ H x y v u Q I rx ry h hs
  obtain ⟨p, i, xs, w, rfl, rfl, hp, hi, q⟩ := h
  rcases items_cases hp with hp | hp
  · exact ix_seq value slice pins s σ H _ _ v u Q I rx ry (.inl ⟨p, xs, i, w, rfl, rfl, .inl (.inl hp), hi, q⟩) hs
  · exact ix_seq value slice pins s σ H _ _ v u Q I rx ry (.inr (.inl ⟨p, xs, i, w, rfl, rfl, .inl (.inl hp), hi, q⟩)) hs
def gTupT (n : Nat) (t : TGs) : TG := fun v σ H Q => ∃ a xs, v = .ref a ∧ H a = some (.tup xs) ∧ xs.length = n ∧ t xs σ H Q
def gUnlT (n : Nat) (t : TGs) : TG := fun v σ H Q => ∃ a xs, v = .ref a ∧ H a = some (.lst xs) ∧ xs.length = n ∧ t xs σ H Q
theorem PG.imp {e : Expr} {t t' : TG} (h : PG X e t) (i : ∀ v σ H Q, t' v σ H Q → t v σ H Q) : PG X e t' := ⟨fun pins s σ H v u Q I r q => h.run pins s σ H v u Q I r (i v σ H Q q)⟩
theorem pg_tupT {es : List Expr} {k : Nat} {t : TGs} {pos : Pos} (n : Nat) (hc : X.calm = true) (h : PGs X es t)
    (hn : (assignEach es X.env).length = n := by rfl) (hst : (assignEach es X.env).findIdx? (·.1) = none := by rfl) : PG X (.Tuple es k pos) (gTupT n t) :=
  G.PG.imp (pg_tup hc h hn hst) fun v σ H Q ⟨a, xs, e, h1, h2, h3⟩ => ⟨a, xs, e, .inl (.inl h1), h2, h3⟩
theorem pg_unlT {es : List Expr} {k : Nat} {t : TGs} {pos : Pos} (n : Nat) (hc : X.calm = true) (h : PGs X es t)
    (hn : (assignEach es X.env).length = n := by rfl) (hst : (assignEach es X.env).findIdx? (·.1) = none := by rfl) : PG X (.Tuple es k pos) (gUnlT n t) :=
  G.PG.imp (pg_unl hc h hn hst) fun v σ H Q ⟨a, xs, e, h1, h2, h3⟩ => ⟨a, xs, e, .inl (.inl h1), h2, h3⟩
end
/-! isinstance, by what a value shows -/
def isI : V → Bool | .int _ => true | .bl _ => true | _ => false
def isB : V → Bool | .bl _ => true | _ => false
def isS : V → Bool | .str _ => true | _ => false
def isT (H : Hp) : V → Bool
  | .ref a => match H a with | some (.tup _) => true | _ => false
  | _ => false
def isL (H : Hp) : V → Bool
  | .ref a => match H a with | some (.lst _) => true | _ => false
  | _ => false
def Kn (H : Hp) : V → Prop
  | .non => True
  | .bl _ => True
  | .int _ => True
  | .str _ => True
  | .ref a => (∃ xs, H a = some (.lst xs)) ∨ (∃ xs, H a = some (.tup xs)) ∨ ∃ kvs, H a = some (.dK kvs)
  | _ => False
section
variable {X : Cx}
theorem isi_any {c : String} {f : Hp → V → Bool} (hf : ∀ (K : PySem.W.Frag) (H : Hp) (x : V), Kn H x → ∃ t, TyX K H x t ∧ PySem.W.kitOne K t (.type c) = some (f H x)) :
    CallR X (.builtin "isinstance") (fun xs H Q => ∃ x, xs = [x, .ty c] ∧ Kn H x ∧ Q (.bl (f H x)) H) := by
  intro pins s σ H vs us Q I r h
  obtain ⟨x, rfl, hk, q⟩ := h
  obtain ⟨t, h1, h2⟩ := hf X.K H x hk
  exact call_isi pins s σ H _ us Q I r ⟨x, .ty c, t, _, f H x, rfl, .ty c, h1, h2, q⟩
theorem kit_int (K : PySem.W.Frag) (H : Hp) (x : V) (h : Kn H x) : ∃ t, TyX K H x t ∧ PySem.W.kitOne K t (.type "int") = some (isI x) := by
  cases x with
  | non => exact ⟨_, .base .non, (kit_ty (r := false) (by decide +kernel) : PySem.W.kitOne K (.type "NoneType") (.type "int") = some false)⟩
  | bl b => exact ⟨_, .base (.bl b), (kit_ty (r := true) (by decide +kernel) : PySem.W.kitOne K (.type "bool") (.type "int") = some true)⟩
  | int i => exact ⟨_, .base (.int i), (kit_ty (r := true) (by decide +kernel) : PySem.W.kitOne K (.type "int") (.type "int") = some true)⟩
  | str z => exact ⟨_, .base (.str z), (kit_ty (r := false) (by decide +kernel) : PySem.W.kitOne K (.type "str") (.type "int") = some false)⟩
  | byt b => exact h.elim
  | flt b => exact h.elim
  | ty n => exact h.elim
  | ref a =>
    rcases h with ⟨xs, e⟩ | ⟨xs, e⟩ | ⟨kvs, e⟩
    · exact ⟨_, .base (.lst e), (kit_ty (r := false) (by decide +kernel) : PySem.W.kitOne K (.type "list") (.type "int") = some false)⟩
    · exact ⟨_, .base (.tup e), (kit_ty (r := false) (by decide +kernel) : PySem.W.kitOne K (.type "tuple") (.type "int") = some false)⟩
    · exact ⟨_, .base (.dK e), (kit_ty (r := false) (by decide +kernel) : PySem.W.kitOne K (.type "dict") (.type "int") = some false)⟩
theorem kit_bool (K : PySem.W.Frag) (H : Hp) (x : V) (h : Kn H x) : ∃ t, TyX K H x t ∧ PySem.W.kitOne K t (.type "bool") = some (isB x) := by
  cases x with
  | non => exact ⟨_, .base .non, (kit_ty (r := false) (by decide +kernel) : PySem.W.kitOne K (.type "NoneType") (.type "bool") = some false)⟩
  | bl b => exact ⟨_, .base (.bl b), (kit_ty (r := true) (by decide +kernel) : PySem.W.kitOne K (.type "bool") (.type "bool") = some true)⟩
  | int i => exact ⟨_, .base (.int i), (kit_ty (r := false) (by decide +kernel) : PySem.W.kitOne K (.type "int") (.type "bool") = some false)⟩
  | str z => exact ⟨_, .base (.str z), (kit_ty (r := false) (by decide +kernel) : PySem.W.kitOne K (.type "str") (.type "bool") = some false)⟩
  | byt b => exact h.elim
  | flt b => exact h.elim
  | ty n => exact h.elim
  | ref a =>
    rcases h with ⟨xs, e⟩ | ⟨xs, e⟩ | ⟨kvs, e⟩
    · exact ⟨_, .base (.lst e), (kit_ty (r := false) (by decide +kernel) : PySem.W.kitOne K (.type "list") (.type "bool") = some false)⟩
    · exact ⟨_, .base (.tup e), (kit_ty (r := false) (by decide +kernel) : PySem.W.kitOne K (.type "tuple") (.type "bool") = some false)⟩
    · exact ⟨_, .base (.dK e), (kit_ty (r := false) (by decide +kernel) : PySem.W.kitOne K (.type "dict") (.type "bool") = some false)⟩
theorem kit_str (K : PySem.W.Frag) (H : Hp) (x : V) (h : Kn H x) : ∃ t, TyX K H x t ∧ PySem.W.kitOne K t (.type "str") = some (isS x) := by
  cases x with
  | non => exact ⟨_, .base .non, (kit_ty (r := false) (by decide +kernel) : PySem.W.kitOne K (.type "NoneType") (.type "str") = some false)⟩
  | bl b => exact ⟨_, .base (.bl b), (kit_ty (r := false) (by decide +kernel) : PySem.W.kitOne K (.type "bool") (.type "str") = some false)⟩
  | int i => exact ⟨_, .base (.int i), (kit_ty (r := false) (by decide +kernel) : PySem.W.kitOne K (.type "int") (.type "str") = some false)⟩
  | str z => exact ⟨_, .base (.str z), (kit_ty (r := true) (by decide +kernel) : PySem.W.kitOne K (.type "str") (.type "str") = some true)⟩
  | byt b => exact h.elim
  | flt b => exact h.elim
  | ty n => exact h.elim
  | ref a =>
    rcases h with ⟨xs, e⟩ | ⟨xs, e⟩ | ⟨kvs, e⟩
    · exact ⟨_, .base (.lst e), (kit_ty (r := false) (by decide +kernel) : PySem.W.kitOne K (.type "list") (.type "str") = some false)⟩
    · exact ⟨_, .base (.tup e), (kit_ty (r := false) (by decide +kernel) : PySem.W.kitOne K (.type "tuple") (.type "str") = some false)⟩
    · exact ⟨_, .base (.dK e), (kit_ty (r := false) (by decide +kernel) : PySem.W.kitOne K (.type "dict") (.type "str") = some false)⟩
theorem kit_tup (K : PySem.W.Frag) (H : Hp) (x : V) (h : Kn H x) : ∃ t, TyX K H x t ∧ PySem.W.kitOne K t (.type "tuple") = some (isT H x) := by
  cases x with
  | non => exact ⟨_, .base .non, (kit_ty (r := false) (by decide +kernel) : PySem.W.kitOne K (.type "NoneType") (.type "tuple") = some false)⟩
  | bl b => exact ⟨_, .base (.bl b), (kit_ty (r := false) (by decide +kernel) : PySem.W.kitOne K (.type "bool") (.type "tuple") = some false)⟩
  | int i => exact ⟨_, .base (.int i), (kit_ty (r := false) (by decide +kernel) : PySem.W.kitOne K (.type "int") (.type "tuple") = some false)⟩
  | str z => exact ⟨_, .base (.str z), (kit_ty (r := false) (by decide +kernel) : PySem.W.kitOne K (.type "str") (.type "tuple") = some false)⟩
  | byt b => exact h.elim
  | flt b => exact h.elim
  | ty n => exact h.elim
  | ref a =>
    rcases h with ⟨xs, e⟩ | ⟨xs, e⟩ | ⟨kvs, e⟩
    · exact ⟨_, .base (.lst e), by simp only [isT, e]; exact (kit_ty (r := false) (by decide +kernel) : PySem.W.kitOne K (.type "list") (.type "tuple") = some false)⟩
    · exact ⟨_, .base (.tup e), by simp only [isT, e]; exact (kit_ty (r := true) (by decide +kernel) : PySem.W.kitOne K (.type "tuple") (.type "tuple") = some true)⟩
    · exact ⟨_, .base (.dK e), by simp only [isT, e]; exact (kit_ty (r := false) (by decide +kernel) : PySem.W.kitOne K (.type "dict") (.type "tuple") = some false)⟩
theorem kit_lst (K : PySem.W.Frag) (H : Hp) (x : V) (h : Kn H x) : ∃ t, TyX K H x t ∧ PySem.W.kitOne K t (.type "list") = some (isL H x) := by
  cases x with
  | non => exact ⟨_, .base .non, (kit_ty (r := false) (by decide +kernel) : PySem.W.kitOne K (.type "NoneType") (.type "list") = some false)⟩
  | bl b => exact ⟨_, .base (.bl b), (kit_ty (r := false) (by decide +kernel) : PySem.W.kitOne K (.type "bool") (.type "list") = some false)⟩
  | int i => exact ⟨_, .base (.int i), (kit_ty (r := false) (by decide +kernel) : PySem.W.kitOne K (.type "int") (.type "list") = some false)⟩
  | str z => exact ⟨_, .base (.str z), (kit_ty (r := false) (by decide +kernel) : PySem.W.kitOne K (.type "str") (.type "list") = some false)⟩
  | byt b => exact h.elim
  | flt b => exact h.elim
  | ty n => exact h.elim
  | ref a =>
    rcases h with ⟨xs, e⟩ | ⟨xs, e⟩ | ⟨kvs, e⟩
    · exact ⟨_, .base (.lst e), by simp only [isL, e]; exact (kit_ty (r := true) (by decide +kernel) : PySem.W.kitOne K (.type "list") (.type "list") = some true)⟩
    · exact ⟨_, .base (.tup e), by simp only [isL, e]; exact (kit_ty (r := false) (by decide +kernel) : PySem.W.kitOne K (.type "tuple") (.type "list") = some false)⟩
    · exact ⟨_, .base (.dK e), by simp only [isL, e]; exact (kit_ty (r := false) (by decide +kernel) : PySem.W.kitOne K (.type "dict") (.type "list") = some false)⟩
theorem is_int : CallR X (.builtin "isinstance") (fun xs H Q => ∃ x, xs = [x, .ty "int"] ∧ Kn H x ∧ Q (.bl (isI x)) H) := isi_any (f := fun _ x => isI x) kit_int
theorem is_bool : CallR X (.builtin "isinstance") (fun xs H Q => ∃ x, xs = [x, .ty "bool"] ∧ Kn H x ∧ Q (.bl (isB x)) H) := isi_any (f := fun _ x => isB x) kit_bool
theorem is_str : CallR X (.builtin "isinstance") (fun xs H Q => ∃ x, xs = [x, .ty "str"] ∧ Kn H x ∧ Q (.bl (isS x)) H) := isi_any (f := fun _ x => isS x) kit_str
theorem is_tup : CallR X (.builtin "isinstance") (fun xs H Q => ∃ x, xs = [x, .ty "tuple"] ∧ Kn H x ∧ Q (.bl (isT H x)) H) := isi_any (f := isT) kit_tup
theorem is_lst : CallR X (.builtin "isinstance") (fun xs H Q => ∃ x, xs = [x, .ty "list"] ∧ Kn H x ∧ Q (.bl (isL H x)) H) := isi_any (f := isL) kit_lst
theorem Kn_sv {H : Hp} {l : List Nat} : Kn H (sv l) = True := rfl
theorem Kn_int {H : Hp} {i : Int} : Kn H (.int i) = True := rfl
theorem Kn_bl {H : Hp} {i : Bool} : Kn H (.bl i) = True := rfl
theorem Kn_non {H : Hp} : Kn H .non = True := rfl
theorem isI_int {i : Int} : isI (.int i) = true := rfl
theorem isI_bl {i : Bool} : isI (.bl i) = true := rfl
theorem isI_sv {l : List Nat} : isI (sv l) = false := rfl
theorem isI_ref {a : Addr} : isI (.ref a) = false := rfl
theorem isI_non : isI .non = false := rfl
theorem isB_int {i : Int} : isB (.int i) = false := rfl
theorem isB_bl {i : Bool} : isB (.bl i) = true := rfl
theorem isB_sv {l : List Nat} : isB (sv l) = false := rfl
theorem isB_ref {a : Addr} : isB (.ref a) = false := rfl
theorem isB_non : isB .non = false := rfl
theorem isS_int {i : Int} : isS (.int i) = false := rfl
theorem isS_bl {i : Bool} : isS (.bl i) = false := rfl
theorem isS_sv {l : List Nat} : isS (sv l) = true := rfl
theorem isS_ref {a : Addr} : isS (.ref a) = false := rfl
theorem isS_non : isS .non = false := rfl
theorem isT_int {H : Hp} {i : Int} : isT H (.int i) = false := rfl
theorem isT_bl {H : Hp} {i : Bool} : isT H (.bl i) = false := rfl
theorem isT_sv {H : Hp} {l : List Nat} : isT H (sv l) = false := rfl
theorem isT_non {H : Hp} : isT H .non = false := rfl
theorem isL_int {H : Hp} {i : Int} : isL H (.int i) = false := rfl
theorem isL_bl {H : Hp} {i : Bool} : isL H (.bl i) = false := rfl
theorem isL_sv {H : Hp} {l : List Nat} : isL H (sv l) = false := rfl
theorem isL_non {H : Hp} : isL H .non = false := rfl
theorem isT_tup {H : Hp} {a : Addr} {xs : List V} (h : H a = some (.tup xs)) : isT H (.ref a) = true := by simp only [isT, h]
theorem isT_lst {H : Hp} {a : Addr} {xs : List V} (h : H a = some (.lst xs)) : isT H (.ref a) = false := by simp only [isT, h]
theorem isL_tup {H : Hp} {a : Addr} {xs : List V} (h : H a = some (.tup xs)) : isL H (.ref a) = false := by simp only [isL, h]
theorem isL_lst {H : Hp} {a : Addr} {xs : List V} (h : H a = some (.lst xs)) : isL H (.ref a) = true := by simp only [isL, h]
theorem Kn_tup {H : Hp} {a : Addr} {xs : List V} (h : H a = some (.tup xs)) : Kn H (.ref a) := .inr (.inl ⟨xs, h⟩)
theorem Kn_lst {H : Hp} {a : Addr} {xs : List V} (h : H a = some (.lst xs)) : Kn H (.ref a) := .inl ⟨xs, h⟩
theorem scal_bl {a b : Bool} : scal (.bl a) (.bl b) = true := rfl
theorem scal_int {a b : Int} : scal (.int a) (.int b) = true := rfl
theorem scal_sv {a b : List Nat} : scal (sv a) (sv b) = true := rfl
theorem sv_str {l : List Nat} {x : Str} : (sv l = V.str x) = (Str.mk l.toArray = x) := propext ⟨fun h => V.str.inj h, fun h => by rw [← h]; rfl⟩
theorem call_allL (hc : X.calm = true) : CallR X (.builtin "all") (fun vs H Q => ∃ (a : Addr) (bs : List Bool), vs = [.ref a] ∧ H a = some (.lst (bs.map V.bl)) ∧ Q (.bl (bs.all id)) H) := by
  intro pins s σ H vs us Q I r h
  obtain ⟨a, bs, rfl, ha, q⟩ := h
  exact cr_all hc pins s σ H _ us Q I r ⟨a, bs, rfl, .inl (.inl ha), q⟩
theorem call_anyL (hc : X.calm = true) : CallR X (.builtin "any") (fun vs H Q => ∃ (a : Addr) (bs : List Bool), vs = [.ref a] ∧ H a = some (.lst (bs.map V.bl)) ∧ Q (.bl (bs.any id)) H) := by
  intro pins s σ H vs us Q I r h
  obtain ⟨a, bs, rfl, ha, q⟩ := h
  exact cr_any hc pins s σ H _ us Q I r ⟨a, bs, rfl, .inl (.inl ha), q⟩
end
theorem ite_i {c A B : Prop} [Decidable c] (h1 : c → A) (h2 : ¬ c → B) : if c then A else B := by
  by_cases h : c
  · rw [if_pos h]; exact h1 h
  · rw [if_neg h]; exact h2 h
theorem atI_of {α : Type} {xs : List α} {i : Int} {v : α} (h : xs[i.toNat]? = some v) (h0 : 0 ≤ i) : atI xs i = some v := by
  have e : i = ((i.toNat : Nat) : Int) := by omega
  rw [e]; exact atI_nat h
/-! a def of the top -/
structure DefC (K : PySem.W.Frag) (mg : Str → Option Value) (x : Str) (st : Stmt) (ps : List Str) where
  f : Addr
  fd : FuncData
  g : mg x = some (.ref f)
  F : Fun K x x st f fd
  b : Binds K fd ps []
  bt : ∀ (s : Shared) (us : List Value), us.length = ps.length → BindsTo s fd ⟨us, []⟩ (ps.zip us)
abbrev DefC.Ok {K : PySem.W.Frag} {mg : Str → Option Value} {x : Str} {st : Stmt} {ps : List Str} (D : DefC K mg x st ps) (P : Program) (w : World) (base : Heap) (CX : CXT) (k : Nat) (sp : Sp) : Prop := FnOk P w K mg base CX k D.f D.fd ps sp
def mkDef {K : PySem.W.Frag} {mg : Str → Option Value} {h : Heap} {x : Str} {st : Stmt} {ps : List Str} {f : Addr} {oc : Value} {od an : Option Addr} {osl : Array (Option Value)} {kV doc pm cdv ct : Value} (KX : K.In h) (G : h.Ns mainGlobals mg)
    (a : PySem.W.nsIn K mainGlobals x = some (some (.ref f))) (l : K.lookup f = some ⟨oc, od, .func (PySem.W.fnOf x x (defArgs st) (defBody st) (defScope st) .none kV doc pm an cdv ct), osl⟩)
    (c : PySem.W.codeIn K cdv x = true) (k : PySem.W.keepIn K (.ref f) = true)
    (hb : ∀ (kV doc pm : Value) (an : Option Addr) (cdv ct : Value) (us : List Value), us.length = ps.length → bindArgs (PySem.W.fnOf x x (defArgs st) (defBody st) (defScope st) .none kV doc pm an cdv ct) ⟨us, []⟩ = pure (ps.zip us)) : DefC K mg x st ps :=
  ⟨f, _, PySem.W.mg_of KX G a, fun_mk (st := st) l c k, (fun_mk (st := st) l c k).binds hb, fun s us hl => .of_eq (hb kV doc pm an cdv ct us hl)⟩
section
variable {X : Cx} {x : Str} {st : Stmt} {ps : List Str} {k : Nat} {sp : Sp} {p pos : Pos} {e : Expr} {es : List Expr} {t : TA}
theorem pe_callD (D : DefC X.K X.mg x st ps) (F : FnOk X.prog X.w X.K X.mg X.base CX0 k D.f D.fd ps sp) (hr : Room k X.A) (ha : PA X (e :: es) t) (hg : Gl X x := by rfl) (hdb : (x == ("__debug__" : Str)) = false := by decide)
    (he : starEach (e :: es) X.env = (false, eval e X.env) :: starEach es X.env := by rfl) (hpl : (backTo pos (starEach es X.env)).any (·.1) = false := by rfl) : PE X (.Call (.Name x p) (e :: es) [] pos) (tCall sp [] E0 t) :=
  pe_call F hr hg D.g D.F.kp D.b .nil pass0 ha hdb he hpl
end
end G

namespace G
open PySem PySem.Spec L2
/-! the stream of drawn numbers: a list [script, cell, place] -/
def Strm (H : Hp) (st : Addr) : Prop := ∃ (sc : Addr) (c k : Int) (ns : List Int), H st = some (.lst [.ref sc, .int c, .int k]) ∧ H sc = some (.lst (ns.map V.int)) ∧ 0 ≤ c ∧ 0 ≤ k
/-- all but the stream is as it was -/
def Adv (st : Addr) (H H' : Hp) : Prop := (∀ b o, b ≠ st → H b = some o → H' b = some o) ∧ Strm H' st
theorem Strm.ne {H : Hp} {st sc : Addr} {c k : Int} {ns : List Int} (h1 : H st = some (.lst [.ref sc, .int c, .int k])) (h2 : H sc = some (.lst (ns.map V.int))) : sc ≠ st := by
  intro e
  rw [e, h1] at h2
  have h3 := HO.lst.inj (Option.some.inj h2)
  cases ns with
  | nil => cases h3
  | cons n r => cases h3
theorem Strm.same {H H' : Hp} {st : Addr} (h : Strm H st) (e : Same H H') : Strm H' st := by
  obtain ⟨sc, c, k, ns, h1, h2, h3, h4⟩ := h
  exact ⟨sc, c, k, ns, e _ _ h1, e _ _ h2, h3, h4⟩
theorem Strm.adv {H H' : Hp} {st : Addr} (h : Strm H st) (e : Same H H') : Adv st H H' := ⟨fun b o _ q => e b o q, h.same e⟩
theorem Adv.refl {H : Hp} {st : Addr} (h : Strm H st) : Adv st H H := ⟨fun _ _ _ q => q, h⟩
theorem Adv.trans {H H1 H2 : Hp} {st : Addr} (a : Adv st H H1) (b : Adv st H1 H2) : Adv st H H2 := ⟨fun c o n q => b.1 c o n (a.1 c o n q), b.2⟩
theorem Adv.same {H H1 H2 : Hp} {st : Addr} (a : Adv st H H1) (b : Same H1 H2) : Adv st H H2 := ⟨fun c o n q => b c o (a.1 c o n q), a.2.same b⟩
theorem Adv.free {H H' : Hp} {st b : Addr} (a : Adv st H H') (h : H' b = none) : H b = none := by
  cases e : H b with
  | none => rfl
  | some o =>
    by_cases n : b = st
    · obtain ⟨sc, c, k, ns, h1, _⟩ := a.2
      rw [n, h1] at h; cases h
    · rw [a.1 b o n e] at h; cases h
theorem Strm.some {H : Hp} {st : Addr} (h : Strm H st) : H st ≠ none := by
  obtain ⟨sc, c, k, ns, h1, _⟩ := h
  rw [h1]; intro z; cases z
theorem Strm.neNew {H : Hp} {st p : Addr} (h : Strm H st) (n : H p = none) : p ≠ st := fun e => h.some (e ▸ n)
theorem same_upd {H : Hp} {p : Addr} {o : HO} (h : H p = none) : Same H (upd H p o) := fun b x e => by
  rw [upd_ne (ne_of_none e h)]
  exact e
/-- a list at p is changed, all else as it was (p is new since H) -/
theorem same_set {H H' : Hp} {p : Addr} {o : HO} (e : Same H H') (n : H p = none) : Same H (upd H' p o) := fun b x q => by
  rw [upd_ne (ne_of_none q n)]
  exact e b x q
def spNext : Sp := fun vs H Q _ => ∃ (st : Addr) (m : Int), vs = [.ref st, .int m] ∧ Strm H st ∧ 0 < m ∧ m < 1073741824 ∧ ∀ (d : Int) (H' : Hp), 0 ≤ d → d < m → Adv st H H' → Q (.int d) H'
def spStream (K : PySem.W.Frag) : Sp := fun vs H Q _ => ∃ (a : Addr) (ns : List Int), vs = [.ref a] ∧ SqL K H a (ns.map V.int) ∧ ∀ (st : Addr) (H' : Hp), Same H H' → H st = none → Strm H' st → Q (.ref st) H'
def spLaw (K : PySem.W.Frag) : Sp := fun vs H Q _ => ∃ (a : Addr) (ns : List Int), vs = [.ref a] ∧ SqL K H a (ns.map V.int) ∧ ∀ H', Q (.bl true) H'
theorem cx_K {CX : CXT} {P : Program} {w : World} {K : PySem.W.Frag} {mg : Str → Option Value} {base : Heap} {N : List Str} {qual : Str} {scope : Scope} {f : Addr} {cd : Value} {A : Around} {outer : List Env} {s : Shared} {H : Hp} {E : XK} : (cxOf CX P w K mg base N qual scope f cd A outer s H E).K = K := rfl
end G

namespace G
/-! mathematics of words as lists of codes -/
def lcp : List Nat → List Nat → List Nat
  | x :: a, y :: b => if x = y then x :: lcp a b else []
  | _, _ => []
/-- the common ending -/
def endL (a b : List Nat) : List Nat := (lcp a.reverse b.reverse).reverse
theorem lcp_self : ∀ a, lcp a a = a
  | [] => rfl
  | x :: a => by simp [lcp, lcp_self a]
theorem lcp_comm : ∀ a b, lcp a b = lcp b a
  | [], [] => rfl
  | [], _ :: _ => rfl
  | _ :: _, [] => rfl
  | x :: a, y :: b => by
    unfold lcp
    by_cases h : x = y
    · subst h; simp [lcp_comm a b]
    · rw [if_neg h, if_neg (fun e => h e.symm)]
theorem lcp_app : ∀ c a b, lcp (c ++ a) (c ++ b) = c ++ lcp a b
  | [], _, _ => rfl
  | x :: c, a, b => by simp [lcp, lcp_app c a b]
theorem lcp_len : ∀ a b, (lcp a b).length ≤ a.length
  | [], _ => by simp [lcp]
  | x :: a, [] => by simp [lcp]
  | x :: a, y :: b => by
    unfold lcp
    split
    · have := lcp_len a b; simp; omega
    · simp
theorem lcp_take : ∀ a b n, n ≤ (lcp a b).length ↔ (n ≤ a.length ∧ n ≤ b.length ∧ a.take n = b.take n)
  | [], b, n => by simp [lcp]; rintro rfl; simp
  | x :: a, [], n => by simp [lcp]; intro h; omega
  | x :: a, y :: b, 0 => by simp
  | x :: a, y :: b, n + 1 => by
    unfold lcp
    by_cases h : x = y
    · subst h
      simp [lcp_take a b n]
    · simp [h]
theorem endL_self (a : List Nat) : endL a a = a := by simp [endL, lcp_self]
theorem endL_comm (a b : List Nat) : endL a b = endL b a := by simp [endL, lcp_comm]
theorem endL_app (a b c : List Nat) : endL (a ++ c) (b ++ c) = endL a b ++ c := by simp [endL, lcp_app]
theorem endL_len (a b : List Nat) : (endL a b).length ≤ a.length := by
  have := lcp_len a.reverse b.reverse
  simpa [endL] using this
theorem endL_trans {a b c : List Nat} {k : Nat} (h1 : k ≤ (endL a b).length) (h2 : k ≤ (endL b c).length) : k ≤ (endL a c).length := by
  simp only [endL, List.length_reverse] at *
  rw [lcp_take] at *
  exact ⟨h1.1, h2.2.1, h1.2.2.trans h2.2.2⟩
theorem endL_drop (a b : List Nat) : endL a b = a.drop (a.length - (endL a b).length) := by
  have h := (lcp_take a.reverse b.reverse (lcp a.reverse b.reverse).length).mp (Nat.le_refl _)
  have e : lcp a.reverse b.reverse = a.reverse.take (lcp a.reverse b.reverse).length := by
    have : ∀ a b : List Nat, lcp a b = a.take (lcp a b).length := by
      intro a
      induction a with
      | nil => intro b; simp [lcp]
      | cons x a ih =>
        intro b
        cases b with
        | nil => simp [lcp]
        | cons y b =>
          unfold lcp
          by_cases h : x = y
          · rw [if_pos h]; simp only [List.length_cons, List.take_succ_cons]; rw [← ih b]
          · rw [if_neg h]; simp
    exact this _ _
  unfold endL
  rw [List.length_reverse]
  conv => lhs; rw [e]
  rw [List.reverse_take]
  simp
/-- the next sign from the end: whether the common ending is longer than n -/
theorem lcp_step {a b : List Nat} {n : Nat} (h : n ≤ (lcp a b).length) : n < (lcp a b).length ↔ ∃ x, a[n]? = some x ∧ b[n]? = some x := by
  have h0 := (lcp_take a b n).mp h
  constructor
  · intro hn
    have h1 := (lcp_take a b (n + 1)).mp hn
    have ha : n < a.length := by omega
    have hb : n < b.length := by omega
    refine ⟨a[n], by simp [ha], ?_⟩
    have e : (a.take (n + 1))[n]? = (b.take (n + 1))[n]? := by rw [h1.2.2]
    rw [List.getElem?_take_of_lt (by omega), List.getElem?_take_of_lt (by omega)] at e
    rw [← e]; simp [ha]
  · rintro ⟨x, ha, hb⟩
    have la : n < a.length := (List.getElem?_eq_some_iff.mp ha).1
    have lb : n < b.length := (List.getElem?_eq_some_iff.mp hb).1
    refine (lcp_take a b (n + 1)).mpr ⟨by omega, by omega, ?_⟩
    rw [List.take_add_one, List.take_add_one, h0.2.2, ha, hb]
theorem rev_get {a : List Nat} {n : Nat} (h : n < a.length) : a.reverse[n]? = a[a.length - 1 - n]? := by
  rw [List.getElem?_reverse h]
theorem endL_step {a b : List Nat} {n : Nat} (h : n ≤ (endL a b).length) : n < (endL a b).length ↔ (n < a.length ∧ n < b.length ∧ a[a.length - 1 - n]? = b[b.length - 1 - n]?) := by
  simp only [endL, List.length_reverse] at *
  rw [lcp_step h]
  constructor
  · rintro ⟨x, ha, hb⟩
    have la : n < a.length := by have := (List.getElem?_eq_some_iff.mp ha).1; simpa using this
    have lb : n < b.length := by have := (List.getElem?_eq_some_iff.mp hb).1; simpa using this
    rw [rev_get la] at ha
    rw [rev_get lb] at hb
    exact ⟨la, lb, ha.trans hb.symm⟩
  · rintro ⟨la, lb, e⟩
    refine ⟨a[a.length - 1 - n], ?_, ?_⟩
    · rw [rev_get la]; simp [show a.length - 1 - n < a.length by omega]
    · rw [rev_get lb, ← e]; simp [show a.length - 1 - n < a.length by omega]
/-- letters a to z, at most 500 -/
def Az (l : List Nat) : Prop := ∀ c ∈ l, 97 ≤ c ∧ c ≤ 122
def Plain (l : List Nat) : Prop := l.length ≤ 500 ∧ Az l
theorem Az.app {a b : List Nat} (h : Az a) (h' : Az b) : Az (a ++ b) := fun c hc => by
  rcases List.mem_append.mp hc with hc | hc
  · exact h c hc
  · exact h' c hc
theorem Az.drop {a : List Nat} (h : Az a) (n : Nat) : Az (a.drop n) := fun c hc => h c (List.mem_of_mem_drop hc)
theorem Az.take {a : List Nat} (h : Az a) (n : Nat) : Az (a.take n) := fun c hc => h c (List.mem_of_mem_take hc)
theorem repL_len (l : List Nat) (k : Int) : (repL l k).length = k.toNat * l.length := by
  unfold repL
  rw [List.length_flatten, List.map_replicate, List.sum_replicate_nat]
theorem repL_mem {l : List Nat} {k : Int} {c : Nat} (h : c ∈ repL l k) : c ∈ l := by
  unfold repL at h
  obtain ⟨x, hx, hc⟩ := List.mem_flatten.mp h
  rw [List.eq_of_mem_replicate hx] at hc
  exact hc
theorem Az.rep {l : List Nat} (h : Az l) (k : Int) : Az (repL l k) := fun c hc => h c (repL_mem hc)
end G

namespace G
open PySem PySem.Spec L2
def spWord : Sp := fun vs H Q _ => ∃ (st : Addr) (L : List Nat) (a b : Int), vs = [.ref st, sv L, .int a, .int b] ∧ Strm H st ∧ L ≠ [] ∧ L.length ≤ 1000000 ∧ 0 ≤ a ∧ a ≤ b ∧ b ≤ 1000000 ∧
  ∀ (wd : List Nat) (H' : Hp), a ≤ wd.length → (wd.length : Int) ≤ b → (∀ c ∈ wd, c ∈ L) → Adv st H H' → Q (sv wd) H'
def spSays : Sp := fun vs H Q _ => ∃ a b : Bool, vs = [.bl a, .bl b] ∧ Q (.bl (decide (a = b))) H
/-! plain data -/
inductive Dat where
  | non | bl (b : Bool) | int (i : Int) | str (l : List Nat) | tup (ds : List Dat) | lst (ds : List Dat)
mutual
def Rp (H : Hp) : Dat → V → Prop
  | .non, v => v = .non
  | .bl b, v => v = .bl b
  | .int i, v => v = .int i
  | .str l, v => v = sv l
  | .tup ds, v => ∃ a xs, v = .ref a ∧ H a = some (.tup xs) ∧ RpL H ds xs
  | .lst ds, v => ∃ a xs, v = .ref a ∧ H a = some (.lst xs) ∧ RpL H ds xs
def RpL (H : Hp) : List Dat → List V → Prop
  | [], xs => xs = []
  | d :: ds, xs => ∃ x r, xs = x :: r ∧ Rp H d x ∧ RpL H ds r
end
mutual
theorem Rp.same {H H' : Hp} (s : Same H H') : ∀ {d : Dat} {v : V}, Rp H d v → Rp H' d v
  | .non, _, h => h
  | .bl _, _, h => h
  | .int _, _, h => h
  | .str _, _, h => h
  | .tup ds, _, h => by
    obtain ⟨a, xs, e, h1, h2⟩ := h
    exact ⟨a, xs, e, s _ _ h1, RpL.same s h2⟩
  | .lst ds, _, h => by
    obtain ⟨a, xs, e, h1, h2⟩ := h
    exact ⟨a, xs, e, s _ _ h1, RpL.same s h2⟩
theorem RpL.same {H H' : Hp} (s : Same H H') : ∀ {ds : List Dat} {xs : List V}, RpL H ds xs → RpL H' ds xs
  | [], _, h => h
  | _ :: _, _, h => by
    obtain ⟨x, r, e, h1, h2⟩ := h
    exact ⟨x, r, e, Rp.same s h1, RpL.same s h2⟩
end
mutual
def Dat.sz : Dat → Nat
  | .tup ds => 1 + Dat.szL ds
  | .lst ds => 1 + Dat.szL ds
  | _ => 1
def Dat.szL : List Dat → Nat
  | [] => 0
  | d :: ds => d.sz + Dat.szL ds
end
theorem Dat.sz_pos : ∀ d : Dat, 0 < d.sz
  | .non => by simp [Dat.sz]
  | .bl _ => by simp [Dat.sz]
  | .int _ => by simp [Dat.sz]
  | .str _ => by simp [Dat.sz]
  | .tup _ => by simp [Dat.sz]; omega
  | .lst _ => by simp [Dat.sz]; omega
theorem Dat.szL_app : ∀ a b, Dat.szL (a ++ b) = Dat.szL a + Dat.szL b
  | [], b => by simp [Dat.szL]
  | d :: a, b => by simp [Dat.szL, Dat.szL_app a b]; omega
theorem RpL.len {H : Hp} : ∀ {ds : List Dat} {xs : List V}, RpL H ds xs → xs.length = ds.length
  | [], _, h => by rw [show _ = [] from h]; rfl
  | _ :: _, _, h => by
    obtain ⟨x, r, rfl, h1, h2⟩ := h
    simp [RpL.len h2]
theorem RpL.get {H : Hp} : ∀ {ds : List Dat} {xs : List V} {i : Nat} {d : Dat}, RpL H ds xs → ds[i]? = some d → ∃ x, xs[i]? = some x ∧ Rp H d x
  | [], _, _, _, _, e => by simp at e
  | d' :: ds, _, 0, d, h, e => by
    obtain ⟨x, r, rfl, h1, h2⟩ := h
    simp at e; subst e
    exact ⟨x, rfl, h1⟩
  | d' :: ds, _, i + 1, d, h, e => by
    obtain ⟨x, r, rfl, h1, h2⟩ := h
    simpa using RpL.get h2 (by simpa using e)
theorem Rp.kn {H : Hp} : ∀ {d : Dat} {v : V}, Rp H d v → Kn H v
  | .non, _, h => by rw [show _ = V.non from h]; trivial
  | .bl _, _, h => by rw [show _ = V.bl _ from h]; trivial
  | .int _, _, h => by rw [show _ = V.int _ from h]; trivial
  | .str _, _, h => by rw [show _ = sv _ from h]; trivial
  | .tup ds, _, h => by
    obtain ⟨a, xs, rfl, h1, h2⟩ := h
    exact .inr (.inl ⟨_, h1⟩)
  | .lst ds, _, h => by
    obtain ⟨a, xs, rfl, h1, h2⟩ := h
    exact .inl ⟨_, h1⟩
/-- the list of pairs that are to be compared: each of one datum twice (the data as in H0, the pairs as in H) -/
def Pr (H0 : Hp) (L : Addr) (H : Hp) (p : V) (d : Dat) : Prop := ∃ t x y, p = .ref t ∧ t ≠ L ∧ H t = some (.tup [x, y]) ∧ Rp H0 d x ∧ Rp H0 d y
def Prs (H0 : Hp) (L : Addr) (H : Hp) : List V → List Dat → Prop
  | [], ds => ds = []
  | p :: ps, ds => ∃ d r, ds = d :: r ∧ Pr H0 L H p d ∧ Prs H0 L H ps r
theorem Prs.app {H0 : Hp} {L : Addr} {H : Hp} : ∀ {ps qs : List V} {ds es : List Dat}, Prs H0 L H ps ds → Prs H0 L H qs es → Prs H0 L H (ps ++ qs) (ds ++ es)
  | [], _, _, _, h, h' => by rw [show _ = [] from h]; exact h'
  | _ :: _, _, _, _, h, h' => by
    obtain ⟨d, r, rfl, h1, h2⟩ := h
    exact ⟨d, r ++ _, rfl, h1, Prs.app h2 h'⟩
theorem Prs.split {H0 : Hp} {L : Addr} {H : Hp} : ∀ {ps qs : List V} {ds : List Dat}, Prs H0 L H (ps ++ qs) ds → ∃ a b, ds = a ++ b ∧ Prs H0 L H ps a ∧ Prs H0 L H qs b
  | [], _, ds, h => ⟨[], ds, rfl, rfl, h⟩
  | p :: ps, qs, ds, h => by
    obtain ⟨d, r, rfl, h1, h2⟩ := h
    obtain ⟨a, b, rfl, h3, h4⟩ := Prs.split h2
    exact ⟨d :: a, b, rfl, ⟨d, a, rfl, h1, h3⟩, h4⟩
theorem Prs.last {H0 : Hp} {L : Addr} {H : Hp} {ps : List V} {ds : List Dat} (h : Prs H0 L H ps ds) : (ps = [] ∧ ds = []) ∨ ∃ ps' p ds' d, ps = ps' ++ [p] ∧ ds = ds' ++ [d] ∧ ∃ t x y, p = .ref t ∧ t ≠ L ∧ H t = some (.tup [x, y]) ∧ Rp H0 d x ∧ Rp H0 d y ∧ Prs H0 L H ps' ds' := by
  rcases List.eq_nil_or_concat ps with rfl | ⟨ps', p, rfl⟩
  · exact .inl ⟨rfl, h⟩
  · have h := (show Prs H0 L H (ps' ++ [p]) ds by rw [← List.concat_eq_append]; exact h)
    obtain ⟨a, b, rfl, h1, d, r, rfl, ⟨t, x, y, e1, e2, e3, e4, e5⟩, hr⟩ := Prs.split h
    rw [show r = [] from hr]
    exact .inr ⟨ps', p, a, d, List.concat_eq_append, rfl, t, x, y, e1, e2, e3, e4, e5, h1⟩
theorem Prs.keep {H0 : Hp} {L : Addr} {H H' : Hp} (s : ∀ b o, b ≠ L → H b = some o → H' b = some o) : ∀ {ps : List V} {ds : List Dat}, Prs H0 L H ps ds → Prs H0 L H' ps ds
  | [], _, h => h
  | _ :: _, _, h => by
    obtain ⟨d, r, rfl, ⟨t, x, y, e1, e2, e3, e4, e5⟩, h2⟩ := h
    exact ⟨d, r, rfl, ⟨t, x, y, e1, e2, s _ _ e2 e3, e4, e5⟩, Prs.keep s h2⟩
theorem Prs.keep0 {H0 : Hp} {L : Addr} {H H' : Hp} (s : ∀ b xs, H b = some (.tup xs) → H' b = some (.tup xs)) : ∀ {ps : List V} {ds : List Dat}, Prs H0 L H ps ds → Prs H0 L H' ps ds
  | [], _, h => h
  | _ :: _, _, h => by
    obtain ⟨d, r, rfl, ⟨t, x, y, e1, e2, e3, e4, e5⟩, h2⟩ := h
    exact ⟨d, r, rfl, ⟨t, x, y, e1, e2, s _ _ e3, e4, e5⟩, Prs.keep0 s h2⟩
theorem Prs.len {H0 : Hp} {L : Addr} {H : Hp} : ∀ {ps : List V} {ds : List Dat}, Prs H0 L H ps ds → ps.length = ds.length
  | [], _, h => by rw [show _ = [] from h]; rfl
  | _ :: _, _, h => by
    obtain ⟨d, r, rfl, _, h2⟩ := h
    simp [Prs.len h2]
theorem Dat.szL_len : ∀ ds : List Dat, ds.length ≤ Dat.szL ds
  | [] => Nat.le_refl _
  | d :: ds => by
    have h1 := Dat.szL_len ds
    have h2 := Dat.sz_pos d
    simp only [Dat.szL, List.length_cons]; omega
def spSame : Sp := fun vs H Q _ => ∃ (x y : V) (d : Dat), vs = [x, y] ∧ Rp H d x ∧ Rp H d y ∧ d.sz ≤ 1000000 ∧ ∀ H', Same H H' → Q (.bl true) H'
end G

namespace Lw
open PySem PySem.Spec L2
def topS (i : Nat) : Stmt := PySem.Challenge.pw_backseen_k04_whole_endings_and_words_ali.main.body.getD i (.Pass ⟨0, 0, 0, 0⟩)
abbrev s_is_integer : Stmt := topS 6
theorem sc_is_integer : FnScope ["value"] ["value"] (defScope s_is_integer) := ⟨rfl, rfl, rfl, by decide +kernel, rfl, by decide +kernel, by decide +kernel⟩
abbrev s_is_from_to : Stmt := topS 7
theorem sc_is_from_to : FnScope ["value", "least", "most"] ["value", "least", "most"] (defScope s_is_from_to) := ⟨rfl, rfl, rfl, by decide +kernel, rfl, by decide +kernel, by decide +kernel⟩
abbrev s_is_plain : Stmt := topS 8
theorem sc_is_plain : FnScope ["value", "letter"] ["value"] (defScope s_is_plain) := ⟨rfl, rfl, rfl, by decide +kernel, rfl, by decide +kernel, by decide +kernel⟩
abbrev s_check_plain : Stmt := topS 9
theorem sc_check_plain : FnScope ["word", "name"] ["word", "name"] (defScope s_check_plain) := ⟨rfl, rfl, rfl, by decide +kernel, rfl, by decide +kernel, by decide +kernel⟩
abbrev s_check_look : Stmt := topS 10
theorem sc_check_look : FnScope ["k"] ["k"] (defScope s_check_look) := ⟨rfl, rfl, rfl, by decide +kernel, rfl, by decide +kernel, by decide +kernel⟩
abbrev s_end_of : Stmt := topS 11
theorem sc_end_of : FnScope ["one", "other", "many"] ["one", "other"] (defScope s_end_of) := ⟨rfl, rfl, rfl, by decide +kernel, rfl, by decide +kernel, by decide +kernel⟩
abbrev s_is_look : Stmt := topS 12
theorem sc_is_look : FnScope ["value"] ["value"] (defScope s_is_look) := ⟨rfl, rfl, rfl, by decide +kernel, rfl, by decide +kernel, by decide +kernel⟩
abbrev s_common_end : Stmt := topS 13
theorem sc_common_end : FnScope ["one", "other"] ["one", "other"] (defScope s_common_end) := ⟨rfl, rfl, rfl, by decide +kernel, rfl, by decide +kernel, by decide +kernel⟩
abbrev s_are_alike : Stmt := topS 14
theorem sc_are_alike : FnScope ["one", "other", "k"] ["one", "other", "k"] (defScope s_are_alike) := ⟨rfl, rfl, rfl, by decide +kernel, rfl, by decide +kernel, by decide +kernel⟩
abbrev s__law_stream : Stmt := topS 16
theorem sc__law_stream : FnScope ["script"] ["script"] (defScope s__law_stream) := ⟨rfl, rfl, rfl, by decide +kernel, rfl, by decide +kernel, by decide +kernel⟩
abbrev s__law_next : Stmt := topS 17
theorem sc__law_next : FnScope ["stream", "many", "k", "cell", "digit"] ["stream", "many"] (defScope s__law_next) := ⟨rfl, rfl, rfl, by decide +kernel, rfl, by decide +kernel, by decide +kernel⟩
abbrev s__law_word : Stmt := topS 19
theorem sc__law_word : FnScope ["stream", "letters", "least", "most", "word", "turn"] ["stream", "letters", "least", "most"] (defScope s__law_word) := ⟨rfl, rfl, rfl, by decide +kernel, rfl, by decide +kernel, by decide +kernel⟩
abbrev s__law_says : Stmt := topS 20
theorem sc__law_says : FnScope ["actual", "due"] ["actual", "due"] (defScope s__law_says) := ⟨rfl, rfl, rfl, by decide +kernel, rfl, by decide +kernel, by decide +kernel⟩
abbrev s__law_same : Stmt := topS 21
theorem sc__law_same : FnScope ["actual", "due", "left", "turn", "one", "other", "at"] ["actual", "due"] (defScope s__law_same) := ⟨rfl, rfl, rfl, by decide +kernel, rfl, by decide +kernel, by decide +kernel⟩
abbrev s__law_some : Stmt := topS 22
theorem sc__law_some : FnScope ["stream", "letters", "ending"] ["stream"] (defScope s__law_some) := ⟨rfl, rfl, rfl, by decide +kernel, rfl, by decide +kernel, by decide +kernel⟩
abbrev s__law_with : Stmt := topS 23
theorem sc__law_with : FnScope ["stream", "letters", "ending", "kind"] ["stream", "letters", "ending"] (defScope s__law_with) := ⟨rfl, rfl, rfl, by decide +kernel, rfl, by decide +kernel, by decide +kernel⟩
abbrev s__law_end : Stmt := topS 24
theorem sc__law_end : FnScope ["one", "other", "found", "back"] ["one", "other"] (defScope s__law_end) := ⟨rfl, rfl, rfl, by decide +kernel, rfl, by decide +kernel, by decide +kernel⟩
abbrev s__law_looks : Stmt := topS 25
theorem sc__law_looks : FnScope ["one", "other", "many", "k"] ["one", "other"] (defScope s__law_looks) := ⟨rfl, rfl, rfl, by decide +kernel, rfl, by decide +kernel, by decide +kernel⟩
abbrev s_law : Stmt := topS 26
theorem sc_law : FnScope ["script", "stream", "turn", "letters", "ending", "one", "other", "third", "due", "told", "behind", "k"] ["script"] (defScope s_law) := ⟨rfl, rfl, rfl, by decide +kernel, rfl, by decide +kernel, by decide +kernel⟩
structure Tx (K : PySem.W.Frag) (mg : Str → Option Value) where
  d_is_integer : G.DefC K mg "is_integer" s_is_integer ["value"]
  d_is_from_to : G.DefC K mg "is_from_to" s_is_from_to ["value", "least", "most"]
  d_is_plain : G.DefC K mg "is_plain" s_is_plain ["value"]
  d_check_plain : G.DefC K mg "check_plain" s_check_plain ["word", "name"]
  d_check_look : G.DefC K mg "check_look" s_check_look ["k"]
  d_end_of : G.DefC K mg "end_of" s_end_of ["one", "other"]
  d_is_look : G.DefC K mg "is_look" s_is_look ["value"]
  d_common_end : G.DefC K mg "common_end" s_common_end ["one", "other"]
  d_are_alike : G.DefC K mg "are_alike" s_are_alike ["one", "other", "k"]
  d__law_stream : G.DefC K mg "_law_stream" s__law_stream ["script"]
  d__law_next : G.DefC K mg "_law_next" s__law_next ["stream", "many"]
  d__law_word : G.DefC K mg "_law_word" s__law_word ["stream", "letters", "least", "most"]
  d__law_says : G.DefC K mg "_law_says" s__law_says ["actual", "due"]
  d__law_same : G.DefC K mg "_law_same" s__law_same ["actual", "due"]
  d__law_some : G.DefC K mg "_law_some" s__law_some ["stream"]
  d__law_with : G.DefC K mg "_law_with" s__law_with ["stream", "letters", "ending"]
  d__law_end : G.DefC K mg "_law_end" s__law_end ["one", "other"]
  d__law_looks : G.DefC K mg "_law_looks" s__law_looks ["one", "other"]
  d_law : G.DefC K mg "law" s_law ["script"]
  c_MOST_LOOK : ∃ t, mg "MOST_LOOK" = some (.int 12 t)
  c_MOST_IN_WORD : ∃ t, mg "MOST_IN_WORD" = some (.int 500 t)
  n_abs : mg "abs" = none
  n_all : mg "all" = none
  n_bool : mg "bool" = none
  n_int : mg "int" = none
  n_isinstance : mg "isinstance" = none
  n_len : mg "len" = none
  n_list : mg "list" = none
  n_min : mg "min" = none
  n_range : mg "range" = none
  n_str : mg "str" = none
  n_tuple : mg "tuple" = none
def spInt : Sp := fun vs H Q _ => ∃ i : Int, vs = [.int i] ∧ Q (.bl true) H
def spFromTo : Sp := fun vs H Q _ => ∃ i a b : Int, vs = [.int i, .int a, .int b] ∧ Q (.bl (decide (a ≤ i ∧ i ≤ b))) H
def spLook : Sp := fun vs H Q _ => ∃ i : Int, vs = [.int i] ∧ Q (.bl (decide (0 ≤ i ∧ i ≤ 12))) H
def spPlain : Sp := fun vs H Q _ => ∃ l, vs = [G.sv l] ∧ G.Plain l ∧ ∀ H', Same H H' → Q (.bl true) H'
def spChPlain : Sp := fun vs H Q _ => ∃ l n, vs = [G.sv l, G.sv n] ∧ G.Plain l ∧ ∀ H', Same H H' → Q .non H'
def spChLook : Sp := fun vs H Q _ => ∃ i : Int, vs = [.int i] ∧ 0 ≤ i ∧ i ≤ 12 ∧ Q .non H
def spEnd : Sp := fun vs H Q _ => ∃ a b, vs = [G.sv a, G.sv b] ∧ a.length ≤ 500 ∧ b.length ≤ 500 ∧ Q (G.sv (G.endL a b)) H
def spCommon : Sp := fun vs H Q _ => ∃ a b, vs = [G.sv a, G.sv b] ∧ G.Plain a ∧ G.Plain b ∧ ∀ H', Same H H' → Q (G.sv (G.endL a b)) H'
def spAlike : Sp := fun vs H Q _ => ∃ a b, ∃ k : Int, vs = [G.sv a, G.sv b, .int k] ∧ G.Plain a ∧ G.Plain b ∧ 0 ≤ k ∧ k ≤ 12 ∧ ∀ H', Same H H' → Q (.bl (decide (k ≤ ((G.endL a b).length : Int)))) H'
section
variable {P : Program} {w : World} {K : PySem.W.Frag} {mg : Str → Option Value} {base : Heap}
theorem ok_is_integer (T : Tx K mg) : T.d_is_integer.Ok P w base CX0 1 spInt := by
  refine T.d_is_integer.F.ok sc_is_integer (fun vs H Q E h => ?_) (fun cdv A outer s H vs Q E hr h => ?_)
  · obtain ⟨_, rfl, _⟩ := h; rfl
  · obtain ⟨i, rfl, k⟩ := h
    refine ⟨_, (pss_one (ps_ret (pe_and (pe_callB G.is_int (by rfl) T.n_isinstance (by decide +kernel) (pa_cons (pv 0) (pa_cons (G.pe_ty (n := "int") (by rfl) T.n_int) pa_nil))) (pe_one (pe_not (pe_callB G.is_bool (by rfl) T.n_isinstance (by decide +kernel) (pa_cons (pv 0) (pa_cons (G.pe_ty (n := "bool") (by rfl) T.n_bool) pa_nil)))))))), ?_⟩
    simp only [tVar, tC, G.sl_is, G.lt1, Int.reduceLT, Int.reduceLE, Int.reduceNeg, Int.reducePow, Int.reduceToNat, Int.reduceSub, Int.reduceAdd, Int.reduceMul, Nat.reduceLT, Nat.reduceLeDiff, Int.zero_add, ne_eq,  HO.lst.injEq, List.dropLast_concat, G.last_get,  HO.tup.injEq, G.rII, G.rBB, G.rSS,  tOp, tUn, rI, rI0, rU, tAndV, tOrV, tNotV, tIf, tAnd, tOr, tNot, tNext, tSeq, tBreak, tCont, tDrop, tRet, tRetN, tIfS, gName, gNil, gCons, G.gTupT, G.gUnlT, gSub, gUnl, tAsg, tPar, tTest, tB, tChain,
      tNil, tCons, tTup, tLst, tCall, tCB, tBM, tBM0, tSl, tNoPart, tPart, rSetL, G.atI0, G.atI1, G.atI2, G.ixN30, G.ixN31, G.ixN32, G.cx_K, and_self, rEq, rNe, G.scal_bl, G.scal_int, G.scal_sv,  G.sv_str, G.Kn_sv, G.Kn_int, G.Kn_bl, G.Kn_non, G.isI_int, G.isI_bl, G.isI_sv, G.isI_ref, G.isI_non, G.isB_int, G.isB_bl, G.isB_sv, G.isB_ref, G.isB_non, G.isS_int, G.isS_bl, G.isS_sv, G.isS_ref, G.isS_non, G.isT_int, G.isT_bl, G.isT_sv, G.isT_non, G.isL_int, G.isL_bl, G.isL_sv, G.isL_non,  L2.upd_same,  rAppend, rExtend, rPop, iRng1, iRng2, iList, iTup, iStr, CDivN, CPow, CMul, rIsB, rNotB, rAdd, rSub, G.tFor_eq, G.tLc_eq, tYes, wipe,
      List.getElem?_cons_succ, List.getElem?_cons_zero, List.set_cons_succ, List.set_cons_zero, Option.some.injEq, exists_eq_left', exists_eq_left, exists_eq', exists_eq, V.int.injEq, V.bl.injEq, V.ref.injEq, G.sv_inj, List.cons.injEq, and_true, true_and,
      exists_and_left, and_assoc, exists_eq_right_right, exists_eq_right, decide_eq_true_eq, List.append_nil, List.nil_append, List.cons_append, Bool.not_eq_true', decide_eq_false_iff_not, Bool.not_false, Bool.not_true, Bool.false_eq_true, Bool.true_eq_false, not_true, not_false_iff, L2.start, List.map_cons, List.map_nil, List.length_cons, List.length_nil, List.replicate_zero, List.replicate_succ,
      Nat.reduceAdd, Nat.reduceSub, Nat.add_zero, Nat.zero_add, reduceCtorEq, false_and, exists_false, false_or, or_false, ite_true, ite_false, if_true, if_false]
    exact k
theorem ok_is_from_to (T : Tx K mg) : T.d_is_from_to.Ok P w base CX0 2 spFromTo := by
  refine T.d_is_from_to.F.ok sc_is_from_to (fun vs H Q E h => ?_) (fun cdv A outer s H vs Q E hr h => ?_)
  · obtain ⟨_, _, _, rfl, _⟩ := h; rfl
  · obtain ⟨i, a, b, rfl, k⟩ := h
    have G_is_integer := ok_is_integer (P := P) (w := w) (base := base) T
    refine ⟨_, (pss_one (ps_ret (pe_and (G.pe_callD T.d_is_integer G_is_integer (hr.mono (by decide)) (pa_cons (pv 0) pa_nil)) (pe_one (pe_chain op_le op_le (pv 1) (pv 0) (pv 2)))))), ?_⟩
    simp only [tVar, tC, G.sl_is, G.lt1, Int.reduceLT, Int.reduceLE, Int.reduceNeg, Int.reducePow, Int.reduceToNat, Int.reduceSub, Int.reduceAdd, Int.reduceMul, Nat.reduceLT, Nat.reduceLeDiff, Int.zero_add, ne_eq,  HO.lst.injEq, List.dropLast_concat, G.last_get,  HO.tup.injEq, G.rII, G.rBB, G.rSS,  tOp, tUn, rI, rI0, rU, tAndV, tOrV, tNotV, tIf, tAnd, tOr, tNot, tNext, tSeq, tBreak, tCont, tDrop, tRet, tRetN, tIfS, gName, gNil, gCons, G.gTupT, G.gUnlT, gSub, gUnl, tAsg, tPar, tTest, tB, tChain,
      tNil, tCons, tTup, tLst, tCall, tCB, tBM, tBM0, tSl, tNoPart, tPart, rSetL, G.atI0, G.atI1, G.atI2, G.ixN30, G.ixN31, G.ixN32, G.cx_K, and_self, rEq, rNe, G.scal_bl, G.scal_int, G.scal_sv,  G.sv_str, G.Kn_sv, G.Kn_int, G.Kn_bl, G.Kn_non, G.isI_int, G.isI_bl, G.isI_sv, G.isI_ref, G.isI_non, G.isB_int, G.isB_bl, G.isB_sv, G.isB_ref, G.isB_non, G.isS_int, G.isS_bl, G.isS_sv, G.isS_ref, G.isS_non, G.isT_int, G.isT_bl, G.isT_sv, G.isT_non, G.isL_int, G.isL_bl, G.isL_sv, G.isL_non,  L2.upd_same,  rAppend, rExtend, rPop, iRng1, iRng2, iList, iTup, iStr, CDivN, CPow, CMul, rIsB, rNotB, rAdd, rSub, G.tFor_eq, G.tLc_eq, tYes, wipe,
      List.getElem?_cons_succ, List.getElem?_cons_zero, List.set_cons_succ, List.set_cons_zero, Option.some.injEq, exists_eq_left', exists_eq_left, exists_eq', exists_eq, V.int.injEq, V.bl.injEq, V.ref.injEq, G.sv_inj, List.cons.injEq, and_true, true_and,
      exists_and_left, and_assoc, exists_eq_right_right, exists_eq_right, decide_eq_true_eq, List.append_nil, List.nil_append, List.cons_append, Bool.not_eq_true', decide_eq_false_iff_not, Bool.not_false, Bool.not_true, Bool.false_eq_true, Bool.true_eq_false, not_true, not_false_iff, L2.start, List.map_cons, List.map_nil, List.length_cons, List.length_nil, List.replicate_zero, List.replicate_succ,
      Nat.reduceAdd, Nat.reduceSub, Nat.add_zero, Nat.zero_add, reduceCtorEq, false_and, exists_false, false_or, or_false, ite_true, ite_false, if_true, if_false, spInt]
    refine G.ite_i (fun h1 => ?_) fun h1 => ?_
    · simpa [h1] using k
    · simpa [h1] using k
theorem ok_is_look (T : Tx K mg) : T.d_is_look.Ok P w base CX0 3 spLook := by
  refine T.d_is_look.F.ok sc_is_look (fun vs H Q E h => ?_) (fun cdv A outer s H vs Q E hr h => ?_)
  · obtain ⟨_, rfl, _⟩ := h; rfl
  · obtain ⟨i, rfl, k⟩ := h
    have G_is_from_to := ok_is_from_to (P := P) (w := w) (base := base) T
    refine ⟨_, (pss_one (ps_ret (G.pe_callD T.d_is_from_to G_is_from_to (hr.mono (by decide)) (pa_cons (pv 0) (pa_cons pe_int (pa_cons (G.pe_gint (by rfl) T.c_MOST_LOOK) pa_nil)))))), ?_⟩
    simp only [tVar, tC, G.sl_is, G.lt1, Int.reduceLT, Int.reduceLE, Int.reduceNeg, Int.reducePow, Int.reduceToNat, Int.reduceSub, Int.reduceAdd, Int.reduceMul, Nat.reduceLT, Nat.reduceLeDiff, Int.zero_add, ne_eq,  HO.lst.injEq, List.dropLast_concat, G.last_get,  HO.tup.injEq, G.rII, G.rBB, G.rSS,  tOp, tUn, rI, rI0, rU, tAndV, tOrV, tNotV, tIf, tAnd, tOr, tNot, tNext, tSeq, tBreak, tCont, tDrop, tRet, tRetN, tIfS, gName, gNil, gCons, G.gTupT, G.gUnlT, gSub, gUnl, tAsg, tPar, tTest, tB, tChain,
      tNil, tCons, tTup, tLst, tCall, tCB, tBM, tBM0, tSl, tNoPart, tPart, rSetL, G.atI0, G.atI1, G.atI2, G.ixN30, G.ixN31, G.ixN32, G.cx_K, and_self, rEq, rNe, G.scal_bl, G.scal_int, G.scal_sv,  G.sv_str, G.Kn_sv, G.Kn_int, G.Kn_bl, G.Kn_non, G.isI_int, G.isI_bl, G.isI_sv, G.isI_ref, G.isI_non, G.isB_int, G.isB_bl, G.isB_sv, G.isB_ref, G.isB_non, G.isS_int, G.isS_bl, G.isS_sv, G.isS_ref, G.isS_non, G.isT_int, G.isT_bl, G.isT_sv, G.isT_non, G.isL_int, G.isL_bl, G.isL_sv, G.isL_non,  L2.upd_same,  rAppend, rExtend, rPop, iRng1, iRng2, iList, iTup, iStr, CDivN, CPow, CMul, rIsB, rNotB, rAdd, rSub, G.tFor_eq, G.tLc_eq, tYes, wipe,
      List.getElem?_cons_succ, List.getElem?_cons_zero, List.set_cons_succ, List.set_cons_zero, Option.some.injEq, exists_eq_left', exists_eq_left, exists_eq', exists_eq, V.int.injEq, V.bl.injEq, V.ref.injEq, G.sv_inj, List.cons.injEq, and_true, true_and,
      exists_and_left, and_assoc, exists_eq_right_right, exists_eq_right, decide_eq_true_eq, List.append_nil, List.nil_append, List.cons_append, Bool.not_eq_true', decide_eq_false_iff_not, Bool.not_false, Bool.not_true, Bool.false_eq_true, Bool.true_eq_false, not_true, not_false_iff, L2.start, List.map_cons, List.map_nil, List.length_cons, List.length_nil, List.replicate_zero, List.replicate_succ,
      Nat.reduceAdd, Nat.reduceSub, Nat.add_zero, Nat.zero_add, reduceCtorEq, false_and, exists_false, false_or, or_false, ite_true, ite_false, if_true, if_false, spFromTo]
    exact k
theorem ok_is_plain (T : Tx K mg) : T.d_is_plain.Ok P w base CX0 1 spPlain := by
  refine T.d_is_plain.F.ok sc_is_plain (fun vs H Q E h => ?_) (fun cdv A outer s H vs Q E hr h => ?_)
  · obtain ⟨_, rfl, _⟩ := h; rfl
  · obtain ⟨l, rfl, hp, k⟩ := h
    refine ⟨_, (pss_cons (ps_if (PW.pt (pw_or (pt_not (pt_val (pe_callB G.is_str (by rfl) T.n_isinstance (by decide +kernel) (pa_cons (pv 0) (pa_cons (G.pe_ty (n := "str") (by rfl) T.n_str) pa_nil))))) (pw_or1 (pt_cmpR op_gt (pe_callB G.call_lenS (by rfl) T.n_len (by decide +kernel) (pa_cons (pv 0) pa_nil)) (G.pe_gint (by rfl) T.c_MOST_IN_WORD) (nomark _))))) (pss_one (ps_ret pe_bl)) pss_nil)
      (pss_one (ps_ret (pe_callB (G.call_allL rfl) (by rfl) T.n_all (by decide +kernel) (pa_cons (pe_lc (own := [("letter", 1)]) (g := gName 1) (tt := tYes) rfl sc_is_plain.nd (pi_str (pv 0)) (blkOk_by (own := [("letter", 1)]) (N := ["value", "letter"]) (sc := defScope s_is_plain) (by decide +kernel)) (fun _ _ _ _ _ => pg_name (i := 1) sc_is_plain.nd rfl (Or.inl rfl)) (fun _ _ _ _ _ => pts_nil) (fun _ _ _ _ _ => (pe_chain G.op_leS G.op_leS (G.pe_strS (l := [97]) (by decide +kernel)) (pv 1) (G.pe_strS (l := [122]) (by decide +kernel))))) pa_nil))))), ?_⟩
    have ll : l.length ≤ 16777216 := Nat.le_trans hp.1 (by decide)
    simp only [tVar, tC, G.sl_is, G.lt1, Int.reduceLT, Int.reduceLE, Int.reduceNeg, Int.reducePow, Int.reduceToNat, Int.reduceSub, Int.reduceAdd, Int.reduceMul, Nat.reduceLT, Nat.reduceLeDiff, Int.zero_add, ne_eq,  HO.lst.injEq, List.dropLast_concat, G.last_get,  HO.tup.injEq, G.rII, G.rBB, G.rSS,  tOp, tUn, rI, rI0, rU, tAndV, tOrV, tNotV, tIf, tAnd, tOr, tNot, tNext, tSeq, tBreak, tCont, tDrop, tRet, tRetN, tIfS, gName, gNil, gCons, G.gTupT, G.gUnlT, gSub, gUnl, tAsg, tPar, tTest, tB, tChain,
      tNil, tCons, tTup, tLst, tCall, tCB, tBM, tBM0, tSl, tNoPart, tPart, rSetL, G.atI0, G.atI1, G.atI2, G.ixN30, G.ixN31, G.ixN32, G.cx_K, and_self, rEq, rNe, G.scal_bl, G.scal_int, G.scal_sv,  G.sv_str, G.Kn_sv, G.Kn_int, G.Kn_bl, G.Kn_non, G.isI_int, G.isI_bl, G.isI_sv, G.isI_ref, G.isI_non, G.isB_int, G.isB_bl, G.isB_sv, G.isB_ref, G.isB_non, G.isS_int, G.isS_bl, G.isS_sv, G.isS_ref, G.isS_non, G.isT_int, G.isT_bl, G.isT_sv, G.isT_non, G.isL_int, G.isL_bl, G.isL_sv, G.isL_non,  L2.upd_same,  rAppend, rExtend, rPop, iRng1, iRng2, iList, iTup, iStr, CDivN, CPow, CMul, rIsB, rNotB, rAdd, rSub, G.tFor_eq, G.tLc_eq, tYes, wipe,
      List.getElem?_cons_succ, List.getElem?_cons_zero, List.set_cons_succ, List.set_cons_zero, Option.some.injEq, exists_eq_left', exists_eq_left, exists_eq', exists_eq, V.int.injEq, V.bl.injEq, V.ref.injEq, G.sv_inj, List.cons.injEq, and_true, true_and,
      exists_and_left, and_assoc, exists_eq_right_right, exists_eq_right, decide_eq_true_eq, List.append_nil, List.nil_append, List.cons_append, Bool.not_eq_true', decide_eq_false_iff_not, Bool.not_false, Bool.not_true, Bool.false_eq_true, Bool.true_eq_false, not_true, not_false_iff, L2.start, List.map_cons, List.map_nil, List.length_cons, List.length_nil, List.replicate_zero, List.replicate_succ,
      Nat.reduceAdd, Nat.reduceSub, Nat.add_zero, Nat.zero_add, reduceCtorEq, false_and, exists_false, false_or, or_false, ite_true, ite_false, if_true, if_false, ll]
    rw [if_neg (by have := hp.1; omega)]
    refine G.comp_strF (fun c => .bl (decide (97 ≤ c ∧ c ≤ 122))) ll (fun c H2 hc _ R hR => ?_) (fun D H2 hD s2 h2 => ?_)
    · have hz := hp.2 c hc
      simp only [tVar, tC, G.sl_is, G.lt1, Int.reduceLT, Int.reduceLE, Int.reduceNeg, Int.reducePow, Int.reduceToNat, Int.reduceSub, Int.reduceAdd, Int.reduceMul, Nat.reduceLT, Nat.reduceLeDiff, Int.zero_add, ne_eq,  HO.lst.injEq, List.dropLast_concat, G.last_get,  HO.tup.injEq, G.rII, G.rBB, G.rSS,  tOp, tUn, rI, rI0, rU, tAndV, tOrV, tNotV, tIf, tAnd, tOr, tNot, tNext, tSeq, tBreak, tCont, tDrop, tRet, tRetN, tIfS, gName, gNil, gCons, G.gTupT, G.gUnlT, gSub, gUnl, tAsg, tPar, tTest, tB, tChain,
      tNil, tCons, tTup, tLst, tCall, tCB, tBM, tBM0, tSl, tNoPart, tPart, rSetL, G.atI0, G.atI1, G.atI2, G.ixN30, G.ixN31, G.ixN32, G.cx_K, and_self, rEq, rNe, G.scal_bl, G.scal_int, G.scal_sv,  G.sv_str, G.Kn_sv, G.Kn_int, G.Kn_bl, G.Kn_non, G.isI_int, G.isI_bl, G.isI_sv, G.isI_ref, G.isI_non, G.isB_int, G.isB_bl, G.isB_sv, G.isB_ref, G.isB_non, G.isS_int, G.isS_bl, G.isS_sv, G.isS_ref, G.isS_non, G.isT_int, G.isT_bl, G.isT_sv, G.isT_non, G.isL_int, G.isL_bl, G.isL_sv, G.isL_non,  L2.upd_same,  rAppend, rExtend, rPop, iRng1, iRng2, iList, iTup, iStr, CDivN, CPow, CMul, rIsB, rNotB, rAdd, rSub, G.tFor_eq, G.tLc_eq, tYes, wipe,
      List.getElem?_cons_succ, List.getElem?_cons_zero, List.set_cons_succ, List.set_cons_zero, Option.some.injEq, exists_eq_left', exists_eq_left, exists_eq', exists_eq, V.int.injEq, V.bl.injEq, V.ref.injEq, G.sv_inj, List.cons.injEq, and_true, true_and,
      exists_and_left, and_assoc, exists_eq_right_right, exists_eq_right, decide_eq_true_eq, List.append_nil, List.nil_append, List.cons_append, Bool.not_eq_true', decide_eq_false_iff_not, Bool.not_false, Bool.not_true, Bool.false_eq_true, Bool.true_eq_false, not_true, not_false_iff, L2.start, List.map_cons, List.map_nil, List.length_cons, List.length_nil, List.replicate_zero, List.replicate_succ,
      Nat.reduceAdd, Nat.reduceSub, Nat.add_zero, Nat.zero_add, reduceCtorEq, false_and, exists_false, false_or, or_false, ite_true, ite_false, if_true, if_false]
      rw [if_pos (by omega)]
      have e : (!decide (122 < c)) = decide (97 ≤ c ∧ c ≤ 122) := by simp [hz]
      rw [e]; exact hR
    · simp only [tVar, tC, G.sl_is, G.lt1, Int.reduceLT, Int.reduceLE, Int.reduceNeg, Int.reducePow, Int.reduceToNat, Int.reduceSub, Int.reduceAdd, Int.reduceMul, Nat.reduceLT, Nat.reduceLeDiff, Int.zero_add, ne_eq,  HO.lst.injEq, List.dropLast_concat, G.last_get,  HO.tup.injEq, G.rII, G.rBB, G.rSS,  tOp, tUn, rI, rI0, rU, tAndV, tOrV, tNotV, tIf, tAnd, tOr, tNot, tNext, tSeq, tBreak, tCont, tDrop, tRet, tRetN, tIfS, gName, gNil, gCons, G.gTupT, G.gUnlT, gSub, gUnl, tAsg, tPar, tTest, tB, tChain,
      tNil, tCons, tTup, tLst, tCall, tCB, tBM, tBM0, tSl, tNoPart, tPart, rSetL, G.atI0, G.atI1, G.atI2, G.ixN30, G.ixN31, G.ixN32, G.cx_K, and_self, rEq, rNe, G.scal_bl, G.scal_int, G.scal_sv,  G.sv_str, G.Kn_sv, G.Kn_int, G.Kn_bl, G.Kn_non, G.isI_int, G.isI_bl, G.isI_sv, G.isI_ref, G.isI_non, G.isB_int, G.isB_bl, G.isB_sv, G.isB_ref, G.isB_non, G.isS_int, G.isS_bl, G.isS_sv, G.isS_ref, G.isS_non, G.isT_int, G.isT_bl, G.isT_sv, G.isT_non, G.isL_int, G.isL_bl, G.isL_sv, G.isL_non,  L2.upd_same,  rAppend, rExtend, rPop, iRng1, iRng2, iList, iTup, iStr, CDivN, CPow, CMul, rIsB, rNotB, rAdd, rSub, G.tFor_eq, G.tLc_eq, tYes, wipe,
      List.getElem?_cons_succ, List.getElem?_cons_zero, List.set_cons_succ, List.set_cons_zero, Option.some.injEq, exists_eq_left', exists_eq_left, exists_eq', exists_eq, V.int.injEq, V.bl.injEq, V.ref.injEq, G.sv_inj, List.cons.injEq, and_true, true_and,
      exists_and_left, and_assoc, exists_eq_right_right, exists_eq_right, decide_eq_true_eq, List.append_nil, List.nil_append, List.cons_append, Bool.not_eq_true', decide_eq_false_iff_not, Bool.not_false, Bool.not_true, Bool.false_eq_true, Bool.true_eq_false, not_true, not_false_iff, L2.start, List.map_cons, List.map_nil, List.length_cons, List.length_nil, List.replicate_zero, List.replicate_succ,
      Nat.reduceAdd, Nat.reduceSub, Nat.add_zero, Nat.zero_add, reduceCtorEq, false_and, exists_false, false_or, or_false, ite_true, ite_false, if_true, if_false]
      refine ⟨l.map (fun c => decide (97 ≤ c ∧ c ≤ 122)), by rw [h2, List.map_map]; rfl, ?_⟩
      have e : (l.map (fun c => decide (97 ≤ c ∧ c ≤ 122))).all id = true := by
        rw [List.all_eq_true]; intro b hb
        obtain ⟨c, hc, rfl⟩ := List.mem_map.mp hb
        simpa using hp.2 c hc
      rw [e]; exact k H2 s2
theorem ok_check_plain (T : Tx K mg) : T.d_check_plain.Ok P w base CX0 2 spChPlain := by
  refine T.d_check_plain.F.ok sc_check_plain (fun vs H Q E h => ?_) (fun cdv A outer s H vs Q E hr h => ?_)
  · obtain ⟨_, _, rfl, _⟩ := h; rfl
  · obtain ⟨l, n, rfl, hp, k⟩ := h
    have G_is_plain := ok_is_plain (P := P) (w := w) (base := base) T
    refine ⟨_, (pss_one (ps_if (pt_not (pt_val (G.pe_callD T.d_is_plain G_is_plain (hr.mono (by decide)) (pa_cons (pv 0) pa_nil)))) (pss_one ps_never) pss_nil)), ?_⟩
    simp only [tVar, tC, G.sl_is, G.lt1, Int.reduceLT, Int.reduceLE, Int.reduceNeg, Int.reducePow, Int.reduceToNat, Int.reduceSub, Int.reduceAdd, Int.reduceMul, Nat.reduceLT, Nat.reduceLeDiff, Int.zero_add, ne_eq,  HO.lst.injEq, List.dropLast_concat, G.last_get,  HO.tup.injEq, G.rII, G.rBB, G.rSS,  tOp, tUn, rI, rI0, rU, tAndV, tOrV, tNotV, tIf, tAnd, tOr, tNot, tNext, tSeq, tBreak, tCont, tDrop, tRet, tRetN, tIfS, gName, gNil, gCons, G.gTupT, G.gUnlT, gSub, gUnl, tAsg, tPar, tTest, tB, tChain,
      tNil, tCons, tTup, tLst, tCall, tCB, tBM, tBM0, tSl, tNoPart, tPart, rSetL, G.atI0, G.atI1, G.atI2, G.ixN30, G.ixN31, G.ixN32, G.cx_K, and_self, rEq, rNe, G.scal_bl, G.scal_int, G.scal_sv,  G.sv_str, G.Kn_sv, G.Kn_int, G.Kn_bl, G.Kn_non, G.isI_int, G.isI_bl, G.isI_sv, G.isI_ref, G.isI_non, G.isB_int, G.isB_bl, G.isB_sv, G.isB_ref, G.isB_non, G.isS_int, G.isS_bl, G.isS_sv, G.isS_ref, G.isS_non, G.isT_int, G.isT_bl, G.isT_sv, G.isT_non, G.isL_int, G.isL_bl, G.isL_sv, G.isL_non,  L2.upd_same,  rAppend, rExtend, rPop, iRng1, iRng2, iList, iTup, iStr, CDivN, CPow, CMul, rIsB, rNotB, rAdd, rSub, G.tFor_eq, G.tLc_eq, tYes, wipe,
      List.getElem?_cons_succ, List.getElem?_cons_zero, List.set_cons_succ, List.set_cons_zero, Option.some.injEq, exists_eq_left', exists_eq_left, exists_eq', exists_eq, V.int.injEq, V.bl.injEq, V.ref.injEq, G.sv_inj, List.cons.injEq, and_true, true_and,
      exists_and_left, and_assoc, exists_eq_right_right, exists_eq_right, decide_eq_true_eq, List.append_nil, List.nil_append, List.cons_append, Bool.not_eq_true', decide_eq_false_iff_not, Bool.not_false, Bool.not_true, Bool.false_eq_true, Bool.true_eq_false, not_true, not_false_iff, L2.start, List.map_cons, List.map_nil, List.length_cons, List.length_nil, List.replicate_zero, List.replicate_succ,
      Nat.reduceAdd, Nat.reduceSub, Nat.add_zero, Nat.zero_add, reduceCtorEq, false_and, exists_false, false_or, or_false, ite_true, ite_false, if_true, if_false, spPlain]
    exact ⟨hp, k⟩
theorem ok_check_look (T : Tx K mg) : T.d_check_look.Ok P w base CX0 4 spChLook := by
  refine T.d_check_look.F.ok sc_check_look (fun vs H Q E h => ?_) (fun cdv A outer s H vs Q E hr h => ?_)
  · obtain ⟨_, rfl, _⟩ := h; rfl
  · obtain ⟨i, rfl, h1, h2, k⟩ := h
    have G_is_look := ok_is_look (P := P) (w := w) (base := base) T
    refine ⟨_, (pss_one (ps_if (pt_not (pt_val (G.pe_callD T.d_is_look G_is_look (hr.mono (by decide)) (pa_cons (pv 0) pa_nil)))) (pss_one ps_never) pss_nil)), ?_⟩
    simp only [tVar, tC, G.sl_is, G.lt1, Int.reduceLT, Int.reduceLE, Int.reduceNeg, Int.reducePow, Int.reduceToNat, Int.reduceSub, Int.reduceAdd, Int.reduceMul, Nat.reduceLT, Nat.reduceLeDiff, Int.zero_add, ne_eq,  HO.lst.injEq, List.dropLast_concat, G.last_get,  HO.tup.injEq, G.rII, G.rBB, G.rSS,  tOp, tUn, rI, rI0, rU, tAndV, tOrV, tNotV, tIf, tAnd, tOr, tNot, tNext, tSeq, tBreak, tCont, tDrop, tRet, tRetN, tIfS, gName, gNil, gCons, G.gTupT, G.gUnlT, gSub, gUnl, tAsg, tPar, tTest, tB, tChain,
      tNil, tCons, tTup, tLst, tCall, tCB, tBM, tBM0, tSl, tNoPart, tPart, rSetL, G.atI0, G.atI1, G.atI2, G.ixN30, G.ixN31, G.ixN32, G.cx_K, and_self, rEq, rNe, G.scal_bl, G.scal_int, G.scal_sv,  G.sv_str, G.Kn_sv, G.Kn_int, G.Kn_bl, G.Kn_non, G.isI_int, G.isI_bl, G.isI_sv, G.isI_ref, G.isI_non, G.isB_int, G.isB_bl, G.isB_sv, G.isB_ref, G.isB_non, G.isS_int, G.isS_bl, G.isS_sv, G.isS_ref, G.isS_non, G.isT_int, G.isT_bl, G.isT_sv, G.isT_non, G.isL_int, G.isL_bl, G.isL_sv, G.isL_non,  L2.upd_same,  rAppend, rExtend, rPop, iRng1, iRng2, iList, iTup, iStr, CDivN, CPow, CMul, rIsB, rNotB, rAdd, rSub, G.tFor_eq, G.tLc_eq, tYes, wipe,
      List.getElem?_cons_succ, List.getElem?_cons_zero, List.set_cons_succ, List.set_cons_zero, Option.some.injEq, exists_eq_left', exists_eq_left, exists_eq', exists_eq, V.int.injEq, V.bl.injEq, V.ref.injEq, G.sv_inj, List.cons.injEq, and_true, true_and,
      exists_and_left, and_assoc, exists_eq_right_right, exists_eq_right, decide_eq_true_eq, List.append_nil, List.nil_append, List.cons_append, Bool.not_eq_true', decide_eq_false_iff_not, Bool.not_false, Bool.not_true, Bool.false_eq_true, Bool.true_eq_false, not_true, not_false_iff, L2.start, List.map_cons, List.map_nil, List.length_cons, List.length_nil, List.replicate_zero, List.replicate_succ,
      Nat.reduceAdd, Nat.reduceSub, Nat.add_zero, Nat.zero_add, reduceCtorEq, false_and, exists_false, false_or, or_false, ite_true, ite_false, if_true, if_false, spLook, h1, h2, not_true]
    exact k
theorem ok_end_of (T : Tx K mg) : T.d_end_of.Ok P w base CX0 1 spEnd := by
  refine T.d_end_of.F.ok sc_end_of (fun vs H Q E h => ?_) (fun cdv A outer s H vs Q E hr h => ?_)
  · obtain ⟨_, _, rfl, _⟩ := h; rfl
  · obtain ⟨a, b, rfl, ha, hb, k⟩ := h
    have la : a.length ≤ 16777216 := Nat.le_trans ha (by decide)
    have lb : b.length ≤ 16777216 := Nat.le_trans hb (by decide)
    refine ⟨_, (pss_cons (ps_set (i := 2) sc_end_of.nd rfl (Or.inl rfl) pe_int)
      (pss_cons (ps_while PassesOwn.never (PW.pt (pw_and (pt_cmpR op_lt (pv 2) (pe_callB G.call_lenS (by rfl) T.n_len (by decide +kernel) (pa_cons (pv 0) pa_nil)) (nomark _)) (pw_and (pt_cmpR op_lt (pv 2) (pe_callB G.call_lenS (by rfl) T.n_len (by decide +kernel) (pa_cons (pv 1) pa_nil)) (nomark _)) (pw_and1 (pt_cmpR G.op_eqS (pe_ix G.ix_S (pv 0) (pe_op op_sub (pe_op op_sub (pe_callB G.call_lenS (by rfl) T.n_len (by decide +kernel) (pa_cons (pv 0) pa_nil)) pe_int) (pv 2)) (fun _ _ => rfl)) (pe_ix G.ix_S (pv 1) (pe_op op_sub (pe_op op_sub (pe_callB G.call_lenS (by rfl) T.n_len (by decide +kernel) (pa_cons (pv 1) pa_nil)) pe_int) (pv 2)) (fun _ _ => rfl)) (nomark _)))))) (pss_one (ps_set (i := 2) sc_end_of.nd rfl (Or.inl rfl) (pe_op op_add (pv 2) pe_int))))
      (pss_one (ps_ret (pe_slice G.sl_S (pv 0) (po_some (pe_op op_sub (pe_callB G.call_lenS (by rfl) T.n_len (by decide +kernel) (pa_cons (pv 0) pa_nil)) (pv 2))) po_none))))), ?_⟩
    simp only [tVar, tC, G.sl_is, G.lt1, Int.reduceLT, Int.reduceLE, Int.reduceNeg, Int.reducePow, Int.reduceToNat, Int.reduceSub, Int.reduceAdd, Int.reduceMul, Nat.reduceLT, Nat.reduceLeDiff, Int.zero_add, ne_eq,  HO.lst.injEq, List.dropLast_concat, G.last_get,  HO.tup.injEq, G.rII, G.rBB, G.rSS,  tOp, tUn, rI, rI0, rU, tAndV, tOrV, tNotV, tIf, tAnd, tOr, tNot, tNext, tSeq, tBreak, tCont, tDrop, tRet, tRetN, tIfS, gName, gNil, gCons, G.gTupT, G.gUnlT, gSub, gUnl, tAsg, tPar, tTest, tB, tChain,
      tNil, tCons, tTup, tLst, tCall, tCB, tBM, tBM0, tSl, tNoPart, tPart, rSetL, G.atI0, G.atI1, G.atI2, G.ixN30, G.ixN31, G.ixN32, G.cx_K, and_self, rEq, rNe, G.scal_bl, G.scal_int, G.scal_sv,  G.sv_str, G.Kn_sv, G.Kn_int, G.Kn_bl, G.Kn_non, G.isI_int, G.isI_bl, G.isI_sv, G.isI_ref, G.isI_non, G.isB_int, G.isB_bl, G.isB_sv, G.isB_ref, G.isB_non, G.isS_int, G.isS_bl, G.isS_sv, G.isS_ref, G.isS_non, G.isT_int, G.isT_bl, G.isT_sv, G.isT_non, G.isL_int, G.isL_bl, G.isL_sv, G.isL_non,  L2.upd_same,  rAppend, rExtend, rPop, iRng1, iRng2, iList, iTup, iStr, CDivN, CPow, CMul, rIsB, rNotB, rAdd, rSub, G.tFor_eq, G.tLc_eq, tYes, wipe,
      List.getElem?_cons_succ, List.getElem?_cons_zero, List.set_cons_succ, List.set_cons_zero, Option.some.injEq, exists_eq_left', exists_eq_left, exists_eq', exists_eq, V.int.injEq, V.bl.injEq, V.ref.injEq, G.sv_inj, List.cons.injEq, and_true, true_and,
      exists_and_left, and_assoc, exists_eq_right_right, exists_eq_right, decide_eq_true_eq, List.append_nil, List.nil_append, List.cons_append, Bool.not_eq_true', decide_eq_false_iff_not, Bool.not_false, Bool.not_true, Bool.false_eq_true, Bool.true_eq_false, not_true, not_false_iff, L2.start, List.map_cons, List.map_nil, List.length_cons, List.length_nil, List.replicate_zero, List.replicate_succ,
      Nat.reduceAdd, Nat.reduceSub, Nat.add_zero, Nat.zero_add, reduceCtorEq, false_and, exists_false, false_or, or_false, ite_true, ite_false, if_true, if_false]
    refine G.loop_while (fun σ H' => H' = H ∧ ∃ n : Nat, n ≤ (G.endL a b).length ∧ σ = [some (G.sv a), some (G.sv b), some (.int n)]) (fun σ _ => match σ with | [_, _, some (.int n)] => a.length - n.toNat | _ => 0) ⟨rfl, 0, Nat.zero_le _, rfl⟩ ?_
    rintro σ H' m hm ⟨rfl, n, hn, rfl⟩
    have key := G.endL_step hn
    have el := G.endL_len a b
    have fin : ¬ n < (G.endL a b).length → Q (G.sv (G.cutL a (some ((a.length : Int) - (n : Int))) none)) H' := fun h => by
      have e : n = (G.endL a b).length := by omega
      rw [show (a.length : Int) - (n : Int) = ((a.length - n : Nat) : Int) by omega, G.cutL_from, e, ← G.endL_drop]
      exact k
    simp only [tVar, tC, G.sl_is, G.lt1, Int.reduceLT, Int.reduceLE, Int.reduceNeg, Int.reducePow, Int.reduceToNat, Int.reduceSub, Int.reduceAdd, Int.reduceMul, Nat.reduceLT, Nat.reduceLeDiff, Int.zero_add, ne_eq,  HO.lst.injEq, List.dropLast_concat, G.last_get,  HO.tup.injEq, G.rII, G.rBB, G.rSS,  tOp, tUn, rI, rI0, rU, tAndV, tOrV, tNotV, tIf, tAnd, tOr, tNot, tNext, tSeq, tBreak, tCont, tDrop, tRet, tRetN, tIfS, gName, gNil, gCons, G.gTupT, G.gUnlT, gSub, gUnl, tAsg, tPar, tTest, tB, tChain,
      tNil, tCons, tTup, tLst, tCall, tCB, tBM, tBM0, tSl, tNoPart, tPart, rSetL, G.atI0, G.atI1, G.atI2, G.ixN30, G.ixN31, G.ixN32, G.cx_K, and_self, rEq, rNe, G.scal_bl, G.scal_int, G.scal_sv,  G.sv_str, G.Kn_sv, G.Kn_int, G.Kn_bl, G.Kn_non, G.isI_int, G.isI_bl, G.isI_sv, G.isI_ref, G.isI_non, G.isB_int, G.isB_bl, G.isB_sv, G.isB_ref, G.isB_non, G.isS_int, G.isS_bl, G.isS_sv, G.isS_ref, G.isS_non, G.isT_int, G.isT_bl, G.isT_sv, G.isT_non, G.isL_int, G.isL_bl, G.isL_sv, G.isL_non,  L2.upd_same,  rAppend, rExtend, rPop, iRng1, iRng2, iList, iTup, iStr, CDivN, CPow, CMul, rIsB, rNotB, rAdd, rSub, G.tFor_eq, G.tLc_eq, tYes, wipe,
      List.getElem?_cons_succ, List.getElem?_cons_zero, List.set_cons_succ, List.set_cons_zero, Option.some.injEq, exists_eq_left', exists_eq_left, exists_eq', exists_eq, V.int.injEq, V.bl.injEq, V.ref.injEq, G.sv_inj, List.cons.injEq, and_true, true_and,
      exists_and_left, and_assoc, exists_eq_right_right, exists_eq_right, decide_eq_true_eq, List.append_nil, List.nil_append, List.cons_append, Bool.not_eq_true', decide_eq_false_iff_not, Bool.not_false, Bool.not_true, Bool.false_eq_true, Bool.true_eq_false, not_true, not_false_iff, L2.start, List.map_cons, List.map_nil, List.length_cons, List.length_nil, List.replicate_zero, List.replicate_succ,
      Nat.reduceAdd, Nat.reduceSub, Nat.add_zero, Nat.zero_add, reduceCtorEq, false_and, exists_false, false_or, or_false, ite_true, ite_false, if_true, if_false, la, lb]
    refine G.ite_i (fun h1 => ?_) fun h1 => fin (by omega)
    refine G.ite_i (fun h2 => ?_) fun h2 => fin (by omega)
    have h1' : a.length - 1 - n < a.length := by omega
    have h2' : b.length - 1 - n < b.length := by omega
    refine ⟨a[a.length - 1 - n], G.atI_of (by rw [show ((a.length : Int) - 1 - (n : Int)).toNat = a.length - 1 - n by omega]; simp [h1']) (by omega), b[b.length - 1 - n], G.atI_of (by rw [show ((b.length : Int) - 1 - (n : Int)).toNat = b.length - 1 - n by omega]; simp [h2']) (by omega), ?_⟩
    have hx : a[a.length - 1 - n]? = some (a[a.length - 1 - n]) := by simp [h1']
    have hy : b[b.length - 1 - n]? = some (b[b.length - 1 - n]) := by simp [h2']
    refine G.ite_i (fun h3 => G.WT.mk fun M hM => ?_) fun h3 => fin fun h => h3 ?_
    · simp only [tVar, tC, G.sl_is, G.lt1, Int.reduceLT, Int.reduceLE, Int.reduceNeg, Int.reducePow, Int.reduceToNat, Int.reduceSub, Int.reduceAdd, Int.reduceMul, Nat.reduceLT, Nat.reduceLeDiff, Int.zero_add, ne_eq,  HO.lst.injEq, List.dropLast_concat, G.last_get,  HO.tup.injEq, G.rII, G.rBB, G.rSS,  tOp, tUn, rI, rI0, rU, tAndV, tOrV, tNotV, tIf, tAnd, tOr, tNot, tNext, tSeq, tBreak, tCont, tDrop, tRet, tRetN, tIfS, gName, gNil, gCons, G.gTupT, G.gUnlT, gSub, gUnl, tAsg, tPar, tTest, tB, tChain,
      tNil, tCons, tTup, tLst, tCall, tCB, tBM, tBM0, tSl, tNoPart, tPart, rSetL, G.atI0, G.atI1, G.atI2, G.ixN30, G.ixN31, G.ixN32, G.cx_K, and_self, rEq, rNe, G.scal_bl, G.scal_int, G.scal_sv,  G.sv_str, G.Kn_sv, G.Kn_int, G.Kn_bl, G.Kn_non, G.isI_int, G.isI_bl, G.isI_sv, G.isI_ref, G.isI_non, G.isB_int, G.isB_bl, G.isB_sv, G.isB_ref, G.isB_non, G.isS_int, G.isS_bl, G.isS_sv, G.isS_ref, G.isS_non, G.isT_int, G.isT_bl, G.isT_sv, G.isT_non, G.isL_int, G.isL_bl, G.isL_sv, G.isL_non,  L2.upd_same,  rAppend, rExtend, rPop, iRng1, iRng2, iList, iTup, iStr, CDivN, CPow, CMul, rIsB, rNotB, rAdd, rSub, G.tFor_eq, G.tLc_eq, tYes, wipe,
      List.getElem?_cons_succ, List.getElem?_cons_zero, List.set_cons_succ, List.set_cons_zero, Option.some.injEq, exists_eq_left', exists_eq_left, exists_eq', exists_eq, V.int.injEq, V.bl.injEq, V.ref.injEq, G.sv_inj, List.cons.injEq, and_true, true_and,
      exists_and_left, and_assoc, exists_eq_right_right, exists_eq_right, decide_eq_true_eq, List.append_nil, List.nil_append, List.cons_append, Bool.not_eq_true', decide_eq_false_iff_not, Bool.not_false, Bool.not_true, Bool.false_eq_true, Bool.true_eq_false, not_true, not_false_iff, L2.start, List.map_cons, List.map_nil, List.length_cons, List.length_nil, List.replicate_zero, List.replicate_succ,
      Nat.reduceAdd, Nat.reduceSub, Nat.add_zero, Nat.zero_add, reduceCtorEq, false_and, exists_false, false_or, or_false, ite_true, ite_false, if_true, if_false]
      rw [hM]
      have hn1 : n < (G.endL a b).length := key.mpr ⟨by omega, by omega, by rw [hx, hy, h3]⟩
      subst hm
      refine ⟨⟨rfl, n + 1, by omega, by simp⟩, ?_⟩
      show a.length - ((n : Int) + 1).toNat < a.length - (n : Int).toNat
      omega
    · have := (key.mp h).2.2
      rw [hx, hy] at this
      exact Option.some.inj this
theorem ok_common_end (T : Tx K mg) : T.d_common_end.Ok P w base CX0 3 spCommon := by
  refine T.d_common_end.F.ok sc_common_end (fun vs H Q E h => ?_) (fun cdv A outer s H vs Q E hr h => ?_)
  · obtain ⟨_, _, rfl, _⟩ := h; rfl
  · obtain ⟨a, b, rfl, ha, hb, k⟩ := h
    have G_check_plain := ok_check_plain (P := P) (w := w) (base := base) T
    have G_end_of := ok_end_of (P := P) (w := w) (base := base) T
    refine ⟨_, (pss_cons (ps_expr (G.pe_callD T.d_check_plain G_check_plain (hr.mono (by decide)) (pa_cons (pv 0) (pa_cons (G.pe_strS (l := [111, 110, 101]) (by decide +kernel)) pa_nil))))
      (pss_cons (ps_expr (G.pe_callD T.d_check_plain G_check_plain (hr.mono (by decide)) (pa_cons (pv 1) (pa_cons (G.pe_strS (l := [111, 116, 104, 101, 114]) (by decide +kernel)) pa_nil))))
      (pss_one (ps_ret (G.pe_callD T.d_end_of G_end_of (hr.mono (by decide)) (pa_cons (pv 0) (pa_cons (pv 1) pa_nil))))))), ?_⟩
    simp only [tVar, tC, G.sl_is, G.lt1, Int.reduceLT, Int.reduceLE, Int.reduceNeg, Int.reducePow, Int.reduceToNat, Int.reduceSub, Int.reduceAdd, Int.reduceMul, Nat.reduceLT, Nat.reduceLeDiff, Int.zero_add, ne_eq,  HO.lst.injEq, List.dropLast_concat, G.last_get,  HO.tup.injEq, G.rII, G.rBB, G.rSS,  tOp, tUn, rI, rI0, rU, tAndV, tOrV, tNotV, tIf, tAnd, tOr, tNot, tNext, tSeq, tBreak, tCont, tDrop, tRet, tRetN, tIfS, gName, gNil, gCons, G.gTupT, G.gUnlT, gSub, gUnl, tAsg, tPar, tTest, tB, tChain,
      tNil, tCons, tTup, tLst, tCall, tCB, tBM, tBM0, tSl, tNoPart, tPart, rSetL, G.atI0, G.atI1, G.atI2, G.ixN30, G.ixN31, G.ixN32, G.cx_K, and_self, rEq, rNe, G.scal_bl, G.scal_int, G.scal_sv,  G.sv_str, G.Kn_sv, G.Kn_int, G.Kn_bl, G.Kn_non, G.isI_int, G.isI_bl, G.isI_sv, G.isI_ref, G.isI_non, G.isB_int, G.isB_bl, G.isB_sv, G.isB_ref, G.isB_non, G.isS_int, G.isS_bl, G.isS_sv, G.isS_ref, G.isS_non, G.isT_int, G.isT_bl, G.isT_sv, G.isT_non, G.isL_int, G.isL_bl, G.isL_sv, G.isL_non,  L2.upd_same,  rAppend, rExtend, rPop, iRng1, iRng2, iList, iTup, iStr, CDivN, CPow, CMul, rIsB, rNotB, rAdd, rSub, G.tFor_eq, G.tLc_eq, tYes, wipe,
      List.getElem?_cons_succ, List.getElem?_cons_zero, List.set_cons_succ, List.set_cons_zero, Option.some.injEq, exists_eq_left', exists_eq_left, exists_eq', exists_eq, V.int.injEq, V.bl.injEq, V.ref.injEq, G.sv_inj, List.cons.injEq, and_true, true_and,
      exists_and_left, and_assoc, exists_eq_right_right, exists_eq_right, decide_eq_true_eq, List.append_nil, List.nil_append, List.cons_append, Bool.not_eq_true', decide_eq_false_iff_not, Bool.not_false, Bool.not_true, Bool.false_eq_true, Bool.true_eq_false, not_true, not_false_iff, L2.start, List.map_cons, List.map_nil, List.length_cons, List.length_nil, List.replicate_zero, List.replicate_succ,
      Nat.reduceAdd, Nat.reduceSub, Nat.add_zero, Nat.zero_add, reduceCtorEq, false_and, exists_false, false_or, or_false, ite_true, ite_false, if_true, if_false, spChPlain, spEnd]
    exact ⟨ha, fun H1 s1 => ⟨hb, fun H2 s2 => ⟨ha.1, hb.1, k H2 (s1.trans s2)⟩⟩⟩
theorem ok_are_alike (T : Tx K mg) : T.d_are_alike.Ok P w base CX0 5 spAlike := by
  refine T.d_are_alike.F.ok sc_are_alike (fun vs H Q E h => ?_) (fun cdv A outer s H vs Q E hr h => ?_)
  · obtain ⟨_, _, _, rfl, _⟩ := h; rfl
  · obtain ⟨a, b, k0, rfl, ha, hb, hk, hk2, k⟩ := h
    have G_check_plain := ok_check_plain (P := P) (w := w) (base := base) T
    have G_end_of := ok_end_of (P := P) (w := w) (base := base) T
    have G_check_look := ok_check_look (P := P) (w := w) (base := base) T
    refine ⟨_, (pss_cons (ps_expr (G.pe_callD T.d_check_plain G_check_plain (hr.mono (by decide)) (pa_cons (pv 0) (pa_cons (G.pe_strS (l := [111, 110, 101]) (by decide +kernel)) pa_nil))))
      (pss_cons (ps_expr (G.pe_callD T.d_check_plain G_check_plain (hr.mono (by decide)) (pa_cons (pv 1) (pa_cons (G.pe_strS (l := [111, 116, 104, 101, 114]) (by decide +kernel)) pa_nil))))
      (pss_cons (ps_expr (G.pe_callD T.d_check_look G_check_look (hr.mono (by decide)) (pa_cons (pv 2) pa_nil)))
      (pss_one (ps_ret (pe_cmpR op_ge (pe_callB G.call_lenS (by rfl) T.n_len (by decide +kernel) (pa_cons (G.pe_callD T.d_end_of G_end_of (hr.mono (by decide)) (pa_cons (pv 0) (pa_cons (pv 1) pa_nil))) pa_nil)) (pv 2) (nomark _))))))), ?_⟩
    simp only [tVar, tC, G.sl_is, G.lt1, Int.reduceLT, Int.reduceLE, Int.reduceNeg, Int.reducePow, Int.reduceToNat, Int.reduceSub, Int.reduceAdd, Int.reduceMul, Nat.reduceLT, Nat.reduceLeDiff, Int.zero_add, ne_eq,  HO.lst.injEq, List.dropLast_concat, G.last_get,  HO.tup.injEq, G.rII, G.rBB, G.rSS,  tOp, tUn, rI, rI0, rU, tAndV, tOrV, tNotV, tIf, tAnd, tOr, tNot, tNext, tSeq, tBreak, tCont, tDrop, tRet, tRetN, tIfS, gName, gNil, gCons, G.gTupT, G.gUnlT, gSub, gUnl, tAsg, tPar, tTest, tB, tChain,
      tNil, tCons, tTup, tLst, tCall, tCB, tBM, tBM0, tSl, tNoPart, tPart, rSetL, G.atI0, G.atI1, G.atI2, G.ixN30, G.ixN31, G.ixN32, G.cx_K, and_self, rEq, rNe, G.scal_bl, G.scal_int, G.scal_sv,  G.sv_str, G.Kn_sv, G.Kn_int, G.Kn_bl, G.Kn_non, G.isI_int, G.isI_bl, G.isI_sv, G.isI_ref, G.isI_non, G.isB_int, G.isB_bl, G.isB_sv, G.isB_ref, G.isB_non, G.isS_int, G.isS_bl, G.isS_sv, G.isS_ref, G.isS_non, G.isT_int, G.isT_bl, G.isT_sv, G.isT_non, G.isL_int, G.isL_bl, G.isL_sv, G.isL_non,  L2.upd_same,  rAppend, rExtend, rPop, iRng1, iRng2, iList, iTup, iStr, CDivN, CPow, CMul, rIsB, rNotB, rAdd, rSub, G.tFor_eq, G.tLc_eq, tYes, wipe,
      List.getElem?_cons_succ, List.getElem?_cons_zero, List.set_cons_succ, List.set_cons_zero, Option.some.injEq, exists_eq_left', exists_eq_left, exists_eq', exists_eq, V.int.injEq, V.bl.injEq, V.ref.injEq, G.sv_inj, List.cons.injEq, and_true, true_and,
      exists_and_left, and_assoc, exists_eq_right_right, exists_eq_right, decide_eq_true_eq, List.append_nil, List.nil_append, List.cons_append, Bool.not_eq_true', decide_eq_false_iff_not, Bool.not_false, Bool.not_true, Bool.false_eq_true, Bool.true_eq_false, not_true, not_false_iff, L2.start, List.map_cons, List.map_nil, List.length_cons, List.length_nil, List.replicate_zero, List.replicate_succ,
      Nat.reduceAdd, Nat.reduceSub, Nat.add_zero, Nat.zero_add, reduceCtorEq, false_and, exists_false, false_or, or_false, ite_true, ite_false, if_true, if_false, spChPlain, spEnd, spChLook]
    exact ⟨ha, fun H1 s1 => ⟨hb, fun H2 s2 => ⟨hk, hk2, ha.1, hb.1, Nat.le_trans (G.endL_len a b) (Nat.le_trans ha.1 (by decide)), k H2 (s1.trans s2)⟩⟩⟩
end
end Lw

namespace Lw
open PySem PySem.Spec L2
section
variable {P : Program} {w : World} {K : PySem.W.Frag} {mg : Str → Option Value} {base : Heap}
theorem ok__law_stream (T : Tx K mg) : T.d__law_stream.Ok P w base CX0 1 (G.spStream K) := by
  refine T.d__law_stream.F.ok sc__law_stream (fun vs H Q E h => ?_) (fun cdv A outer s H vs Q E hr h => ?_)
  · obtain ⟨a, ns, rfl, _⟩ := h; rfl
  · obtain ⟨a, ns, rfl, hS, k⟩ := h
    refine ⟨_, (pss_one (ps_ret (pe_lst (pa_cons (pe_callTy call_list_of (by rfl) T.n_list (by decide +kernel) (pa_cons (pv 0) pa_nil)) (pa_cons pe_int (pa_cons pe_int pa_nil)))))), ?_⟩
    simp only [tVar, tC, G.sl_is, G.lt1, Int.reduceLT, Int.reduceLE, Int.reduceNeg, Int.reducePow, Int.reduceToNat, Int.reduceSub, Int.reduceAdd, Int.reduceMul, Nat.reduceLT, Nat.reduceLeDiff, Int.zero_add, ne_eq,  HO.lst.injEq, List.dropLast_concat, G.last_get,  HO.tup.injEq, G.rII, G.rBB, G.rSS,  tOp, tUn, rI, rI0, rU, tAndV, tOrV, tNotV, tIf, tAnd, tOr, tNot, tNext, tSeq, tBreak, tCont, tDrop, tRet, tRetN, tIfS, gName, gNil, gCons, G.gTupT, G.gUnlT, gSub, gUnl, tAsg, tPar, tTest, tB, tChain,
      tNil, tCons, tTup, tLst, tCall, tCB, tBM, tBM0, tSl, tNoPart, tPart, rSetL, G.atI0, G.atI1, G.atI2, G.ixN30, G.ixN31, G.ixN32, G.cx_K, and_self, rEq, rNe, G.scal_bl, G.scal_int, G.scal_sv,  G.sv_str, G.Kn_sv, G.Kn_int, G.Kn_bl, G.Kn_non, G.isI_int, G.isI_bl, G.isI_sv, G.isI_ref, G.isI_non, G.isB_int, G.isB_bl, G.isB_sv, G.isB_ref, G.isB_non, G.isS_int, G.isS_bl, G.isS_sv, G.isS_ref, G.isS_non, G.isT_int, G.isT_bl, G.isT_sv, G.isT_non, G.isL_int, G.isL_bl, G.isL_sv, G.isL_non,  L2.upd_same,  rAppend, rExtend, rPop, iRng1, iRng2, iList, iTup, iStr, CDivN, CPow, CMul, rIsB, rNotB, rAdd, rSub, G.tFor_eq, G.tLc_eq, tYes, wipe,
      List.getElem?_cons_succ, List.getElem?_cons_zero, List.set_cons_succ, List.set_cons_zero, Option.some.injEq, exists_eq_left', exists_eq_left, exists_eq', exists_eq, V.int.injEq, V.bl.injEq, V.ref.injEq, G.sv_inj, List.cons.injEq, and_true, true_and,
      exists_and_left, and_assoc, exists_eq_right_right, exists_eq_right, decide_eq_true_eq, List.append_nil, List.nil_append, List.cons_append, Bool.not_eq_true', decide_eq_false_iff_not, Bool.not_false, Bool.not_true, Bool.false_eq_true, Bool.true_eq_false, not_true, not_false_iff, L2.start, List.map_cons, List.map_nil, List.length_cons, List.length_nil, List.replicate_zero, List.replicate_succ,
      Nat.reduceAdd, Nat.reduceSub, Nat.add_zero, Nat.zero_add, reduceCtorEq, false_and, exists_false, false_or, or_false, ite_true, ite_false, if_true, if_false]
    refine ⟨_, .inl hS, fun sc n1 p n2 => k p _ ?_ ?_ ⟨sc, 0, 0, ns, upd_same, ?_, Int.le_refl _, Int.le_refl _⟩⟩
    · exact (G.same_upd n1).trans (G.same_upd n2)
    · exact (G.same_upd n1).free n2
    · rw [upd_ne (fun e => by rw [e] at n1 ; rw [e, upd_same] at n2; cases n2), upd_same]
theorem ok__law_next (T : Tx K mg) : T.d__law_next.Ok P w base CX0 1 G.spNext := by
  refine T.d__law_next.F.ok sc__law_next (fun vs H Q E h => ?_) (fun cdv A outer s H vs Q E hr h => ?_)
  · obtain ⟨_, _, rfl, _⟩ := h; rfl
  · obtain ⟨st, m, rfl, hS, hm, hm2, k⟩ := h
    obtain ⟨sc, c, k0, ns, h1, h2, h3, h4⟩ := id hS
    have hne := G.Strm.ne h1 h2
    refine ⟨_, (C8.pss_cut (ps_if (pt_cmpR G.op_eqI (pe_ix G.ix_lst (pv 0) pe_int (fun _ _ => rfl)) pe_int (nomark _)) (pss_cons (ps_set (i := 2) sc__law_next.nd rfl (Or.inl rfl) (pe_ix G.ix_lst (pv 0) pe_int (fun _ _ => rfl)))
        (pss_cons (ps_set (i := 3) sc__law_next.nd rfl (Or.inl rfl) (pe_op op_add pe_int (pv 2)))
        (C8.pss_cut (ps_if (pt_cmpR op_lt (pv 2) (pe_callB G.call_lenL (by rfl) T.n_len (by decide +kernel) (pa_cons (pe_ix G.ix_lst (pv 0) pe_int (fun _ _ => rfl)) pa_nil)) (nomark _)) (pss_one (ps_set (i := 3) sc__law_next.nd rfl (Or.inl rfl) (pe_callB call_abs (by rfl) T.n_abs (by decide +kernel) (pa_cons (pe_ix G.ix_lst (pe_ix G.ix_lst (pv 0) pe_int (fun _ _ => rfl)) (pv 2) (fun _ _ => rfl)) pa_nil)))) pss_nil)
        (C8.pss_cut (ps_if (pt_cmpR op_lt (pv 3) (pe_op (G.op_powC (a := 10) (b := 18) (v := 1000000000000000000) ⟨by decide, by decide, by decide⟩ (by decide)) pe_int pe_int) (nomark _)) (pss_cons (ps_set (i := 3) sc__law_next.nd rfl (Or.inl rfl) (pe_op (G.op_modC (c := 2147483647) (by decide)) (pe_callTy G.call_intI (by rfl) T.n_int (by decide +kernel) (pa_cons (pe_op op_add (pe_op op_add (pe_op (G.op_mulC (c := 48271) (by decide)) (pv 3) pe_int) (pe_op (G.op_mulC (c := 69621) (by decide)) (pv 2) pe_int)) pe_int) pa_nil)) pe_int))
          (pss_one (ps_set (i := 3) sc__law_next.nd rfl (Or.inl rfl) (pe_op op_add (pe_op (G.op_mulC (c := 65537) (by decide)) (pe_op (G.op_modC (c := 2147483647) (by decide)) (pe_callTy G.call_intI (by rfl) T.n_int (by decide +kernel) (pa_cons (pe_op op_add (pe_op (G.op_mulC (c := 16807) (by decide)) (pv 3) pe_int) pe_int) pa_nil)) pe_int) pe_int) (pv 3))))) pss_nil)
        (pss_cons (ps_asg (pv 3) (pg_sub (pv 0) pe_int set_list))
        (pss_one (ps_asg (pe_op op_add (pv 2) pe_int) (pg_sub (pv 0) pe_int set_list)))))))) pss_nil)
      (pss_cons (ps_set (i := 4) sc__law_next.nd rfl (Or.inl rfl) (pe_op G.op_modP (pe_callTy G.call_intI (by rfl) T.n_int (by decide +kernel) (pa_cons (pe_ix G.ix_lst (pv 0) pe_int (fun _ _ => rfl)) pa_nil)) (pv 1)))
      (pss_cons (ps_asg (pe_op G.op_divP (pe_ix G.ix_lst (pv 0) pe_int (fun _ _ => rfl)) (pv 1)) (pg_sub (pv 0) pe_int set_list))
      (pss_one (ps_ret (pv 4)))))), ?_⟩
    refine G.cutM (fun σ H' => ∃ v2 v3 c', σ = [some (.ref st), some (.int m), v2, v3, none] ∧ G.Adv st H H' ∧ 0 ≤ c' ∧ ∃ k', 0 ≤ k' ∧ H' st = some (.lst [.ref sc, .int c', .int k'])) (fun M hM => ?_) ?_
    · simp only [tVar, tC, G.sl_is, G.lt1, Int.reduceLT, Int.reduceLE, Int.reduceNeg, Int.reducePow, Int.reduceToNat, Int.reduceSub, Int.reduceAdd, Int.reduceMul, Nat.reduceLT, Nat.reduceLeDiff, Int.zero_add, ne_eq,  HO.lst.injEq, List.dropLast_concat, G.last_get,  HO.tup.injEq, G.rII, G.rBB, G.rSS,  tOp, tUn, rI, rI0, rU, tAndV, tOrV, tNotV, tIf, tAnd, tOr, tNot, tNext, tSeq, tBreak, tCont, tDrop, tRet, tRetN, tIfS, gName, gNil, gCons, G.gTupT, G.gUnlT, gSub, gUnl, tAsg, tPar, tTest, tB, tChain,
      tNil, tCons, tTup, tLst, tCall, tCB, tBM, tBM0, tSl, tNoPart, tPart, rSetL, G.atI0, G.atI1, G.atI2, G.ixN30, G.ixN31, G.ixN32, G.cx_K, and_self, rEq, rNe, G.scal_bl, G.scal_int, G.scal_sv,  G.sv_str, G.Kn_sv, G.Kn_int, G.Kn_bl, G.Kn_non, G.isI_int, G.isI_bl, G.isI_sv, G.isI_ref, G.isI_non, G.isB_int, G.isB_bl, G.isB_sv, G.isB_ref, G.isB_non, G.isS_int, G.isS_bl, G.isS_sv, G.isS_ref, G.isS_non, G.isT_int, G.isT_bl, G.isT_sv, G.isT_non, G.isL_int, G.isL_bl, G.isL_sv, G.isL_non,  L2.upd_same,  rAppend, rExtend, rPop, iRng1, iRng2, iList, iTup, iStr, CDivN, CPow, CMul, rIsB, rNotB, rAdd, rSub, G.tFor_eq, G.tLc_eq, tYes, wipe,
      List.getElem?_cons_succ, List.getElem?_cons_zero, List.set_cons_succ, List.set_cons_zero, Option.some.injEq, exists_eq_left', exists_eq_left, exists_eq', exists_eq, V.int.injEq, V.bl.injEq, V.ref.injEq, G.sv_inj, List.cons.injEq, and_true, true_and,
      exists_and_left, and_assoc, exists_eq_right_right, exists_eq_right, decide_eq_true_eq, List.append_nil, List.nil_append, List.cons_append, Bool.not_eq_true', decide_eq_false_iff_not, Bool.not_false, Bool.not_true, Bool.false_eq_true, Bool.true_eq_false, not_true, not_false_iff, L2.start, List.map_cons, List.map_nil, List.length_cons, List.length_nil, List.replicate_zero, List.replicate_succ,
      Nat.reduceAdd, Nat.reduceSub, Nat.add_zero, Nat.zero_add, reduceCtorEq, false_and, exists_false, false_or, or_false, ite_true, ite_false, if_true, if_false, h1]
      by_cases hc : c = 0
      · rw [if_pos hc]
        refine G.cutM (fun σ H' => ∃ cl : Int, σ = [some (.ref st), some (.int m), some (.int k0), some (.int cl), none] ∧ H' = H ∧ 0 ≤ cl) (fun M1 hM1 => ?_) ?_
        · simp only [tVar, tC, G.sl_is, G.lt1, Int.reduceLT, Int.reduceLE, Int.reduceNeg, Int.reducePow, Int.reduceToNat, Int.reduceSub, Int.reduceAdd, Int.reduceMul, Nat.reduceLT, Nat.reduceLeDiff, Int.zero_add, ne_eq,  HO.lst.injEq, List.dropLast_concat, G.last_get,  HO.tup.injEq, G.rII, G.rBB, G.rSS,  tOp, tUn, rI, rI0, rU, tAndV, tOrV, tNotV, tIf, tAnd, tOr, tNot, tNext, tSeq, tBreak, tCont, tDrop, tRet, tRetN, tIfS, gName, gNil, gCons, G.gTupT, G.gUnlT, gSub, gUnl, tAsg, tPar, tTest, tB, tChain,
      tNil, tCons, tTup, tLst, tCall, tCB, tBM, tBM0, tSl, tNoPart, tPart, rSetL, G.atI0, G.atI1, G.atI2, G.ixN30, G.ixN31, G.ixN32, G.cx_K, and_self, rEq, rNe, G.scal_bl, G.scal_int, G.scal_sv,  G.sv_str, G.Kn_sv, G.Kn_int, G.Kn_bl, G.Kn_non, G.isI_int, G.isI_bl, G.isI_sv, G.isI_ref, G.isI_non, G.isB_int, G.isB_bl, G.isB_sv, G.isB_ref, G.isB_non, G.isS_int, G.isS_bl, G.isS_sv, G.isS_ref, G.isS_non, G.isT_int, G.isT_bl, G.isT_sv, G.isT_non, G.isL_int, G.isL_bl, G.isL_sv, G.isL_non,  L2.upd_same,  rAppend, rExtend, rPop, iRng1, iRng2, iList, iTup, iStr, CDivN, CPow, CMul, rIsB, rNotB, rAdd, rSub, G.tFor_eq, G.tLc_eq, tYes, wipe,
      List.getElem?_cons_succ, List.getElem?_cons_zero, List.set_cons_succ, List.set_cons_zero, Option.some.injEq, exists_eq_left', exists_eq_left, exists_eq', exists_eq, V.int.injEq, V.bl.injEq, V.ref.injEq, G.sv_inj, List.cons.injEq, and_true, true_and,
      exists_and_left, and_assoc, exists_eq_right_right, exists_eq_right, decide_eq_true_eq, List.append_nil, List.nil_append, List.cons_append, Bool.not_eq_true', decide_eq_false_iff_not, Bool.not_false, Bool.not_true, Bool.false_eq_true, Bool.true_eq_false, not_true, not_false_iff, L2.start, List.map_cons, List.map_nil, List.length_cons, List.length_nil, List.replicate_zero, List.replicate_succ,
      Nat.reduceAdd, Nat.reduceSub, Nat.add_zero, Nat.zero_add, reduceCtorEq, false_and, exists_false, false_or, or_false, ite_true, ite_false, if_true, if_false, h1, h2]
          refine G.ite_i (fun hk => ?_) fun hk => by rw [hM1]; exact ⟨_, rfl, rfl, by omega⟩
          have hl : k0.toNat < ns.length := by simp at hk; omega
          refine ⟨.int (ns[k0.toNat]), G.atI_of (by simp [hl]) h4, _, rfl, ?_⟩
          rw [hM1]
          refine ⟨_, rfl, rfl, ?_⟩
          split <;> omega
        · rintro σ H' ⟨cl, rfl, rfl, hcl⟩
          refine G.cutM (fun σ H'' => ∃ cl : Int, σ = [some (.ref st), some (.int m), some (.int k0), some (.int cl), none] ∧ H'' = H' ∧ 0 ≤ cl) (fun M2 hM2 => ?_) ?_
          · simp only [tVar, tC, G.sl_is, G.lt1, Int.reduceLT, Int.reduceLE, Int.reduceNeg, Int.reducePow, Int.reduceToNat, Int.reduceSub, Int.reduceAdd, Int.reduceMul, Nat.reduceLT, Nat.reduceLeDiff, Int.zero_add, ne_eq,  HO.lst.injEq, List.dropLast_concat, G.last_get,  HO.tup.injEq, G.rII, G.rBB, G.rSS,  tOp, tUn, rI, rI0, rU, tAndV, tOrV, tNotV, tIf, tAnd, tOr, tNot, tNext, tSeq, tBreak, tCont, tDrop, tRet, tRetN, tIfS, gName, gNil, gCons, G.gTupT, G.gUnlT, gSub, gUnl, tAsg, tPar, tTest, tB, tChain,
      tNil, tCons, tTup, tLst, tCall, tCB, tBM, tBM0, tSl, tNoPart, tPart, rSetL, G.atI0, G.atI1, G.atI2, G.ixN30, G.ixN31, G.ixN32, G.cx_K, and_self, rEq, rNe, G.scal_bl, G.scal_int, G.scal_sv,  G.sv_str, G.Kn_sv, G.Kn_int, G.Kn_bl, G.Kn_non, G.isI_int, G.isI_bl, G.isI_sv, G.isI_ref, G.isI_non, G.isB_int, G.isB_bl, G.isB_sv, G.isB_ref, G.isB_non, G.isS_int, G.isS_bl, G.isS_sv, G.isS_ref, G.isS_non, G.isT_int, G.isT_bl, G.isT_sv, G.isT_non, G.isL_int, G.isL_bl, G.isL_sv, G.isL_non,  L2.upd_same,  rAppend, rExtend, rPop, iRng1, iRng2, iList, iTup, iStr, CDivN, CPow, CMul, rIsB, rNotB, rAdd, rSub, G.tFor_eq, G.tLc_eq, tYes, wipe,
      List.getElem?_cons_succ, List.getElem?_cons_zero, List.set_cons_succ, List.set_cons_zero, Option.some.injEq, exists_eq_left', exists_eq_left, exists_eq', exists_eq, V.int.injEq, V.bl.injEq, V.ref.injEq, G.sv_inj, List.cons.injEq, and_true, true_and,
      exists_and_left, and_assoc, exists_eq_right_right, exists_eq_right, decide_eq_true_eq, List.append_nil, List.nil_append, List.cons_append, Bool.not_eq_true', decide_eq_false_iff_not, Bool.not_false, Bool.not_true, Bool.false_eq_true, Bool.true_eq_false, not_true, not_false_iff, L2.start, List.map_cons, List.map_nil, List.length_cons, List.length_nil, List.replicate_zero, List.replicate_succ,
      Nat.reduceAdd, Nat.reduceSub, Nat.add_zero, Nat.zero_add, reduceCtorEq, false_and, exists_false, false_or, or_false, ite_true, ite_false, if_true, if_false, h1, h2]
            refine G.ite_i (fun hk => ?_) fun hk => by rw [hM2]; exact ⟨_, rfl, rfl, hcl⟩
            rw [hM2]
            exact ⟨_, rfl, rfl, by omega⟩
          · rintro σ H'' ⟨cl, rfl, rfl, hcl⟩
            simp only [tVar, tC, G.sl_is, G.lt1, Int.reduceLT, Int.reduceLE, Int.reduceNeg, Int.reducePow, Int.reduceToNat, Int.reduceSub, Int.reduceAdd, Int.reduceMul, Nat.reduceLT, Nat.reduceLeDiff, Int.zero_add, ne_eq,  HO.lst.injEq, List.dropLast_concat, G.last_get,  HO.tup.injEq, G.rII, G.rBB, G.rSS,  tOp, tUn, rI, rI0, rU, tAndV, tOrV, tNotV, tIf, tAnd, tOr, tNot, tNext, tSeq, tBreak, tCont, tDrop, tRet, tRetN, tIfS, gName, gNil, gCons, G.gTupT, G.gUnlT, gSub, gUnl, tAsg, tPar, tTest, tB, tChain,
      tNil, tCons, tTup, tLst, tCall, tCB, tBM, tBM0, tSl, tNoPart, tPart, rSetL, G.atI0, G.atI1, G.atI2, G.ixN30, G.ixN31, G.ixN32, G.cx_K, and_self, rEq, rNe, G.scal_bl, G.scal_int, G.scal_sv,  G.sv_str, G.Kn_sv, G.Kn_int, G.Kn_bl, G.Kn_non, G.isI_int, G.isI_bl, G.isI_sv, G.isI_ref, G.isI_non, G.isB_int, G.isB_bl, G.isB_sv, G.isB_ref, G.isB_non, G.isS_int, G.isS_bl, G.isS_sv, G.isS_ref, G.isS_non, G.isT_int, G.isT_bl, G.isT_sv, G.isT_non, G.isL_int, G.isL_bl, G.isL_sv, G.isL_non,  L2.upd_same,  rAppend, rExtend, rPop, iRng1, iRng2, iList, iTup, iStr, CDivN, CPow, CMul, rIsB, rNotB, rAdd, rSub, G.tFor_eq, G.tLc_eq, tYes, wipe,
      List.getElem?_cons_succ, List.getElem?_cons_zero, List.set_cons_succ, List.set_cons_zero, Option.some.injEq, exists_eq_left', exists_eq_left, exists_eq', exists_eq, V.int.injEq, V.bl.injEq, V.ref.injEq, G.sv_inj, List.cons.injEq, and_true, true_and,
      exists_and_left, and_assoc, exists_eq_right_right, exists_eq_right, decide_eq_true_eq, List.append_nil, List.nil_append, List.cons_append, Bool.not_eq_true', decide_eq_false_iff_not, Bool.not_false, Bool.not_true, Bool.false_eq_true, Bool.true_eq_false, not_true, not_false_iff, L2.start, List.map_cons, List.map_nil, List.length_cons, List.length_nil, List.replicate_zero, List.replicate_succ,
      Nat.reduceAdd, Nat.reduceSub, Nat.add_zero, Nat.zero_add, reduceCtorEq, false_and, exists_false, false_or, or_false, ite_true, ite_false, if_true, if_false, h1, h2]
            rw [hM]
            refine ⟨_, _, cl, rfl, ⟨fun b o nb e => by rw [upd_ne nb, upd_ne nb]; exact e, ⟨sc, cl, k0 + 1, ns, upd_same, by rw [upd_ne hne, upd_ne hne]; exact h2, hcl, by omega⟩⟩, hcl, k0 + 1, by omega, upd_same⟩
      · rw [if_neg hc, hM]
        exact ⟨_, _, c, rfl, G.Adv.refl hS, h3, k0, h4, h1⟩
    · rintro σ H' ⟨v2, v3, c', rfl, ad, hc', k', hk', g1⟩
      simp only [tVar, tC, G.sl_is, G.lt1, Int.reduceLT, Int.reduceLE, Int.reduceNeg, Int.reducePow, Int.reduceToNat, Int.reduceSub, Int.reduceAdd, Int.reduceMul, Nat.reduceLT, Nat.reduceLeDiff, Int.zero_add, ne_eq,  HO.lst.injEq, List.dropLast_concat, G.last_get,  HO.tup.injEq, G.rII, G.rBB, G.rSS,  tOp, tUn, rI, rI0, rU, tAndV, tOrV, tNotV, tIf, tAnd, tOr, tNot, tNext, tSeq, tBreak, tCont, tDrop, tRet, tRetN, tIfS, gName, gNil, gCons, G.gTupT, G.gUnlT, gSub, gUnl, tAsg, tPar, tTest, tB, tChain,
      tNil, tCons, tTup, tLst, tCall, tCB, tBM, tBM0, tSl, tNoPart, tPart, rSetL, G.atI0, G.atI1, G.atI2, G.ixN30, G.ixN31, G.ixN32, G.cx_K, and_self, rEq, rNe, G.scal_bl, G.scal_int, G.scal_sv,  G.sv_str, G.Kn_sv, G.Kn_int, G.Kn_bl, G.Kn_non, G.isI_int, G.isI_bl, G.isI_sv, G.isI_ref, G.isI_non, G.isB_int, G.isB_bl, G.isB_sv, G.isB_ref, G.isB_non, G.isS_int, G.isS_bl, G.isS_sv, G.isS_ref, G.isS_non, G.isT_int, G.isT_bl, G.isT_sv, G.isT_non, G.isL_int, G.isL_bl, G.isL_sv, G.isL_non,  L2.upd_same,  rAppend, rExtend, rPop, iRng1, iRng2, iList, iTup, iStr, CDivN, CPow, CMul, rIsB, rNotB, rAdd, rSub, G.tFor_eq, G.tLc_eq, tYes, wipe,
      List.getElem?_cons_succ, List.getElem?_cons_zero, List.set_cons_succ, List.set_cons_zero, Option.some.injEq, exists_eq_left', exists_eq_left, exists_eq', exists_eq, V.int.injEq, V.bl.injEq, V.ref.injEq, G.sv_inj, List.cons.injEq, and_true, true_and,
      exists_and_left, and_assoc, exists_eq_right_right, exists_eq_right, decide_eq_true_eq, List.append_nil, List.nil_append, List.cons_append, Bool.not_eq_true', decide_eq_false_iff_not, Bool.not_false, Bool.not_true, Bool.false_eq_true, Bool.true_eq_false, not_true, not_false_iff, L2.start, List.map_cons, List.map_nil, List.length_cons, List.length_nil, List.replicate_zero, List.replicate_succ,
      Nat.reduceAdd, Nat.reduceSub, Nat.add_zero, Nat.zero_add, reduceCtorEq, false_and, exists_false, false_or, or_false, ite_true, ite_false, if_true, if_false, g1]
      refine ⟨hm, hm, hm2, k _ _ (Int.emod_nonneg _ (by omega)) (Int.emod_lt_of_pos _ hm) ⟨fun b o nb e => by rw [upd_ne nb]; exact ad.1 b o nb e, ⟨sc, _, k', ns, upd_same, by rw [upd_ne hne]; exact ad.1 _ _ hne h2, Int.ediv_nonneg hc' (by omega), hk'⟩⟩⟩

theorem ok__law_word (T : Tx K mg) : T.d__law_word.Ok P w base CX0 2 G.spWord := by
  refine T.d__law_word.F.ok sc__law_word (fun vs H Q E h => ?_) (fun cdv A outer s H vs Q E hr h => ?_)
  · obtain ⟨_, _, _, _, rfl, _⟩ := h; rfl
  · obtain ⟨st, L, a, b, rfl, hS, hL, hL2, ha, hab, hb, k⟩ := h
    have G__law_next := ok__law_next (P := P) (w := w) (base := base) T
    have lL : L.length ≤ 16777216 := Nat.le_trans hL2 (by decide)
    have pL : 0 < L.length := List.length_pos_iff.mpr hL
    refine ⟨_, (pss_cons (ps_set (i := 4) sc__law_word.nd rfl (Or.inl rfl) (G.pe_strS (l := []) (by decide +kernel)))
      (pss_cons (ps_for PassesOwn.never rfl (pi_range1 (by rfl) T.n_range (pa_cons (pe_op op_add (pv 2) (G.pe_callD T.d__law_next G__law_next (hr.mono (by decide)) (pa_cons (pv 0) (pa_cons (pe_op op_add (pe_op op_sub (pv 3) (pv 2)) pe_int) pa_nil)))) pa_nil)) (pg_name (i := 5) sc__law_word.nd rfl (Or.inl rfl)) (pss_one (ps_set (i := 4) sc__law_word.nd rfl (Or.inl rfl) (pe_op G.op_addS (pv 4) (pe_ix G.ix_S (pv 1) (G.pe_callD T.d__law_next G__law_next (hr.mono (by decide)) (pa_cons (pv 0) (pa_cons (pe_callB G.call_lenS (by rfl) T.n_len (by decide +kernel) (pa_cons (pv 1) pa_nil)) pa_nil))) (fun _ _ => rfl))))))
      (pss_one (ps_ret (pv 4))))), ?_⟩
    simp only [tVar, tC, G.sl_is, G.lt1, Int.reduceLT, Int.reduceLE, Int.reduceNeg, Int.reducePow, Int.reduceToNat, Int.reduceSub, Int.reduceAdd, Int.reduceMul, Nat.reduceLT, Nat.reduceLeDiff, Int.zero_add, ne_eq,  HO.lst.injEq, List.dropLast_concat, G.last_get,  HO.tup.injEq, G.rII, G.rBB, G.rSS,  tOp, tUn, rI, rI0, rU, tAndV, tOrV, tNotV, tIf, tAnd, tOr, tNot, tNext, tSeq, tBreak, tCont, tDrop, tRet, tRetN, tIfS, gName, gNil, gCons, G.gTupT, G.gUnlT, gSub, gUnl, tAsg, tPar, tTest, tB, tChain,
      tNil, tCons, tTup, tLst, tCall, tCB, tBM, tBM0, tSl, tNoPart, tPart, rSetL, G.atI0, G.atI1, G.atI2, G.ixN30, G.ixN31, G.ixN32, G.cx_K, and_self, rEq, rNe, G.scal_bl, G.scal_int, G.scal_sv,  G.sv_str, G.Kn_sv, G.Kn_int, G.Kn_bl, G.Kn_non, G.isI_int, G.isI_bl, G.isI_sv, G.isI_ref, G.isI_non, G.isB_int, G.isB_bl, G.isB_sv, G.isB_ref, G.isB_non, G.isS_int, G.isS_bl, G.isS_sv, G.isS_ref, G.isS_non, G.isT_int, G.isT_bl, G.isT_sv, G.isT_non, G.isL_int, G.isL_bl, G.isL_sv, G.isL_non,  L2.upd_same,  rAppend, rExtend, rPop, iRng1, iRng2, iList, iTup, iStr, CDivN, CPow, CMul, rIsB, rNotB, rAdd, rSub, G.tFor_eq, G.tLc_eq, tYes, wipe,
      List.getElem?_cons_succ, List.getElem?_cons_zero, List.set_cons_succ, List.set_cons_zero, Option.some.injEq, exists_eq_left', exists_eq_left, exists_eq', exists_eq, V.int.injEq, V.bl.injEq, V.ref.injEq, G.sv_inj, List.cons.injEq, and_true, true_and,
      exists_and_left, and_assoc, exists_eq_right_right, exists_eq_right, decide_eq_true_eq, List.append_nil, List.nil_append, List.cons_append, Bool.not_eq_true', decide_eq_false_iff_not, Bool.not_false, Bool.not_true, Bool.false_eq_true, Bool.true_eq_false, not_true, not_false_iff, L2.start, List.map_cons, List.map_nil, List.length_cons, List.length_nil, List.replicate_zero, List.replicate_succ,
      Nat.reduceAdd, Nat.reduceSub, Nat.add_zero, Nat.zero_add, reduceCtorEq, false_and, exists_false, false_or, or_false, ite_true, ite_false, if_true, if_false, G.spNext]
    refine ⟨hS, by omega, by omega, fun d H1 d0 d1 ad => ⟨by omega, by omega, ?_⟩⟩
    refine G.loop_range (fun i σ H2 => ∃ wd v5, σ = [some (.ref st), some (G.sv L), some (.int a), some (.int b), some (G.sv wd), v5] ∧ wd.length = i ∧ (∀ c ∈ wd, c ∈ L) ∧ G.Adv st H H2) ⟨[], _, rfl, rfl, by simp, ad⟩ (fun M hM i σ H2 hi hP => ?_) (fun σ H2 hP => ?_)
    · obtain ⟨wd, v5, rfl, hl, hm, ad2⟩ := hP
      simp only [tVar, tC, G.sl_is, G.lt1, Int.reduceLT, Int.reduceLE, Int.reduceNeg, Int.reducePow, Int.reduceToNat, Int.reduceSub, Int.reduceAdd, Int.reduceMul, Nat.reduceLT, Nat.reduceLeDiff, Int.zero_add, ne_eq,  HO.lst.injEq, List.dropLast_concat, G.last_get,  HO.tup.injEq, G.rII, G.rBB, G.rSS,  tOp, tUn, rI, rI0, rU, tAndV, tOrV, tNotV, tIf, tAnd, tOr, tNot, tNext, tSeq, tBreak, tCont, tDrop, tRet, tRetN, tIfS, gName, gNil, gCons, G.gTupT, G.gUnlT, gSub, gUnl, tAsg, tPar, tTest, tB, tChain,
      tNil, tCons, tTup, tLst, tCall, tCB, tBM, tBM0, tSl, tNoPart, tPart, rSetL, G.atI0, G.atI1, G.atI2, G.ixN30, G.ixN31, G.ixN32, G.cx_K, and_self, rEq, rNe, G.scal_bl, G.scal_int, G.scal_sv,  G.sv_str, G.Kn_sv, G.Kn_int, G.Kn_bl, G.Kn_non, G.isI_int, G.isI_bl, G.isI_sv, G.isI_ref, G.isI_non, G.isB_int, G.isB_bl, G.isB_sv, G.isB_ref, G.isB_non, G.isS_int, G.isS_bl, G.isS_sv, G.isS_ref, G.isS_non, G.isT_int, G.isT_bl, G.isT_sv, G.isT_non, G.isL_int, G.isL_bl, G.isL_sv, G.isL_non,  L2.upd_same,  rAppend, rExtend, rPop, iRng1, iRng2, iList, iTup, iStr, CDivN, CPow, CMul, rIsB, rNotB, rAdd, rSub, G.tFor_eq, G.tLc_eq, tYes, wipe,
      List.getElem?_cons_succ, List.getElem?_cons_zero, List.set_cons_succ, List.set_cons_zero, Option.some.injEq, exists_eq_left', exists_eq_left, exists_eq', exists_eq, V.int.injEq, V.bl.injEq, V.ref.injEq, G.sv_inj, List.cons.injEq, and_true, true_and,
      exists_and_left, and_assoc, exists_eq_right_right, exists_eq_right, decide_eq_true_eq, List.append_nil, List.nil_append, List.cons_append, Bool.not_eq_true', decide_eq_false_iff_not, Bool.not_false, Bool.not_true, Bool.false_eq_true, Bool.true_eq_false, not_true, not_false_iff, L2.start, List.map_cons, List.map_nil, List.length_cons, List.length_nil, List.replicate_zero, List.replicate_succ,
      Nat.reduceAdd, Nat.reduceSub, Nat.add_zero, Nat.zero_add, reduceCtorEq, false_and, exists_false, false_or, or_false, ite_true, ite_false, if_true, if_false, G.spNext, lL]
      refine ⟨ad2.2, by omega, by omega, fun j H3 j0 j1 ad3 => ?_⟩
      have jl : j.toNat < L.length := by omega
      refine ⟨L[j.toNat], G.atI_of (by simp [jl]) j0, ?_, ?_⟩
      · omega
      · rw [hM]
        refine ⟨_, _, rfl, by simp [hl], fun c hc => ?_, ad2.trans ad3⟩
        rcases List.mem_append.mp hc with hc | hc
        · exact hm c hc
        · rw [List.mem_singleton.mp hc]; exact List.getElem_mem _
    · obtain ⟨wd, v5, rfl, hl, hm, ad2⟩ := hP
      simp only [tVar, tC, G.sl_is, G.lt1, Int.reduceLT, Int.reduceLE, Int.reduceNeg, Int.reducePow, Int.reduceToNat, Int.reduceSub, Int.reduceAdd, Int.reduceMul, Nat.reduceLT, Nat.reduceLeDiff, Int.zero_add, ne_eq,  HO.lst.injEq, List.dropLast_concat, G.last_get,  HO.tup.injEq, G.rII, G.rBB, G.rSS,  tOp, tUn, rI, rI0, rU, tAndV, tOrV, tNotV, tIf, tAnd, tOr, tNot, tNext, tSeq, tBreak, tCont, tDrop, tRet, tRetN, tIfS, gName, gNil, gCons, G.gTupT, G.gUnlT, gSub, gUnl, tAsg, tPar, tTest, tB, tChain,
      tNil, tCons, tTup, tLst, tCall, tCB, tBM, tBM0, tSl, tNoPart, tPart, rSetL, G.atI0, G.atI1, G.atI2, G.ixN30, G.ixN31, G.ixN32, G.cx_K, and_self, rEq, rNe, G.scal_bl, G.scal_int, G.scal_sv,  G.sv_str, G.Kn_sv, G.Kn_int, G.Kn_bl, G.Kn_non, G.isI_int, G.isI_bl, G.isI_sv, G.isI_ref, G.isI_non, G.isB_int, G.isB_bl, G.isB_sv, G.isB_ref, G.isB_non, G.isS_int, G.isS_bl, G.isS_sv, G.isS_ref, G.isS_non, G.isT_int, G.isT_bl, G.isT_sv, G.isT_non, G.isL_int, G.isL_bl, G.isL_sv, G.isL_non,  L2.upd_same,  rAppend, rExtend, rPop, iRng1, iRng2, iList, iTup, iStr, CDivN, CPow, CMul, rIsB, rNotB, rAdd, rSub, G.tFor_eq, G.tLc_eq, tYes, wipe,
      List.getElem?_cons_succ, List.getElem?_cons_zero, List.set_cons_succ, List.set_cons_zero, Option.some.injEq, exists_eq_left', exists_eq_left, exists_eq', exists_eq, V.int.injEq, V.bl.injEq, V.ref.injEq, G.sv_inj, List.cons.injEq, and_true, true_and,
      exists_and_left, and_assoc, exists_eq_right_right, exists_eq_right, decide_eq_true_eq, List.append_nil, List.nil_append, List.cons_append, Bool.not_eq_true', decide_eq_false_iff_not, Bool.not_false, Bool.not_true, Bool.false_eq_true, Bool.true_eq_false, not_true, not_false_iff, L2.start, List.map_cons, List.map_nil, List.length_cons, List.length_nil, List.replicate_zero, List.replicate_succ,
      Nat.reduceAdd, Nat.reduceSub, Nat.add_zero, Nat.zero_add, reduceCtorEq, false_and, exists_false, false_or, or_false, ite_true, ite_false, if_true, if_false]
      exact k wd H2 (by omega) (by omega) hm ad2

theorem ok__law_says (T : Tx K mg) : T.d__law_says.Ok P w base CX0 1 G.spSays := by
  refine T.d__law_says.F.ok sc__law_says (fun vs H Q E h => ?_) (fun cdv A outer s H vs Q E hr h => ?_)
  · obtain ⟨_, _, rfl, _⟩ := h; rfl
  · obtain ⟨a, b, rfl, k⟩ := h
    refine ⟨_, (pss_one (ps_ret (pe_ifExp (pt_val (pv 1)) (pe_cmpR op_isBl (pv 0) pe_bl (nomark _)) (pe_cmpR op_isBl (pv 0) pe_bl (nomark _))))), ?_⟩
    simp only [tVar, tC, G.sl_is, G.lt1, Int.reduceLT, Int.reduceLE, Int.reduceNeg, Int.reducePow, Int.reduceToNat, Int.reduceSub, Int.reduceAdd, Int.reduceMul, Nat.reduceLT, Nat.reduceLeDiff, Int.zero_add, ne_eq,  HO.lst.injEq, List.dropLast_concat, G.last_get,  HO.tup.injEq, G.rII, G.rBB, G.rSS,  tOp, tUn, rI, rI0, rU, tAndV, tOrV, tNotV, tIf, tAnd, tOr, tNot, tNext, tSeq, tBreak, tCont, tDrop, tRet, tRetN, tIfS, gName, gNil, gCons, G.gTupT, G.gUnlT, gSub, gUnl, tAsg, tPar, tTest, tB, tChain,
      tNil, tCons, tTup, tLst, tCall, tCB, tBM, tBM0, tSl, tNoPart, tPart, rSetL, G.atI0, G.atI1, G.atI2, G.ixN30, G.ixN31, G.ixN32, G.cx_K, and_self, rEq, rNe, G.scal_bl, G.scal_int, G.scal_sv,  G.sv_str, G.Kn_sv, G.Kn_int, G.Kn_bl, G.Kn_non, G.isI_int, G.isI_bl, G.isI_sv, G.isI_ref, G.isI_non, G.isB_int, G.isB_bl, G.isB_sv, G.isB_ref, G.isB_non, G.isS_int, G.isS_bl, G.isS_sv, G.isS_ref, G.isS_non, G.isT_int, G.isT_bl, G.isT_sv, G.isT_non, G.isL_int, G.isL_bl, G.isL_sv, G.isL_non,  L2.upd_same,  rAppend, rExtend, rPop, iRng1, iRng2, iList, iTup, iStr, CDivN, CPow, CMul, rIsB, rNotB, rAdd, rSub, G.tFor_eq, G.tLc_eq, tYes, wipe,
      List.getElem?_cons_succ, List.getElem?_cons_zero, List.set_cons_succ, List.set_cons_zero, Option.some.injEq, exists_eq_left', exists_eq_left, exists_eq', exists_eq, V.int.injEq, V.bl.injEq, V.ref.injEq, G.sv_inj, List.cons.injEq, and_true, true_and,
      exists_and_left, and_assoc, exists_eq_right_right, exists_eq_right, decide_eq_true_eq, List.append_nil, List.nil_append, List.cons_append, Bool.not_eq_true', decide_eq_false_iff_not, Bool.not_false, Bool.not_true, Bool.false_eq_true, Bool.true_eq_false, not_true, not_false_iff, L2.start, List.map_cons, List.map_nil, List.length_cons, List.length_nil, List.replicate_zero, List.replicate_succ,
      Nat.reduceAdd, Nat.reduceSub, Nat.add_zero, Nat.zero_add, reduceCtorEq, false_and, exists_false, false_or, or_false, ite_true, ite_false, if_true, if_false]
    cases b <;> cases a <;> simpa using k

theorem ok__law_same (T : Tx K mg) : T.d__law_same.Ok P w base CX0 1 G.spSame := by
  refine T.d__law_same.F.ok sc__law_same (fun vs H Q E h => ?_) (fun cdv A outer s H vs Q E hr h => ?_)
  · obtain ⟨_, _, _, rfl, _⟩ := h; rfl
  · obtain ⟨x0, y0, d0, rfl, hx, hy, hz, k⟩ := h
    refine ⟨_, (pss_cons (ps_set (i := 2) sc__law_same.nd rfl (Or.inl rfl) (pe_lst (pa_cons (pe_tup (pa_cons (pv 0) (pa_cons (pv 1) pa_nil))) pa_nil)))
      (pss_cons (ps_for PassesOwn.never rfl (pi_range1 (by rfl) T.n_range (pa_cons pe_int pa_nil)) (pg_name (i := 3) sc__law_same.nd rfl (Or.inl rfl)) (pss_cons (ps_if (pt_cmpR G.op_eqI (pe_callB G.call_lenL (by rfl) T.n_len (by decide +kernel) (pa_cons (pv 2) pa_nil)) pe_int (nomark _)) (pss_one (ps_ret pe_bl)) pss_nil)
        (pss_cons (ps_asg (pe_bm0 PySem.F.plainAttrs_list PySem.F.slot_list_pop PySem.F.type_list_pop mt_pop (pv 2)) (G.pg_tupT 2 rfl (pgs_cons (pg_name (i := 4) sc__law_same.nd rfl (Or.inr rfl)) (pgs_cons (pg_name (i := 5) sc__law_same.nd rfl (Or.inr rfl)) pgs_nil))))
        (pss_one (ps_if (PW.pt (pw_or (pt_val (pe_callB G.is_tup (by rfl) T.n_isinstance (by decide +kernel) (pa_cons (pv 5) (pa_cons (G.pe_ty (n := "tuple") (by rfl) T.n_tuple) pa_nil)))) (pw_or1 (pt_val (pe_callB G.is_lst (by rfl) T.n_isinstance (by decide +kernel) (pa_cons (pv 5) (pa_cons (G.pe_ty (n := "list") (by rfl) T.n_list) pa_nil))))))) (pss_cons (ps_if (PW.pt (pw_or (pt_cmpR G.op_neB (pe_callB G.is_tup (by rfl) T.n_isinstance (by decide +kernel) (pa_cons (pv 5) (pa_cons (G.pe_ty (n := "tuple") (by rfl) T.n_tuple) pa_nil))) (pe_callB G.is_tup (by rfl) T.n_isinstance (by decide +kernel) (pa_cons (pv 4) (pa_cons (G.pe_ty (n := "tuple") (by rfl) T.n_tuple) pa_nil))) (nomark _)) (pw_or1 (pt_cmpR G.op_neB (pe_callB G.is_lst (by rfl) T.n_isinstance (by decide +kernel) (pa_cons (pv 5) (pa_cons (G.pe_ty (n := "list") (by rfl) T.n_list) pa_nil))) (pe_callB G.is_lst (by rfl) T.n_isinstance (by decide +kernel) (pa_cons (pv 4) (pa_cons (G.pe_ty (n := "list") (by rfl) T.n_list) pa_nil))) (nomark _))))) (pss_one (ps_ret pe_bl)) pss_nil)
          (pss_cons (ps_if (pt_cmpR G.op_neI (pe_callB G.call_lenA (by rfl) T.n_len (by decide +kernel) (pa_cons (pv 4) pa_nil)) (pe_callB G.call_lenA (by rfl) T.n_len (by decide +kernel) (pa_cons (pv 5) pa_nil)) (nomark _)) (pss_one (ps_ret pe_bl)) pss_nil)
          (pss_one (ps_expr (pe_bm PySem.F.plainAttrs_list PySem.F.slot_list_extend PySem.F.type_list_extend mt_extend (pv 2) (pa_cons (pe_lc (own := [("at", 6)]) (g := gName 6) (tt := tYes) rfl sc__law_same.nd (pi_range1 (by rfl) T.n_range (pa_cons (pe_callB G.call_lenA (by rfl) T.n_len (by decide +kernel) (pa_cons (pv 5) pa_nil)) pa_nil)) (blkOk_by (own := [("at", 6)]) (N := ["actual", "due", "left", "turn", "one", "other", "at"]) (sc := defScope s__law_same) (by decide +kernel)) (fun _ _ _ _ _ => pg_name (i := 6) sc__law_same.nd rfl (Or.inl rfl)) (fun _ _ _ _ _ => pts_nil) (fun _ _ _ _ _ => (pe_tup (pa_cons (pe_ix G.ix_any (pv 4) (pv 6) (fun _ _ => rfl)) (pa_cons (pe_ix G.ix_any (pv 5) (pv 6) (fun _ _ => rfl)) pa_nil))))) pa_nil)))))) (pss_one (ps_if (pt_val (pe_callB G.is_bool (by rfl) T.n_isinstance (by decide +kernel) (pa_cons (pv 5) (pa_cons (G.pe_ty (n := "bool") (by rfl) T.n_bool) pa_nil)))) (pss_one (ps_if (PW.pt (pw_or (pt_not (pt_val (pe_callB G.is_bool (by rfl) T.n_isinstance (by decide +kernel) (pa_cons (pv 4) (pa_cons (G.pe_ty (n := "bool") (by rfl) T.n_bool) pa_nil))))) (pw_or1 (pt_cmpR op_ne (pv 4) (pv 5) (nomark _))))) (pss_one (ps_ret pe_bl)) pss_nil)) (pss_one (ps_if (pt_val (pe_callB G.is_int (by rfl) T.n_isinstance (by decide +kernel) (pa_cons (pv 5) (pa_cons (G.pe_ty (n := "int") (by rfl) T.n_int) pa_nil)))) (pss_one (ps_if (PW.pt (pw_or (pt_not (pt_val (pe_callB G.is_int (by rfl) T.n_isinstance (by decide +kernel) (pa_cons (pv 4) (pa_cons (G.pe_ty (n := "int") (by rfl) T.n_int) pa_nil))))) (pw_or (pt_val (pe_callB G.is_bool (by rfl) T.n_isinstance (by decide +kernel) (pa_cons (pv 4) (pa_cons (G.pe_ty (n := "bool") (by rfl) T.n_bool) pa_nil)))) (pw_or1 (pt_cmpR op_ne (pv 4) (pv 5) (nomark _)))))) (pss_one (ps_ret pe_bl)) pss_nil)) (pss_one (ps_if (pt_val (pe_callB G.is_str (by rfl) T.n_isinstance (by decide +kernel) (pa_cons (pv 5) (pa_cons (G.pe_ty (n := "str") (by rfl) T.n_str) pa_nil)))) (pss_one (ps_if (PW.pt (pw_or (pt_not (pt_val (pe_callB G.is_str (by rfl) T.n_isinstance (by decide +kernel) (pa_cons (pv 4) (pa_cons (G.pe_ty (n := "str") (by rfl) T.n_str) pa_nil))))) (pw_or1 (pt_cmpR op_ne (pv 4) (pv 5) (nomark _))))) (pss_one (ps_ret pe_bl)) pss_nil)) (pss_one (ps_if (pt_cmpR op_notN (pv 4) pe_non (nomark _)) (pss_one (ps_ret pe_bl)) pss_nil)))))))))))))
      (pss_one (ps_ret pe_bl)))), ?_⟩
    simp only [tVar, tC, G.sl_is, G.lt1, Int.reduceLT, Int.reduceLE, Int.reduceNeg, Int.reducePow, Int.reduceToNat, Int.reduceSub, Int.reduceAdd, Int.reduceMul, Nat.reduceLT, Nat.reduceLeDiff, Int.zero_add, ne_eq,  HO.lst.injEq, List.dropLast_concat, G.last_get,  HO.tup.injEq, G.rII, G.rBB, G.rSS,  tOp, tUn, rI, rI0, rU, tAndV, tOrV, tNotV, tIf, tAnd, tOr, tNot, tNext, tSeq, tBreak, tCont, tDrop, tRet, tRetN, tIfS, gName, gNil, gCons, G.gTupT, G.gUnlT, gSub, gUnl, tAsg, tPar, tTest, tB, tChain,
      tNil, tCons, tTup, tLst, tCall, tCB, tBM, tBM0, tSl, tNoPart, tPart, rSetL, G.atI0, G.atI1, G.atI2, G.ixN30, G.ixN31, G.ixN32, G.cx_K, and_self, rEq, rNe, G.scal_bl, G.scal_int, G.scal_sv,  G.sv_str, G.Kn_sv, G.Kn_int, G.Kn_bl, G.Kn_non, G.isI_int, G.isI_bl, G.isI_sv, G.isI_ref, G.isI_non, G.isB_int, G.isB_bl, G.isB_sv, G.isB_ref, G.isB_non, G.isS_int, G.isS_bl, G.isS_sv, G.isS_ref, G.isS_non, G.isT_int, G.isT_bl, G.isT_sv, G.isT_non, G.isL_int, G.isL_bl, G.isL_sv, G.isL_non,  L2.upd_same,  rAppend, rExtend, rPop, iRng1, iRng2, iList, iTup, iStr, CDivN, CPow, CMul, rIsB, rNotB, rAdd, rSub, G.tFor_eq, G.tLc_eq, tYes, wipe,
      List.getElem?_cons_succ, List.getElem?_cons_zero, List.set_cons_succ, List.set_cons_zero, Option.some.injEq, exists_eq_left', exists_eq_left, exists_eq', exists_eq, V.int.injEq, V.bl.injEq, V.ref.injEq, G.sv_inj, List.cons.injEq, and_true, true_and,
      exists_and_left, and_assoc, exists_eq_right_right, exists_eq_right, decide_eq_true_eq, List.append_nil, List.nil_append, List.cons_append, Bool.not_eq_true', decide_eq_false_iff_not, Bool.not_false, Bool.not_true, Bool.false_eq_true, Bool.true_eq_false, not_true, not_false_iff, L2.start, List.map_cons, List.map_nil, List.length_cons, List.length_nil, List.replicate_zero, List.replicate_succ,
      Nat.reduceAdd, Nat.reduceSub, Nat.add_zero, Nat.zero_add, reduceCtorEq, false_and, exists_false, false_or, or_false, ite_true, ite_false, if_true, if_false]
    refine fun t0 n0 L nL => ?_
    have sL : Same H (upd (upd H t0 (.tup [x0, y0])) L (.lst [.ref t0])) := (G.same_upd n0).trans (G.same_upd nL)
    have tL : t0 ≠ L := fun e => by rw [e, upd_same] at nL; cases nL
    have hL0 : H L = none := (G.same_upd n0).free nL
    refine G.loop_range (fun i σ H2 => ∃ v3 v4 v5 ps ds, σ = [some x0, some y0, some (.ref L), v3, v4, v5, none] ∧ Same H H2 ∧ H2 L = some (.lst ps) ∧ G.Prs H L H2 ps ds ∧ i + G.Dat.szL ds = d0.sz) ?_ (fun M hM i σ H2 hi hP => ?_) (fun σ H2 hP => ?_)
    · refine ⟨_, _, _, [.ref t0], [d0], rfl, sL, upd_same, ⟨d0, [], rfl, ⟨t0, x0, y0, rfl, tL, by rw [upd_ne tL, upd_same], hx, hy⟩, rfl⟩, ?_⟩
      simp [G.Dat.szL]
    · obtain ⟨v3, v4, v5, ps, ds, rfl, s2, e2, hp, hsz⟩ := hP
      simp only [tVar, tC, G.sl_is, G.lt1, Int.reduceLT, Int.reduceLE, Int.reduceNeg, Int.reducePow, Int.reduceToNat, Int.reduceSub, Int.reduceAdd, Int.reduceMul, Nat.reduceLT, Nat.reduceLeDiff, Int.zero_add, ne_eq,  HO.lst.injEq, List.dropLast_concat, G.last_get,  HO.tup.injEq, G.rII, G.rBB, G.rSS,  tOp, tUn, rI, rI0, rU, tAndV, tOrV, tNotV, tIf, tAnd, tOr, tNot, tNext, tSeq, tBreak, tCont, tDrop, tRet, tRetN, tIfS, gName, gNil, gCons, G.gTupT, G.gUnlT, gSub, gUnl, tAsg, tPar, tTest, tB, tChain,
      tNil, tCons, tTup, tLst, tCall, tCB, tBM, tBM0, tSl, tNoPart, tPart, rSetL, G.atI0, G.atI1, G.atI2, G.ixN30, G.ixN31, G.ixN32, G.cx_K, and_self, rEq, rNe, G.scal_bl, G.scal_int, G.scal_sv,  G.sv_str, G.Kn_sv, G.Kn_int, G.Kn_bl, G.Kn_non, G.isI_int, G.isI_bl, G.isI_sv, G.isI_ref, G.isI_non, G.isB_int, G.isB_bl, G.isB_sv, G.isB_ref, G.isB_non, G.isS_int, G.isS_bl, G.isS_sv, G.isS_ref, G.isS_non, G.isT_int, G.isT_bl, G.isT_sv, G.isT_non, G.isL_int, G.isL_bl, G.isL_sv, G.isL_non,  L2.upd_same,  rAppend, rExtend, rPop, iRng1, iRng2, iList, iTup, iStr, CDivN, CPow, CMul, rIsB, rNotB, rAdd, rSub, G.tFor_eq, G.tLc_eq, tYes, wipe,
      List.getElem?_cons_succ, List.getElem?_cons_zero, List.set_cons_succ, List.set_cons_zero, Option.some.injEq, exists_eq_left', exists_eq_left, exists_eq', exists_eq, V.int.injEq, V.bl.injEq, V.ref.injEq, G.sv_inj, List.cons.injEq, and_true, true_and,
      exists_and_left, and_assoc, exists_eq_right_right, exists_eq_right, decide_eq_true_eq, List.append_nil, List.nil_append, List.cons_append, Bool.not_eq_true', decide_eq_false_iff_not, Bool.not_false, Bool.not_true, Bool.false_eq_true, Bool.true_eq_false, not_true, not_false_iff, L2.start, List.map_cons, List.map_nil, List.length_cons, List.length_nil, List.replicate_zero, List.replicate_succ,
      Nat.reduceAdd, Nat.reduceSub, Nat.add_zero, Nat.zero_add, reduceCtorEq, false_and, exists_false, false_or, or_false, ite_true, ite_false, if_true, if_false, e2]
      rcases G.Prs.last hp with ⟨rfl, rfl⟩ | ⟨ps', p, ds', d, rfl, rfl, t, x, y, rfl, nt, ht, rx, ry, hp'⟩
      · simp only [List.length_nil]
        exact k H2 s2
      · rw [if_neg (by simp; omega)]
        have s3 : ∀ o, Same H (upd H2 L o) := fun o b q e => by rw [upd_ne (ne_of_none e hL0)]; exact s2 b q e
        have hp3 : ∀ o, G.Prs H L (upd H2 L o) ps' ds' := fun o => G.Prs.keep (fun b q nb e => by rw [upd_ne nb]; exact e) hp'
        rw [G.Dat.szL_app] at hsz
        simp only [G.Dat.szL, Nat.add_zero] at hsz
        have pz := G.Dat.sz_pos d
        have htu : ∀ o, (upd H2 L o) t = some (.tup [x, y]) := fun o => by rw [upd_ne nt]; exact ht
        have fin : ∀ H3 v3 v4 v5 o, H3 = upd H2 L o → o = .lst ps' → i + 1 + G.Dat.szL ds' = d0.sz → M (i + 1) [some x0, some y0, some (.ref L), v3, v4, v5, none] H3 := fun H3 v3 v4 v5 o e eo en => by
          subst eo; subst e
          rw [hM]; exact ⟨_, _, _, ps', ds', rfl, s3 _, upd_same, hp3 _, en⟩
        have seqC : ∀ (a b : Addr) (xs ys : List V) (es : List G.Dat), H a = some (.tup xs) ∧ H b = some (.tup ys) ∨ H a = some (.lst xs) ∧ H b = some (.lst ys) → G.RpL H es xs → G.RpL H es ys → d.sz = 1 + G.Dat.szL es →
            ∀ H3, H3 = upd H2 L (.lst ps') → G.LcOk (Itr 0 ys.length) (gName 6) tYes (tTup (tCons (tOp (fun x y H Q => ∃ p, x = V.ref p ∧ ∃ x, y = V.int x ∧ ∃ x_1, G.items H p = some x_1 ∧ ∃ x_2, atI x_1 x = some x_2 ∧ Q x_2 H) (tVar 4) (tVar 6))
              (tCons (tOp (fun x y H Q => ∃ p, x = V.ref p ∧ ∃ x, y = V.int x ∧ ∃ x_1, G.items H p = some x_1 ∧ ∃ x_2, atI x_1 x = some x_2 ∧ Q x_2 H) (tVar 5) (tVar 6)) tNil))) [6]
              [some x0, some y0, some (.ref L), some (.int (i : Int)), some (.ref a), some (.ref b), none] H3 fun x H1 => ∃ x_2, x = V.ref x_2 ∧ ∃ x_3, H1 L = some (.lst x_3) ∧ ∃ x_4, H1 x_2 = some (.lst x_4) ∧ x_3.length + x_4.length ≤ 16777216 ∧ M (i + 1) [some x0, some y0, some (.ref L), some (.int (i : Int)), some (.ref a), some (.ref b), none] (upd H1 L (.lst (x_3 ++ x_4))) := by
          intro a b xs ys es hab rxs rys hds H3 e3
          subst e3
          have lx := rxs.len
          have ly := rys.len
          refine G.comp_range (fun D j H4 => ∃ acc, Same H H4 ∧ H4 L = some (.lst ps') ∧ H4 D = some (.lst acc) ∧ G.Prs H L H4 ps' ds' ∧ G.Prs H L H4 acc (es.take j) ∧ D ≠ L) (fun D hD => ?_) (fun M1 hM1 D hD j H4 hj hP => ?_) (fun D hD H4 hP => ?_)
          · have dL : D ≠ L := fun e => by rw [e, upd_same] at hD; cases hD
            refine ⟨[], (s3 _).trans (G.same_upd hD), by rw [upd_ne dL.symm, upd_same], upd_same, (hp3 _).keep fun b o _ q => (G.same_upd hD) b o q, rfl, dL⟩
          · obtain ⟨acc, q1, q2, q3, q4, q5, dL⟩ := hP
            have hj' : j < es.length := by omega
            obtain ⟨u, hu, ru⟩ := rxs.get (List.getElem?_eq_getElem hj')
            obtain ⟨v, hv, rv⟩ := rys.get (List.getElem?_eq_getElem hj')
            have ia : G.items H4 a = some xs := hab.elim (fun h => G.items_tup (q1 _ _ h.1)) (fun h => G.items_lst (q1 _ _ h.1))
            have ib : G.items H4 b = some ys := hab.elim (fun h => G.items_tup (q1 _ _ h.2)) (fun h => G.items_lst (q1 _ _ h.2))
            simp only [tVar, tC, G.sl_is, G.lt1, Int.reduceLT, Int.reduceLE, Int.reduceNeg, Int.reducePow, Int.reduceToNat, Int.reduceSub, Int.reduceAdd, Int.reduceMul, Nat.reduceLT, Nat.reduceLeDiff, Int.zero_add, ne_eq,  HO.lst.injEq, List.dropLast_concat, G.last_get,  HO.tup.injEq, G.rII, G.rBB, G.rSS,  tOp, tUn, rI, rI0, rU, tAndV, tOrV, tNotV, tIf, tAnd, tOr, tNot, tNext, tSeq, tBreak, tCont, tDrop, tRet, tRetN, tIfS, gName, gNil, gCons, G.gTupT, G.gUnlT, gSub, gUnl, tAsg, tPar, tTest, tB, tChain,
      tNil, tCons, tTup, tLst, tCall, tCB, tBM, tBM0, tSl, tNoPart, tPart, rSetL, G.atI0, G.atI1, G.atI2, G.ixN30, G.ixN31, G.ixN32, G.cx_K, and_self, rEq, rNe, G.scal_bl, G.scal_int, G.scal_sv,  G.sv_str, G.Kn_sv, G.Kn_int, G.Kn_bl, G.Kn_non, G.isI_int, G.isI_bl, G.isI_sv, G.isI_ref, G.isI_non, G.isB_int, G.isB_bl, G.isB_sv, G.isB_ref, G.isB_non, G.isS_int, G.isS_bl, G.isS_sv, G.isS_ref, G.isS_non, G.isT_int, G.isT_bl, G.isT_sv, G.isT_non, G.isL_int, G.isL_bl, G.isL_sv, G.isL_non,  L2.upd_same,  rAppend, rExtend, rPop, iRng1, iRng2, iList, iTup, iStr, CDivN, CPow, CMul, rIsB, rNotB, rAdd, rSub, G.tFor_eq, G.tLc_eq, tYes, wipe,
      List.getElem?_cons_succ, List.getElem?_cons_zero, List.set_cons_succ, List.set_cons_zero, Option.some.injEq, exists_eq_left', exists_eq_left, exists_eq', exists_eq, V.int.injEq, V.bl.injEq, V.ref.injEq, G.sv_inj, List.cons.injEq, and_true, true_and,
      exists_and_left, and_assoc, exists_eq_right_right, exists_eq_right, decide_eq_true_eq, List.append_nil, List.nil_append, List.cons_append, Bool.not_eq_true', decide_eq_false_iff_not, Bool.not_false, Bool.not_true, Bool.false_eq_true, Bool.true_eq_false, not_true, not_false_iff, L2.start, List.map_cons, List.map_nil, List.length_cons, List.length_nil, List.replicate_zero, List.replicate_succ,
      Nat.reduceAdd, Nat.reduceSub, Nat.add_zero, Nat.zero_add, reduceCtorEq, false_and, exists_false, false_or, or_false, ite_true, ite_false, if_true, if_false, ia, ib]
            refine ⟨u, atI_nat hu, v, atI_nat hv, fun t' nt' => ?_⟩
            have tD : D ≠ t' := ne_of_none q3 nt'
            have tL' : L ≠ t' := ne_of_none q2 nt'
            rw [upd_ne tD, q3]
            refine ⟨acc, rfl, ?_, ?_⟩
            · have := q5.len
              rw [this, List.length_take]
              have z1 := G.Dat.szL_len es
              omega
            · rw [hM1]
              have keep : ∀ b o, b ≠ D → H4 b = some o → (upd (upd H4 t' (.tup [u, v])) D (.lst (acc ++ [.ref t']))) b = some o := fun b o nb e => by
                rw [upd_ne nb, upd_ne (ne_of_none e nt')]; exact e
              have keepP : ∀ {ps : List V} {ds : List G.Dat}, G.Prs H L H4 ps ds → G.Prs H L (upd (upd H4 t' (.tup [u, v])) D (.lst (acc ++ [.ref t']))) ps ds := fun h => by
                refine G.Prs.keep0 (fun b xs e => ?_) h
                have nb : b ≠ D := fun z => by rw [z, q3] at e; cases e
                exact keep b _ nb e
              refine ⟨acc ++ [.ref t'], fun b o e => ?_, keep L _ dL.symm q2, upd_same, keepP q4, ?_, dL⟩
              · have nb : b ≠ D := fun z => by
                  rw [z] at e
                  have := (G.same_upd (o := .lst []) (H := upd H2 L (.lst ps')) hD)
                  rw [s3 _ _ _ e] at hD; cases hD
                exact keep b o nb (q1 b o e)
              · rw [List.take_add_one, List.getElem?_eq_getElem hj']
                exact (keepP q5).app ⟨_, [], rfl, ⟨t', u, v, rfl, tL'.symm, by rw [upd_ne tD.symm, upd_same], ru, rv⟩, rfl⟩
          · obtain ⟨acc, q1, q2, q3, q4, q5, dL⟩ := hP
            rw [ly, List.take_length] at q5
            refine ⟨_, rfl, _, q2, _, q3, ?_, ?_⟩
            · have z1 := q4.len
              have z2 := q5.len
              have z3 := G.Dat.szL_len ds'
              have z4 := G.Dat.szL_len es
              omega
            · rw [hM]
              have kp : ∀ {ps : List V} {ds : List G.Dat}, G.Prs H L H4 ps ds → G.Prs H L (upd H4 L (.lst (ps' ++ acc))) ps ds := fun h => G.Prs.keep (fun b o nb e => by rw [upd_ne nb]; exact e) h
              refine ⟨_, _, _, ps' ++ acc, ds' ++ es, rfl, fun b o e => by rw [upd_ne (ne_of_none e hL0)]; exact q1 b o e, upd_same, (kp q4).app (kp q5), ?_⟩
              rw [G.Dat.szL_app]; omega
        cases d with
        | non =>
          obtain rfl : x = .non := rx
          obtain rfl : y = .non := ry
          simp only [tVar, tC, G.sl_is, G.lt1, Int.reduceLT, Int.reduceLE, Int.reduceNeg, Int.reducePow, Int.reduceToNat, Int.reduceSub, Int.reduceAdd, Int.reduceMul, Nat.reduceLT, Nat.reduceLeDiff, Int.zero_add, ne_eq,  HO.lst.injEq, List.dropLast_concat, G.last_get,  HO.tup.injEq, G.rII, G.rBB, G.rSS,  tOp, tUn, rI, rI0, rU, tAndV, tOrV, tNotV, tIf, tAnd, tOr, tNot, tNext, tSeq, tBreak, tCont, tDrop, tRet, tRetN, tIfS, gName, gNil, gCons, G.gTupT, G.gUnlT, gSub, gUnl, tAsg, tPar, tTest, tB, tChain,
      tNil, tCons, tTup, tLst, tCall, tCB, tBM, tBM0, tSl, tNoPart, tPart, rSetL, G.atI0, G.atI1, G.atI2, G.ixN30, G.ixN31, G.ixN32, G.cx_K, and_self, rEq, rNe, G.scal_bl, G.scal_int, G.scal_sv,  G.sv_str, G.Kn_sv, G.Kn_int, G.Kn_bl, G.Kn_non, G.isI_int, G.isI_bl, G.isI_sv, G.isI_ref, G.isI_non, G.isB_int, G.isB_bl, G.isB_sv, G.isB_ref, G.isB_non, G.isS_int, G.isS_bl, G.isS_sv, G.isS_ref, G.isS_non, G.isT_int, G.isT_bl, G.isT_sv, G.isT_non, G.isL_int, G.isL_bl, G.isL_sv, G.isL_non,  L2.upd_same,  rAppend, rExtend, rPop, iRng1, iRng2, iList, iTup, iStr, CDivN, CPow, CMul, rIsB, rNotB, rAdd, rSub, G.tFor_eq, G.tLc_eq, tYes, wipe,
      List.getElem?_cons_succ, List.getElem?_cons_zero, List.set_cons_succ, List.set_cons_zero, Option.some.injEq, exists_eq_left', exists_eq_left, exists_eq', exists_eq, V.int.injEq, V.bl.injEq, V.ref.injEq, G.sv_inj, List.cons.injEq, and_true, true_and,
      exists_and_left, and_assoc, exists_eq_right_right, exists_eq_right, decide_eq_true_eq, List.append_nil, List.nil_append, List.cons_append, Bool.not_eq_true', decide_eq_false_iff_not, Bool.not_false, Bool.not_true, Bool.false_eq_true, Bool.true_eq_false, not_true, not_false_iff, L2.start, List.map_cons, List.map_nil, List.length_cons, List.length_nil, List.replicate_zero, List.replicate_succ,
      Nat.reduceAdd, Nat.reduceSub, Nat.add_zero, Nat.zero_add, reduceCtorEq, false_and, exists_false, false_or, or_false, ite_true, ite_false, if_true, if_false, htu]
          exact ⟨G.tyL e2, fin _ _ _ _ _ rfl rfl (by simp only [G.Dat.sz] at hsz; omega)⟩
        | bl b =>
          obtain rfl : x = .bl b := rx
          obtain rfl : y = .bl b := ry
          simp only [tVar, tC, G.sl_is, G.lt1, Int.reduceLT, Int.reduceLE, Int.reduceNeg, Int.reducePow, Int.reduceToNat, Int.reduceSub, Int.reduceAdd, Int.reduceMul, Nat.reduceLT, Nat.reduceLeDiff, Int.zero_add, ne_eq,  HO.lst.injEq, List.dropLast_concat, G.last_get,  HO.tup.injEq, G.rII, G.rBB, G.rSS,  tOp, tUn, rI, rI0, rU, tAndV, tOrV, tNotV, tIf, tAnd, tOr, tNot, tNext, tSeq, tBreak, tCont, tDrop, tRet, tRetN, tIfS, gName, gNil, gCons, G.gTupT, G.gUnlT, gSub, gUnl, tAsg, tPar, tTest, tB, tChain,
      tNil, tCons, tTup, tLst, tCall, tCB, tBM, tBM0, tSl, tNoPart, tPart, rSetL, G.atI0, G.atI1, G.atI2, G.ixN30, G.ixN31, G.ixN32, G.cx_K, and_self, rEq, rNe, G.scal_bl, G.scal_int, G.scal_sv,  G.sv_str, G.Kn_sv, G.Kn_int, G.Kn_bl, G.Kn_non, G.isI_int, G.isI_bl, G.isI_sv, G.isI_ref, G.isI_non, G.isB_int, G.isB_bl, G.isB_sv, G.isB_ref, G.isB_non, G.isS_int, G.isS_bl, G.isS_sv, G.isS_ref, G.isS_non, G.isT_int, G.isT_bl, G.isT_sv, G.isT_non, G.isL_int, G.isL_bl, G.isL_sv, G.isL_non,  L2.upd_same,  rAppend, rExtend, rPop, iRng1, iRng2, iList, iTup, iStr, CDivN, CPow, CMul, rIsB, rNotB, rAdd, rSub, G.tFor_eq, G.tLc_eq, tYes, wipe,
      List.getElem?_cons_succ, List.getElem?_cons_zero, List.set_cons_succ, List.set_cons_zero, Option.some.injEq, exists_eq_left', exists_eq_left, exists_eq', exists_eq, V.int.injEq, V.bl.injEq, V.ref.injEq, G.sv_inj, List.cons.injEq, and_true, true_and,
      exists_and_left, and_assoc, exists_eq_right_right, exists_eq_right, decide_eq_true_eq, List.append_nil, List.nil_append, List.cons_append, Bool.not_eq_true', decide_eq_false_iff_not, Bool.not_false, Bool.not_true, Bool.false_eq_true, Bool.true_eq_false, not_true, not_false_iff, L2.start, List.map_cons, List.map_nil, List.length_cons, List.length_nil, List.replicate_zero, List.replicate_succ,
      Nat.reduceAdd, Nat.reduceSub, Nat.add_zero, Nat.zero_add, reduceCtorEq, false_and, exists_false, false_or, or_false, ite_true, ite_false, if_true, if_false, htu, decide_true]
          exact ⟨G.tyL e2, fin _ _ _ _ _ rfl rfl (by simp only [G.Dat.sz] at hsz; omega)⟩
        | int b =>
          obtain rfl : x = .int b := rx
          obtain rfl : y = .int b := ry
          simp only [tVar, tC, G.sl_is, G.lt1, Int.reduceLT, Int.reduceLE, Int.reduceNeg, Int.reducePow, Int.reduceToNat, Int.reduceSub, Int.reduceAdd, Int.reduceMul, Nat.reduceLT, Nat.reduceLeDiff, Int.zero_add, ne_eq,  HO.lst.injEq, List.dropLast_concat, G.last_get,  HO.tup.injEq, G.rII, G.rBB, G.rSS,  tOp, tUn, rI, rI0, rU, tAndV, tOrV, tNotV, tIf, tAnd, tOr, tNot, tNext, tSeq, tBreak, tCont, tDrop, tRet, tRetN, tIfS, gName, gNil, gCons, G.gTupT, G.gUnlT, gSub, gUnl, tAsg, tPar, tTest, tB, tChain,
      tNil, tCons, tTup, tLst, tCall, tCB, tBM, tBM0, tSl, tNoPart, tPart, rSetL, G.atI0, G.atI1, G.atI2, G.ixN30, G.ixN31, G.ixN32, G.cx_K, and_self, rEq, rNe, G.scal_bl, G.scal_int, G.scal_sv,  G.sv_str, G.Kn_sv, G.Kn_int, G.Kn_bl, G.Kn_non, G.isI_int, G.isI_bl, G.isI_sv, G.isI_ref, G.isI_non, G.isB_int, G.isB_bl, G.isB_sv, G.isB_ref, G.isB_non, G.isS_int, G.isS_bl, G.isS_sv, G.isS_ref, G.isS_non, G.isT_int, G.isT_bl, G.isT_sv, G.isT_non, G.isL_int, G.isL_bl, G.isL_sv, G.isL_non,  L2.upd_same,  rAppend, rExtend, rPop, iRng1, iRng2, iList, iTup, iStr, CDivN, CPow, CMul, rIsB, rNotB, rAdd, rSub, G.tFor_eq, G.tLc_eq, tYes, wipe,
      List.getElem?_cons_succ, List.getElem?_cons_zero, List.set_cons_succ, List.set_cons_zero, Option.some.injEq, exists_eq_left', exists_eq_left, exists_eq', exists_eq, V.int.injEq, V.bl.injEq, V.ref.injEq, G.sv_inj, List.cons.injEq, and_true, true_and,
      exists_and_left, and_assoc, exists_eq_right_right, exists_eq_right, decide_eq_true_eq, List.append_nil, List.nil_append, List.cons_append, Bool.not_eq_true', decide_eq_false_iff_not, Bool.not_false, Bool.not_true, Bool.false_eq_true, Bool.true_eq_false, not_true, not_false_iff, L2.start, List.map_cons, List.map_nil, List.length_cons, List.length_nil, List.replicate_zero, List.replicate_succ,
      Nat.reduceAdd, Nat.reduceSub, Nat.add_zero, Nat.zero_add, reduceCtorEq, false_and, exists_false, false_or, or_false, ite_true, ite_false, if_true, if_false, htu, decide_true]
          exact ⟨G.tyL e2, fin _ _ _ _ _ rfl rfl (by simp only [G.Dat.sz] at hsz; omega)⟩
        | str b =>
          obtain rfl : x = G.sv b := rx
          obtain rfl : y = G.sv b := ry
          simp only [tVar, tC, G.sl_is, G.lt1, Int.reduceLT, Int.reduceLE, Int.reduceNeg, Int.reducePow, Int.reduceToNat, Int.reduceSub, Int.reduceAdd, Int.reduceMul, Nat.reduceLT, Nat.reduceLeDiff, Int.zero_add, ne_eq,  HO.lst.injEq, List.dropLast_concat, G.last_get,  HO.tup.injEq, G.rII, G.rBB, G.rSS,  tOp, tUn, rI, rI0, rU, tAndV, tOrV, tNotV, tIf, tAnd, tOr, tNot, tNext, tSeq, tBreak, tCont, tDrop, tRet, tRetN, tIfS, gName, gNil, gCons, G.gTupT, G.gUnlT, gSub, gUnl, tAsg, tPar, tTest, tB, tChain,
      tNil, tCons, tTup, tLst, tCall, tCB, tBM, tBM0, tSl, tNoPart, tPart, rSetL, G.atI0, G.atI1, G.atI2, G.ixN30, G.ixN31, G.ixN32, G.cx_K, and_self, rEq, rNe, G.scal_bl, G.scal_int, G.scal_sv,  G.sv_str, G.Kn_sv, G.Kn_int, G.Kn_bl, G.Kn_non, G.isI_int, G.isI_bl, G.isI_sv, G.isI_ref, G.isI_non, G.isB_int, G.isB_bl, G.isB_sv, G.isB_ref, G.isB_non, G.isS_int, G.isS_bl, G.isS_sv, G.isS_ref, G.isS_non, G.isT_int, G.isT_bl, G.isT_sv, G.isT_non, G.isL_int, G.isL_bl, G.isL_sv, G.isL_non,  L2.upd_same,  rAppend, rExtend, rPop, iRng1, iRng2, iList, iTup, iStr, CDivN, CPow, CMul, rIsB, rNotB, rAdd, rSub, G.tFor_eq, G.tLc_eq, tYes, wipe,
      List.getElem?_cons_succ, List.getElem?_cons_zero, List.set_cons_succ, List.set_cons_zero, Option.some.injEq, exists_eq_left', exists_eq_left, exists_eq', exists_eq, V.int.injEq, V.bl.injEq, V.ref.injEq, G.sv_inj, List.cons.injEq, and_true, true_and,
      exists_and_left, and_assoc, exists_eq_right_right, exists_eq_right, decide_eq_true_eq, List.append_nil, List.nil_append, List.cons_append, Bool.not_eq_true', decide_eq_false_iff_not, Bool.not_false, Bool.not_true, Bool.false_eq_true, Bool.true_eq_false, not_true, not_false_iff, L2.start, List.map_cons, List.map_nil, List.length_cons, List.length_nil, List.replicate_zero, List.replicate_succ,
      Nat.reduceAdd, Nat.reduceSub, Nat.add_zero, Nat.zero_add, reduceCtorEq, false_and, exists_false, false_or, or_false, ite_true, ite_false, if_true, if_false, htu, decide_true]
          exact ⟨G.tyL e2, fin _ _ _ _ _ rfl rfl (by simp only [G.Dat.sz] at hsz; omega)⟩
        | tup es =>
          obtain ⟨a, xs, rfl, ha, rxs⟩ := rx
          obtain ⟨b, ys, rfl, hb, rys⟩ := ry
          have ga := s3 (.lst ps') _ _ ha
          have gb := s3 (.lst ps') _ _ hb
          simp only [tVar, tC, G.sl_is, G.lt1, Int.reduceLT, Int.reduceLE, Int.reduceNeg, Int.reducePow, Int.reduceToNat, Int.reduceSub, Int.reduceAdd, Int.reduceMul, Nat.reduceLT, Nat.reduceLeDiff, Int.zero_add, ne_eq,  HO.lst.injEq, List.dropLast_concat, G.last_get,  HO.tup.injEq, G.rII, G.rBB, G.rSS,  tOp, tUn, rI, rI0, rU, tAndV, tOrV, tNotV, tIf, tAnd, tOr, tNot, tNext, tSeq, tBreak, tCont, tDrop, tRet, tRetN, tIfS, gName, gNil, gCons, G.gTupT, G.gUnlT, gSub, gUnl, tAsg, tPar, tTest, tB, tChain,
      tNil, tCons, tTup, tLst, tCall, tCB, tBM, tBM0, tSl, tNoPart, tPart, rSetL, G.atI0, G.atI1, G.atI2, G.ixN30, G.ixN31, G.ixN32, G.cx_K, and_self, rEq, rNe, G.scal_bl, G.scal_int, G.scal_sv,  G.sv_str, G.Kn_sv, G.Kn_int, G.Kn_bl, G.Kn_non, G.isI_int, G.isI_bl, G.isI_sv, G.isI_ref, G.isI_non, G.isB_int, G.isB_bl, G.isB_sv, G.isB_ref, G.isB_non, G.isS_int, G.isS_bl, G.isS_sv, G.isS_ref, G.isS_non, G.isT_int, G.isT_bl, G.isT_sv, G.isT_non, G.isL_int, G.isL_bl, G.isL_sv, G.isL_non,  L2.upd_same,  rAppend, rExtend, rPop, iRng1, iRng2, iList, iTup, iStr, CDivN, CPow, CMul, rIsB, rNotB, rAdd, rSub, G.tFor_eq, G.tLc_eq, tYes, wipe,
      List.getElem?_cons_succ, List.getElem?_cons_zero, List.set_cons_succ, List.set_cons_zero, Option.some.injEq, exists_eq_left', exists_eq_left, exists_eq', exists_eq, V.int.injEq, V.bl.injEq, V.ref.injEq, G.sv_inj, List.cons.injEq, and_true, true_and,
      exists_and_left, and_assoc, exists_eq_right_right, exists_eq_right, decide_eq_true_eq, List.append_nil, List.nil_append, List.cons_append, Bool.not_eq_true', decide_eq_false_iff_not, Bool.not_false, Bool.not_true, Bool.false_eq_true, Bool.true_eq_false, not_true, not_false_iff, L2.start, List.map_cons, List.map_nil, List.length_cons, List.length_nil, List.replicate_zero, List.replicate_succ,
      Nat.reduceAdd, Nat.reduceSub, Nat.add_zero, Nat.zero_add, reduceCtorEq, false_and, exists_false, false_or, or_false, ite_true, ite_false, if_true, if_false, htu, G.isT_tup ga, G.isT_tup gb, G.isL_tup ga, G.isL_tup gb, G.Kn_tup ga, G.Kn_tup gb, G.items_tup ga, G.items_tup gb]
          have l1 := rxs.len
          have l2 := rys.len
          have l3 := G.Dat.szL_len es
          simp only [G.Dat.sz] at hsz
          refine ⟨G.tyL e2, ?_⟩
          rw [if_neg (by omega)]
          exact ⟨G.tyL upd_same, by omega, by omega, seqC a b xs ys es (.inl ⟨ha, hb⟩) rxs rys (by simp only [G.Dat.sz]) _ rfl⟩
        | lst es =>
          obtain ⟨a, xs, rfl, ha, rxs⟩ := rx
          obtain ⟨b, ys, rfl, hb, rys⟩ := ry
          have ga := s3 (.lst ps') _ _ ha
          have gb := s3 (.lst ps') _ _ hb
          simp only [tVar, tC, G.sl_is, G.lt1, Int.reduceLT, Int.reduceLE, Int.reduceNeg, Int.reducePow, Int.reduceToNat, Int.reduceSub, Int.reduceAdd, Int.reduceMul, Nat.reduceLT, Nat.reduceLeDiff, Int.zero_add, ne_eq,  HO.lst.injEq, List.dropLast_concat, G.last_get,  HO.tup.injEq, G.rII, G.rBB, G.rSS,  tOp, tUn, rI, rI0, rU, tAndV, tOrV, tNotV, tIf, tAnd, tOr, tNot, tNext, tSeq, tBreak, tCont, tDrop, tRet, tRetN, tIfS, gName, gNil, gCons, G.gTupT, G.gUnlT, gSub, gUnl, tAsg, tPar, tTest, tB, tChain,
      tNil, tCons, tTup, tLst, tCall, tCB, tBM, tBM0, tSl, tNoPart, tPart, rSetL, G.atI0, G.atI1, G.atI2, G.ixN30, G.ixN31, G.ixN32, G.cx_K, and_self, rEq, rNe, G.scal_bl, G.scal_int, G.scal_sv,  G.sv_str, G.Kn_sv, G.Kn_int, G.Kn_bl, G.Kn_non, G.isI_int, G.isI_bl, G.isI_sv, G.isI_ref, G.isI_non, G.isB_int, G.isB_bl, G.isB_sv, G.isB_ref, G.isB_non, G.isS_int, G.isS_bl, G.isS_sv, G.isS_ref, G.isS_non, G.isT_int, G.isT_bl, G.isT_sv, G.isT_non, G.isL_int, G.isL_bl, G.isL_sv, G.isL_non,  L2.upd_same,  rAppend, rExtend, rPop, iRng1, iRng2, iList, iTup, iStr, CDivN, CPow, CMul, rIsB, rNotB, rAdd, rSub, G.tFor_eq, G.tLc_eq, tYes, wipe,
      List.getElem?_cons_succ, List.getElem?_cons_zero, List.set_cons_succ, List.set_cons_zero, Option.some.injEq, exists_eq_left', exists_eq_left, exists_eq', exists_eq, V.int.injEq, V.bl.injEq, V.ref.injEq, G.sv_inj, List.cons.injEq, and_true, true_and,
      exists_and_left, and_assoc, exists_eq_right_right, exists_eq_right, decide_eq_true_eq, List.append_nil, List.nil_append, List.cons_append, Bool.not_eq_true', decide_eq_false_iff_not, Bool.not_false, Bool.not_true, Bool.false_eq_true, Bool.true_eq_false, not_true, not_false_iff, L2.start, List.map_cons, List.map_nil, List.length_cons, List.length_nil, List.replicate_zero, List.replicate_succ,
      Nat.reduceAdd, Nat.reduceSub, Nat.add_zero, Nat.zero_add, reduceCtorEq, false_and, exists_false, false_or, or_false, ite_true, ite_false, if_true, if_false, htu, G.isT_lst ga, G.isT_lst gb, G.isL_lst ga, G.isL_lst gb, G.Kn_lst ga, G.Kn_lst gb, G.items_lst ga, G.items_lst gb]
          have l1 := rxs.len
          have l2 := rys.len
          have l3 := G.Dat.szL_len es
          simp only [G.Dat.sz] at hsz
          refine ⟨G.tyL e2, ?_⟩
          rw [if_neg (by omega)]
          exact ⟨G.tyL upd_same, by omega, by omega, seqC a b xs ys es (.inr ⟨ha, hb⟩) rxs rys (by simp only [G.Dat.sz]) _ rfl⟩
    · obtain ⟨v3, v4, v5, ps, ds, rfl, s2, e2, hp, hsz⟩ := hP
      exfalso
      omega

end
end Lw

namespace Lw
open PySem PySem.Spec L2
def spSome : Sp := fun vs H Q _ => ∃ st : Addr, vs = [.ref st] ∧ G.Strm H st ∧ ∀ (L e : List Nat) (p : Addr) (H' : Hp), L ≠ [] → L.length ≤ 6 → G.Az L → G.Az e → e.length ≤ 479 → G.Adv st H H' → H' p = some (.lst [G.sv L, G.sv e]) → Q (.ref p) H'
def spWith : Sp := fun vs H Q _ => ∃ (st : Addr) (L e : List Nat), vs = [.ref st, G.sv L, G.sv e] ∧ G.Strm H st ∧ L ≠ [] ∧ L.length ≤ 6 ∧ G.Az L ∧ G.Az e ∧ e.length ≤ 479 ∧ ∀ (wd : List Nat) (H' : Hp), G.Az wd → wd.length ≤ 485 → G.Adv st H H' → Q (G.sv wd) H'
def spEnd2 : Sp := fun vs H Q _ => ∃ a b, vs = [G.sv a, G.sv b] ∧ a.length ≤ 500 ∧ b.length ≤ 500 ∧ Q (G.sv (G.endL a b)) H
def spLooks : Sp := fun vs H Q _ => ∃ a b, vs = [G.sv a, G.sv b] ∧ G.Plain a ∧ G.Plain b ∧ ∀ H', Same H H' → Q (.bl true) H'
section
variable {P : Program} {w : World} {K : PySem.W.Frag} {mg : Str → Option Value} {base : Heap}
theorem ok__law_some (T : Tx K mg) : T.d__law_some.Ok P w base CX0 3 spSome := by
  refine T.d__law_some.F.ok sc__law_some (fun vs H Q E h => ?_) (fun cdv A outer s H vs Q E hr h => ?_)
  · obtain ⟨_, rfl, _⟩ := h; rfl
  · obtain ⟨st, rfl, hS, k⟩ := h
    have G__law_next := ok__law_next (P := P) (w := w) (base := base) T
    have G__law_word := ok__law_word (P := P) (w := w) (base := base) T
    refine ⟨_, (pss_cons (ps_set (i := 1) sc__law_some.nd rfl (Or.inl rfl) (pe_slice G.sl_S (pe_slice G.sl_S (G.pe_strS (l := [97, 98, 99, 100, 101, 102, 103, 104, 105, 106, 107, 108, 109, 110, 111, 112, 113, 114, 115, 116, 117, 118, 119, 120, 121, 122]) (by decide +kernel)) (po_some (G.pe_callD T.d__law_next G__law_next (hr.mono (by decide)) (pa_cons (pv 0) (pa_cons pe_int pa_nil)))) po_none) po_none (po_some (pe_op op_add pe_int (G.pe_callD T.d__law_next G__law_next (hr.mono (by decide)) (pa_cons (pv 0) (pa_cons pe_int pa_nil)))))))
      (pss_cons (ps_set (i := 2) sc__law_some.nd rfl (Or.inl rfl) (G.pe_callD T.d__law_word G__law_word (hr.mono (by decide)) (pa_cons (pv 0) (pa_cons (pv 1) (pa_cons pe_int (pa_cons pe_int pa_nil))))))
      (C8.pss_cut (ps_if (pt_cmpR G.op_eqI (G.pe_callD T.d__law_next G__law_next (hr.mono (by decide)) (pa_cons (pv 0) (pa_cons pe_int pa_nil))) pe_int (nomark _)) (pss_one (ps_set (i := 2) sc__law_some.nd rfl (Or.inl rfl) (pe_slice G.sl_S (pe_op G.op_mulS (pe_op G.op_addS (pv 2) (pe_ix G.ix_S (pv 1) pe_int (fun _ _ => rfl))) pe_int) po_none (po_some (pe_op op_add pe_int (G.pe_callD T.d__law_next G__law_next (hr.mono (by decide)) (pa_cons (pv 0) (pa_cons pe_int pa_nil)))))))) pss_nil)
      (pss_one (ps_ret (pe_lst (pa_cons (pv 1) (pa_cons (pv 2) pa_nil)))))))), ?_⟩
    simp only [tVar, tC, G.sl_is, G.lt1, Int.reduceLT, Int.reduceLE, Int.reduceNeg, Int.reducePow, Int.reduceToNat, Int.reduceSub, Int.reduceAdd, Int.reduceMul, Nat.reduceLT, Nat.reduceLeDiff, Int.zero_add, ne_eq,  HO.lst.injEq, List.dropLast_concat, G.last_get,  HO.tup.injEq, G.rII, G.rBB, G.rSS,  tOp, tUn, rI, rI0, rU, tAndV, tOrV, tNotV, tIf, tAnd, tOr, tNot, tNext, tSeq, tBreak, tCont, tDrop, tRet, tRetN, tIfS, gName, gNil, gCons, G.gTupT, G.gUnlT, gSub, gUnl, tAsg, tPar, tTest, tB, tChain,
      tNil, tCons, tTup, tLst, tCall, tCB, tBM, tBM0, tSl, tNoPart, tPart, rSetL, G.atI0, G.atI1, G.atI2, G.ixN30, G.ixN31, G.ixN32, G.cx_K, and_self, rEq, rNe, G.scal_bl, G.scal_int, G.scal_sv,  G.sv_str, G.Kn_sv, G.Kn_int, G.Kn_bl, G.Kn_non, G.isI_int, G.isI_bl, G.isI_sv, G.isI_ref, G.isI_non, G.isB_int, G.isB_bl, G.isB_sv, G.isB_ref, G.isB_non, G.isS_int, G.isS_bl, G.isS_sv, G.isS_ref, G.isS_non, G.isT_int, G.isT_bl, G.isT_sv, G.isT_non, G.isL_int, G.isL_bl, G.isL_sv, G.isL_non,  L2.upd_same,  rAppend, rExtend, rPop, iRng1, iRng2, iList, iTup, iStr, CDivN, CPow, CMul, rIsB, rNotB, rAdd, rSub, G.tFor_eq, G.tLc_eq, tYes, wipe,
      List.getElem?_cons_succ, List.getElem?_cons_zero, List.set_cons_succ, List.set_cons_zero, Option.some.injEq, exists_eq_left', exists_eq_left, exists_eq', exists_eq, V.int.injEq, V.bl.injEq, V.ref.injEq, G.sv_inj, List.cons.injEq, and_true, true_and,
      exists_and_left, and_assoc, exists_eq_right_right, exists_eq_right, decide_eq_true_eq, List.append_nil, List.nil_append, List.cons_append, Bool.not_eq_true', decide_eq_false_iff_not, Bool.not_false, Bool.not_true, Bool.false_eq_true, Bool.true_eq_false, not_true, not_false_iff, L2.start, List.map_cons, List.map_nil, List.length_cons, List.length_nil, List.replicate_zero, List.replicate_succ,
      Nat.reduceAdd, Nat.reduceSub, Nat.add_zero, Nat.zero_add, reduceCtorEq, false_and, exists_false, false_or, or_false, ite_true, ite_false, if_true, if_false, G.spNext, G.spWord]
    refine ⟨hS, fun d H1 d0 d1 a1 => ⟨a1.2, fun e H2 e0 e1 a2 => ?_⟩⟩
    rw [G.cutL_fromI _ d0, G.cutL_toI _ (by omega)]
    have aL : ∀ n m, G.Az (List.take m (List.drop n [97, 98, 99, 100, 101, 102, 103, 104, 105, 106, 107, 108, 109, 110, 111, 112, 113, 114, 115, 116, 117, 118, 119, 120, 121, 122])) := fun n m c hc => by
      have := List.mem_of_mem_drop (List.mem_of_mem_take hc)
      simp at this; omega
    have lz : (List.take (1 + e).toNat (List.drop d.toNat [97, 98, 99, 100, 101, 102, 103, 104, 105, 106, 107, 108, 109, 110, 111, 112, 113, 114, 115, 116, 117, 118, 119, 120, 121, 122])).length = (1 + e).toNat := by
      rw [List.length_take, List.length_drop]; simp; omega
    generalize hX : List.take (1 + e).toNat (List.drop d.toNat [97, 98, 99, 100, 101, 102, 103, 104, 105, 106, 107, 108, 109, 110, 111, 112, 113, 114, 115, 116, 117, 118, 119, 120, 121, 122]) = X at *
    have aX : G.Az X := by rw [← hX]; exact aL _ _
    have nX : X ≠ [] := fun z => by rw [z] at lz; simp at lz; omega
    refine ⟨by rw [List.length_drop]; exact Nat.le_trans (Nat.sub_le _ _) (by decide), a2.2, nX, by omega, fun wd H3 _ w1 wm a3 => ?_⟩
    have aw : G.Az wd := fun c hc => aX c (wm c hc)
    have a13 := (a1.trans a2).trans a3
    refine G.cutM (fun σ H4 => ∃ en, σ = [some (.ref st), some (G.sv X), some (G.sv en)] ∧ G.Az en ∧ en.length ≤ 479 ∧ G.Adv st H H4) (fun M hM => ?_) ?_
    · simp only [tVar, tC, G.sl_is, G.lt1, Int.reduceLT, Int.reduceLE, Int.reduceNeg, Int.reducePow, Int.reduceToNat, Int.reduceSub, Int.reduceAdd, Int.reduceMul, Nat.reduceLT, Nat.reduceLeDiff, Int.zero_add, ne_eq,  HO.lst.injEq, List.dropLast_concat, G.last_get,  HO.tup.injEq, G.rII, G.rBB, G.rSS,  tOp, tUn, rI, rI0, rU, tAndV, tOrV, tNotV, tIf, tAnd, tOr, tNot, tNext, tSeq, tBreak, tCont, tDrop, tRet, tRetN, tIfS, gName, gNil, gCons, G.gTupT, G.gUnlT, gSub, gUnl, tAsg, tPar, tTest, tB, tChain,
      tNil, tCons, tTup, tLst, tCall, tCB, tBM, tBM0, tSl, tNoPart, tPart, rSetL, G.atI0, G.atI1, G.atI2, G.ixN30, G.ixN31, G.ixN32, G.cx_K, and_self, rEq, rNe, G.scal_bl, G.scal_int, G.scal_sv,  G.sv_str, G.Kn_sv, G.Kn_int, G.Kn_bl, G.Kn_non, G.isI_int, G.isI_bl, G.isI_sv, G.isI_ref, G.isI_non, G.isB_int, G.isB_bl, G.isB_sv, G.isB_ref, G.isB_non, G.isS_int, G.isS_bl, G.isS_sv, G.isS_ref, G.isS_non, G.isT_int, G.isT_bl, G.isT_sv, G.isT_non, G.isL_int, G.isL_bl, G.isL_sv, G.isL_non,  L2.upd_same,  rAppend, rExtend, rPop, iRng1, iRng2, iList, iTup, iStr, CDivN, CPow, CMul, rIsB, rNotB, rAdd, rSub, G.tFor_eq, G.tLc_eq, tYes, wipe,
      List.getElem?_cons_succ, List.getElem?_cons_zero, List.set_cons_succ, List.set_cons_zero, Option.some.injEq, exists_eq_left', exists_eq_left, exists_eq', exists_eq, V.int.injEq, V.bl.injEq, V.ref.injEq, G.sv_inj, List.cons.injEq, and_true, true_and,
      exists_and_left, and_assoc, exists_eq_right_right, exists_eq_right, decide_eq_true_eq, List.append_nil, List.nil_append, List.cons_append, Bool.not_eq_true', decide_eq_false_iff_not, Bool.not_false, Bool.not_true, Bool.false_eq_true, Bool.true_eq_false, not_true, not_false_iff, L2.start, List.map_cons, List.map_nil, List.length_cons, List.length_nil, List.replicate_zero, List.replicate_succ,
      Nat.reduceAdd, Nat.reduceSub, Nat.add_zero, Nat.zero_add, reduceCtorEq, false_and, exists_false, false_or, or_false, ite_true, ite_false, if_true, if_false, G.spNext]
      refine ⟨a3.2, fun z H4 z0 z1 a4 => ?_⟩
      refine G.ite_i (fun hz => ?_) fun hz => by rw [hM]; exact ⟨wd, rfl, aw, by omega, a13.trans a4⟩
      have hx : 0 < X.length := by omega
      refine ⟨by omega, X[0], G.atI_of (by simp [hx]) (by omega), by omega, by simp; omega, a4.2, fun y H5 y0 y1 a5 => ⟨by rw [G.repL_len]; simp; omega, ?_⟩⟩
      rw [hM, G.cutL_toI _ (by omega)]
      refine ⟨_, rfl, (G.Az.rep (G.Az.app aw (fun c hc => by rw [List.mem_singleton.mp hc]; exact aX _ (List.getElem_mem hx))) _).take _, ?_, (a13.trans a4).trans a5⟩
      rw [List.length_take]; omega
    · rintro σ H4 ⟨en, rfl, ae, le, a4⟩
      simp only [tVar, tC, G.sl_is, G.lt1, Int.reduceLT, Int.reduceLE, Int.reduceNeg, Int.reducePow, Int.reduceToNat, Int.reduceSub, Int.reduceAdd, Int.reduceMul, Nat.reduceLT, Nat.reduceLeDiff, Int.zero_add, ne_eq,  HO.lst.injEq, List.dropLast_concat, G.last_get,  HO.tup.injEq, G.rII, G.rBB, G.rSS,  tOp, tUn, rI, rI0, rU, tAndV, tOrV, tNotV, tIf, tAnd, tOr, tNot, tNext, tSeq, tBreak, tCont, tDrop, tRet, tRetN, tIfS, gName, gNil, gCons, G.gTupT, G.gUnlT, gSub, gUnl, tAsg, tPar, tTest, tB, tChain,
      tNil, tCons, tTup, tLst, tCall, tCB, tBM, tBM0, tSl, tNoPart, tPart, rSetL, G.atI0, G.atI1, G.atI2, G.ixN30, G.ixN31, G.ixN32, G.cx_K, and_self, rEq, rNe, G.scal_bl, G.scal_int, G.scal_sv,  G.sv_str, G.Kn_sv, G.Kn_int, G.Kn_bl, G.Kn_non, G.isI_int, G.isI_bl, G.isI_sv, G.isI_ref, G.isI_non, G.isB_int, G.isB_bl, G.isB_sv, G.isB_ref, G.isB_non, G.isS_int, G.isS_bl, G.isS_sv, G.isS_ref, G.isS_non, G.isT_int, G.isT_bl, G.isT_sv, G.isT_non, G.isL_int, G.isL_bl, G.isL_sv, G.isL_non,  L2.upd_same,  rAppend, rExtend, rPop, iRng1, iRng2, iList, iTup, iStr, CDivN, CPow, CMul, rIsB, rNotB, rAdd, rSub, G.tFor_eq, G.tLc_eq, tYes, wipe,
      List.getElem?_cons_succ, List.getElem?_cons_zero, List.set_cons_succ, List.set_cons_zero, Option.some.injEq, exists_eq_left', exists_eq_left, exists_eq', exists_eq, V.int.injEq, V.bl.injEq, V.ref.injEq, G.sv_inj, List.cons.injEq, and_true, true_and,
      exists_and_left, and_assoc, exists_eq_right_right, exists_eq_right, decide_eq_true_eq, List.append_nil, List.nil_append, List.cons_append, Bool.not_eq_true', decide_eq_false_iff_not, Bool.not_false, Bool.not_true, Bool.false_eq_true, Bool.true_eq_false, not_true, not_false_iff, L2.start, List.map_cons, List.map_nil, List.length_cons, List.length_nil, List.replicate_zero, List.replicate_succ,
      Nat.reduceAdd, Nat.reduceSub, Nat.add_zero, Nat.zero_add, reduceCtorEq, false_and, exists_false, false_or, or_false, ite_true, ite_false, if_true, if_false]
      exact fun p np => k X en p _ nX (by omega) aX ae le (a4.same (G.same_upd np)) upd_same
theorem ok__law_with (T : Tx K mg) : T.d__law_with.Ok P w base CX0 3 spWith := by
  refine T.d__law_with.F.ok sc__law_with (fun vs H Q E h => ?_) (fun cdv A outer s H vs Q E hr h => ?_)
  · obtain ⟨_, _, _, rfl, _⟩ := h; rfl
  · obtain ⟨st, L, e, rfl, hS, hL, hL6, aL, ae, le, k⟩ := h
    have G__law_next := ok__law_next (P := P) (w := w) (base := base) T
    have G__law_word := ok__law_word (P := P) (w := w) (base := base) T
    refine ⟨_, (pss_cons (ps_set (i := 3) sc__law_with.nd rfl (Or.inl rfl) (G.pe_callD T.d__law_next G__law_next (hr.mono (by decide)) (pa_cons (pv 0) (pa_cons pe_int pa_nil))))
      (pss_cons (ps_if (pt_cmpR G.op_eqI (pv 3) pe_int (nomark _)) (pss_one (ps_ret (pv 2))) pss_nil)
      (pss_cons (ps_if (pt_cmpR G.op_eqI (pv 3) pe_int (nomark _)) (pss_one (ps_ret (pe_slice G.sl_S (pv 2) (po_some (G.pe_callD T.d__law_next G__law_next (hr.mono (by decide)) (pa_cons (pv 0) (pa_cons (pe_op op_add (pe_callB G.call_lenS (by rfl) T.n_len (by decide +kernel) (pa_cons (pv 2) pa_nil)) pe_int) pa_nil)))) po_none))) pss_nil)
      (pss_one (ps_ret (pe_op G.op_addS (G.pe_callD T.d__law_word G__law_word (hr.mono (by decide)) (pa_cons (pv 0) (pa_cons (pv 1) (pa_cons pe_int (pa_cons pe_int pa_nil))))) (pv 2))))))), ?_⟩
    simp only [tVar, tC, G.sl_is, G.lt1, Int.reduceLT, Int.reduceLE, Int.reduceNeg, Int.reducePow, Int.reduceToNat, Int.reduceSub, Int.reduceAdd, Int.reduceMul, Nat.reduceLT, Nat.reduceLeDiff, Int.zero_add, ne_eq,  HO.lst.injEq, List.dropLast_concat, G.last_get,  HO.tup.injEq, G.rII, G.rBB, G.rSS,  tOp, tUn, rI, rI0, rU, tAndV, tOrV, tNotV, tIf, tAnd, tOr, tNot, tNext, tSeq, tBreak, tCont, tDrop, tRet, tRetN, tIfS, gName, gNil, gCons, G.gTupT, G.gUnlT, gSub, gUnl, tAsg, tPar, tTest, tB, tChain,
      tNil, tCons, tTup, tLst, tCall, tCB, tBM, tBM0, tSl, tNoPart, tPart, rSetL, G.atI0, G.atI1, G.atI2, G.ixN30, G.ixN31, G.ixN32, G.cx_K, and_self, rEq, rNe, G.scal_bl, G.scal_int, G.scal_sv,  G.sv_str, G.Kn_sv, G.Kn_int, G.Kn_bl, G.Kn_non, G.isI_int, G.isI_bl, G.isI_sv, G.isI_ref, G.isI_non, G.isB_int, G.isB_bl, G.isB_sv, G.isB_ref, G.isB_non, G.isS_int, G.isS_bl, G.isS_sv, G.isS_ref, G.isS_non, G.isT_int, G.isT_bl, G.isT_sv, G.isT_non, G.isL_int, G.isL_bl, G.isL_sv, G.isL_non,  L2.upd_same,  rAppend, rExtend, rPop, iRng1, iRng2, iList, iTup, iStr, CDivN, CPow, CMul, rIsB, rNotB, rAdd, rSub, G.tFor_eq, G.tLc_eq, tYes, wipe,
      List.getElem?_cons_succ, List.getElem?_cons_zero, List.set_cons_succ, List.set_cons_zero, Option.some.injEq, exists_eq_left', exists_eq_left, exists_eq', exists_eq, V.int.injEq, V.bl.injEq, V.ref.injEq, G.sv_inj, List.cons.injEq, and_true, true_and,
      exists_and_left, and_assoc, exists_eq_right_right, exists_eq_right, decide_eq_true_eq, List.append_nil, List.nil_append, List.cons_append, Bool.not_eq_true', decide_eq_false_iff_not, Bool.not_false, Bool.not_true, Bool.false_eq_true, Bool.true_eq_false, not_true, not_false_iff, L2.start, List.map_cons, List.map_nil, List.length_cons, List.length_nil, List.replicate_zero, List.replicate_succ,
      Nat.reduceAdd, Nat.reduceSub, Nat.add_zero, Nat.zero_add, reduceCtorEq, false_and, exists_false, false_or, or_false, ite_true, ite_false, if_true, if_false, G.spNext, G.spWord]
    refine ⟨hS, fun d H1 d0 d1 a1 => ?_⟩
    refine G.ite_i (fun h0 => k e H1 ae (by omega) a1) fun h0 => ?_
    refine G.ite_i (fun h1 => ?_) fun h1 => ?_
    · refine ⟨by omega, a1.2, by omega, by omega, fun z H2 z0 z1 a2 => ⟨by omega, ?_⟩⟩
      rw [G.cutL_fromI _ z0]
      exact k _ H2 (ae.drop _) (by rw [List.length_drop]; omega) (a1.trans a2)
    · refine ⟨a1.2, hL, by omega, fun wd H2 _ w1 wm a2 => ⟨by omega, k _ H2 (G.Az.app (fun c hc => aL c (wm c hc)) ae) (by rw [List.length_append]; omega) (a1.trans a2)⟩⟩
theorem ok__law_end (T : Tx K mg) : T.d__law_end.Ok P w base CX0 1 spEnd2 := by
  refine T.d__law_end.F.ok sc__law_end (fun vs H Q E h => ?_) (fun cdv A outer s H vs Q E hr h => ?_)
  · obtain ⟨_, _, rfl, _⟩ := h; rfl
  · obtain ⟨a, b, rfl, ha, hb, k⟩ := h
    refine ⟨_, (pss_cons (ps_set (i := 2) sc__law_end.nd rfl (Or.inl rfl) (G.pe_strS (l := []) (by decide +kernel)))
      (pss_cons (ps_for PassesOwn.never rfl (pi_range2 (by rfl) T.n_range (pa_cons pe_int (pa_cons pe_int pa_nil))) (pg_name (i := 3) sc__law_end.nd rfl (Or.inl rfl)) (pss_cons (ps_if (PW.pt (pw_or (pt_cmpR op_gt (pv 3) (pe_callB G.call_lenS (by rfl) T.n_len (by decide +kernel) (pa_cons (pv 0) pa_nil)) (nomark _)) (pw_or (pt_cmpR op_gt (pv 3) (pe_callB G.call_lenS (by rfl) T.n_len (by decide +kernel) (pa_cons (pv 1) pa_nil)) (nomark _)) (pw_or1 (pt_cmpR G.op_neS (pe_ix G.ix_S (pv 0) (pe_op op_sub (pe_callB G.call_lenS (by rfl) T.n_len (by decide +kernel) (pa_cons (pv 0) pa_nil)) (pv 3)) (fun _ _ => rfl)) (pe_ix G.ix_S (pv 1) (pe_op op_sub (pe_callB G.call_lenS (by rfl) T.n_len (by decide +kernel) (pa_cons (pv 1) pa_nil)) (pv 3)) (fun _ _ => rfl)) (nomark _)))))) (pss_one (ps_ret (pv 2))) pss_nil)
        (pss_one (ps_set (i := 2) sc__law_end.nd rfl (Or.inl rfl) (pe_op G.op_addS (pe_ix G.ix_S (pv 0) (pe_op op_sub (pe_callB G.call_lenS (by rfl) T.n_len (by decide +kernel) (pa_cons (pv 0) pa_nil)) (pv 3)) (fun _ _ => rfl)) (pv 2))))))
      (pss_one (ps_ret (pv 2))))), ?_⟩
    simp only [tVar, tC, G.sl_is, G.lt1, Int.reduceLT, Int.reduceLE, Int.reduceNeg, Int.reducePow, Int.reduceToNat, Int.reduceSub, Int.reduceAdd, Int.reduceMul, Nat.reduceLT, Nat.reduceLeDiff, Int.zero_add, ne_eq,  HO.lst.injEq, List.dropLast_concat, G.last_get,  HO.tup.injEq, G.rII, G.rBB, G.rSS,  tOp, tUn, rI, rI0, rU, tAndV, tOrV, tNotV, tIf, tAnd, tOr, tNot, tNext, tSeq, tBreak, tCont, tDrop, tRet, tRetN, tIfS, gName, gNil, gCons, G.gTupT, G.gUnlT, gSub, gUnl, tAsg, tPar, tTest, tB, tChain,
      tNil, tCons, tTup, tLst, tCall, tCB, tBM, tBM0, tSl, tNoPart, tPart, rSetL, G.atI0, G.atI1, G.atI2, G.ixN30, G.ixN31, G.ixN32, G.cx_K, and_self, rEq, rNe, G.scal_bl, G.scal_int, G.scal_sv,  G.sv_str, G.Kn_sv, G.Kn_int, G.Kn_bl, G.Kn_non, G.isI_int, G.isI_bl, G.isI_sv, G.isI_ref, G.isI_non, G.isB_int, G.isB_bl, G.isB_sv, G.isB_ref, G.isB_non, G.isS_int, G.isS_bl, G.isS_sv, G.isS_ref, G.isS_non, G.isT_int, G.isT_bl, G.isT_sv, G.isT_non, G.isL_int, G.isL_bl, G.isL_sv, G.isL_non,  L2.upd_same,  rAppend, rExtend, rPop, iRng1, iRng2, iList, iTup, iStr, CDivN, CPow, CMul, rIsB, rNotB, rAdd, rSub, G.tFor_eq, G.tLc_eq, tYes, wipe,
      List.getElem?_cons_succ, List.getElem?_cons_zero, List.set_cons_succ, List.set_cons_zero, Option.some.injEq, exists_eq_left', exists_eq_left, exists_eq', exists_eq, V.int.injEq, V.bl.injEq, V.ref.injEq, G.sv_inj, List.cons.injEq, and_true, true_and,
      exists_and_left, and_assoc, exists_eq_right_right, exists_eq_right, decide_eq_true_eq, List.append_nil, List.nil_append, List.cons_append, Bool.not_eq_true', decide_eq_false_iff_not, Bool.not_false, Bool.not_true, Bool.false_eq_true, Bool.true_eq_false, not_true, not_false_iff, L2.start, List.map_cons, List.map_nil, List.length_cons, List.length_nil, List.replicate_zero, List.replicate_succ,
      Nat.reduceAdd, Nat.reduceSub, Nat.add_zero, Nat.zero_add, reduceCtorEq, false_and, exists_false, false_or, or_false, ite_true, ite_false, if_true, if_false]
    have la : a.length ≤ 16777216 := by omega
    have lb : b.length ≤ 16777216 := by omega
    have el := G.endL_len a b
    refine G.loop_range (fun i σ H' => H' = H ∧ i ≤ (G.endL a b).length ∧ ∃ v3, σ = [some (G.sv a), some (G.sv b), some (G.sv (a.drop (a.length - i))), v3]) ⟨rfl, Nat.zero_le _, none, by simp⟩ (fun M hM i σ H' hi hP => ?_) (fun σ H' hP => ?_)
    · obtain ⟨rfl, hn, v3, rfl⟩ := hP
      have key := G.endL_step hn
      have fin : ¬ i < (G.endL a b).length → Q (G.sv (a.drop (a.length - i))) H' := fun h => by
        have e : i = (G.endL a b).length := by omega
        rw [e, ← G.endL_drop]; exact k
      simp only [tVar, tC, G.sl_is, G.lt1, Int.reduceLT, Int.reduceLE, Int.reduceNeg, Int.reducePow, Int.reduceToNat, Int.reduceSub, Int.reduceAdd, Int.reduceMul, Nat.reduceLT, Nat.reduceLeDiff, Int.zero_add, ne_eq,  HO.lst.injEq, List.dropLast_concat, G.last_get,  HO.tup.injEq, G.rII, G.rBB, G.rSS,  tOp, tUn, rI, rI0, rU, tAndV, tOrV, tNotV, tIf, tAnd, tOr, tNot, tNext, tSeq, tBreak, tCont, tDrop, tRet, tRetN, tIfS, gName, gNil, gCons, G.gTupT, G.gUnlT, gSub, gUnl, tAsg, tPar, tTest, tB, tChain,
      tNil, tCons, tTup, tLst, tCall, tCB, tBM, tBM0, tSl, tNoPart, tPart, rSetL, G.atI0, G.atI1, G.atI2, G.ixN30, G.ixN31, G.ixN32, G.cx_K, and_self, rEq, rNe, G.scal_bl, G.scal_int, G.scal_sv,  G.sv_str, G.Kn_sv, G.Kn_int, G.Kn_bl, G.Kn_non, G.isI_int, G.isI_bl, G.isI_sv, G.isI_ref, G.isI_non, G.isB_int, G.isB_bl, G.isB_sv, G.isB_ref, G.isB_non, G.isS_int, G.isS_bl, G.isS_sv, G.isS_ref, G.isS_non, G.isT_int, G.isT_bl, G.isT_sv, G.isT_non, G.isL_int, G.isL_bl, G.isL_sv, G.isL_non,  L2.upd_same,  rAppend, rExtend, rPop, iRng1, iRng2, iList, iTup, iStr, CDivN, CPow, CMul, rIsB, rNotB, rAdd, rSub, G.tFor_eq, G.tLc_eq, tYes, wipe,
      List.getElem?_cons_succ, List.getElem?_cons_zero, List.set_cons_succ, List.set_cons_zero, Option.some.injEq, exists_eq_left', exists_eq_left, exists_eq', exists_eq, V.int.injEq, V.bl.injEq, V.ref.injEq, G.sv_inj, List.cons.injEq, and_true, true_and,
      exists_and_left, and_assoc, exists_eq_right_right, exists_eq_right, decide_eq_true_eq, List.append_nil, List.nil_append, List.cons_append, Bool.not_eq_true', decide_eq_false_iff_not, Bool.not_false, Bool.not_true, Bool.false_eq_true, Bool.true_eq_false, not_true, not_false_iff, L2.start, List.map_cons, List.map_nil, List.length_cons, List.length_nil, List.replicate_zero, List.replicate_succ,
      Nat.reduceAdd, Nat.reduceSub, Nat.add_zero, Nat.zero_add, reduceCtorEq, false_and, exists_false, false_or, or_false, ite_true, ite_false, if_true, if_false, la, lb]
      refine G.ite_i (fun h1 => fin (by omega)) fun h1 => ?_
      refine G.ite_i (fun h2 => fin (by omega)) fun h2 => ?_
      have h1' : a.length - 1 - i < a.length := by omega
      have h2' : b.length - 1 - i < b.length := by omega
      have hx : a[a.length - 1 - i]? = some (a[a.length - 1 - i]) := by simp [h1']
      have hy : b[b.length - 1 - i]? = some (b[b.length - 1 - i]) := by simp [h2']
      have ix : atI a ((a.length : Int) - (1 + (i : Int))) = some (a[a.length - 1 - i]) := G.atI_of (by rw [show ((a.length : Int) - (1 + (i : Int))).toNat = a.length - 1 - i by omega]; exact hx) (by omega)
      have iy : atI b ((b.length : Int) - (1 + (i : Int))) = some (b[b.length - 1 - i]) := G.atI_of (by rw [show ((b.length : Int) - (1 + (i : Int))).toNat = b.length - 1 - i by omega]; exact hy) (by omega)
      refine ⟨_, ix, _, iy, ?_⟩
      refine G.ite_i (fun h3 => fin fun h => ?_) fun h3 => ⟨_, ix, ?_, ?_⟩
      · have := (key.mp h).2.2
        rw [hx, hy] at this
        exact h3 (by rw [Option.some.inj this])
      · rw [List.length_drop]; omega
      · rw [hM]
        have e3 : a[a.length - 1 - i] = b[b.length - 1 - i] := by simpa using h3
        have hn1 : i < (G.endL a b).length := key.mpr ⟨by omega, by omega, by rw [hx, hy, e3]⟩
        refine ⟨rfl, by omega, some (.int (1 + (i : Int))), ?_⟩
        have e4 : a.drop (a.length - (i + 1)) = a[a.length - 1 - i] :: a.drop (a.length - i) := by
          rw [show a.length - (i + 1) = a.length - 1 - i by omega, show a.length - i = (a.length - 1 - i) + 1 by omega]
          exact List.drop_eq_getElem_cons h1'
        rw [e4]
    · obtain ⟨rfl, hn, v3, rfl⟩ := hP
      simp only [tVar, tC, G.sl_is, G.lt1, Int.reduceLT, Int.reduceLE, Int.reduceNeg, Int.reducePow, Int.reduceToNat, Int.reduceSub, Int.reduceAdd, Int.reduceMul, Nat.reduceLT, Nat.reduceLeDiff, Int.zero_add, ne_eq,  HO.lst.injEq, List.dropLast_concat, G.last_get,  HO.tup.injEq, G.rII, G.rBB, G.rSS,  tOp, tUn, rI, rI0, rU, tAndV, tOrV, tNotV, tIf, tAnd, tOr, tNot, tNext, tSeq, tBreak, tCont, tDrop, tRet, tRetN, tIfS, gName, gNil, gCons, G.gTupT, G.gUnlT, gSub, gUnl, tAsg, tPar, tTest, tB, tChain,
      tNil, tCons, tTup, tLst, tCall, tCB, tBM, tBM0, tSl, tNoPart, tPart, rSetL, G.atI0, G.atI1, G.atI2, G.ixN30, G.ixN31, G.ixN32, G.cx_K, and_self, rEq, rNe, G.scal_bl, G.scal_int, G.scal_sv,  G.sv_str, G.Kn_sv, G.Kn_int, G.Kn_bl, G.Kn_non, G.isI_int, G.isI_bl, G.isI_sv, G.isI_ref, G.isI_non, G.isB_int, G.isB_bl, G.isB_sv, G.isB_ref, G.isB_non, G.isS_int, G.isS_bl, G.isS_sv, G.isS_ref, G.isS_non, G.isT_int, G.isT_bl, G.isT_sv, G.isT_non, G.isL_int, G.isL_bl, G.isL_sv, G.isL_non,  L2.upd_same,  rAppend, rExtend, rPop, iRng1, iRng2, iList, iTup, iStr, CDivN, CPow, CMul, rIsB, rNotB, rAdd, rSub, G.tFor_eq, G.tLc_eq, tYes, wipe,
      List.getElem?_cons_succ, List.getElem?_cons_zero, List.set_cons_succ, List.set_cons_zero, Option.some.injEq, exists_eq_left', exists_eq_left, exists_eq', exists_eq, V.int.injEq, V.bl.injEq, V.ref.injEq, G.sv_inj, List.cons.injEq, and_true, true_and,
      exists_and_left, and_assoc, exists_eq_right_right, exists_eq_right, decide_eq_true_eq, List.append_nil, List.nil_append, List.cons_append, Bool.not_eq_true', decide_eq_false_iff_not, Bool.not_false, Bool.not_true, Bool.false_eq_true, Bool.true_eq_false, not_true, not_false_iff, L2.start, List.map_cons, List.map_nil, List.length_cons, List.length_nil, List.replicate_zero, List.replicate_succ,
      Nat.reduceAdd, Nat.reduceSub, Nat.add_zero, Nat.zero_add, reduceCtorEq, false_and, exists_false, false_or, or_false, ite_true, ite_false, if_true, if_false]
      have e : (500 : Nat) = (G.endL a b).length := by omega
      have e2 : a.drop (a.length - (500:Nat)) = G.endL a b := by rw [e, ← G.endL_drop]
      rw [e2]; exact k
theorem ok__law_looks (T : Tx K mg) : T.d__law_looks.Ok P w base CX0 6 spLooks := by
  refine T.d__law_looks.F.ok sc__law_looks (fun vs H Q E h => ?_) (fun cdv A outer s H vs Q E hr h => ?_)
  · obtain ⟨_, _, rfl, _⟩ := h; rfl
  · obtain ⟨a, b, rfl, ha, hb, k⟩ := h
    have G_are_alike := ok_are_alike (P := P) (w := w) (base := base) T
    have G__law_says := ok__law_says (P := P) (w := w) (base := base) T
    have G__law_end := ok__law_end (P := P) (w := w) (base := base) T
    refine ⟨_, (pss_cons (ps_set (i := 2) sc__law_looks.nd rfl (Or.inl rfl) (pe_callB G.call_lenS (by rfl) T.n_len (by decide +kernel) (pa_cons (G.pe_callD T.d__law_end G__law_end (hr.mono (by decide)) (pa_cons (pv 0) (pa_cons (pv 1) pa_nil))) pa_nil)))
      (pss_cons (ps_for PassesOwn.never rfl (pi_range1 (by rfl) T.n_range (pa_cons pe_int pa_nil)) (pg_name (i := 3) sc__law_looks.nd rfl (Or.inl rfl)) (pss_one (ps_if (PW.pt (pw_or (pt_not (pt_val (G.pe_callD T.d__law_says G__law_says (hr.mono (by decide)) (pa_cons (G.pe_callD T.d_are_alike G_are_alike (hr.mono (by decide)) (pa_cons (pv 0) (pa_cons (pv 1) (pa_cons (pv 3) pa_nil)))) (pa_cons (pe_cmpR op_ge (pv 2) (pv 3) (nomark _)) pa_nil))))) (pw_or1 (pt_not (pt_val (G.pe_callD T.d__law_says G__law_says (hr.mono (by decide)) (pa_cons (G.pe_callD T.d_are_alike G_are_alike (hr.mono (by decide)) (pa_cons (pv 0) (pa_cons (pv 0) (pa_cons (pv 3) pa_nil)))) (pa_cons (pe_cmpR op_ge (pe_callB G.call_lenS (by rfl) T.n_len (by decide +kernel) (pa_cons (pv 0) pa_nil)) (pv 3) (nomark _)) pa_nil)))))))) (pss_one (ps_ret pe_bl)) pss_nil)))
      (pss_one (ps_ret pe_bl)))), ?_⟩
    simp only [tVar, tC, G.sl_is, G.lt1, Int.reduceLT, Int.reduceLE, Int.reduceNeg, Int.reducePow, Int.reduceToNat, Int.reduceSub, Int.reduceAdd, Int.reduceMul, Nat.reduceLT, Nat.reduceLeDiff, Int.zero_add, ne_eq,  HO.lst.injEq, List.dropLast_concat, G.last_get,  HO.tup.injEq, G.rII, G.rBB, G.rSS,  tOp, tUn, rI, rI0, rU, tAndV, tOrV, tNotV, tIf, tAnd, tOr, tNot, tNext, tSeq, tBreak, tCont, tDrop, tRet, tRetN, tIfS, gName, gNil, gCons, G.gTupT, G.gUnlT, gSub, gUnl, tAsg, tPar, tTest, tB, tChain,
      tNil, tCons, tTup, tLst, tCall, tCB, tBM, tBM0, tSl, tNoPart, tPart, rSetL, G.atI0, G.atI1, G.atI2, G.ixN30, G.ixN31, G.ixN32, G.cx_K, and_self, rEq, rNe, G.scal_bl, G.scal_int, G.scal_sv,  G.sv_str, G.Kn_sv, G.Kn_int, G.Kn_bl, G.Kn_non, G.isI_int, G.isI_bl, G.isI_sv, G.isI_ref, G.isI_non, G.isB_int, G.isB_bl, G.isB_sv, G.isB_ref, G.isB_non, G.isS_int, G.isS_bl, G.isS_sv, G.isS_ref, G.isS_non, G.isT_int, G.isT_bl, G.isT_sv, G.isT_non, G.isL_int, G.isL_bl, G.isL_sv, G.isL_non,  L2.upd_same,  rAppend, rExtend, rPop, iRng1, iRng2, iList, iTup, iStr, CDivN, CPow, CMul, rIsB, rNotB, rAdd, rSub, G.tFor_eq, G.tLc_eq, tYes, wipe,
      List.getElem?_cons_succ, List.getElem?_cons_zero, List.set_cons_succ, List.set_cons_zero, Option.some.injEq, exists_eq_left', exists_eq_left, exists_eq', exists_eq, V.int.injEq, V.bl.injEq, V.ref.injEq, G.sv_inj, List.cons.injEq, and_true, true_and,
      exists_and_left, and_assoc, exists_eq_right_right, exists_eq_right, decide_eq_true_eq, List.append_nil, List.nil_append, List.cons_append, Bool.not_eq_true', decide_eq_false_iff_not, Bool.not_false, Bool.not_true, Bool.false_eq_true, Bool.true_eq_false, not_true, not_false_iff, L2.start, List.map_cons, List.map_nil, List.length_cons, List.length_nil, List.replicate_zero, List.replicate_succ,
      Nat.reduceAdd, Nat.reduceSub, Nat.add_zero, Nat.zero_add, reduceCtorEq, false_and, exists_false, false_or, or_false, ite_true, ite_false, if_true, if_false, spAlike, G.spSays, spEnd2]
    have el := G.endL_len a b
    refine ⟨ha.1, hb.1, by have := ha.1; omega, ?_⟩
    refine G.loop_range (fun i σ H' => Same H H' ∧ ∃ v3, σ = [some (G.sv a), some (G.sv b), some (.int (G.endL a b).length), v3]) ⟨Same.refl _, none, rfl⟩ (fun M hM i σ H' hi hP => ?_) (fun σ H' hP => ?_)
    · obtain ⟨s1, v3, rfl⟩ := hP
      simp only [tVar, tC, G.sl_is, G.lt1, Int.reduceLT, Int.reduceLE, Int.reduceNeg, Int.reducePow, Int.reduceToNat, Int.reduceSub, Int.reduceAdd, Int.reduceMul, Nat.reduceLT, Nat.reduceLeDiff, Int.zero_add, ne_eq,  HO.lst.injEq, List.dropLast_concat, G.last_get,  HO.tup.injEq, G.rII, G.rBB, G.rSS,  tOp, tUn, rI, rI0, rU, tAndV, tOrV, tNotV, tIf, tAnd, tOr, tNot, tNext, tSeq, tBreak, tCont, tDrop, tRet, tRetN, tIfS, gName, gNil, gCons, G.gTupT, G.gUnlT, gSub, gUnl, tAsg, tPar, tTest, tB, tChain,
      tNil, tCons, tTup, tLst, tCall, tCB, tBM, tBM0, tSl, tNoPart, tPart, rSetL, G.atI0, G.atI1, G.atI2, G.ixN30, G.ixN31, G.ixN32, G.cx_K, and_self, rEq, rNe, G.scal_bl, G.scal_int, G.scal_sv,  G.sv_str, G.Kn_sv, G.Kn_int, G.Kn_bl, G.Kn_non, G.isI_int, G.isI_bl, G.isI_sv, G.isI_ref, G.isI_non, G.isB_int, G.isB_bl, G.isB_sv, G.isB_ref, G.isB_non, G.isS_int, G.isS_bl, G.isS_sv, G.isS_ref, G.isS_non, G.isT_int, G.isT_bl, G.isT_sv, G.isT_non, G.isL_int, G.isL_bl, G.isL_sv, G.isL_non,  L2.upd_same,  rAppend, rExtend, rPop, iRng1, iRng2, iList, iTup, iStr, CDivN, CPow, CMul, rIsB, rNotB, rAdd, rSub, G.tFor_eq, G.tLc_eq, tYes, wipe,
      List.getElem?_cons_succ, List.getElem?_cons_zero, List.set_cons_succ, List.set_cons_zero, Option.some.injEq, exists_eq_left', exists_eq_left, exists_eq', exists_eq, V.int.injEq, V.bl.injEq, V.ref.injEq, G.sv_inj, List.cons.injEq, and_true, true_and,
      exists_and_left, and_assoc, exists_eq_right_right, exists_eq_right, decide_eq_true_eq, List.append_nil, List.nil_append, List.cons_append, Bool.not_eq_true', decide_eq_false_iff_not, Bool.not_false, Bool.not_true, Bool.false_eq_true, Bool.true_eq_false, not_true, not_false_iff, L2.start, List.map_cons, List.map_nil, List.length_cons, List.length_nil, List.replicate_zero, List.replicate_succ,
      Nat.reduceAdd, Nat.reduceSub, Nat.add_zero, Nat.zero_add, reduceCtorEq, false_and, exists_false, false_or, or_false, ite_true, ite_false, if_true, if_false, spAlike, G.spSays, decide_true]
      refine ⟨ha, hb, by omega, by omega, fun H2 s2 => ⟨ha, ha, by omega, by omega, fun H3 s3 => ⟨by have := ha.1; omega, ?_⟩⟩⟩
      rw [G.endL_self, if_neg (fun h => h rfl), hM]
      exact ⟨(s1.trans s2).trans s3, _, rfl⟩
    · obtain ⟨s1, v3, rfl⟩ := hP
      simp only [tVar, tC, G.sl_is, G.lt1, Int.reduceLT, Int.reduceLE, Int.reduceNeg, Int.reducePow, Int.reduceToNat, Int.reduceSub, Int.reduceAdd, Int.reduceMul, Nat.reduceLT, Nat.reduceLeDiff, Int.zero_add, ne_eq,  HO.lst.injEq, List.dropLast_concat, G.last_get,  HO.tup.injEq, G.rII, G.rBB, G.rSS,  tOp, tUn, rI, rI0, rU, tAndV, tOrV, tNotV, tIf, tAnd, tOr, tNot, tNext, tSeq, tBreak, tCont, tDrop, tRet, tRetN, tIfS, gName, gNil, gCons, G.gTupT, G.gUnlT, gSub, gUnl, tAsg, tPar, tTest, tB, tChain,
      tNil, tCons, tTup, tLst, tCall, tCB, tBM, tBM0, tSl, tNoPart, tPart, rSetL, G.atI0, G.atI1, G.atI2, G.ixN30, G.ixN31, G.ixN32, G.cx_K, and_self, rEq, rNe, G.scal_bl, G.scal_int, G.scal_sv,  G.sv_str, G.Kn_sv, G.Kn_int, G.Kn_bl, G.Kn_non, G.isI_int, G.isI_bl, G.isI_sv, G.isI_ref, G.isI_non, G.isB_int, G.isB_bl, G.isB_sv, G.isB_ref, G.isB_non, G.isS_int, G.isS_bl, G.isS_sv, G.isS_ref, G.isS_non, G.isT_int, G.isT_bl, G.isT_sv, G.isT_non, G.isL_int, G.isL_bl, G.isL_sv, G.isL_non,  L2.upd_same,  rAppend, rExtend, rPop, iRng1, iRng2, iList, iTup, iStr, CDivN, CPow, CMul, rIsB, rNotB, rAdd, rSub, G.tFor_eq, G.tLc_eq, tYes, wipe,
      List.getElem?_cons_succ, List.getElem?_cons_zero, List.set_cons_succ, List.set_cons_zero, Option.some.injEq, exists_eq_left', exists_eq_left, exists_eq', exists_eq, V.int.injEq, V.bl.injEq, V.ref.injEq, G.sv_inj, List.cons.injEq, and_true, true_and,
      exists_and_left, and_assoc, exists_eq_right_right, exists_eq_right, decide_eq_true_eq, List.append_nil, List.nil_append, List.cons_append, Bool.not_eq_true', decide_eq_false_iff_not, Bool.not_false, Bool.not_true, Bool.false_eq_true, Bool.true_eq_false, not_true, not_false_iff, L2.start, List.map_cons, List.map_nil, List.length_cons, List.length_nil, List.replicate_zero, List.replicate_succ,
      Nat.reduceAdd, Nat.reduceSub, Nat.add_zero, Nat.zero_add, reduceCtorEq, false_and, exists_false, false_or, or_false, ite_true, ite_false, if_true, if_false]
      exact k H' s1
theorem ok_law (T : Tx K mg) : T.d_law.Ok P w base CX0 8 (G.spLaw K) := by
  refine T.d_law.F.ok sc_law (fun vs H Q E h => ?_) (fun cdv A outer s H vs Q E hr h => ?_)
  · obtain ⟨_, _, rfl, _⟩ := h; rfl
  · obtain ⟨a, ns, rfl, hS, k⟩ := h
    have G__law_stream := ok__law_stream (P := P) (w := w) (base := base) T
    have G__law_some := ok__law_some (P := P) (w := w) (base := base) T
    have G__law_with := ok__law_with (P := P) (w := w) (base := base) T
    have G__law_end := ok__law_end (P := P) (w := w) (base := base) T
    have G__law_next := ok__law_next (P := P) (w := w) (base := base) T
    have G__law_word := ok__law_word (P := P) (w := w) (base := base) T
    have G_common_end := ok_common_end (P := P) (w := w) (base := base) T
    have G_are_alike := ok_are_alike (P := P) (w := w) (base := base) T
    have G__law_same := ok__law_same (P := P) (w := w) (base := base) T
    have G__law_looks := ok__law_looks (P := P) (w := w) (base := base) T
    refine ⟨_, (pss_cons (ps_set (i := 1) sc_law.nd rfl (Or.inl rfl) (G.pe_callD T.d__law_stream G__law_stream (hr.mono (by decide)) (pa_cons (pv 0) pa_nil)))
      (pss_cons (ps_for PassesOwn.never rfl (pi_range1 (by rfl) T.n_range (pa_cons pe_int pa_nil)) (pg_name (i := 2) sc_law.nd rfl (Or.inl rfl)) (pss_cons (ps_asg (G.pe_callD T.d__law_some G__law_some (hr.mono (by decide)) (pa_cons (pv 1) pa_nil)) (G.pg_unlT 2 rfl (pgs_cons (pg_name (i := 3) sc_law.nd rfl (Or.inl rfl)) (pgs_cons (pg_name (i := 4) sc_law.nd rfl (Or.inl rfl)) pgs_nil))))
        (pss_cons (ps_set (i := 5) sc_law.nd rfl (Or.inl rfl) (G.pe_callD T.d__law_with G__law_with (hr.mono (by decide)) (pa_cons (pv 1) (pa_cons (pv 3) (pa_cons (pv 4) pa_nil)))))
        (pss_cons (ps_set (i := 6) sc_law.nd rfl (Or.inl rfl) (G.pe_callD T.d__law_with G__law_with (hr.mono (by decide)) (pa_cons (pv 1) (pa_cons (pv 3) (pa_cons (pv 4) pa_nil)))))
        (pss_cons (ps_set (i := 7) sc_law.nd rfl (Or.inl rfl) (G.pe_callD T.d__law_with G__law_with (hr.mono (by decide)) (pa_cons (pv 1) (pa_cons (pv 3) (pa_cons (pv 4) pa_nil)))))
        (pss_cons (ps_set (i := 8) sc_law.nd rfl (Or.inl rfl) (G.pe_callD T.d__law_end G__law_end (hr.mono (by decide)) (pa_cons (pv 5) (pa_cons (pv 6) pa_nil))))
        (pss_cons (ps_set (i := 9) sc_law.nd rfl (Or.inl rfl) (pe_lst (pa_cons (G.pe_callD T.d_common_end G_common_end (hr.mono (by decide)) (pa_cons (pv 5) (pa_cons (pv 6) pa_nil))) (pa_cons (G.pe_callD T.d_common_end G_common_end (hr.mono (by decide)) (pa_cons (pv 6) (pa_cons (pv 5) pa_nil))) (pa_cons (G.pe_callD T.d_common_end G_common_end (hr.mono (by decide)) (pa_cons (pv 5) (pa_cons (pv 5) pa_nil))) pa_nil)))))
        (pss_cons (ps_if (pt_not (pt_val (G.pe_callD T.d__law_same G__law_same (hr.mono (by decide)) (pa_cons (pv 9) (pa_cons (pe_lst (pa_cons (pv 8) (pa_cons (pv 8) (pa_cons (pv 5) pa_nil)))) pa_nil))))) (pss_one (ps_ret pe_bl)) pss_nil)
        (pss_cons (ps_if (PW.pt (pw_or (pt_not (pt_val (G.pe_callD T.d__law_looks G__law_looks (hr.mono (by decide)) (pa_cons (pv 5) (pa_cons (pv 6) pa_nil))))) (pw_or1 (pt_not (pt_val (G.pe_callD T.d__law_looks G__law_looks (hr.mono (by decide)) (pa_cons (pv 6) (pa_cons (pv 7) pa_nil)))))))) (pss_one (ps_ret pe_bl)) pss_nil)
        (pss_cons (ps_set (i := 10) sc_law.nd rfl (Or.inl rfl) (G.pe_callD T.d__law_word G__law_word (hr.mono (by decide)) (pa_cons (pv 1) (pa_cons (pv 3) (pa_cons pe_int (pa_cons pe_int pa_nil))))))
        (pss_cons (ps_if (pt_not (pt_val (G.pe_callD T.d__law_same G__law_same (hr.mono (by decide)) (pa_cons (G.pe_callD T.d_common_end G_common_end (hr.mono (by decide)) (pa_cons (pe_op G.op_addS (pv 5) (pv 10)) (pa_cons (pe_op G.op_addS (pv 6) (pv 10)) pa_nil))) (pa_cons (pe_op G.op_addS (pv 8) (pv 10)) pa_nil))))) (pss_one (ps_ret pe_bl)) pss_nil)
        (pss_cons (ps_set (i := 11) sc_law.nd rfl (Or.inl rfl) (G.pe_callD T.d__law_next G__law_next (hr.mono (by decide)) (pa_cons (pv 1) (pa_cons pe_int pa_nil))))
        (pss_cons (ps_if (PW.pt (pw_and (pt_cmpR op_ge (pe_callB G.call_lenS (by rfl) T.n_len (by decide +kernel) (pa_cons (pv 8) pa_nil)) (pv 11) (nomark _)) (pw_and (pt_cmpR op_ge (pe_callB G.call_lenS (by rfl) T.n_len (by decide +kernel) (pa_cons (G.pe_callD T.d__law_end G__law_end (hr.mono (by decide)) (pa_cons (pv 6) (pa_cons (pv 7) pa_nil))) pa_nil)) (pv 11) (nomark _)) (pw_and1 (pt_cmpR op_notBl (G.pe_callD T.d_are_alike G_are_alike (hr.mono (by decide)) (pa_cons (pv 5) (pa_cons (pv 7) (pa_cons (pv 11) pa_nil)))) pe_bl (nomark _)))))) (pss_one (ps_ret pe_bl)) pss_nil)
        (pss_one (ps_if (PW.pt (pw_and (pt_cmpR op_ge (pe_callB G.call_lenS (by rfl) T.n_len (by decide +kernel) (pa_cons (pv 8) pa_nil)) (pv 11) (nomark _)) (pw_and1 (pt_cmpR op_notBl (G.pe_callD T.d_are_alike G_are_alike (hr.mono (by decide)) (pa_cons (pe_op G.op_addS (pv 5) (pv 10)) (pa_cons (pe_op G.op_addS (pv 6) (pv 10)) (pa_cons (pe_callB (call_min2 rfl) (by rfl) T.n_min (by decide +kernel) (pa_cons pe_int (pa_cons (pe_op op_add (pv 11) (pe_callB G.call_lenS (by rfl) T.n_len (by decide +kernel) (pa_cons (pv 10) pa_nil))) pa_nil))) pa_nil)))) pe_bl (nomark _))))) (pss_one (ps_ret pe_bl)) pss_nil)))))))))))))))
      (pss_one (ps_ret pe_bl)))), ?_⟩
    simp only [tVar, tC, G.sl_is, G.lt1, Int.reduceLT, Int.reduceLE, Int.reduceNeg, Int.reducePow, Int.reduceToNat, Int.reduceSub, Int.reduceAdd, Int.reduceMul, Nat.reduceLT, Nat.reduceLeDiff, Int.zero_add, ne_eq,  HO.lst.injEq, List.dropLast_concat, G.last_get,  HO.tup.injEq, G.rII, G.rBB, G.rSS,  tOp, tUn, rI, rI0, rU, tAndV, tOrV, tNotV, tIf, tAnd, tOr, tNot, tNext, tSeq, tBreak, tCont, tDrop, tRet, tRetN, tIfS, gName, gNil, gCons, G.gTupT, G.gUnlT, gSub, gUnl, tAsg, tPar, tTest, tB, tChain,
      tNil, tCons, tTup, tLst, tCall, tCB, tBM, tBM0, tSl, tNoPart, tPart, rSetL, G.atI0, G.atI1, G.atI2, G.ixN30, G.ixN31, G.ixN32, G.cx_K, and_self, rEq, rNe, G.scal_bl, G.scal_int, G.scal_sv,  G.sv_str, G.Kn_sv, G.Kn_int, G.Kn_bl, G.Kn_non, G.isI_int, G.isI_bl, G.isI_sv, G.isI_ref, G.isI_non, G.isB_int, G.isB_bl, G.isB_sv, G.isB_ref, G.isB_non, G.isS_int, G.isS_bl, G.isS_sv, G.isS_ref, G.isS_non, G.isT_int, G.isT_bl, G.isT_sv, G.isT_non, G.isL_int, G.isL_bl, G.isL_sv, G.isL_non,  L2.upd_same,  rAppend, rExtend, rPop, iRng1, iRng2, iList, iTup, iStr, CDivN, CPow, CMul, rIsB, rNotB, rAdd, rSub, G.tFor_eq, G.tLc_eq, tYes, wipe,
      List.getElem?_cons_succ, List.getElem?_cons_zero, List.set_cons_succ, List.set_cons_zero, Option.some.injEq, exists_eq_left', exists_eq_left, exists_eq', exists_eq, V.int.injEq, V.bl.injEq, V.ref.injEq, G.sv_inj, List.cons.injEq, and_true, true_and,
      exists_and_left, and_assoc, exists_eq_right_right, exists_eq_right, decide_eq_true_eq, List.append_nil, List.nil_append, List.cons_append, Bool.not_eq_true', decide_eq_false_iff_not, Bool.not_false, Bool.not_true, Bool.false_eq_true, Bool.true_eq_false, not_true, not_false_iff, L2.start, List.map_cons, List.map_nil, List.length_cons, List.length_nil, List.replicate_zero, List.replicate_succ,
      Nat.reduceAdd, Nat.reduceSub, Nat.add_zero, Nat.zero_add, reduceCtorEq, false_and, exists_false, false_or, or_false, ite_true, ite_false, if_true, if_false, G.spStream, G.spNext, G.spWord, spSome, spWith, spEnd2, spCommon, spAlike, G.spSame, spLooks]
    refine ⟨ns, hS, fun st H1 s1 n1 S1 => ?_⟩
    refine G.loop_range (fun i σ H' => G.Strm H' st ∧ ∃ v2 v3 v4 v5 v6 v7 v8 v9 v10 v11, σ = [some (.ref a), some (.ref st), v2, v3, v4, v5, v6, v7, v8, v9, v10, v11]) ⟨S1, _, _, _, _, _, _, _, _, _, _, rfl⟩ (fun M hM i σ H2 hi hP => ?_) (fun σ H2 hP => ?_)
    · obtain ⟨S2, v2, v3, v4, v5, v6, v7, v8, v9, v10, v11, rfl⟩ := hP
      simp only [tVar, tC, G.sl_is, G.lt1, Int.reduceLT, Int.reduceLE, Int.reduceNeg, Int.reducePow, Int.reduceToNat, Int.reduceSub, Int.reduceAdd, Int.reduceMul, Nat.reduceLT, Nat.reduceLeDiff, Int.zero_add, ne_eq,  HO.lst.injEq, List.dropLast_concat, G.last_get,  HO.tup.injEq, G.rII, G.rBB, G.rSS,  tOp, tUn, rI, rI0, rU, tAndV, tOrV, tNotV, tIf, tAnd, tOr, tNot, tNext, tSeq, tBreak, tCont, tDrop, tRet, tRetN, tIfS, gName, gNil, gCons, G.gTupT, G.gUnlT, gSub, gUnl, tAsg, tPar, tTest, tB, tChain,
      tNil, tCons, tTup, tLst, tCall, tCB, tBM, tBM0, tSl, tNoPart, tPart, rSetL, G.atI0, G.atI1, G.atI2, G.ixN30, G.ixN31, G.ixN32, G.cx_K, and_self, rEq, rNe, G.scal_bl, G.scal_int, G.scal_sv,  G.sv_str, G.Kn_sv, G.Kn_int, G.Kn_bl, G.Kn_non, G.isI_int, G.isI_bl, G.isI_sv, G.isI_ref, G.isI_non, G.isB_int, G.isB_bl, G.isB_sv, G.isB_ref, G.isB_non, G.isS_int, G.isS_bl, G.isS_sv, G.isS_ref, G.isS_non, G.isT_int, G.isT_bl, G.isT_sv, G.isT_non, G.isL_int, G.isL_bl, G.isL_sv, G.isL_non,  L2.upd_same,  rAppend, rExtend, rPop, iRng1, iRng2, iList, iTup, iStr, CDivN, CPow, CMul, rIsB, rNotB, rAdd, rSub, G.tFor_eq, G.tLc_eq, tYes, wipe,
      List.getElem?_cons_succ, List.getElem?_cons_zero, List.set_cons_succ, List.set_cons_zero, Option.some.injEq, exists_eq_left', exists_eq_left, exists_eq', exists_eq, V.int.injEq, V.bl.injEq, V.ref.injEq, G.sv_inj, List.cons.injEq, and_true, true_and,
      exists_and_left, and_assoc, exists_eq_right_right, exists_eq_right, decide_eq_true_eq, List.append_nil, List.nil_append, List.cons_append, Bool.not_eq_true', decide_eq_false_iff_not, Bool.not_false, Bool.not_true, Bool.false_eq_true, Bool.true_eq_false, not_true, not_false_iff, L2.start, List.map_cons, List.map_nil, List.length_cons, List.length_nil, List.replicate_zero, List.replicate_succ,
      Nat.reduceAdd, Nat.reduceSub, Nat.add_zero, Nat.zero_add, reduceCtorEq, false_and, exists_false, false_or, or_false, ite_true, ite_false, if_true, if_false, spSome, spWith, spEnd2, spCommon, spAlike, G.spSame, spLooks, G.spNext, G.spWord]
      refine ⟨S2, fun L e p H3 nL lL aL ae le ad3 hp => ?_⟩
      simp only [tVar, tC, G.sl_is, G.lt1, Int.reduceLT, Int.reduceLE, Int.reduceNeg, Int.reducePow, Int.reduceToNat, Int.reduceSub, Int.reduceAdd, Int.reduceMul, Nat.reduceLT, Nat.reduceLeDiff, Int.zero_add, ne_eq,  HO.lst.injEq, List.dropLast_concat, G.last_get,  HO.tup.injEq, G.rII, G.rBB, G.rSS,  tOp, tUn, rI, rI0, rU, tAndV, tOrV, tNotV, tIf, tAnd, tOr, tNot, tNext, tSeq, tBreak, tCont, tDrop, tRet, tRetN, tIfS, gName, gNil, gCons, G.gTupT, G.gUnlT, gSub, gUnl, tAsg, tPar, tTest, tB, tChain,
      tNil, tCons, tTup, tLst, tCall, tCB, tBM, tBM0, tSl, tNoPart, tPart, rSetL, G.atI0, G.atI1, G.atI2, G.ixN30, G.ixN31, G.ixN32, G.cx_K, and_self, rEq, rNe, G.scal_bl, G.scal_int, G.scal_sv,  G.sv_str, G.Kn_sv, G.Kn_int, G.Kn_bl, G.Kn_non, G.isI_int, G.isI_bl, G.isI_sv, G.isI_ref, G.isI_non, G.isB_int, G.isB_bl, G.isB_sv, G.isB_ref, G.isB_non, G.isS_int, G.isS_bl, G.isS_sv, G.isS_ref, G.isS_non, G.isT_int, G.isT_bl, G.isT_sv, G.isT_non, G.isL_int, G.isL_bl, G.isL_sv, G.isL_non,  L2.upd_same,  rAppend, rExtend, rPop, iRng1, iRng2, iList, iTup, iStr, CDivN, CPow, CMul, rIsB, rNotB, rAdd, rSub, G.tFor_eq, G.tLc_eq, tYes, wipe,
      List.getElem?_cons_succ, List.getElem?_cons_zero, List.set_cons_succ, List.set_cons_zero, Option.some.injEq, exists_eq_left', exists_eq_left, exists_eq', exists_eq, V.int.injEq, V.bl.injEq, V.ref.injEq, G.sv_inj, List.cons.injEq, and_true, true_and,
      exists_and_left, and_assoc, exists_eq_right_right, exists_eq_right, decide_eq_true_eq, List.append_nil, List.nil_append, List.cons_append, Bool.not_eq_true', decide_eq_false_iff_not, Bool.not_false, Bool.not_true, Bool.false_eq_true, Bool.true_eq_false, not_true, not_false_iff, L2.start, List.map_cons, List.map_nil, List.length_cons, List.length_nil, List.replicate_zero, List.replicate_succ,
      Nat.reduceAdd, Nat.reduceSub, Nat.add_zero, Nat.zero_add, reduceCtorEq, false_and, exists_false, false_or, or_false, ite_true, ite_false, if_true, if_false, hp]
      refine ⟨ad3.2, nL, lL, aL, ae, le, fun one H4 a1 l1 ad4 => ⟨ad4.2, nL, lL, aL, ae, le, fun oth H5 a2 l2 ad5 => ⟨ad5.2, nL, lL, aL, ae, le, fun thi H6 a3 l3 ad6 => ?_⟩⟩⟩
      have p1 : G.Plain one := ⟨by omega, a1⟩
      have p2 : G.Plain oth := ⟨by omega, a2⟩
      have p3 : G.Plain thi := ⟨by omega, a3⟩
      refine ⟨by omega, by omega, p1, p2, fun H7 s7 => ⟨p2, p1, fun H8 s8 => ⟨p1, p1, fun H9 s9 q1 n1 q2 n2 => ?_⟩⟩⟩
      have lo : one.length ≤ 485 := l1
      have el := G.endL_len one oth
      have el2 := G.endL_len oth thi
      refine ⟨.lst [.str (G.endL one oth), .str (G.endL one oth), .str one], ⟨q1, _, rfl, by rw [upd_ne (fun e => by rw [e, upd_same] at n2; cases n2), upd_same], ?_⟩, ⟨q2, _, rfl, upd_same, ?_⟩, by simp [G.Dat.sz, G.Dat.szL], fun H10 s10 => ⟨p1, p2, fun H11 s11 => ⟨p2, p3, fun H12 s12 => ?_⟩⟩⟩
      · exact ⟨_, _, rfl, rfl, _, _, rfl, by rw [G.endL_comm oth one]; rfl, _, _, rfl, by rw [G.endL_self]; rfl, rfl⟩
      · exact ⟨_, _, rfl, rfl, _, _, rfl, rfl, _, _, rfl, rfl, rfl⟩
      have ad12 : G.Adv st H6 H12 := ad6.2.adv (((((((s7.trans s8).trans s9).trans (G.same_upd n1)).trans (G.same_upd n2)).trans s10).trans s11).trans s12)
      refine ⟨ad12.2, nL, by omega, fun wd H13 _ w1 wm ad13 => ?_⟩
      have aw : G.Az wd := fun c hc => aL c (wm c hc)
      have p4 : G.Plain (one ++ wd) := ⟨by rw [List.length_append]; omega, a1.app aw⟩
      have p5 : G.Plain (oth ++ wd) := ⟨by rw [List.length_append]; omega, a2.app aw⟩
      refine ⟨by omega, by omega, p4, p5, fun H14 s14 => ⟨by omega, .str (G.endL one oth ++ wd), by rw [G.endL_app]; rfl, rfl, by simp [G.Dat.sz], fun H15 s15 => ⟨(ad13.2.adv (s14.trans s15)).2, fun d H16 d0 d1 ad16 => ⟨by omega, ?_⟩⟩⟩⟩
      have fin : ∀ H v, Same H16 H → M (i + 1) [some (.ref a), some (.ref st), v, some (G.sv L), some (G.sv e), some (G.sv one), some (G.sv oth), some (G.sv thi), some (G.sv (G.endL one oth)), some (.ref q1), some (G.sv wd), some (.int d)] H := fun H v s => by
        rw [hM]; exact ⟨ad16.2.same s, _, _, _, _, _, _, _, _, _, _, rfl⟩
      have ea : (G.endL (one ++ wd) (oth ++ wd)).length = (G.endL one oth).length + wd.length := by rw [G.endL_app, List.length_append]
      have m0 : 0 ≤ (if d + (wd.length : Int) < 12 then d + (wd.length : Int) else 12) := by split <;> omega
      have m1 : (if d + (wd.length : Int) < 12 then d + (wd.length : Int) else 12) ≤ 12 := by split <;> omega
      have m2 : d ≤ ((G.endL one oth).length : Int) → (if d + (wd.length : Int) < 12 then d + (wd.length : Int) else 12) ≤ ((G.endL (one ++ wd) (oth ++ wd)).length : Int) := fun h => by rw [ea]; split <;> omega
      generalize (if d + (wd.length : Int) < 12 then d + (wd.length : Int) else 12) = mm at *
      refine G.ite_i (fun h1 => ⟨by omega, by omega, by omega, ?_⟩) fun h1 => ⟨by omega, ?_⟩
      · refine G.ite_i (fun h2 => ⟨p1, p3, d0, by omega, fun H17 s17 => ?_⟩) fun h2 => ⟨by omega, ?_⟩
        · have h3 : d ≤ ((G.endL one thi).length : Int) := by
            have := G.endL_trans (a := one) (b := oth) (c := thi) (k := d.toNat) (by omega) (by omega)
            omega
          rw [if_neg (fun h => h h3)]
          refine ⟨by omega, ?_⟩
          rw [if_pos h1]
          refine ⟨by omega, by omega, by omega, p4, p5, m0, m1, fun H18 s18 => ?_⟩
          rw [if_neg (fun h => h (m2 h1))]
          exact fin _ _ (s17.trans s18)
        · rw [if_pos h1]
          refine ⟨by omega, by omega, by omega, p4, p5, m0, m1, fun H18 s18 => ?_⟩
          rw [if_neg (fun h => h (m2 h1))]
          exact fin _ _ s18
      · rw [if_neg h1]
        exact fin _ _ (Same.refl _)
    · obtain ⟨S2, v2, v3, v4, v5, v6, v7, v8, v9, v10, v11, rfl⟩ := hP
      simp only [tVar, tC, G.sl_is, G.lt1, Int.reduceLT, Int.reduceLE, Int.reduceNeg, Int.reducePow, Int.reduceToNat, Int.reduceSub, Int.reduceAdd, Int.reduceMul, Nat.reduceLT, Nat.reduceLeDiff, Int.zero_add, ne_eq,  HO.lst.injEq, List.dropLast_concat, G.last_get,  HO.tup.injEq, G.rII, G.rBB, G.rSS,  tOp, tUn, rI, rI0, rU, tAndV, tOrV, tNotV, tIf, tAnd, tOr, tNot, tNext, tSeq, tBreak, tCont, tDrop, tRet, tRetN, tIfS, gName, gNil, gCons, G.gTupT, G.gUnlT, gSub, gUnl, tAsg, tPar, tTest, tB, tChain,
      tNil, tCons, tTup, tLst, tCall, tCB, tBM, tBM0, tSl, tNoPart, tPart, rSetL, G.atI0, G.atI1, G.atI2, G.ixN30, G.ixN31, G.ixN32, G.cx_K, and_self, rEq, rNe, G.scal_bl, G.scal_int, G.scal_sv,  G.sv_str, G.Kn_sv, G.Kn_int, G.Kn_bl, G.Kn_non, G.isI_int, G.isI_bl, G.isI_sv, G.isI_ref, G.isI_non, G.isB_int, G.isB_bl, G.isB_sv, G.isB_ref, G.isB_non, G.isS_int, G.isS_bl, G.isS_sv, G.isS_ref, G.isS_non, G.isT_int, G.isT_bl, G.isT_sv, G.isT_non, G.isL_int, G.isL_bl, G.isL_sv, G.isL_non,  L2.upd_same,  rAppend, rExtend, rPop, iRng1, iRng2, iList, iTup, iStr, CDivN, CPow, CMul, rIsB, rNotB, rAdd, rSub, G.tFor_eq, G.tLc_eq, tYes, wipe,
      List.getElem?_cons_succ, List.getElem?_cons_zero, List.set_cons_succ, List.set_cons_zero, Option.some.injEq, exists_eq_left', exists_eq_left, exists_eq', exists_eq, V.int.injEq, V.bl.injEq, V.ref.injEq, G.sv_inj, List.cons.injEq, and_true, true_and,
      exists_and_left, and_assoc, exists_eq_right_right, exists_eq_right, decide_eq_true_eq, List.append_nil, List.nil_append, List.cons_append, Bool.not_eq_true', decide_eq_false_iff_not, Bool.not_false, Bool.not_true, Bool.false_eq_true, Bool.true_eq_false, not_true, not_false_iff, L2.start, List.map_cons, List.map_nil, List.length_cons, List.length_nil, List.replicate_zero, List.replicate_succ,
      Nat.reduceAdd, Nat.reduceSub, Nat.add_zero, Nat.zero_add, reduceCtorEq, false_and, exists_false, false_or, or_false, ite_true, ite_false, if_true, if_false]
      exact k H2
end
end Lw

namespace Lw
open PySem PySem.Spec L2
section
variable {P : Program} {w : World} {K : PySem.W.Frag} {mg : Str → Option Value}
theorem fin {fa : Addr} (hfa : mg "law" = some (.ref fa)) (T : Tx K mg) : ∃ fd : FuncData, (∀ (s : Shared) (u : Value), BindsTo s fd ⟨[u], []⟩ [("script", u)]) ∧ ∀ base : Heap, K.In base → base.Ns mainGlobals mg → FnOk P w K mg base CX0 8 fa fd ["script"] (G.spLaw K) := by
  have e := hfa.symm.trans T.d_law.g
  cases e
  exact ⟨T.d_law.fd, fun s u => T.d_law.bt s [u] rfl, fun base _ _ => ok_law T⟩
theorem walk {l : PySem.W.OpenLaw} {q : Program} {loose : List Str} {XP : (Str → Option Value) → Heap → Prop} {YP : World → Heap → Prop} {d : DefRec} {K : Params → PySem.W.Frag} (hn : l.most = some 63) (hdf : d.params.defaults = [])
    (hY : ∀ (w : World) (h : Heap), YP w h → (K w.params).In h)
    (F : ∀ (w : World) (mg : Str → Option Value) (fa : Addr) (h : Heap), (K w.params).In h → h.Ns mainGlobals mg → mg d.name = some (.ref fa) →
      ∃ fd : FuncData, (∀ (s : Shared) (u : Value), BindsTo s fd ⟨[u], []⟩ [("script", u)]) ∧ ∀ base : Heap, (K w.params).In base → base.Ns mainGlobals mg → FnOk l.prog w (K w.params) mg base CX0 8 fa fd ["script"] (G.spLaw (K w.params))) :
    PySem.W.WalkO q loose XP YP l.row.toRowW d [] (fun f vs => PySem.call f vs) :=
  L2.walk_of (n := 63) (k := 8) (x := "script") (CX := fun _ => CX0) (sp := fun w => G.spLaw (K w.params)) hn (by decide) hdf ⟨rfl, by decide, by decide⟩ hY F (fun _ _ a ns hl _ hS => ⟨a, ns, rfl, hS, fun _ => rfl⟩) fun _ _ _ _ _ z => z
end

end Lw
open PySem PySem.W PyProof.Rows
set_option maxRecDepth 100000 in
set_option maxHeartbeats 0 in
theorem PySem.Challenge.cw_backseen_k04_whole_endings_and_words_ali_holds : PySem.Challenge.rw_backseen_k04_whole_endings_and_words_ali.Holds := by
  w_on; o_law; k_head; (case hw => w_witness2)
  k_fill
  refine Lw.walk (l := PySem.Challenge.rw_backseen_k04_whole_endings_and_words_ali) rfl rfl (fun w h Y => PySem.W.kIn_of Y) ?F
  case F =>
    intro w mg fa h KX G0 hmg
    refine' Lw.fin hmg (Lw.Tx.mk (G.mkDef (st := Lw.s_is_integer) (ps := ["value"]) KX G0 ?a0 ?l0 ?c0 ?k0 (fun _ _ _ _ _ _ us hl => match us, hl with | [_], _ => rfl))
      (G.mkDef (st := Lw.s_is_from_to) (ps := ["value", "least", "most"]) KX G0 ?a1 ?l1 ?c1 ?k1 (fun _ _ _ _ _ _ us hl => match us, hl with | [_, _, _], _ => rfl))
      (G.mkDef (st := Lw.s_is_plain) (ps := ["value"]) KX G0 ?a2 ?l2 ?c2 ?k2 (fun _ _ _ _ _ _ us hl => match us, hl with | [_], _ => rfl))
      (G.mkDef (st := Lw.s_check_plain) (ps := ["word", "name"]) KX G0 ?a3 ?l3 ?c3 ?k3 (fun _ _ _ _ _ _ us hl => match us, hl with | [_, _], _ => rfl))
      (G.mkDef (st := Lw.s_check_look) (ps := ["k"]) KX G0 ?a4 ?l4 ?c4 ?k4 (fun _ _ _ _ _ _ us hl => match us, hl with | [_], _ => rfl))
      (G.mkDef (st := Lw.s_end_of) (ps := ["one", "other"]) KX G0 ?a5 ?l5 ?c5 ?k5 (fun _ _ _ _ _ _ us hl => match us, hl with | [_, _], _ => rfl))
      (G.mkDef (st := Lw.s_is_look) (ps := ["value"]) KX G0 ?a6 ?l6 ?c6 ?k6 (fun _ _ _ _ _ _ us hl => match us, hl with | [_], _ => rfl))
      (G.mkDef (st := Lw.s_common_end) (ps := ["one", "other"]) KX G0 ?a7 ?l7 ?c7 ?k7 (fun _ _ _ _ _ _ us hl => match us, hl with | [_, _], _ => rfl))
      (G.mkDef (st := Lw.s_are_alike) (ps := ["one", "other", "k"]) KX G0 ?a8 ?l8 ?c8 ?k8 (fun _ _ _ _ _ _ us hl => match us, hl with | [_, _, _], _ => rfl))
      (G.mkDef (st := Lw.s__law_stream) (ps := ["script"]) KX G0 ?a9 ?l9 ?c9 ?k9 (fun _ _ _ _ _ _ us hl => match us, hl with | [_], _ => rfl))
      (G.mkDef (st := Lw.s__law_next) (ps := ["stream", "many"]) KX G0 ?a10 ?l10 ?c10 ?k10 (fun _ _ _ _ _ _ us hl => match us, hl with | [_, _], _ => rfl))
      (G.mkDef (st := Lw.s__law_word) (ps := ["stream", "letters", "least", "most"]) KX G0 ?a11 ?l11 ?c11 ?k11 (fun _ _ _ _ _ _ us hl => match us, hl with | [_, _, _, _], _ => rfl))
      (G.mkDef (st := Lw.s__law_says) (ps := ["actual", "due"]) KX G0 ?a12 ?l12 ?c12 ?k12 (fun _ _ _ _ _ _ us hl => match us, hl with | [_, _], _ => rfl))
      (G.mkDef (st := Lw.s__law_same) (ps := ["actual", "due"]) KX G0 ?a13 ?l13 ?c13 ?k13 (fun _ _ _ _ _ _ us hl => match us, hl with | [_, _], _ => rfl))
      (G.mkDef (st := Lw.s__law_some) (ps := ["stream"]) KX G0 ?a14 ?l14 ?c14 ?k14 (fun _ _ _ _ _ _ us hl => match us, hl with | [_], _ => rfl))
      (G.mkDef (st := Lw.s__law_with) (ps := ["stream", "letters", "ending"]) KX G0 ?a15 ?l15 ?c15 ?k15 (fun _ _ _ _ _ _ us hl => match us, hl with | [_, _, _], _ => rfl))
      (G.mkDef (st := Lw.s__law_end) (ps := ["one", "other"]) KX G0 ?a16 ?l16 ?c16 ?k16 (fun _ _ _ _ _ _ us hl => match us, hl with | [_, _], _ => rfl))
      (G.mkDef (st := Lw.s__law_looks) (ps := ["one", "other"]) KX G0 ?a17 ?l17 ?c17 ?k17 (fun _ _ _ _ _ _ us hl => match us, hl with | [_, _], _ => rfl))
      (G.mkDef (st := Lw.s_law) (ps := ["script"]) KX G0 ?a18 ?l18 ?c18 ?k18 (fun _ _ _ _ _ _ us hl => match us, hl with | [_], _ => rfl))
      (⟨_, PySem.W.mg_of KX G0 ?g_MOST_LOOK⟩)
      (⟨_, PySem.W.mg_of KX G0 ?g_MOST_IN_WORD⟩)
      (PySem.W.mg_none_of KX G0 ?z_abs)
      (PySem.W.mg_none_of KX G0 ?z_all)
      (PySem.W.mg_none_of KX G0 ?z_bool)
      (PySem.W.mg_none_of KX G0 ?z_int)
      (PySem.W.mg_none_of KX G0 ?z_isinstance)
      (PySem.W.mg_none_of KX G0 ?z_len)
      (PySem.W.mg_none_of KX G0 ?z_list)
      (PySem.W.mg_none_of KX G0 ?z_min)
      (PySem.W.mg_none_of KX G0 ?z_range)
      (PySem.W.mg_none_of KX G0 ?z_str)
      (PySem.W.mg_none_of KX G0 ?z_tuple))
    (case a0 => k_is); (case l0 => k_is); (case c0 => k_is); (case k0 => k_is)
    (case a1 => k_is); (case l1 => k_is); (case c1 => k_is); (case k1 => k_is)
    (case a2 => k_is); (case l2 => k_is); (case c2 => k_is); (case k2 => k_is)
    (case a3 => k_is); (case l3 => k_is); (case c3 => k_is); (case k3 => k_is)
    (case a4 => k_is); (case l4 => k_is); (case c4 => k_is); (case k4 => k_is)
    (case a5 => k_is); (case l5 => k_is); (case c5 => k_is); (case k5 => k_is)
    (case a6 => k_is); (case l6 => k_is); (case c6 => k_is); (case k6 => k_is)
    (case a7 => k_is); (case l7 => k_is); (case c7 => k_is); (case k7 => k_is)
    (case a8 => k_is); (case l8 => k_is); (case c8 => k_is); (case k8 => k_is)
    (case a9 => k_is); (case l9 => k_is); (case c9 => k_is); (case k9 => k_is)
    (case a10 => k_is); (case l10 => k_is); (case c10 => k_is); (case k10 => k_is)
    (case a11 => k_is); (case l11 => k_is); (case c11 => k_is); (case k11 => k_is)
    (case a12 => k_is); (case l12 => k_is); (case c12 => k_is); (case k12 => k_is)
    (case a13 => k_is); (case l13 => k_is); (case c13 => k_is); (case k13 => k_is)
    (case a14 => k_is); (case l14 => k_is); (case c14 => k_is); (case k14 => k_is)
    (case a15 => k_is); (case l15 => k_is); (case c15 => k_is); (case k15 => k_is)
    (case a16 => k_is); (case l16 => k_is); (case c16 => k_is); (case k16 => k_is)
    (case a17 => k_is); (case l17 => k_is); (case c17 => k_is); (case k17 => k_is)
    (case a18 => k_is); (case l18 => k_is); (case c18 => k_is); (case k18 => k_is)
    (case g_MOST_LOOK => refine' Eq.trans ?q1 ?q2; (case q1 => k_is); (case q2 => exact rfl))
    (case g_MOST_IN_WORD => refine' Eq.trans ?q1 ?q2; (case q1 => k_is); (case q2 => exact rfl))
    (case z_abs => k_is)
    (case z_all => k_is)
    (case z_bool => k_is)
    (case z_int => k_is)
    (case z_isinstance => k_is)
    (case z_len => k_is)
    (case z_list => k_is)
    (case z_min => k_is)
    (case z_range => k_is)
    (case z_str => k_is)
    (case z_tuple => k_is)

