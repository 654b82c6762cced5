import PyProof.Rows.All
import Wide.All
import OpenK.AllK
import Wide.FinOn
import HandS.ForMost
import HandS.ForExc
import HandS.Wide
import HandS.IsInst
import KE.KOpsOwn
import KE.KIsAll
import HandS.Property
import HandS.Defaults
import HandS.MakeKw
import HandS.Style
import PyProof.TwoTypes
import PyProof.InstNe
import HandS.EndBits
import PyProof.ReprRoads
import PyProof.ReprLen
import HandS.RaiseMore
import HandS.MakeKwOnly
import HandS.Deep
import HandS.TupAny
import HandS.List
import PySem.Challenge.RW_headgap_k11_greatest_and_slope
set_option Elab.async false
set_option linter.all false
set_option maxRecDepth 100000
set_option maxHeartbeats 4000000
set_option exponentiation.threshold 3000
set_option maxHeartbeats 400000
namespace HG
open PySem L2
section
variable {X : Cx}
theorem opImp {f : Value → Value → Sem Value} {r r' : R2} (h : OpR X f r) (hi : ∀ x y H Q, r' x y H Q → r x y H Q) : OpR X f r' :=
  fun pins s σ H x y v u Q I rx ry q => h pins s σ H x y v u Q I rx ry (hi x y H Q q)
theorem callImp {f : Value} {r r' : List V → Hp → VK → Prop} (h : CallR X f r) (hi : ∀ xs H Q, r' xs H Q → r xs H Q) : CallR X f r' :=
  fun pins s σ H xs us Q I rx q => h pins s σ H xs us Q I rx (hi xs H Q q)

/-! ### operators, by the kinds of the values -/
def oAdd : R2 := fun x y H Q => match x, y with
  | .int i, .int j => Q (.int (i + j)) H
  | .str a, .str b => a.length + b.length ≤ sizeLine ∧ Q (.str (a ++ b)) H
  | .ref l, .ref b => match H l, H b with
    | some (.lst xs), some (.lst zs) => xs.length + zs.length ≤ sizeLine ∧ ∀ p, H p = none → Q (.ref p) (upd H p (.lst (xs ++ zs)))
    | _, _ => False
  | _, _ => False
theorem op_addU : OpR X (binaryOp .Add) oAdd := opImp (op_add.or (op_add_str.or op_cat)) fun x y H Q h => by
  unfold oAdd at h
  split at h
  · exact .inl ⟨_, _, rfl, rfl, h⟩
  · exact .inr (.inl ⟨_, _, rfl, rfl, h.1, h.2⟩)
  · split at h
    · rename_i e1 e2
      exact .inr (.inr ⟨_, _, _, _, rfl, rfl, e1, e2, h.1, h.2⟩)
    · exact h.elim
  · exact h.elim
def oSub : R2 := fun x y H Q => match x, y with
  | .int i, .int j => Q (.int (i - j)) H
  | _, _ => False
theorem op_subU : OpR X (binaryOp .Sub) oSub := opImp op_sub fun x y H Q h => by
  unfold oSub at h
  split at h
  · exact ⟨_, _, rfl, rfl, h⟩
  · exact h.elim
def oMul : R2 := fun x y H Q => match x, y with
  | .int i, .int j => IntMulOk i j ∧ Q (.int (i * j)) H
  | .ref l, .int k => match H l with
    | some (.lst xs) => -(2 ^ 63) ≤ k ∧ k < 2 ^ 63 ∧ xs.length * k.toNat ≤ sizeLine ∧ ∀ p, H p = none → Q (.ref p) (upd H p (.lst (List.replicate k.toNat xs).flatten))
    | _ => False
  | _, _ => False
theorem op_mulOk : OpR X (binaryOp .Mult) (rI IntMulOk fun i j => .int (i * j)) := opI fun _ _ _ _ _ _ _ hc q => PyProof.Rows.mul_int q hc
theorem op_mulU : OpR X (binaryOp .Mult) oMul := opImp (op_mulOk.or op_rep) fun x y H Q h => by
  unfold oMul at h
  split at h
  · exact .inl ⟨_, _, rfl, rfl, h.1, h.2⟩
  · split at h
    · rename_i e
      exact .inr ⟨_, _, _, rfl, rfl, e, h.1, h.2.1, h.2.2.1, h.2.2.2⟩
    · exact h.elim
  · exact h.elim
def oFdiv : R2 := fun x y H Q => match x, y with
  | .int i, .int j => CDivW i j ∧ Q (.int (i / j)) H
  | _, _ => False
theorem op_fdivU : OpR X (binaryOp .FloorDiv) oFdiv := opImp op_fdivW fun x y H Q h => by
  unfold oFdiv at h
  split at h
  · exact ⟨_, _, rfl, rfl, h.1, h.2⟩
  · exact h.elim
def oMod : R2 := fun x y H Q => match x, y with
  | .int i, .int j => 0 < j ∧ Q (.int (i % j)) H
  | _, _ => False
theorem op_modU : OpR X (binaryOp .Mod) oMod := opImp op_mod fun x y H Q h => by
  unfold oMod at h
  split at h
  · exact ⟨_, _, rfl, rfl, h.1, h.2⟩
  · exact h.elim
def oPow : R2 := fun x y H Q => match x, y with
  | .int i, .int j => CPow i j ∧ Q (.int (i ^ j.toNat)) H
  | _, _ => False
theorem op_powU : OpR X (binaryOp .Pow) oPow := opImp op_pow fun x y H Q h => by
  unfold oPow at h
  split at h
  · exact ⟨_, _, rfl, rfl, h.1, h.2⟩
  · exact h.elim
def uNeg : V → Hp → VK → Prop := fun x H Q => match x with
  | .int i => Q (.int (-i)) H
  | _ => False
theorem un_negU : UnR X (unaryOp .USub) uNeg := fun pins s σ H x v Q I rx h => by
  refine un_neg pins s σ H x v Q I rx ?_
  unfold uNeg at h
  split at h
  · exact ⟨_, rfl, h⟩
  · exact h.elim
def oLt : R2 := fun x y H Q => match x, y with
  | .int i, .int j => Q (.bl (decide (i < j))) H
  | _, _ => False
theorem op_ltU : OpR X (compareOp .Lt) oLt := opImp op_lt fun x y H Q h => by
  unfold oLt at h
  split at h
  · exact ⟨_, _, rfl, rfl, h⟩
  · exact h.elim
def oLe : R2 := fun x y H Q => match x, y with
  | .int i, .int j => Q (.bl (decide (i ≤ j))) H
  | _, _ => False
theorem op_leU : OpR X (compareOp .LtE) oLe := opImp op_le fun x y H Q h => by
  unfold oLe at h
  split at h
  · exact ⟨_, _, rfl, rfl, h⟩
  · exact h.elim
def oGt : R2 := fun x y H Q => match x, y with
  | .int i, .int j => Q (.bl (decide (j < i))) H
  | _, _ => False
theorem op_gtU : OpR X (compareOp .Gt) oGt := opImp op_gt fun x y H Q h => by
  unfold oGt at h
  split at h
  · exact ⟨_, _, rfl, rfl, h⟩
  · exact h.elim
def oGe : R2 := fun x y H Q => match x, y with
  | .int i, .int j => Q (.bl (decide (j ≤ i))) H
  | _, _ => False
theorem op_geU : OpR X (compareOp .GtE) oGe := opImp op_ge fun x y H Q h => by
  unfold oGe at h
  split at h
  · exact ⟨_, _, rfl, rfl, h⟩
  · exact h.elim
/-! ### data, read off the abstract heap -/
def dataL (f : V → Option PyData) : List V → Option (List PyData)
  | [] => some []
  | x :: xs => match f x with
    | some d => match dataL f xs with
      | some ds => some (d :: ds)
      | none => none
    | none => none
def dataF : Nat → Hp → V → Option PyData
  | _, _, .non => some .none
  | _, _, .bl b => some (.bool b)
  | _, _, .int i => some (.int i)
  | _, _, .str x => some (.str x)
  | n + 1, H, .ref a => match H a with
    | some (.lst xs) => (dataL (dataF n H) xs).map .list
    | some (.tup xs) => (dataL (dataF n H) xs).map .tuple
    | _ => none
  | _, _, _ => none
theorem dpAll_of {K : PySem.W.Frag} {H : Hp} {f : V → Option PyData} (hf : ∀ x d, f x = some d → Dp K H x d) : ∀ {xs : List V} {ds : List PyData}, dataL f xs = some ds → DpAll K H xs ds
  | [], ds, h => by
    cases h
    exact .nil
  | x :: xs, ds, h => by
    simp only [dataL] at h
    split at h
    · rename_i d e
      split at h
      · rename_i ds' e'
        cases h
        exact .cons (hf x d e) (dpAll_of hf e')
      · cases h
    · cases h
theorem dp_of {K : PySem.W.Frag} {H : Hp} : ∀ {n : Nat} {x : V} {d : PyData}, dataF n H x = some d → Dp K H x d
  | n, .non, d, h => by
    have e : some PyData.none = some d := by rw [← h]; cases n <;> rfl
    cases e
    exact .non
  | n, .bl b, d, h => by
    have e : some (PyData.bool b) = some d := by rw [← h]; cases n <;> rfl
    cases e
    exact .bl b
  | n, .int i, d, h => by
    have e : some (PyData.int i) = some d := by rw [← h]; cases n <;> rfl
    cases e
    exact .int i
  | n, .str i, d, h => by
    have e : some (PyData.str i) = some d := by rw [← h]; cases n <;> rfl
    cases e
    exact .str i
  | n, .byt i, d, h => by cases n <;> cases h
  | n, .flt i, d, h => by cases n <;> cases h
  | n, .ty i, d, h => by cases n <;> cases h
  | 0, .ref a, d, h => by cases h
  | n + 1, .ref a, d, h => by
    simp only [dataF] at h
    split at h
    · rename_i xs e
      obtain ⟨ds, e1, rfl⟩ := Option.map_eq_some_iff.mp h
      exact .lst (SqL.of e) (dpAll_of (fun x d q => dp_of q) e1)
    · rename_i xs e
      obtain ⟨ds, e1, rfl⟩ := Option.map_eq_some_iff.mp h
      exact .tup (SqT.of e) (dpAll_of (fun x d q => dp_of q) e1)
    · cases h
def oEq (K : PySem.W.Frag) : R2 := fun x y H Q => match x, y with
  | .int i, .int j => Q (.bl (decide (i = j))) H
  | .str i, .str j => Q (.bl (decide (i = j))) H
  | .bl i, .bl j => Q (.bl (decide (i = j))) H
  | x, y => match dataF 8 H x, dataF 8 H y with
    | some d, some e => SeqAt.shaped d = true ∧ SeqAt.shaped e = true ∧ Q (.bl (PyData.eqv d e)) H
    | _, _ => False
theorem dec_V {α : Type} [DecidableEq α] {f : α → V} (inj : ∀ a b, f a = f b → a = b) (a b : α) : decide (f a = f b) = decide (a = b) := by
  by_cases h : a = b
  · subst h; simp
  · rw [decide_eq_false h, decide_eq_false fun q => h (inj a b q)]
theorem op_eqU (hu : X.A.units + 64 < cLine) : OpR X (compareOp .Eq) (oEq X.K) := opImp (op_eq.or (op_eqD hu)) fun x y H Q h => by
  unfold oEq at h
  split at h
  · exact .inl ⟨rfl, by rw [dec_V (f := V.int) (fun _ _ q => by injection q)]; exact h⟩
  · exact .inl ⟨rfl, by rw [dec_V (f := V.str) (fun _ _ q => by injection q)]; exact h⟩
  · exact .inl ⟨rfl, by rw [dec_V (f := V.bl) (fun _ _ q => by injection q)]; exact h⟩
  · split at h
    · rename_i e1 e2
      exact .inr ⟨_, _, dp_of e1, dp_of e2, h.1, h.2.1, h.2.2⟩
    · exact h.elim
def oNe (K : PySem.W.Frag) : R2 := fun x y H Q => match x, y with
  | .int i, .int j => Q (.bl (!decide (i = j))) H
  | .str i, .str j => Q (.bl (!decide (i = j))) H
  | .bl i, .bl j => Q (.bl (!decide (i = j))) H
  | x, y => match dataF 8 H x, dataF 8 H y with
    | some d, some e => SeqAt.shaped d = true ∧ SeqAt.shaped e = true ∧ Q (.bl (!PyData.eqv d e)) H
    | _, _ => False
theorem op_neU (hu : X.A.units + 64 < cLine) : OpR X (compareOp .NotEq) (oNe X.K) := opImp (op_ne.or (op_neD hu)) fun x y H Q h => by
  unfold oNe at h
  split at h
  · exact .inl ⟨rfl, by rw [dec_V (f := V.int) (fun _ _ q => by injection q)]; exact h⟩
  · exact .inl ⟨rfl, by rw [dec_V (f := V.str) (fun _ _ q => by injection q)]; exact h⟩
  · exact .inl ⟨rfl, by rw [dec_V (f := V.bl) (fun _ _ q => by injection q)]; exact h⟩
  · split at h
    · rename_i e1 e2
      exact .inr ⟨_, _, dp_of e1, dp_of e2, h.1, h.2.1, h.2.2⟩
    · exact h.elim

/-! ### sequences -/
/-- the items of the list or tuple at p -/
def rdSeq (K : PySem.W.Frag) (H : Hp) (p : Addr) (k : List V → Prop) : Prop := match H p with
  | some (.lst xs) => k xs
  | some (.tup xs) => k xs
  | _ => ∃ xs, (SqL K H p xs ∨ SqT K H p xs) ∧ k xs
theorem rdSeq_out {K : PySem.W.Frag} {H : Hp} {p : Addr} {k : List V → Prop} (h : rdSeq K H p k) : ∃ xs, (SqL K H p xs ∨ SqT K H p xs) ∧ k xs := by
  unfold rdSeq at h
  split at h
  · rename_i e; exact ⟨_, .inl (SqL.of e), h⟩
  · rename_i e; exact ⟨_, .inr (SqT.of e), h⟩
  · exact h
theorem rdSeq_of {K : PySem.W.Frag} {H : Hp} {p : Addr} {k : List V → Prop} {xs : List V} (h : SqL K H p xs) (hp : H p = none ∨ (∃ o u, H p = some (.frz o u)) ∨ H p = some (.lst xs)) (hk : k xs) : rdSeq K H p k := by
  unfold rdSeq
  rcases hp with e | ⟨o, u, e⟩ | e
  · rw [e]; exact ⟨xs, .inl h, hk⟩
  · rw [e]; exact ⟨xs, .inl h, hk⟩
  · rw [e]; exact hk
theorem rdSeq_lst {K : PySem.W.Frag} {H : Hp} {p : Addr} {k : List V → Prop} {xs : List V} (h : H p = some (.lst xs)) : rdSeq K H p k = k xs := by
  unfold rdSeq; rw [h]
theorem rdSeq_tup {K : PySem.W.Frag} {H : Hp} {p : Addr} {k : List V → Prop} {xs : List V} (h : H p = some (.tup xs)) : rdSeq K H p k = k xs := by
  unfold rdSeq; rw [h]
/-! ### built-in functions -/
def cLen (K : PySem.W.Frag) : List V → Hp → VK → Prop := fun xs H Q => match xs with
  | [.ref p] => rdSeq K H p fun ys => Q (.int ys.length) H
  | [.str z] => z.length ≤ sizeLine ∧ Q (.int z.length) H
  | _ => False
theorem call_lenU : CallR X (.builtin "len") (cLen X.K) := callImp (call_len_seq.or call_len_str) fun xs H Q h => by
  unfold cLen at h
  split at h
  · obtain ⟨ys, h1, h2⟩ := rdSeq_out h
    exact .inl ⟨_, ys, rfl, h1, h2⟩
  · exact .inr ⟨_, rfl, h.1, h.2⟩
  · exact h.elim
def cAbs : List V → Hp → VK → Prop := fun xs H Q => match xs with
  | [.int i] => Q (.int (if i < 0 then -i else i)) H
  | _ => False
theorem call_absU : CallR X (.builtin "abs") cAbs := callImp call_abs fun xs H Q h => by
  unfold cAbs at h
  split at h
  · exact ⟨_, rfl, h⟩
  · exact h.elim
def cInt : List V → Hp → VK → Prop := fun xs H Q => match xs with
  | [.int i] => Q (.int i) H
  | [.bl b] => Q (.int (if b then 1 else 0)) H
  | [.str a] => ∃ n, PySem.intText? a = some n ∧ a.length ≤ 640 ∧ Q (.int n) H
  | _ => False
theorem call_intU : CallR X (.type "int") cInt := callImp (call_int1.or call_int_str) fun xs H Q h => by
  unfold cInt at h
  split at h
  · exact .inl (.inl ⟨_, rfl, h⟩)
  · exact .inl (.inr ⟨_, rfl, h⟩)
  · obtain ⟨n, h1, h2, h3⟩ := h
    exact .inr ⟨_, n, rfl, h1, h2, h3⟩
  · exact h.elim
def cList (K : PySem.W.Frag) : List V → Hp → VK → Prop := fun xs H Q => match xs with
  | [.ref p] => rdSeq K H p fun ys => ∀ l, H l = none → Q (.ref l) (upd H l (.lst ys))
  | _ => False
theorem call_listU : CallR X (.type "list") (cList X.K) := callImp call_list_of fun xs H Q h => by
  unfold cList at h
  split at h
  · obtain ⟨ys, h1, h2⟩ := rdSeq_out h
    exact ⟨_, ys, rfl, h1, h2⟩
  · exact h.elim
def iIx (K : PySem.W.Frag) : R2 := fun x y H Q => match x, y with
  | .ref p, .int i => rdSeq K H p fun xs => match atI xs i with
    | some v => Q v H
    | none => False
  | .str z, .int i => z.length ≤ sizeLine ∧ match atI z.cps.toList i with
    | some c => Q (.str ⟨#[c]⟩) H
    | none => False
  | _, _ => False
theorem ix_U : IxR X (iIx X.K) := fun value slice pins s σ H x y v u Q I rx ry h hs => by
  refine ix_seq value slice pins s σ H x y v u Q I rx ry ?_ hs
  unfold iIx at h
  split at h
  · obtain ⟨xs, h1, h2⟩ := rdSeq_out h
    split at h2
    · rename_i e
      rcases h1 with h1 | h1
      · exact .inl ⟨_, xs, _, _, rfl, rfl, h1, e, h2⟩
      · exact .inr (.inl ⟨_, xs, _, _, rfl, rfl, h1, e, h2⟩)
    · exact h2.elim
  · obtain ⟨h1, h2⟩ := h
    split at h2
    · rename_i e
      exact .inr (.inr ⟨_, _, _, rfl, rfl, h1, e, h2⟩)
    · exact h2.elim
  · exact h.elim
def setI (xs : List V) (k : Int) (v : V) : Option (List V) := (ixN xs.length k).map fun j => xs.set j v
def stL : V → V → V → Hp → (Hp → Prop) → Prop := fun o i v H Q => match o, i with
  | .ref p, .int k => match H p with
    | some (.lst xs) => match setI xs k v with
      | some ys => Q (upd H p (.lst ys))
      | none => False
    | _ => False
  | _, _ => False
theorem set_U : PSet X stL := fun pins s σ H o i v ov iv u Q I ro ri rv h => by
  refine set_list pins s σ H o i v ov iv u Q I ro ri rv ?_
  unfold stL at h
  split at h
  · split at h
    · rename_i e
      split at h
      · rename_i e2
        unfold setI at e2
        obtain ⟨j, e3, e4⟩ := Option.map_eq_some_iff.mp e2
        subst e4
        exact ⟨_, _, _, _, rfl, rfl, e, e3, h⟩
      · exact h.elim
    · exact h.elim
  · exact h.elim
end
theorem atI_0 {x : V} {xs : List V} : atI (x :: xs) 0 = some x := by
  simp [atI, ixN]
theorem atI_1 {x y : V} {xs : List V} : atI (x :: y :: xs) 1 = some y := by
  have h : (1 : Int) < ((x :: y :: xs).length : Int) := by simp; omega
  simp only [atI, ixN]
  rw [if_pos (by decide), if_pos h]
  rfl
theorem atI_2 {x y z : V} {xs : List V} : atI (x :: y :: z :: xs) 2 = some z := by
  have h : (2 : Int) < ((x :: y :: z :: xs).length : Int) := by simp; omega
  simp only [atI, ixN]
  rw [if_pos (by decide), if_pos h]
  rfl
theorem setI_1 {x y v : V} {xs : List V} : setI (x :: y :: xs) 1 v = some (x :: v :: xs) := by
  have h : (1 : Int) < ((x :: y :: xs).length : Int) := by simp; omega
  simp only [setI, ixN]
  rw [if_pos (by decide), if_pos h]
  rfl
theorem setI_2 {x y z v : V} {xs : List V} : setI (x :: y :: z :: xs) 2 v = some (x :: y :: v :: xs) := by
  have h : (2 : Int) < ((x :: y :: z :: xs).length : Int) := by simp; omega
  simp only [setI, ixN]
  rw [if_pos (by decide), if_pos h]
  rfl
theorem atI_nat' {xs : List V} {i : Int} {v : V} (h0 : 0 ≤ i) (h : xs[i.toNat]? = some v) : atI xs i = some v := by
  have hl : i.toNat < xs.length := (List.getElem?_eq_some_iff.mp h).1
  simp only [atI, ixN]
  rw [if_pos h0, if_pos (by omega)]
  exact h
theorem ite_dec {c A B : Prop} [Decidable c] (h1 : c → A) (h2 : ¬ c → B) : if decide c = true then A else B := by
  by_cases h : c
  · rw [if_pos (decide_eq_true h)]; exact h1 h
  · rw [if_neg (by simp [h])]; exact h2 h
theorem ite_ndec {c A B : Prop} [Decidable c] (h1 : ¬ c → A) (h2 : c → B) : if (!decide c) = true then A else B := by
  by_cases h : c
  · rw [if_neg (by simp [h])]; exact h2 h
  · rw [if_pos (by simp [h])]; exact h1 h
theorem ite_b {b : Bool} {A B : Prop} (h1 : b = true → A) (h2 : b = false → B) : if b = true then A else B := by
  cases b with
  | true => rw [if_pos rfl]; exact h1 rfl
  | false => rw [if_neg (by decide)]; exact h2 rfl
end HG

namespace HG
open PySem L2
section
variable {σ : L2.St} {H : Hp} {D : Ends} {te tv : TE} {t u : TS} {c : TT} {g : TG} {Q : VK}
theorem evE (P : VK → Prop) (h : ∀ Q, P Q → te σ H Q) (hq : P Q) : te σ H Q := h Q hq
theorem evA {ta : TA} {Q : List V → Hp → Prop} (P : (List V → Hp → Prop) → Prop) (h : ∀ Q, P Q → ta σ H Q) (hq : P Q) : ta σ H Q := h Q hq
theorem evT {Q : Bool → Hp → Prop} (P : (Bool → Hp → Prop) → Prop) (h : ∀ Q, P Q → c σ H Q) (hq : P Q) : c σ H Q := h Q hq
theorem evG {v : V} {Q : L2.St → Hp → Prop} (P : (L2.St → Hp → Prop) → Prop) (h : ∀ Q, P Q → g v σ H Q) (hq : P Q) : g v σ H Q := h Q hq
theorem st_next (h : D.nx σ H) : tNext D σ H := h
theorem st_seq (h : t { D with nx := u D } σ H) : tSeq t u D σ H := h
theorem st_asg (h : te σ H fun x H1 => g x σ H1 D.nx) : tAsg te g D σ H := h
theorem st_if (h : c σ H fun b H1 => if b = true then t D σ H1 else u D σ H1) : tIfS c t u D σ H := h
theorem st_ret (h : te σ H D.rt) : tRet te D σ H := h
theorem st_drop (h : te σ H fun _ H1 => D.nx σ H1) : tDrop te D σ H := h
theorem st_par {i j : Nat} {ta : TA} (h : tPar i j ta D σ H) : tPar i j ta D σ H := h
end
end HG
namespace HG
open PySem L2
/-! ### lists of ints as data -/
theorem dpAll_ints {K : PySem.W.Frag} {H : Hp} : ∀ ns : List Int, DpAll K H (ns.map V.int) (ns.map PyData.int)
  | [] => .nil
  | n :: r => .cons (.int n) (dpAll_ints r)
theorem canLay_ints : ∀ ns : List Int, PyData.canLayAll0 (ns.map PyData.int) = true
  | [] => rfl
  | n :: r => by
    show (PyData.canLay0 (PyData.int n) && PyData.canLayAll0 (r.map PyData.int)) = true
    rw [canLay_ints r]; rfl
theorem depth_ints : ∀ ns : List Int, PyData.depthAll (ns.map PyData.int) = 0
  | [] => rfl
  | n :: r => by
    show max (PyData.depth (PyData.int n)) (PyData.depthAll (r.map PyData.int)) = 0
    rw [depth_ints r]; rfl
theorem shaped_ints (ns : List Int) : SeqAt.shaped (.list (ns.map PyData.int)) = true := by
  show (PyData.canLayAll0 (ns.map PyData.int) && decide (PyData.depthAll (ns.map PyData.int) + 1 ≤ 64)) = true
  rw [canLay_ints, depth_ints]; rfl
theorem eqv_nil (ns : List Int) : PyData.eqv (.list (ns.map PyData.int)) (.list []) = ns.isEmpty := by
  cases ns with
  | nil => rfl
  | cons a r => rfl
theorem dataL_ints {f : V → Option PyData} (hf : ∀ i, f (.int i) = some (.int i)) : ∀ ns : List Int, dataL f (ns.map V.int) = some (ns.map PyData.int)
  | [] => rfl
  | n :: r => by
    show (match f (.int n) with | some d => (match dataL f (r.map V.int) with | some ds => some (d :: ds) | none => none) | none => none) = _
    rw [hf, dataL_ints hf r]
    rfl
theorem dataF_int {n : Nat} {H : Hp} {i : Int} : dataF n H (.int i) = some (.int i) := by cases n <;> rfl
theorem dataF_ints {n : Nat} {H : Hp} {l : Addr} {ns : List Int} (h : H l = some (.lst (ns.map V.int))) : dataF (n + 1) H (.ref l) = some (.list (ns.map PyData.int)) := by
  simp only [dataF, h]
  rw [dataL_ints (fun i => dataF_int)]
  rfl
/-- a list of ints is unequal to the empty one -/
theorem ne_nil {K : PySem.W.Frag} {H : Hp} {l q : Addr} {ns : List Int} {Q : VK} (hl : H l = some (.lst (ns.map V.int))) (hq : H q = some (.lst [])) (h : Q (.bl (!ns.isEmpty)) H) : oNe K (.ref l) (.ref q) H Q := by
  have e1 : dataF 8 H (.ref l) = some (.list (ns.map PyData.int)) := dataF_ints hl
  have e2 : dataF 8 H (.ref q) = some (.list []) := dataF_ints (ns := []) hq
  simp only [oNe, e1, e2]
  exact ⟨shaped_ints ns, shaped_ints [], by rw [eqv_nil]; exact h⟩
def Keep (p : Addr) (H H' : Hp) : Prop := ∀ b o, b ≠ p → H b = some o → H' b = some o
theorem mod_range {x m : Int} (h : 0 < m) : 0 ≤ x % m ∧ x % m < m := ⟨Int.emod_nonneg _ (by omega), Int.emod_lt_of_pos _ h⟩
theorem log2_small {n : Int} (h : n.natAbs < 2 ^ 8999) : n.natAbs.log2 < 9000 := by
  by_cases h0 : n.natAbs = 0
  · rw [h0]; decide
  · exact Nat.lt_succ_of_lt ((Nat.log2_lt h0).mpr h)
end HG
namespace HG
open PySem L2
/-! ### the draw's arithmetic -/
theorem mulok_left {i j : Int} (h1 : -(2 ^ 64) < i) (h2 : i < 2 ^ 64) : IntMulOk i j := .of_left (intBits_le_64 h1 h2)
theorem draw_pow1 {x t a c : Int} (hx0 : 0 ≤ x) (hx : x < 2147483648) (ht0 : 0 ≤ t) (ht : t ≤ 1000000) (ha0 : 0 ≤ a) (ha : a ≤ 1000000) (hc0 : 0 ≤ c) (hc : c ≤ 1000000) : (x + a * t + c).natAbs < 2 ^ 64 := by
  have h : a * t ≤ 1000000 * 1000000 := Int.mul_le_mul ha ht ht0 (by decide)
  have h0 : 0 ≤ a * t := Int.mul_nonneg ha0 ht0
  omega
theorem draw_pow2 {x t a b c : Int} (hx0 : 0 ≤ x) (hx : x < 2147483648) (ht0 : 0 ≤ t) (ht : t ≤ 1000000) (ha0 : 0 ≤ a) (ha : a ≤ 1000000) (hb0 : 0 ≤ b) (hb : b ≤ 1000000) (hc0 : 0 ≤ c) (hc : c ≤ 1000000) :
    (x * (2 * t + a) + b * t * t + c).natAbs < 2 ^ 64 := by
  have h1 : x * (2 * t + a) ≤ 2147483648 * 3000000 := Int.mul_le_mul (by omega) (by omega) (by omega) (by decide)
  have h10 : 0 ≤ x * (2 * t + a) := Int.mul_nonneg hx0 (by omega)
  have h2 : b * t ≤ 1000000 * 1000000 := Int.mul_le_mul hb ht ht0 (by decide)
  have h20 : 0 ≤ b * t := Int.mul_nonneg hb0 ht0
  have h3 : b * t * t ≤ (1000000 * 1000000) * 1000000 := Int.mul_le_mul h2 ht ht0 (by decide)
  have h30 : 0 ≤ b * t * t := Int.mul_nonneg h20 ht0
  omega
theorem draw_bt {t b : Int} (ht0 : 0 ≤ t) (ht : t ≤ 1000000) (hb0 : 0 ≤ b) (hb : b ≤ 1000000) : IntMulOk (b * t) t := by
  have h2 : b * t ≤ 1000000 * 1000000 := Int.mul_le_mul hb ht ht0 (by decide)
  have h20 : 0 ≤ b * t := Int.mul_nonneg hb0 ht0
  exact mulok_left (by omega) (by omega)
end HG
namespace HG
open PySem L2
section
variable {K : PySem.W.Frag} {H : Hp} {Q : VK} {i j : Int} {a b : Str} {c d : Bool}
theorem oEq_int : oEq K (.int i) (.int j) H Q = Q (.bl (decide (i = j))) H := rfl
theorem oEq_str : oEq K (.str a) (.str b) H Q = Q (.bl (decide (a = b))) H := rfl
theorem oEq_bl : oEq K (.bl c) (.bl d) H Q = Q (.bl (decide (c = d))) H := rfl
theorem oNe_int : oNe K (.int i) (.int j) H Q = Q (.bl (!decide (i = j))) H := rfl
theorem oNe_str : oNe K (.str a) (.str b) H Q = Q (.bl (!decide (a = b))) H := rfl
theorem oNe_bl : oNe K (.bl c) (.bl d) H Q = Q (.bl (!decide (c = d))) H := rfl
end
end HG
namespace HG
open PySem L2
/-! ### the readings at values whose kinds are seen -/
section
variable {K : PySem.W.Frag} {H : Hp} {Q : VK} {i j : Int} {a b : Str} {c d : Bool} {p s : Addr} {v : V} {QH : Hp → Prop}
theorem oAdd_int : oAdd (.int i) (.int j) H Q = Q (.int (i + j)) H := rfl
theorem oAdd_str : oAdd (.str a) (.str b) H Q = (a.length + b.length ≤ sizeLine ∧ Q (.str (a ++ b)) H) := rfl
theorem oAdd_lst {xs zs : List V} (h1 : H p = some (.lst xs)) (h2 : H s = some (.lst zs)) : oAdd (.ref p) (.ref s) H Q = (xs.length + zs.length ≤ sizeLine ∧ ∀ p, H p = none → Q (.ref p) (upd H p (.lst (xs ++ zs)))) := by simp only [oAdd, h1, h2]
theorem oSub_int : oSub (.int i) (.int j) H Q = Q (.int (i - j)) H := rfl
theorem oMul_int : oMul (.int i) (.int j) H Q = (IntMulOk i j ∧ Q (.int (i * j)) H) := rfl
theorem oFdiv_int : oFdiv (.int i) (.int j) H Q = (CDivW i j ∧ Q (.int (i / j)) H) := rfl
theorem oMod_int : oMod (.int i) (.int j) H Q = (0 < j ∧ Q (.int (i % j)) H) := rfl
theorem oPow_int : oPow (.int i) (.int j) H Q = (CPow i j ∧ Q (.int (i ^ j.toNat)) H) := rfl
theorem uNeg_int : uNeg (.int i) H Q = Q (.int (-i)) H := rfl
theorem oLt_int : oLt (.int i) (.int j) H Q = Q (.bl (decide (i < j))) H := rfl
theorem oLe_int : oLe (.int i) (.int j) H Q = Q (.bl (decide (i ≤ j))) H := rfl
theorem oGt_int : oGt (.int i) (.int j) H Q = Q (.bl (decide (j < i))) H := rfl
theorem oGe_int : oGe (.int i) (.int j) H Q = Q (.bl (decide (j ≤ i))) H := rfl
theorem cLen_ref : cLen K [.ref p] H Q = rdSeq K H p fun ys => Q (.int ys.length) H := rfl
theorem cLen_str : cLen K [.str a] H Q = (a.length ≤ sizeLine ∧ Q (.int a.length) H) := rfl
theorem cAbs_int : cAbs [.int i] H Q = Q (.int (if i < 0 then -i else i)) H := rfl
theorem cInt_int : cInt [.int i] H Q = Q (.int i) H := rfl
theorem cInt_bl : cInt [.bl c] H Q = Q (.int (if c then 1 else 0)) H := rfl
theorem cInt_str : cInt [.str a] H Q = ∃ n, PySem.intText? a = some n ∧ a.length ≤ 640 ∧ Q (.int n) H := rfl
theorem cList_ref : cList K [.ref p] H Q = rdSeq K H p fun ys => ∀ l, H l = none → Q (.ref l) (upd H l (.lst ys)) := rfl
theorem iIx_ref : iIx K (.ref p) (.int i) H Q = rdSeq K H p fun xs => match atI xs i with
    | some v => Q v H
    | none => False := rfl
theorem iIx_str : iIx K (.str a) (.int i) H Q = (a.length ≤ sizeLine ∧ match atI a.cps.toList i with
    | some c => Q (.str ⟨#[c]⟩) H
    | none => False) := rfl
theorem stL_ref : stL (.ref p) (.int i) v H QH = (match H p with
    | some (.lst xs) => match setI xs i v with
      | some ys => QH (upd H p (.lst ys))
      | none => False
    | _ => False) := rfl
end
end HG
namespace HG
theorem if_yes {A B : Prop} (h : A) : if true = true then A else B := by rw [if_pos rfl]; exact h
theorem if_no {A B : Prop} (h : B) : if false = true then A else B := by rw [if_neg (by decide)]; exact h
end HG

namespace HG
open PySem L2
/-! ### kinds of values -/
/-- the type of a value, by the abstract heap -/
def tyF (H : Hp) : V → Option Value
  | .non => some (.type "NoneType")
  | .bl _ => some (.type "bool")
  | .int _ => some (.type "int")
  | .str _ => some (.type "str")
  | .ref a => match H a with
    | some (.lst _) => some (.type "list")
    | some (.tup _) => some (.type "tuple")
    | some (.dK _) => some (.type "dict")
    | some (.dT _) => some (.type "dict")
    | some (.ins C _ _) => some (.ref C)
    | _ => none
  | _ => none
/-- what isinstance asks of a class of the text -/
structure InsTy (K : PySem.W.Frag) (C : Addr) : Prop where
  cl : Cls K C
  ha : PySem.W.findIn K (.ref C) "__class__" = some (some (.builtin "object.__class__"))
  hn : PySem.W.specialIn K (.builtin "object.__class__") "__get__" = some (some (.builtin "getset_descriptor.__get__"))
  htk : PySem.W.takesIn K (.builtin "object.__class__") = some true
  hm : PySem.W.mroIn K C (.type "object") = some true
def tyOk (K : PySem.W.Frag) : Value → Prop
  | .ref C => InsTy K C
  | _ => True
theorem tyX_of {K : PySem.W.Frag} {H : Hp} {x : V} {t : Value} (h : tyF H x = some t) (ok : tyOk K t) : TyX K H x t := by
  cases x with
  | non => cases h; exact .base .non
  | bl b => cases h; exact .base (.bl b)
  | int i => cases h; exact .base (.int i)
  | str z => cases h; exact .base (.str z)
  | byt z => cases h
  | flt z => cases h
  | ty z => cases h
  | ref a =>
    simp only [tyF] at h
    split at h
    · rename_i e; cases h; exact .base (.lst e)
    · rename_i e; cases h; exact .base (.tup e)
    · rename_i e; cases h; exact .base (.dK e)
    · rename_i e; cases h; exact .base (.dT e)
    · rename_i e; cases h; exact .base (.ins e ok.cl ok.ha ok.hn ok.htk ok.hm)
    · cases h
/-- isinstance(x, c) -/
def cIsi (K : PySem.W.Frag) : List V → Hp → VK → Prop := fun xs H Q => match xs with
  | [x, .ty n] => match tyF H x with
    | some t => tyOk K t ∧ match PySem.W.kitOne K t (.type n) with
      | some b => Q (.bl b) H
      | none => False
    | none => False
  | [x, .ref C] => match tyF H x with
    | some t => tyOk K t ∧ match PySem.W.kitOne K t (.ref C) with
      | some b => Q (.bl b) H
      | none => False
    | none => False
  | _ => False
theorem call_isiU {X : Cx} : CallR X (.builtin "isinstance") (cIsi X.K) := callImp call_isi fun xs H Q h => by
  unfold cIsi at h
  split at h
  · split at h
    · rename_i e
      obtain ⟨h1, h2⟩ := h
      split at h2
      · rename_i e2
        exact ⟨_, _, _, _, _, rfl, .ty _, tyX_of e h1, e2, h2⟩
      · exact h2.elim
    · exact h.elim
  · split at h
    · rename_i e
      obtain ⟨h1, h2⟩ := h
      split at h2
      · rename_i e2
        exact ⟨_, _, _, _, _, rfl, .own _, tyX_of e h1, e2, h2⟩
      · exact h2.elim
    · exact h.elim
  · exact h.elim
theorem kit_tt {K : PySem.W.Frag} : PySem.W.kitOne K (.type "int") (.type "int") = some true := kit_ty (by decide +kernel)
theorem kit_ib {K : PySem.W.Frag} : PySem.W.kitOne K (.type "int") (.type "bool") = some false := kit_ty (by decide +kernel)
theorem kit_bi {K : PySem.W.Frag} : PySem.W.kitOne K (.type "bool") (.type "int") = some true := kit_ty (by decide +kernel)
theorem kit_bb {K : PySem.W.Frag} : PySem.W.kitOne K (.type "bool") (.type "bool") = some true := kit_ty (by decide +kernel)
theorem kit_ni {K : PySem.W.Frag} : PySem.W.kitOne K (.type "NoneType") (.type "int") = some false := kit_ty (by decide +kernel)
theorem kit_si {K : PySem.W.Frag} : PySem.W.kitOne K (.type "str") (.type "int") = some false := kit_ty (by decide +kernel)
theorem kit_li {K : PySem.W.Frag} : PySem.W.kitOne K (.type "list") (.type "int") = some false := kit_ty (by decide +kernel)
theorem kit_ui {K : PySem.W.Frag} : PySem.W.kitOne K (.type "tuple") (.type "int") = some false := kit_ty (by decide +kernel)
theorem kit_di {K : PySem.W.Frag} : PySem.W.kitOne K (.type "dict") (.type "int") = some false := kit_ty (by decide +kernel)
/-! ### operators of a class of the text -/
theorem cmpBack {X : Cx} {pins : List (Addr × Obj)} {σ : L2.St} {Q : VK} {u : Value} {s : Shared} (h : EP X pins σ Q u s) : PySem.W.CmpBack (EP X pins σ Q) u s := by
  obtain ⟨v, H', I, r, q⟩ := h
  cases u with
  | notImplemented =>
    cases v with
    | non => cases r
    | bl b => cases r
    | int i => obtain ⟨t, e⟩ := r; cases e
    | str i => obtain ⟨t, e⟩ := r; cases e
    | byt i => obtain ⟨t, e⟩ := r; cases e
    | flt i => obtain ⟨t, e⟩ := r; cases e
    | ref a => cases r
    | ty n => cases r
  | _ => exact ⟨v, H', I, r, q⟩
def isIns (C : Addr) (H : Hp) : V → Prop
  | .ref a => match H a with
    | some (.ins D _ _) => D = C
    | _ => False
  | _ => False
theorem isIns_out {C : Addr} {H : Hp} {x : V} (h : isIns C H x) : ∃ a dx fs, x = .ref a ∧ H a = some (.ins C dx fs) := by
  cases x with
  | ref a =>
    unfold isIns at h
    simp only at h
    split at h
    · rename_i e; subst h; exact ⟨a, _, _, rfl, e⟩
    · exact h.elim
  | _ => exact h.elim
/-- a def f of the text, called on values at X.A -/
structure Own (X : Cx) (k : Nat) (f : Addr) (sp : Sp) : Prop where
  run : ∀ {pins : List (Addr × Obj)} {σ : L2.St} {H : Hp} {s : Shared} {Q : VK} {us : List Value} {vs : List V}, Inv X pins σ H s → Vals vs us → sp vs H Q E0 → wpAny (model X.prog X.w) X.A (call (.ref f) us) (EP X pins σ Q) X.xe s
theorem own_of {X : Cx} {CX : CXT} {k : Nat} {f : Addr} {fd : FuncData} {ps : List Str} {sp : Sp} (F : FnOk X.prog X.w X.K X.mg X.base CX k f fd ps sp) (hr : Room k X.A) (hb : Binds X.K fd ps []) (hx : Passes CX X E0) : Own X k f sp :=
  ⟨fun {pins σ H s Q us vs} I r h => run_fn (dvs := []) (ds := []) (E := E0) F hr hb .nil hx I r (by rw [List.append_nil]; exact h)⟩
/-- x op y, x of the class at C, y of the same or an int -/
structure BinF (K : PySem.W.Frag) (C f : Addr) (op : Operator) : Prop where
  sf : PySem.W.selfFirst K C = true
  fn : PySem.W.findIn K (.ref C) (PySem.dunder op.info.2) = some (some (.ref f))
  isf : PySem.W.isFn K (.ref f) = true
  rc : ∃ rc, PySem.W.findIn K (.ref C) (dunderR op.info.2) = some rc ∧ (rc = none ∨ ∃ g : Addr, rc = some (.ref g))
  i1 : ∃ fo, PySem.W.findIn K (.type "int") (PySem.dunder op.info.2) = some fo
  i2 : ∃ ro, PySem.W.findIn K (.type "int") (dunderR op.info.2) = some ro
  sub : PySem.W.subIn K (.type "int") (.ref C) = some false
def rBinL (C : Addr) (sp : Sp) : R2 := fun x y H Q => isIns C H x ∧ (isIns C H y ∨ ∃ i, y = .int i) ∧ sp [x, y] H Q E0
theorem op_binL {X : Cx} {k : Nat} {C f : Addr} {op : Operator} {sp : Sp} (B : BinF X.K C f op) (O : Own X k f sp) : OpR X (binaryOp op) (rBinL C sp) := by
  intro pins s σ H x y v u Q I rx ry h
  obtain ⟨h1, h2, h3⟩ := h
  obtain ⟨a, dx, fs, rfl, ea⟩ := isIns_out h1
  cases rx
  obtain ⟨mA, J, _⟩ := ins_get I.hok ea
  obtain ⟨od, J, _⟩ := J.look
  obtain ⟨m, hF⟩ := I.fr
  rcases h2 with h2 | ⟨i, rfl⟩
  · obtain ⟨b, dy, gs, rfl, eb⟩ := isIns_out h2
    cases ry
    obtain ⟨mB, J', _⟩ := ins_get I.hok eb
    obtain ⟨od', J', _⟩ := J'.look
    exact PySem.W.binop_K hF I.ok.mod.kin J J'.type B.sf B.fn B.isf (thn (O.run (vs := [.ref a, .ref b]) I (.cons rfl (.cons rfl .nil)) h3) fun _ _ z => cmpBack z)
  · obtain ⟨t, rfl⟩ := ry
    obtain ⟨rc, hr, hp⟩ := B.rc
    obtain ⟨fo, h4⟩ := B.i1
    obtain ⟨ro, h5⟩ := B.i2
    exact PySem.W.ksp_binT hF I.ok.mod.kin J rfl B.sf B.fn B.isf hr hp h4 h5 B.sub (thn (O.run (vs := [.ref a, .int i]) I (.cons rfl (.cons ⟨_, rfl⟩ .nil)) h3) fun _ _ z => cmpBack z)
/-- x cmp y, x of the class at C -/
structure CmpF (K : PySem.W.Frag) (C f : Addr) (op : CmpOp) : Prop where
  fn : PySem.W.findIn K (.ref C) (cmpInfo op).2.1 = some (some (.ref f))
  isf : PySem.W.isFn K (.ref f) = true
def rCmp (K : PySem.W.Frag) (C : Addr) (sp : Sp) : R2 := fun x y H Q => isIns C H x ∧ (∃ t, tyF H y = some t ∧ tyOk K t ∧ PySem.W.notFirst K C t = true) ∧ sp [x, y] H Q E0
theorem op_cmp {X : Cx} {k : Nat} {C f : Addr} {op : CmpOp} {sp : Sp} (B : CmpF X.K C f op) (O : Own X k f sp) (hu : X.A.units < cLine) (hop : ∀ a b, compareOp op a b = richCompare op a b := by intros; rfl) : OpR X (compareOp op) (rCmp X.K C sp) := by
  intro pins s σ H x y v u Q I rx ry h
  obtain ⟨h1, ⟨t, h2, h4, h5⟩, h3⟩ := h
  obtain ⟨a, dx, fs, rfl, ea⟩ := isIns_out h1
  cases rx
  obtain ⟨mA, J, _⟩ := ins_get I.hok ea
  obtain ⟨od, J, _⟩ := J.look
  obtain ⟨m, hF⟩ := I.fr
  rw [hop]
  obtain ⟨P, Z, p, _⟩ := kit_of I ry (tyX_of h2 h4)
  exact PySem.W.cmp_K hu hF I.ok.mod.kin J (Z.ty _ _ I.kIn p) h5 B.fn B.isf (thn (O.run (vs := [.ref a, y]) I (.cons rfl (.cons ry .nil)) h3) fun _ _ z => cmpBack z)
end HG

namespace HG
open PySem L2
open PySem.W in
/-- n op y where an int declines: y's own reflected method -/
theorem refl_K {prog : Program} {w : World} {A : Around} {E : Value → Shared → Prop} {s : Shared} {K : Frag} {y C f g : Addr} {oy : Obj} {od : Option Obj} {op : Operator} {i : Int} {t : Tok} {Q : Value → Shared → Prop}
    (X : K.In s.heap) (I : InstAt s.heap y oy C od) (hc : selfFirst K C = true)
    (hs : findIn K (.ref C) (PySem.dunder op.info.2) = some (some (.ref f))) (hr : findIn K (.ref C) (dunderR op.info.2) = some (some (.ref g))) (hg : isFn K (.ref g) = true)
    (hsub : subIn K (.ref C) (.type "int") = some false)
    (hleft : Looks (model prog w) s.heap (fillsNumberSlot (.type "int") op.info.2) true)
    (hdec : ∀ Q : Option Value → Shared → Prop, Q none s → wpAny (model prog w) A (tryMethod (.int i t) (PySem.dunder op.info.2) (.ref y)) Q E s)
    (h : wpAny (model prog w) A (call (.ref g) [.ref y, .int i t]) (CmpBack Q) E s) : wpAny (model prog w) A (binaryOp op (.int i t) (.ref y)) Q E s := by
  obtain ⟨cd, rest, hcd, hm⟩ := ksp_first hc
  rcases hi : op.info with ⟨sym, nm'⟩
  rw [hi] at hs hr hleft hdec
  dsimp only at hs hr hleft hdec
  have one := ksp_try X I hr hg h
  have L1 : Looks (model prog w) s.heap (typeOf (.ref y)) (.ref C) := I.type
  have L3 : Looks (model prog w) s.heap (fillsNumberSlot (.ref C) nm') true := fills_K X hcd hm hs
  have L5 : Looks (model prog w) s.heap (isSubtype (.ref C) (.type "int")) false := looks_subIn X hsub
  have hne : (Value.type "int" == Value.ref C) = false := Bool.eq_false_iff.mpr fun q => by cases beq_iff_eq.mp q
  simp only [binaryOp, hi]
  refine wpAny_holding (wpAny_bind ?_)
  unfold binaryOp1
  refine wpAny_bind (wpAny_of_eq (a := Value.type "int") rfl (wpAny_bind (L1.here (wpAny_bind (hleft.here ?_)))))
  simp only [hne, Bool.false_eq_true, if_false]
  refine wpAny_bind (L3.here ?_)
  simp only [Bool.and_self, if_true]
  refine wpAny_bind (L5.here ?_)
  simp only [Bool.false_eq_true, if_false]
  refine wpAny_bind (wpAny_pure ?_)
  simp only [Bool.false_eq_true, if_false, Bool.not_false, Bool.and_self, if_true]
  refine wpAny_bind (hdec _ ?_)
  simp only
  refine wpAny_bind (wpAny_mono one (fun r s' hr' => ?_) fun _ _ e => e)
  obtain ⟨v, rfl, hq⟩ := hr'
  simp only
  exact wpAny_bind (wpAny_rule (wpAny_pure (wpAny_pure hq)))

/-! ### n + y, n - y -/
theorem asInt_ins {M : Model} {A : Around} {E : Value → Shared → Prop} {s : Shared} {y C : Addr} {dx : Addr} {Q : Option Int → Shared → Prop} (h : s.heap.get? y = some (PySem.W.instObj C dx)) (q : Q none s) : wpAny M A (asInt? (.ref y)) Q E s := by
  unfold asInt?
  exact wpAny_bind (wpAny_load h (wpAny_pure q))
theorem dec_add {prog : Program} {w : World} {A : Around} {E : Value → Shared → Prop} {s : Shared} {y C dx : Addr} {i : Int} {t : Tok} (h : s.heap.get? y = some (PySem.W.instObj C dx)) (Q : Option Value → Shared → Prop) (q : Q none s) :
    wpAny (model prog w) A (tryMethod (.int i t) (PySem.dunder "add") (.ref y)) Q E s := by
  refine wpAny_tryMethod_declines (T := "int") (id := "int.__add__") (hT := ?hT1) (h := ?hs1) (hc := ?hc1)
  case hT1 => exact typeIs_int s i t
  case hs1 => exact PySem.F.slot_int_add
  refine wpAny_call_entry (T := "int") (name := PySem.dunder "add") (b := Builtin.«int.__add__») (ha := ?ha) (hb := ?hb) (h := ?hs) (hT := ?hT) (hc := ?hc)
  case hs => exact PySem.F.slot_int_add
  case hb => exact PySem.F.entry_int_add
  case hT => exact typeIs_int s i t
  case ha => exact PySem.F.args_int_add_2 _ _
  case hc =>
    unfold Builtin.«int.__add__» Builtin.Int.intBinary
    refine wpAny_bind (wpAny_of_eq (a := (.int i t, [.ref y])) rfl ?_)
    refine wpAny_bind (wpAny_of_eq (a := i) rfl ?_)
    exact wpAny_bind (asInt_ins h (wpAny_bind (wpAny_rule (wpAny_pure ⟨_, rfl, rfl, q⟩))))
theorem dec_sub {prog : Program} {w : World} {A : Around} {E : Value → Shared → Prop} {s : Shared} {y C dx : Addr} {i : Int} {t : Tok} (h : s.heap.get? y = some (PySem.W.instObj C dx)) (Q : Option Value → Shared → Prop) (q : Q none s) :
    wpAny (model prog w) A (tryMethod (.int i t) (PySem.dunder "sub") (.ref y)) Q E s := by
  refine wpAny_tryMethod_declines (T := "int") (id := "int.__sub__") (hT := ?hT1) (h := ?hs1) (hc := ?hc1)
  case hT1 => exact typeIs_int s i t
  case hs1 => exact PySem.F.slot_int_sub
  refine wpAny_call_entry (T := "int") (name := PySem.dunder "sub") (b := Builtin.«int.__sub__») (ha := ?ha) (hb := ?hb) (h := ?hs) (hT := ?hT) (hc := ?hc)
  case hs => exact PySem.F.slot_int_sub
  case hb => exact PySem.F.entry_int_sub
  case hT => exact typeIs_int s i t
  case ha => exact PySem.F.args_int_sub_2 _ _
  case hc =>
    unfold Builtin.«int.__sub__» Builtin.Int.intBinary
    refine wpAny_bind (wpAny_of_eq (a := (.int i t, [.ref y])) rfl ?_)
    refine wpAny_bind (wpAny_of_eq (a := i) rfl ?_)
    exact wpAny_bind (asInt_ins h (wpAny_bind (wpAny_rule (wpAny_pure ⟨_, rfl, rfl, q⟩))))
structure ReflF (K : PySem.W.Frag) (C f g : Addr) (op : Operator) : Prop where
  sf : PySem.W.selfFirst K C = true
  fn : PySem.W.findIn K (.ref C) (PySem.dunder op.info.2) = some (some (.ref f))
  rn : PySem.W.findIn K (.ref C) (dunderR op.info.2) = some (some (.ref g))
  isf : PySem.W.isFn K (.ref g) = true
  sub : PySem.W.subIn K (.ref C) (.type "int") = some false
  fo : ∃ fo ro, PySem.W.findIn K (.type "int") (PySem.dunder op.info.2) = some fo ∧ PySem.W.findIn K (.type "int") (dunderR op.info.2) = some ro ∧ ((fo.isSome && !isSeqSlot fo) || (ro.isSome && !isSeqSlot ro)) = true
def rBinR (C : Addr) (sp : Sp) : R2 := fun x y H Q => (∃ i, x = .int i) ∧ isIns C H y ∧ sp [y, x] H Q E0
theorem op_binR {X : Cx} {k : Nat} {C f g : Addr} {op : Operator} {sp : Sp} (B : ReflF X.K C f g op) (O : Own X k g sp)
    (dec : ∀ (s : Shared) (y dx : Addr) (i : Int) (t : Tok), s.heap.get? y = some (PySem.W.instObj C dx) → ∀ Q : Option Value → Shared → Prop, Q none s → wpAny (model X.prog X.w) X.A (tryMethod (.int i t) (PySem.dunder op.info.2) (.ref y)) Q X.xe s) :
    OpR X (binaryOp op) (rBinR C sp) := by
  intro pins s σ H x y v u Q I rx ry h
  obtain ⟨⟨i, rfl⟩, h2, h3⟩ := h
  obtain ⟨b, dy, gs, rfl, eb⟩ := isIns_out h2
  obtain ⟨t, rfl⟩ := rx
  cases ry
  obtain ⟨mB, J, _⟩ := ins_get I.hok eb
  have hob := J.obj
  obtain ⟨od, J, _⟩ := J.look
  obtain ⟨fo, ro, f1, f2, f3⟩ := B.fo
  have hl := PySem.W.ksp_fillsT (M := model X.prog X.w) (h := s.heap) I.kIn f1 f2
  rw [f3] at hl
  exact refl_K I.kIn J B.sf B.fn B.rn B.isf B.sub hl (dec s b dy i t hob) (thn (O.run (vs := [.ref b, .int i]) I (.cons rfl (.cons ⟨_, rfl⟩ .nil)) h3) fun _ _ z => cmpBack z)

open PySem.W in
/-- x op y of one class, the first try -/
theorem bin1_K {prog : Program} {w : World} {A : Around} {E : Value → Shared → Prop} {s : Shared} {K : Frag} {x C f : Addr} {ox : Obj} {od : Option Obj} {nm : String} {b : Value} {Q : Option Value → Shared → Prop} (X : K.In s.heap) (I : InstAt s.heap x ox C od)
    (hb : Looks (model prog w) s.heap (typeOf b) (.ref C)) (hc : selfFirst K C = true) (hs : findIn K (.ref C) (PySem.dunder nm) = some (some (.ref f))) (hf : isFn K (.ref f) = true)
    (h : wpAny (model prog w) A (call (.ref f) [.ref x, b]) (CmpBack fun v s' => Q (some v) s') E s) : wpAny (model prog w) A (binaryOp1 nm (.ref x) b) Q E s := by
  obtain ⟨cd, rest, hcd, hm⟩ := ksp_first hc
  unfold binaryOp1
  refine wpAny_bind (I.type.here (wpAny_bind (hb.here (wpAny_bind ((fills_K X hcd hm hs).here ?_)))))
  simp only [beq_self_eq_true, if_true]
  refine wpAny_bind (wpAny_pure ?_)
  simp only [Bool.and_false, Bool.false_eq_true, if_false, Bool.false_and]
  refine wpAny_bind (wpAny_pure ?_)
  simp only [Bool.false_eq_true, if_false]
  refine wpAny_bind (m := tryMethod (.ref x) _ b) ?_
  unfold tryMethod
  refine wpAny_bind (special_fn X I hs (beq_iff_eq.mp hf) (wpAny_mono h (fun v s' hv => ?_) fun _ _ e => e))
  cases v <;> first | exact hv.elim | exact wpAny_pure (wpAny_pure hv)
structure InpF (K : PySem.W.Frag) (C f : Addr) (op : Operator) : Prop where
  sf : PySem.W.selfFirst K C = true
  fn : PySem.W.findIn K (.ref C) (PySem.dunder op.info.2) = some (some (.ref f))
  isf : PySem.W.isFn K (.ref f) = true
  no : ∀ (M : Model) (h : Heap), K.In h → PySem.W.Looks M h (fillsInplaceSlot (.ref C) op.info.2 (op == .Add)) false
def rInp (C : Addr) (sp : Sp) : R2 := fun x y H Q => isIns C H x ∧ isIns C H y ∧ sp [x, y] H Q E0
theorem op_inp {X : Cx} {k : Nat} {C f : Addr} {op : Operator} {sp : Sp} (B : InpF X.K C f op) (O : Own X k f sp) : OpR X (inplaceOp op) (rInp C sp) := by
  intro pins s σ H x y v u Q I rx ry h
  obtain ⟨h1, h2, h3⟩ := h
  obtain ⟨a, dx, fs, rfl, ea⟩ := isIns_out h1
  cases rx
  obtain ⟨mA, J, _⟩ := ins_get I.hok ea
  obtain ⟨od, J, _⟩ := J.look
  obtain ⟨b, dy, gs, rfl, eb⟩ := isIns_out h2
  cases ry
  obtain ⟨mB, J', _⟩ := ins_get I.hok eb
  obtain ⟨od', J', _⟩ := J'.look
  unfold inplaceOp
  refine wpAny_holding (wpAny_bind (J.type.here ?_))
  refine wpAny_bind ((B.no _ _ I.kIn).here ?_)
  simp only [Bool.false_eq_true, if_false]
  refine wpAny_bind (bin1_K I.kIn J J'.type B.sf B.fn B.isf (thn (O.run (vs := [.ref a, .ref b]) I (.cons rfl (.cons rfl .nil)) h3) fun v s' z => ?_))
  obtain ⟨v', H', I', r', q'⟩ := z
  have z := cmpBack (X := X) (pins := pins) (σ := σ) (Q := Q) ⟨v', H', I', r', q'⟩
  cases v <;> first | exact z.elim | exact wpAny_pure ⟨v', H', I', r', q'⟩
theorem pip_of {X : Cx} {op : Operator} {r : R2} (h : OpR X (inplaceOp op) r) : PIp X op r := h
theorem ns_some {K : PySem.W.Frag} {h : Heap} {N : Addr} {mg : Str → Option Value} {n : Str} {v : Value} (X : K.In h) (G : h.Ns N mg) (e : PySem.W.nsIn K N n = some (some v)) : mg n = some v := by
  obtain ⟨o, es, ep, ho, hd, _, hf⟩ := G
  unfold PySem.W.nsIn at e
  split at e
  · rename_i c d es' n' sl q
    have z := X _ _ q
    rw [ho] at z
    cases z
    cases hd
    split at e
    · rename_i en he
      cases e
      rw [← hf]
      unfold nsFind findBy
      rw [← Array.find?_toList, he]
      rfl
    · split at e <;> cases e
  · cases e
/-! ### x != y by the text's == -/
structure NeF (K : PySem.W.Frag) (C f : Addr) : Prop where
  cls : ∃ nm q N bs hdct sn sub ab col dd k0 k1 k2 k3 k5 newId, K.lookup C = some (excClassObj nm q C N bs [.type "object"] hdct sn sub ab col dd k0 k1 k2 k3 k5 newId) ∧ PySem.W.nsOkIn K N = true ∧ PySem.W.nsIn K N "__eq__" = some (some (.ref f)) ∧ PySem.W.nsIn K N "__ne__" = some none
  fn : ∃ of, K.lookup f = some of ∧ of.cls = .type "function"
/-- a def of the text, called one builtin deeper -/
structure Own1 (X : Cx) (k : Nat) (f : Addr) (sp : Sp) : Prop where
  run : ∀ {pins : List (Addr × Obj)} {σ : L2.St} {H : Hp} {s : Shared} {Q : VK} {us : List Value} {vs : List V}, Inv X pins σ H s → Vals vs us → sp vs H Q E0 → wpAny (model X.prog X.w) X.A.in1 (call (.ref f) us) (EP X pins σ Q) X.xe s
theorem own1_of {X : Cx} {CX : CXT} {k : Nat} {f : Addr} {fd : FuncData} {ps : List Str} {sp : Sp} (F : FnOk X.prog X.w X.K X.mg X.base CX k f fd ps sp) (hr : Room (k + 1) X.A) (hb : Binds X.K fd ps []) (hx : Passes CX X E0) : Own1 X k f sp := by
  refine ⟨fun {pins σ H s Q us vs} I r h => ?_⟩
  have hl : us.length = ps.length := by rw [← r.length]; exact F.len _ _ _ _ h
  have hb' := hb s us I.kIn (by rw [List.append_nil]; exact hl)
  rw [List.append_nil] at hb'
  refine wpAny_call (codeAny_mono (F.run X.A.in1 X.stack s H ⟨us, []⟩ us vs Q E0 hr.in1 I.env0.in1 hb' r h) fun r s' hq => ?_)
  cases r with
  | error e => exact hx pins σ H s e s' I hq
  | ok fl =>
    cases fl with
    | ret u => exact I.after hq
    | next => exact False.elim hq
    | brk => exact False.elim hq
    | cont => exact False.elim hq
def rNeO (C : Addr) (sp : Sp) : R2 := fun x y H Q => isIns C H x ∧ isIns C H y ∧ sp [x, y] H (fun v H' => match v with | .bl b => Q (.bl (!b)) H' | _ => False) E0
theorem op_neO {X : Cx} {k : Nat} {C f : Addr} {sp : Sp} (B : NeF X.K C f) (O : Own1 X k f sp) (hu : X.A.units + 1 < cLine) : OpR X (compareOp .NotEq) (rNeO C sp) := by
  intro pins s σ H x y v u Q I rx ry h
  obtain ⟨h1, h2, h3⟩ := h
  obtain ⟨a, dx, fs, rfl, ea⟩ := isIns_out h1
  cases rx
  obtain ⟨b, dy, gs, rfl, eb⟩ := isIns_out h2
  cases ry
  obtain ⟨mA, J, _⟩ := ins_get I.hok ea
  obtain ⟨mB, J', _⟩ := ins_get I.hok eb
  obtain ⟨nm, q, N, bs, hdct, sn, sub, ab, col, dd, k0, k1, k2, k3, k5, newId, hC, hN, hE, hNe⟩ := B.cls
  obtain ⟨of, hf, hfc⟩ := B.fn
  have kin := I.kIn
  have run := O.run (vs := [.ref a, .ref b]) (us := [.ref a, .ref b]) I (.cons rfl (.cons rfl .nil)) h3
  have hns : s.heap.Ns N (s.heap.nsMap N) := .of_isNs (PySem.W.isNs_of_in kin hN)
  have heq : s.heap.nsMap N "__eq__" = some (.ref f) := ns_some kin hns hE
  have hne : s.heap.nsMap N "__ne__" = none := PySem.W.nsMap_none_of_in kin hN hNe
  obtain ⟨hp, g, d, tk, os⟩ := s
  have Y : hp.OwnEqNoNe a C f "object" [.type "object"] :=
    ⟨_, of, nm, q, N, bs, hdct, sn, sub, ab, col, dd, k0, k1, k2, k3, k5, newId, _, _, J.obj, rfl, kin _ _ hC, hns, heq, kin _ _ hf, hfc, F.cmp_object.mro, F.cmp_object.eq.lookup, hne⟩
  refine compareOp_ne_ownEq F.cmp_object Y J'.obj rfl hu (thn run fun v s' z => ?_)
  obtain ⟨v', H', I', r', q'⟩ := z
  cases v' with
  | bl c =>
    cases r'
    exact ⟨c, rfl, .bl (!c), H', I', rfl, q'⟩
  | _ => exact q'.elim
end HG

/-! Defs of the text, called where no repr is under way (GA): what the hand layer says of a def (FnOk), with this one premise more. -/
namespace HG
open PySem L2 PyProof.Rows
abbrev GA (A : Around) : Prop := A.guards = some []
structure FnG (P : Program) (w : World) (K : PySem.W.Frag) (mg : Str → Option Value) (base : Heap) (CX : CXT) (k : Nat) (f : Addr) (fd : FuncData) (ps : List Str) (sp : Sp) : Prop where
  len : ∀ vs H Q E, sp vs H Q E → vs.length = ps.length
  run : ∀ (A : Around) (outer : List Env) (s : Shared) (H : Hp) (args : Args) (us : List Value) (vs : List V) (Q : VK) (E : XK), Room k A → GA A → Env0 P w K mg base A outer s H → BindsTo s fd args (ps.zip us) → Vals vs us → sp vs H Q E →
    codeAny (model P w) A (.call (.ref f) args) (CR CX outer P w H s Q E) s
section
variable {P : Program} {w : World} {K : PySem.W.Frag} {mg : Str → Option Value} {base : Heap} {CX : CXT} {j k : Nat} {f : Addr} {fd : FuncData} {ps : List Str} {sp : Sp}
theorem FnG.up (F : FnG P w K mg base CX j f fd ps sp) (h : j ≤ k) : FnG P w K mg base CX k f fd ps sp := ⟨F.len, fun A outer s H args us vs Q E hr => F.run A outer s H args us vs Q E (hr.mono h)⟩
theorem ga_deeper {A : Around} {env : Env} (h : GA A) : GA (A.deeper env) := h
theorem ga_in1 {A : Around} (h : GA A) : GA A.in1 := h
theorem ga_make {A : Around} (C : Addr) (us : List Value) (kw : List (Str × Value)) (h : GA A) : GA (A.under (.builtin "type.__call__" ⟨.ref C :: us, kw⟩)) := by
  have e : (Code.builtin "type.__call__" ⟨.ref C :: us, kw⟩).isGuard = false := by
    show guardIds.contains "type.__call__" = false
    decide +kernel
  have g : (A.under (.builtin "type.__call__" ⟨.ref C :: us, kw⟩)).guards = pushGuards (Code.builtin "type.__call__" ⟨.ref C :: us, kw⟩).guards A.guards := rfl
  unfold GA
  rw [g]
  unfold Code.guards
  rw [e, show A.guards = some [] from h]
  rfl
/-- a def by its body -/
theorem fnG_of {name qual : Str} {params : Arguments} {body : List Stmt} {scope : Scope} {dV kV doc pm cdv ct oc : Value} {an od : Option Addr} {osl : Array (Option Value)} {N : List Str}
    (lk : K.lookup f = some ⟨oc, od, .func (PySem.W.fnOf name qual params body scope dV kV doc pm an cdv ct), osl⟩) (hcd : PySem.W.codeIn K cdv qual = true) (S : FnScope N ps scope) (len : ∀ vs H Q E, sp vs H Q E → vs.length = ps.length)
    (hbody : ∀ (A : Around) (outer : List Env) (s : Shared) (H : Hp) (vs : List V) (Q : VK) (E : XK), Room k (A.deeper (envOfC qual scope s.heap.objs.size f cdv)) → GA (A.deeper (envOfC qual scope s.heap.objs.size f cdv)) → sp vs H Q E →
      ∃ t, PSs (cxOf CX P w K mg base N qual scope f cdv A outer s H E) body t ∧ t { nx := fun _ H' => Q .non H', rt := Q } (L2.start N vs) H) :
    FnG P w K mg base CX (k + 1) f (PySem.W.fnOf name qual params body scope dV kV doc pm an cdv ct) ps sp := by
  refine ⟨len, fun A outer s H args us vs Q E hr hG e0 hb r hsp => ?_⟩
  have F : FnOk P w K mg base CX (k + 1) f (PySem.W.fnOf name qual params body scope dV kV doc pm an cdv ct) ps sp → codeAny (model P w) A (.call (.ref f) args) (CR CX outer P w H s Q E) s := fun F => F.run A outer s H args us vs Q E hr e0 hb r hsp
  have KX : K.In s.heap := e0.mod.kin.keeps fun b o e => (e0.bs b o e).1
  have lim : s.heap.NoLimit := e0.mod.nolimit.keeps fun b o e => (e0.bs b o e).1
  refine codeAny_call_function hr.depth (KX _ _ lk) rfl S.co S.gen rfl (PySem.W.codeRec_of KX hcd) (hb _ _ _ _ ?_)
  refine wpAny_newFunctionEnv_cells S.kind (fun y hy => ?_) fun env he s1 x => ?_
  · rcases S.par y.1 (List.of_mem_zip hy).1 with q | q
    · exact .inl q
    · exact .inr ⟨q, PySem.W.cellsFrom_some _ _ _ (.inl q)⟩
  · subst he
    refine ⟨lim.keeps x.toInCall.keep, codeAny_func ?_⟩
    obtain ⟨t, ht, hq⟩ := hbody A outer s H vs Q E (hr.deeper _) (ga_deeper hG) hsp
    have I := inv_start (CX := CX) (E := E) S hr.hd e0 (len _ _ _ _ hsp) r x
    refine wpAny_mono (ht.run [] s1 (L2.start N vs) H _ I hq) (fun fl s' hs => ?_) fun e s' hs => hs
    cases fl with
    | ret u =>
      obtain ⟨v, σ', H', J, rv, q⟩ := hs
      exact ⟨v, H', J.os, J.bare, J.base, J.hok, rv, q⟩
    | next =>
      obtain ⟨σ', H', J, q⟩ := hs
      exact ⟨.non, H', J.os, J.bare, J.base, J.hok, rfl, q⟩
    | brk => exact hs.elim fun _ z => z.elim fun _ z => z.2.elim
    | cont => exact hs.elim fun _ z => z.elim fun _ z => z.2.elim
theorem okG {x qual : Str} {st : Stmt} {N : List Str} (F : Fun K x qual st f fd) (S : FnScope N ps (defScope st)) (len : ∀ vs H Q E, sp vs H Q E → vs.length = ps.length)
    (hbody : ∀ (cdv : Value) (A : Around) (outer : List Env) (s : Shared) (H : Hp) (vs : List V) (Q : VK) (E : XK), Room k (A.deeper (envOfC qual (defScope st) s.heap.objs.size f cdv)) → GA (A.deeper (envOfC qual (defScope st) s.heap.objs.size f cdv)) → sp vs H Q E →
      ∃ t, PSs (cxOf CX P w K mg base N qual (defScope st) f cdv A outer s H E) (defBody st) t ∧ t { nx := fun _ H' => Q .non H', rt := Q } (L2.start N vs) H) : FnG P w K mg base CX (k + 1) f fd ps sp := by
  obtain ⟨oc, od, kV, doc, pm, an, cdv, ct, osl, rfl, lk, hcd⟩ := F.ex
  exact fnG_of lk hcd S len fun A outer s H vs Q E hr hG h => hbody cdv A outer s H vs Q E hr hG h
theorem okDG {x qual : Str} {st : Stmt} {dvs : List V} {kws : List (Str × V)} {N : List Str} (F : FunD K x qual (defArgs st) (defBody st) (defScope st) dvs kws f fd) (S : FnScope N ps (defScope st)) (len : ∀ vs H Q E, sp vs H Q E → vs.length = ps.length)
    (hbody : ∀ (cdv : Value) (A : Around) (outer : List Env) (s : Shared) (H : Hp) (vs : List V) (Q : VK) (E : XK), Room k (A.deeper (envOfC qual (defScope st) s.heap.objs.size f cdv)) → GA (A.deeper (envOfC qual (defScope st) s.heap.objs.size f cdv)) → sp vs H Q E →
      ∃ t, PSs (cxOf CX P w K mg base N qual (defScope st) f cdv A outer s H E) (defBody st) t ∧ t { nx := fun _ H' => Q .non H', rt := Q } (L2.start N vs) H) : FnG P w K mg base CX (k + 1) f fd ps sp := by
  obtain ⟨oc, od, dV, kV, doc, pm, an, cdv, ct, osl, rfl, lk, hcd, _, _⟩ := F.ex
  exact fnG_of lk hcd S len fun A outer s H vs Q E hr hG h => hbody cdv A outer s H vs Q E hr hG h
end
section
variable {X : Cx} {CX : CXT} {k : Nat} {f C : Addr} {fd : FuncData} {ps : List Str} {sp : Sp} {dvs : List V} {ds : List Value} {E : XK} {x m : Str} {p pos apos : Pos} {e o : Expr} {es : List Expr} {ta : TE} {t : TA}
/-- what lies behind the run of a callee -/
theorem behind {pins : List (Addr × Obj)} {σ : L2.St} {H : Hp} {s s' : Shared} {Q : VK} {r : Result} (hx : Passes CX X E) (I : Inv X pins σ H s) (h : CR CX X.stack X.prog X.w H s Q E r s') : wants (EP X pins σ Q) X.xe r s' := by
  cases r with
  | error e => exact hx pins σ H s e s' I h
  | ok fl =>
    cases fl with
    | ret u => exact I.after h
    | next => exact h.elim
    | brk => exact h.elim
    | cont => exact h.elim
theorem runG {pins : List (Addr × Obj)} {σ : L2.St} {H : Hp} {s : Shared} {Q : VK} {us : List Value} {vs : List V} (F : FnG X.prog X.w X.K X.mg X.base CX k f fd ps sp) (hr : Room k X.A) (hG : GA X.A) (hb : Binds X.K fd ps ds) (hd : Vals dvs ds) (hx : Passes CX X E)
    (I : Inv X pins σ H s) (r : Vals vs us) (h : sp (vs ++ dvs) H Q E) : wpAny (model X.prog X.w) X.A (call (.ref f) us) (EP X pins σ Q) X.xe s := by
  have r2 := Vals.append r hd
  have hl : (us ++ ds).length = ps.length := r2.length.symm.trans (F.len _ _ _ _ h)
  exact wpAny_call (codeAny_mono (F.run X.A X.stack s H ⟨us, []⟩ (us ++ ds) (vs ++ dvs) Q E hr hG I.env0 (hb s us I.kIn hl) r2 h) fun r s' hq => behind hx I hq)
theorem run1G {pins : List (Addr × Obj)} {σ : L2.St} {H : Hp} {s : Shared} {Q : VK} {us : List Value} {vs : List V} (F : FnG X.prog X.w X.K X.mg X.base CX k f fd ps sp) (hr : Room (k + 1) X.A) (hG : GA X.A) (hb : Binds X.K fd ps ds) (hd : Vals dvs ds) (hx : Passes CX X E)
    (I : Inv X pins σ H s) (r : Vals vs us) (h : sp (vs ++ dvs) H Q E) : wpAny (model X.prog X.w) X.A.in1 (call (.ref f) us) (EP X pins σ Q) X.xe s := by
  have r2 := Vals.append r hd
  have hl : (us ++ ds).length = ps.length := r2.length.symm.trans (F.len _ _ _ _ h)
  exact wpAny_call (codeAny_mono (F.run X.A.in1 X.stack s H ⟨us, []⟩ (us ++ ds) (vs ++ dvs) Q E hr.in1 (ga_in1 hG) I.env0.in1 (hb s us I.kIn hl) r2 h) fun r s' hq => behind hx I hq)
theorem ownG (F : FnG X.prog X.w X.K X.mg X.base CX k f fd ps sp) (hr : Room k X.A) (hG : GA X.A) (hb : Binds X.K fd ps []) (hx : Passes CX X E0) : Own X k f sp :=
  ⟨fun {pins σ H s Q us vs} I r h => runG (dvs := []) (ds := []) F hr hG hb .nil hx I r (by rw [List.append_nil]; exact h)⟩
theorem own1G (F : FnG X.prog X.w X.K X.mg X.base CX k f fd ps sp) (hr : Room (k + 1) X.A) (hG : GA X.A) (hb : Binds X.K fd ps []) (hx : Passes CX X E0) : Own1 X k f sp :=
  ⟨fun {pins σ H s Q us vs} I r h => run1G (dvs := []) (ds := []) F hr hG hb .nil hx I r (by rw [List.append_nil]; exact h)⟩
theorem pe_callG (F : FnG X.prog X.w X.K X.mg X.base CX k f fd ps sp) (hr : Room k X.A) (hG : GA X.A) (hg : Gl X x) (hm : X.mg x = some (.ref f)) (hk : PySem.W.keepIn X.K (.ref f) = true) (hb : Binds X.K fd ps ds) (hd : Vals dvs ds) (hx : Passes CX X E)
    (ha : PA X (e :: es) t) (hdb : (x == ("__debug__" : Str)) = false := by decide) (he : starEach (e :: es) X.env = (false, eval e X.env) :: starEach es X.env := by rfl) (hpl : (backTo pos (starEach es X.env)).any (·.1) = false := by rfl) :
    PE X (.Call (.Name x p) (e :: es) [] pos) (tCall sp dvs E t) :=
  ⟨fun pins s σ H Q I h => wpAny_Call_Name_kw (ld_glob I hg hm (PySem.W.callWith_K (h₀ := X.base) I.ok.mod.kin hk (thn (ha.run pos pins s σ H _ I h) fun us s1 z => by
    obtain ⟨vs, H1, I1, r, q⟩ := z
    exact ⟨I1.kIn, runG F hr hG hb hd hx I1 r q⟩) he hpl) hdb)⟩
theorem pe_callG0 (F : FnG X.prog X.w X.K X.mg X.base CX k f fd ps sp) (hr : Room k X.A) (hG : GA X.A) (hg : Gl X x) (hm : X.mg x = some (.ref f)) (hk : PySem.W.keepIn X.K (.ref f) = true) (hb : Binds X.K fd ps ds) (hd : Vals dvs ds) (hx : Passes CX X E)
    (hdb : (x == ("__debug__" : Str)) = false := by decide) : PE X (.Call (.Name x p) [] [] pos) (tCall sp dvs E tNil) :=
  ⟨fun pins s σ H Q I h => wpAny_Call_Name_kw (ld_glob I hg hm (PySem.W.callWith_K0 I.kIn hk (runG (us := []) F hr hG hb hd hx I .nil h)) hdb)⟩
/-- how the values of a call with keywords stand in the parameters' order -/
structure KwB (K : PySem.W.Frag) (fd : FuncData) (ps : List Str) (n : Nat) (ks : List Str) (gV : List V → List V → List V) : Prop where
  to : ∀ (s : Shared) {vs zs : List V} {us ws : List Value}, K.In s.heap → Vals vs us → Vals zs ws → vs.length = n → zs.length = ks.length → ∃ as, BindsTo s fd ⟨us, ks.zip ws⟩ (ps.zip as) ∧ Vals (gV vs zs) as
/-- a new instance, then __init__ -/
theorem makeG {pins : List (Addr × Obj)} {σ : L2.St} {H : Hp} {s : Shared} {Q : VK} {us ws as : List Value} {ks : List Str} {vs : List V} (M : Mk X.K C f) (F : FnG X.prog X.w X.K X.mg X.base CX k f fd ps sp) (hr : Room (k + 1) X.A) (hG : GA X.A) (hx : Passes CX X E)
    (I : Inv X pins σ H s)
    (hb : ∀ s', X.K.In s'.heap → BindsTo s' fd ⟨Value.ref (s.heap.objs.size + 1) :: us, ks.zip ws⟩ (ps.zip as)) (r : Vals vs as)
    (h : sp vs (upd (upd H s.heap.objs.size (.own (s.heap.objs.size + 1))) (s.heap.objs.size + 1) (.ins C s.heap.objs.size [])) (fun v H2 => v = .non ∧ Q (.ref (s.heap.objs.size + 1)) H2) E) :
    wpAny (model X.prog X.w) X.A (call (.ref C) us (ks.zip ws)) (EP X pins σ Q) X.xe s := by
  have I2 := Inv.made (C := C) I
  refine wpAny_call (make_map (f := f) I.kIn M.makes M.init (beq_iff_eq.mp M.fn) (codeAny_mono (F.run _ X.stack _ _ _ as vs _ E (hr.make C us (ks.zip ws)) (ga_make C us (ks.zip ws) hG) (I2.env0.make C us (ks.zip ws)) (hb _ I2.kIn) r h) fun r s' hq => ?_))
  cases r with
  | error e => exact hx pins σ _ _ e s' I2 hq
  | ok fl =>
    cases fl with
    | ret u =>
      obtain ⟨v, H', I3, rv, ev, q3⟩ := I2.after hq
      subst ev
      exact ⟨rv, .ref (s.heap.objs.size + 1), H', I3, rfl, q3⟩
    | next => exact hq.elim
    | brk => exact hq.elim
    | cont => exact hq.elim
theorem pe_makeG (M : Mk X.K C f) (F : FnG X.prog X.w X.K X.mg X.base CX k f fd ps sp) (hr : Room (k + 1) X.A) (hG : GA X.A) (hg : Gl X x) (hm : X.mg x = some (.ref C)) (hb : Binds X.K fd ps ds) (hd : Vals dvs ds) (hx : Passes CX X E)
    (ha : PA X (e :: es) t) (hdb : (x == ("__debug__" : Str)) = false := by decide) (he : starEach (e :: es) X.env = (false, eval e X.env) :: starEach es X.env := by rfl) (hpl : (backTo pos (starEach es X.env)).any (·.1) = false := by rfl) :
    PE X (.Call (.Name x p) (e :: es) [] pos) (tMake C sp dvs E t) := by
  refine ⟨fun pins s σ H Q I h => wpAny_Call_Name_kw (ld_glob I hg hm (PySem.W.callWith_K (h₀ := X.base) I.ok.mod.kin M.kp (thn (ha.run pos pins s σ H _ I h) fun us s1 z => ?_) he hpl) hdb)⟩
  obtain ⟨vs, H1, I1, r, q⟩ := z
  refine ⟨I1.kIn, ?_⟩
  have hq := q (s1.heap.objs.size + 1) s1.heap.objs.size (I1.hok.fresh (Nat.le_succ _)) (I1.hok.fresh (Nat.le_refl _)) (Nat.ne_of_lt (Nat.lt_succ_self _))
  have r2 : Vals (V.ref (s1.heap.objs.size + 1) :: (vs ++ dvs)) (Value.ref (s1.heap.objs.size + 1) :: (us ++ ds)) := .cons rfl (r.append hd)
  have hl : (Value.ref (s1.heap.objs.size + 1) :: us ++ ds).length = ps.length := r2.length.symm.trans (F.len _ _ _ _ hq)
  exact makeG (ks := []) (ws := []) M F hr hG hx I1 (fun s' kin => hb s' (Value.ref (s1.heap.objs.size + 1) :: us) kin hl) r2 hq
theorem pe_makeG0 (M : Mk X.K C f) (F : FnG X.prog X.w X.K X.mg X.base CX k f fd ps sp) (hr : Room (k + 1) X.A) (hG : GA X.A) (hg : Gl X x) (hm : X.mg x = some (.ref C)) (hb : Binds X.K fd ps ds) (hd : Vals dvs ds) (hx : Passes CX X E)
    (hdb : (x == ("__debug__" : Str)) = false := by decide) : PE X (.Call (.Name x p) [] [] pos) (tMake C sp dvs E tNil) := by
  refine ⟨fun pins s σ H Q I h => wpAny_Call_Name_kw (ld_glob I hg hm (PySem.W.callWith_K0 I.kIn M.kp ?_) hdb)⟩
  have hq := h (s.heap.objs.size + 1) s.heap.objs.size (I.hok.fresh (Nat.le_succ _)) (I.hok.fresh (Nat.le_refl _)) (Nat.ne_of_lt (Nat.lt_succ_self _))
  have r2 : Vals (V.ref (s.heap.objs.size + 1) :: ([] ++ dvs)) (Value.ref (s.heap.objs.size + 1) :: ([] ++ ds)) := .cons rfl hd
  have hl : (Value.ref (s.heap.objs.size + 1) :: [] ++ ds).length = ps.length := r2.length.symm.trans (F.len _ _ _ _ hq)
  exact makeG (us := []) (ks := []) (ws := []) M F hr hG hx I (fun s' kin => hb s' [Value.ref (s.heap.objs.size + 1)] kin hl) r2 hq
/-- o.m(..) -/
theorem pe_methG {pl : Sem Bool} (he : PE X o ta) (c : Cls X.K C) (hm : Meth X.K C m f) (F : FnG X.prog X.w X.K X.mg X.base CX k f fd ps sp) (hr : Room k X.A) (hG : GA X.A) (hb : Binds X.K fd ps ds) (hd : Vals dvs ds) (hx : Passes CX X E) (ha : PA X (e :: es) t)
    (hst : starEach (e :: es) X.env = (false, eval e X.env) :: starEach es X.env := by rfl) (hpl : (backTo pos (starEach es X.env)).any (·.1) = false := by rfl)
    (ht : eval (.Call (.Attribute o m apos) (e :: es) [] pos) X.env = (do
      let ov ← eval o X.env
      standAt apos.atName
      let (f, first) ← holding [ov] (getMethod ov m pl)
      callWith pos f first (backTo pos (starEach (e :: es) X.env)) (backToKw pos (keywordEach [] X.env))) := by rfl) :
    PE X (.Call (.Attribute o m apos) (e :: es) [] pos) (tMeth C m sp dvs E ta t) := by
  refine ⟨fun pins s σ H Q I h => PySem.W.methodCall_KW (pl := pl) (thn (he.run pins s σ H _ I h) fun u s1 z => ?_) ht⟩
  obtain ⟨v, H1, I1, rx, a, dx, fs, rfl, ea, l, q⟩ := z
  cases rx
  refine getmeth_ok I1 ea c hm l (PySem.W.callWith_K (first := [.ref a]) (h₀ := X.base) I.ok.mod.kin hm.kp (thn (ha.run pos pins s1 σ H1 _ I1 q) fun us s2 z => ?_) hst hpl)
  obtain ⟨vs, H2, I2, r, q2⟩ := z
  exact ⟨I2.kIn, runG (us := .ref a :: us) (vs := .ref a :: vs) F hr hG hb hd hx I2 (.cons rfl r) q2⟩
end
/-! ### the law's end -/
/-- the law's def at an abstract heap in which at most the script is tracked -/
theorem lawAt {P : Program} {w : World} {K : PySem.W.Frag} {mg mb : Str → Option Value} {CX : CXT} {k : Nat} {fa a : Addr} {fd : FuncData} {x : Str} {sp : Sp} {s₁ : Shared} {H : Hp}
    (KX : K.In s₁.heap) (hns : s₁.heap.Ns mainGlobals mg) (hb : s₁.heap.Ns builtinsNs mb) (hbb : ∀ x : Str, x ≠ "__name__" → mb x = bootBuiltins x) (hlim : s₁.heap.NoLimit) (hg : s₁.gens = #[]) (hr : Room k callerA)
    (F : ∀ base : Heap, K.In base → base.Ns mainGlobals mg → FnG P w K mg base CX k fa fd [x] sp) (hbind : ∀ (s : Shared) (u : Value), BindsTo s fd ⟨[u], []⟩ [(x, u)])
    (hsp : sp [.ref a] H (fun v _ => v = .bl true) E0) (hCX : ∀ e s', CX [] H s₁ E0 e s' → False)
    (hok : HOk P w H s₁.heap) (free : ∀ b o, s₁.heap.get? b = some o → (∃ es ep, o.data = .dict es ep) ∨ (K.lookup b).isSome = true → H b = none)
    (frz : ∀ b u, H b = some u → ∃ ob xs, u = .frz ob xs) :
    codeAny (model P w) callerA (.call (.ref fa) ⟨[.ref a], []⟩) (fun r s' => r = .ok (.ret (.bool true)) ∧ OldK s₁.heap s'.heap ∧ s'.os = s₁.os ∧ AllBare s'.gens) s₁ := by
  have ns : ∀ {b : Addr} {m : Str → Option Value}, s₁.heap.Ns b m → (hidT s₁.heap H).Ns b m := fun {b m} z => by
    obtain ⟨o, es, ep, e, d, r⟩ := z
    exact ⟨o, es, ep, hidT_get e (free b o e (.inl ⟨es, ep, d⟩)), d, r⟩
  have kb : K.In (hidT s₁.heap H) := fun b o e => hidT_get (KX b o e) (free b o (KX b o e) (.inr (by rw [e]; rfl)))
  have md : Mod K mg (hidT s₁.heap H) := by
    obtain ⟨mc, h1, h2⟩ := hlim
    exact ⟨kb, ns hns, ⟨mb, ns hb, hbb⟩, mc, ns h1, h2⟩
  have e0 : Env0 P w K mg (hidT s₁.heap H) callerA [] s₁ H :=
    { frames := rfl, mod := md, bs := fun b o e => of_hidT e, bsz := Nat.le_of_eq (hidT_size _ _), funs := trivial, frf := fun b z => (List.not_mem_nil z).elim, hok := hok, bare := .of_eq hg }
  refine codeAny_mono ((F _ kb (ns hns)).run callerA [] s₁ H ⟨[.ref a], []⟩ [.ref a] [.ref a] _ _ hr rfl e0 (hbind s₁ (.ref a)) (.cons rfl .nil) hsp) fun r s' h => ?_
  match r, h with
  | .error e, h => exact (hCX e s' h).elim
  | .ok .next, h => exact h.elim
  | .ok .brk, h => exact h.elim
  | .ok .cont, h => exact h.elim
  | .ok (.ret u), h =>
    obtain ⟨v, H', os, bare, un, hok', rv, q⟩ := h
    have q' : v = .bl true := q
    subst q'
    cases rv
    refine ⟨rfl, OldK.of_keep fun b o e => ?_, os, bare⟩
    cases eb : H b with
    | none => exact un.keep b o e eb (fun z => (List.not_mem_nil z).elim) (fun z => (List.not_mem_nil z).elim)
    | some u =>
      obtain ⟨ob, xs, rfl⟩ := frz b u eb
      have e1 := (hok b _ eb).1
      rw [e] at e1
      cases e1
      exact (hok' b _ (un.frzs b _ xs eb)).1
theorem walkG {l : PySem.W.OpenLaw} {n k : Nat} {q : Program} {loose : List Str} {XP : (Str → Option Value) → Heap → Prop} {YP : World → Heap → Prop} {d : DefRec} {K : Params → PySem.W.Frag} {CX : World → CXT} {sp : World → Sp} {x : Str}
    (hn : l.most = some n) (hn2 : n ≤ sizeLine) (hdf : d.params.defaults = []) (hr : Room k callerA)
    (hY : ∀ (w : World) (h : Heap), YP w h → (K w.params).In h)
    (F : ∀ (w : World) (mg : Str → Option Value) (fa : Addr) (h : Heap), (K w.params).In h → h.Ns mainGlobals mg → mg d.name = some (.ref fa) →
      ∃ fd : FuncData, (∀ (s : Shared) (u : Value), BindsTo s fd ⟨[u], []⟩ [(x, u)]) ∧
        ∀ base : Heap, (K w.params).In base → base.Ns mainGlobals mg → FnG l.prog w (K w.params) mg base (CX w) k fa fd [x] (sp w))
    (hsp : ∀ (w : World) (H : Hp) (a : Addr) (ns : List Int), ns.length ≤ n → SqL (K w.params) H a (ns.map V.int) → (H a = none ∨ (∃ o u, H a = some (.frz o u)) ∨ H a = some (.lst (ns.map V.int))) → sp w [.ref a] H (fun v _ => v = .bl true) E0)
    (hCX : ∀ (w : World) (H : Hp) (s : Shared) (e : Value) (s' : Shared), CX w [] H s E0 e s' → False) :
    PySem.W.WalkO q loose XP YP l.row.toRowW d [] (fun f vs => PySem.call f vs) := by
  refine Att.attach_call hn hdf fun w s₀ s₁ mg mb fa o pm cd doc a vs ns G Y ho hd hcd hmg hobj hints hlen hg => ?_
  have KX := hY w _ Y
  obtain ⟨fd, hb, hF⟩ := F w mg fa _ KX G.T.g hmg
  have rv := vals_ints hints
  have lv := hints.length
  have hl : ns.length ≤ sizeLine := Nat.le_trans hlen hn2
  cases hk : (K w.params).lookup a with
  | some ob =>
    have e := KX a ob hk
    rw [hobj] at e
    cases e
    have sq : SqL (K w.params) (fun _ => none) a (ns.map V.int) := .inr ⟨_, vs.toArray, _, hk, rfl, rfl, rfl, by rw [List.size_toArray, lv]; exact hl, by simpa using rv⟩
    exact lawAt (H := fun _ => none) KX G.T.g G.T.b G.T.builtins G.T.nolimit hg hr hF hb (hsp w _ a ns hlen sq (.inl rfl)) (fun e s' => hCX w _ s₁ e s') (fun b u z => by cases z) (fun _ _ _ _ => rfl) (fun b u z => by cases z)
  | none =>
    let Hs : Hp := fun b => if b = a then some (.frz { cls := .type "list", data := .seq vs.toArray } (.lst (ns.map V.int))) else none
    have ha : Hs a = some (.frz { cls := .type "list", data := .seq vs.toArray } (.lst (ns.map V.int))) := if_pos rfl
    have only : ∀ b u, Hs b = some u → b = a ∧ u = .frz { cls := .type "list", data := .seq vs.toArray } (.lst (ns.map V.int)) := fun b u z => by
      by_cases hb : b = a
      · have z' := (if_pos hb).symm.trans z
        exact ⟨hb, (Option.some.inj z').symm⟩
      · have z' := (if_neg hb).symm.trans z
        cases z'
    have sq : SqL (K w.params) Hs a (ns.map V.int) := .inl (.inr ⟨_, ha⟩)
    refine lawAt (H := Hs) KX G.T.g G.T.b G.T.builtins G.T.nolimit hg hr hF hb (hsp w _ a ns hlen sq (.inr (.inl ⟨_, _, ha⟩))) (fun e s' => hCX w _ s₁ e s') (fun b u z => ?_) (fun b o e z => ?_) (fun b u z => ?_)
    · obtain ⟨rfl, rfl⟩ := only b u z
      exact ⟨hobj, by rw [List.length_map]; exact hl, vs, _, rv, hobj⟩
    · by_cases hb : b = a
      · subst hb
        rcases z with ⟨es, ep, z⟩ | z
        · rw [hobj] at e
          cases e
          cases z
        · rw [hk] at z
          cases z
      · exact if_neg hb
    · obtain ⟨_, rfl⟩ := only b u z
      exact ⟨_, _, rfl⟩
end HG

namespace HG
open PySem L2
theorem never0 {CX : CXT} {P : Program} {w : World} {K : PySem.W.Frag} {mg : Str → Option Value} {base : Heap} {N : List Str} {qual : Str} {scope : Scope} {f : Addr} {cdv : Value} {A : Around} {outer : List Env} {s : Shared} {H : Hp} {E : XK} :
    PassesOwn (model (cxOf CX P w K mg base N qual scope f cdv A outer s H E).prog (cxOf CX P w K mg base N qual scope f cdv A outer s H E).w) (cxOf CX P w K mg base N qual scope f cdv A outer s H E).A (cxOf CX P w K mg base N qual scope f cdv A outer s H E).env (cxOf CX P w K mg base N qual scope f cdv A outer s H E).xe :=
  PassesOwn.leaving
end HG

namespace HG
open PySem L2
mutual
theorem dp_noDict {K : PySem.W.Frag} {H : Hp} : ∀ {x : V} {d : PyData}, Dp K H x d → d.hasDict = false
  | _, _, .non => rfl
  | _, _, .bl _ => rfl
  | _, _, .int _ => rfl
  | _, _, .str _ => rfl
  | _, _, .lst _ h => dpAll_noDict h
  | _, _, .tup _ h => dpAll_noDict h
theorem dpAll_noDict {K : PySem.W.Frag} {H : Hp} : ∀ {xs : List V} {ds : List PyData}, DpAll K H xs ds → PyData.hasDictAll ds = false
  | _, _, .nil => rfl
  | _, _, .cons (d := d) (ds := ds) h t => by
    have h1 := dp_noDict h
    have h2 := dpAll_noDict t
    show (d.hasDict || PyData.hasDictAll ds) = false
    rw [h1, h2]
    rfl
end
/-- repr(x): a whole number, or data -/
def cRepr (K : PySem.W.Frag) : List V → Hp → VK → Prop := fun xs H Q => match xs with
  | [.int i] => i.natAbs.log2 < 1920 ∧ Q (.str (toString i)) H
  | [.ref a] => match dataF 8 H (.ref a) with
    | some d => d.showable = true ∧ d.depth ≤ 60 ∧ d.shown.length ≤ sizeLine ∧ Q (.str d.shown) H
    | none => False
  | _ => False
theorem call_reprU {X : Cx} (hG : GA X.A) (hu : X.A.units + 64 < cLine) : CallR X (.builtin "repr") (cRepr X.K) := by
  intro pins s σ H xs us Q I r h
  unfold cRepr at h
  split at h
  · exact SkE.call_repr_int pins s σ H _ us Q I r ⟨_, rfl, h.1, h.2⟩
  · rename_i a
    split at h
    · rename_i d e
      obtain ⟨h1, h2, h3, h4⟩ := h
      have D : Dp X.K H (.ref a) d := dp_of e
      have nd := dp_noDict D
      cases r with
      | cons r1 rn =>
        cases rn
        cases r1
        obtain ⟨as, rd⟩ := Dp.reads I d (.ref a) (.ref a) D rfl
        exact repr_of_reads' rd h1 (fun z => by rw [nd] at z; cases z) hG (by omega) (fun _ _ e => e) (fun h' u tk hk => ⟨.str d.shown, H, I.kept hk, ⟨_, rfl⟩, h4⟩) h3
    · exact h.elim
  · exact h.elim
end HG

namespace HG
open PySem L2
/-- by what stands on the left, on the right -/
def onIns (r1 r2 : R2) : R2 := fun x y H Q => match x with
  | .ref a => match H a with
    | some (.ins _ _ _) => r1 (.ref a) y H Q
    | _ => r2 (.ref a) y H Q
  | x => r2 x y H Q
theorem op_onIns {X : Cx} {f : Value → Value → Sem Value} {r1 r2 : R2} (h1 : OpR X f r1) (h2 : OpR X f r2) : OpR X f (onIns r1 r2) := opImp (h1.or h2) fun x y H Q h => by
  unfold onIns at h
  split at h
  · split at h
    · exact .inl h
    · exact .inr h
  · exact .inr h
def onInsR (r1 r2 : R2) : R2 := fun x y H Q => match y with
  | .ref a => match H a with
    | some (.ins _ _ _) => r1 x (.ref a) H Q
    | _ => r2 x (.ref a) H Q
  | y => r2 x y H Q
theorem op_onInsR {X : Cx} {f : Value → Value → Sem Value} {r1 r2 : R2} (h1 : OpR X f r1) (h2 : OpR X f r2) : OpR X f (onInsR r1 r2) := opImp (h1.or h2) fun x y H Q h => by
  unfold onInsR at h
  split at h
  · split at h
    · exact .inl h
    · exact .inr h
  · exact .inr h
theorem onIns_yes {r1 r2 : R2} {a : Addr} {y : V} {H : Hp} {Q : VK} {C dx : Addr} {fs : List (Str × V)} (h : H a = some (.ins C dx fs)) : onIns r1 r2 (.ref a) y H Q = r1 (.ref a) y H Q := by
  simp only [onIns, h]
theorem onIns_int {r1 r2 : R2} {i : Int} {y : V} {H : Hp} {Q : VK} : onIns r1 r2 (.int i) y H Q = r2 (.int i) y H Q := rfl
theorem onIns_str {r1 r2 : R2} {i : Str} {y : V} {H : Hp} {Q : VK} : onIns r1 r2 (.str i) y H Q = r2 (.str i) y H Q := rfl
theorem onIns_lst {r1 r2 : R2} {a : Addr} {y : V} {H : Hp} {Q : VK} {xs : List V} (h : H a = some (.lst xs)) : onIns r1 r2 (.ref a) y H Q = r2 (.ref a) y H Q := by
  simp only [onIns, h]
theorem onInsR_yes {r1 r2 : R2} {a : Addr} {x : V} {H : Hp} {Q : VK} {C dx : Addr} {fs : List (Str × V)} (h : H a = some (.ins C dx fs)) : onInsR r1 r2 x (.ref a) H Q = r1 x (.ref a) H Q := by
  simp only [onInsR, h]
theorem onInsR_int {r1 r2 : R2} {x : V} {i : Int} {H : Hp} {Q : VK} : onInsR r1 r2 x (.int i) H Q = r2 x (.int i) H Q := rfl
/-- -x -/
structure NegF (K : PySem.W.Frag) (C f : Addr) : Prop where
  fn : PySem.W.findIn K (.ref C) "__neg__" = some (some (.ref f))
  isf : PySem.W.isFn K (.ref f) = true
def uNegO (C : Addr) (sp : Sp) : V → Hp → VK → Prop := fun x H Q => match x with
  | .int i => Q (.int (-i)) H
  | x => isIns C H x ∧ sp [x] H Q E0
theorem un_negO {X : Cx} {k : Nat} {C f : Addr} {sp : Sp} (B : NegF X.K C f) (O : Own X k f sp) : UnR X (unaryOp .USub) (uNegO C sp) := by
  intro pins s σ H x v Q I rx h
  unfold uNegO at h
  split at h
  · exact un_neg pins s σ H _ v Q I rx ⟨_, rfl, h⟩
  · obtain ⟨h1, h3⟩ := h
    obtain ⟨a, dx, fs, rfl, ea⟩ := isIns_out h1
    cases rx
    obtain ⟨mA, J, _⟩ := ins_get I.hok ea
    obtain ⟨od, J, _⟩ := J.look
    obtain ⟨m, hF⟩ := I.fr
    exact PySem.W.ksp_neg hF I.ok.mod.kin J B.fn B.isf (O.run (vs := [.ref a]) I (.cons rfl .nil) h3)
/-! C(k = v, ..) -/
section
variable {X : Cx} {CX : CXT} {k : Nat} {f C : Addr} {fd : FuncData} {ps ks : List Str} {sp : Sp} {E : XK} {x : Str} {p pos : Pos} {kws : List Keyword} {tk : TA} {g : List Value → List Value → List Value} {gV : List V → List V → List V}
theorem pe_makeKG0 {n : Nat} (M : Mk X.K C f) (F : FnG X.prog X.w X.K X.mg X.base CX k f fd ps sp) (hr : Room (k + 1) X.A) (hG : GA X.A) (hg : Gl X x) (hm : X.mg x = some (.ref C)) (hb : KBn X.K fd ps 1 ks g gV) (hx : Passes CX X E) (hkw : PK X kws tk)
    (hall : (backToKw pos (keywordEach kws X.env)).all (·.1.isSome) = true := by rfl) (hks : (backToKw pos (keywordEach kws X.env)).filterMap (·.1) = ks := by rfl) (hdb : (x == ("__debug__" : Str)) = false := by decide)
    (hpl : ((backTo pos (starEach [] X.env)).any (·.1) || (backToKw pos (keywordEach kws X.env)).any (·.1.isNone)) = false := by rfl)
    (hnl : ks.length = n := by rfl) : PE X (.Call (.Name x p) [] kws pos) (tMakeK C 0 n sp gV E tNil tk) := by
  subst hnl
  refine ⟨fun pins s σ H Q I h => wpAny_Call_Name_kw (ld_glob I hg hm (PySem.W.callWith_KW0 (h₀ := X.base) I.ok.mod.kin M.kp hall (thn (hkw.run pos pins s σ H _ I h) fun ws s2 z => ?_) hpl) hdb)⟩
  obtain ⟨zs, H2, I2, rz, l1, l2, q2⟩ := z
  refine ⟨I2.kIn, ?_⟩
  rw [hks]
  have hq := q2 (s2.heap.objs.size + 1) s2.heap.objs.size (I2.hok.fresh (Nat.le_succ _)) (I2.hok.fresh (Nat.le_refl _)) (Nat.ne_of_lt (Nat.lt_succ_self _))
  have r1 : Vals [V.ref (s2.heap.objs.size + 1)] [Value.ref (s2.heap.objs.size + 1)] := .cons rfl .nil
  exact makeG (us := []) M F hr hG hx I2 (fun s' kin => hb.to s' [Value.ref (s2.heap.objs.size + 1)] ws kin rfl (rz.length.symm.trans l2)) (hb.rel r1 rz) hq
/-- e.f, a property -/
theorem pe_propG {p' g' : Addr} {f' : Str} {e : Expr} {ta : TE} (he : PE X e ta) (c : Cls X.K C) (hp : PropOf X.K C f' p' f) (F : FnG X.prog X.w X.K X.mg X.base CX k f fd ps sp) (hr : Room (k + 1) X.A) (hG : GA X.A) (hb : Binds X.K fd ps []) (hx : Passes CX X.nox E0)
    (hab : attributeBase e f' X.env (eval e X.env) = eval e X.env) : PE X (.Attribute e f' pos) (tProp C sp [] E0 ta) := by
  refine ⟨fun pins s σ H Q I h => attr_of hab (thn (he.run pins s σ H _ I h) fun u s1 z => ?_)⟩
  obtain ⟨v, H1, I1, rx, a, dx, fs, rfl, ea, q⟩ := z
  cases rx
  obtain ⟨mA, O, _⟩ := ins_get I1.hok ea
  obtain ⟨od, J, _⟩ := O.look
  obtain ⟨rest, hrec⟩ := hp.rec_
  have hc : (PySem.W.clsIn X.K C).isSome = true := by
    obtain ⟨cd, hc, _⟩ := PySem.W.any_some c.hd
    rw [hc]
    rfl
  have I2 := I1.tok (s1.toks + 1)
  refine PySem.W.get_bind I1.kIn J (PySem.W.plainGet_of (c.get f')).1 (PySem.W.findObj_data hc hp.at_ hp.get hp.tak) (PySem.W.plainGet_of (c.get f')).2 (wpAny_call (PySem.W.prop_get (s := { s1 with toks := s1.toks + 1 }) I1.kIn hrec ?_))
  have hl : [Value.ref a].length = ps.length := F.len _ _ _ _ q
  have hb' := hb { s1 with toks := s1.toks + 1 } [Value.ref a] I2.kIn (by simpa using hl)
  rw [List.append_nil] at hb'
  refine codeAny_mono (F.run X.A.in1 X.stack { s1 with toks := s1.toks + 1 } H1 ⟨[.ref a], []⟩ [.ref a] [.ref a] Q E0 hr.in1 (ga_in1 hG) I2.env0.in1 hb' (.cons rfl .nil) q) fun r s' hq => ?_
  cases r with
  | error er => exact (hx pins σ H1 _ er s' (I2.wish _) hq).elim
  | ok fl =>
    cases fl with
    | ret u =>
      obtain ⟨v, H', I3, rv, q3⟩ := I2.after hq
      show wpAny _ _ (handedOut u) _ _ _
      rw [PySem.W.handedOut_of (handed_of rv)]
      exact wpAny_pure ⟨v, H', I3, rv, q3⟩
    | next => exact hq.elim
    | brk => exact hq.elim
    | cont => exact hq.elim
end
end HG
namespace HG
theorem _root_.L2.Room.units1 {k : Nat} {A : PySem.Around} (r : L2.Room k A) : A.units + 1 < PySem.cLine := by have := r.un; omega
end HG
namespace HG
open PySem L2
/-! ### attributes -/
def fldR (K : PySem.W.Frag) (x : V) (f : Str) (H1 : Hp) (Q : VK) : Prop := ∃ a C dx fs v, x = .ref a ∧ H1 a = some (.ins C dx fs) ∧ Cls K C ∧ NoAttr K C f ∧ fs.lookup f = some v ∧ Q v H1
theorem tFld_eq {K : PySem.W.Frag} {ta : TE} {f : Str} {σ : L2.St} {H : Hp} {Q : VK} : tFld K ta f σ H Q = ta σ H fun x H1 => fldR K x f H1 Q := rfl
theorem fldR_eq {K : PySem.W.Frag} {a C dx : Addr} {f : Str} {fs : List (Str × V)} {v : V} {H : Hp} {Q : VK} (h : H a = some (.ins C dx fs)) (c : Cls K C) (n : NoAttr K C f) (l : fs.lookup f = some v) : fldR K (.ref a) f H Q = Q v H := by
  refine propext ⟨?_, fun q => ⟨a, C, dx, fs, v, rfl, h, c, n, l, q⟩⟩
  rintro ⟨a', C', dx', fs', v', e1, e2, _, _, e3, q⟩
  cases e1
  rw [h] at e2
  cases e2
  rw [l] at e3
  cases e3
  exact q
theorem st_fld {K : PySem.W.Frag} {ta tv : TE} {f : Str} {D : Ends} {σ : L2.St} {H : Hp} (h : tv σ H fun y H1 => ta σ H1 fun x H2 => ∃ a C dx fs, x = .ref a ∧ H2 a = some (.ins C dx fs) ∧ Cls K C ∧ NoAttr K C f ∧ fs.length < 1000 ∧ D.nx σ (upd H2 a (.ins C dx (putF f y fs)))) : sFld K ta tv f D σ H := h
theorem isIns_of {C a dx : Addr} {H : Hp} {fs : List (Str × V)} (h : H a = some (.ins C dx fs)) : isIns C H (.ref a) := by
  simp only [isIns, h]
end HG

/-! Sizes of numbers; fractions in lowest terms. No program in sight. -/
namespace HG
open PySem L2
def Bn (m : Nat) (x : Int) : Prop := x.natAbs < 2 ^ m
section
variable {m n : Nat} {x y : Int}
theorem Bn.bits (h : Bn m x) : Builtin.Int.intBits x ≤ m := intBits_le_iff.mpr h
theorem Bn.of_bits (h : Builtin.Int.intBits x ≤ m) : Bn m x := intBits_le_iff.mp h
theorem Bn.up (h : Bn m x) (q : m ≤ n) : Bn n x := Nat.lt_of_lt_of_le h (Nat.pow_le_pow_right (by decide) q)
theorem Bn.mul (h : Bn m x) (q : Bn n y) : Bn (m + n) (x * y) := .of_bits (intBits_mul_le h.bits q.bits)
theorem Bn.add (h : Bn m x) (q : Bn m y) : Bn (m + 1) (x + y) := by have z := intBits_add_le h.bits q.bits; rw [Nat.max_self] at z; exact .of_bits z
theorem Bn.sub (h : Bn m x) (q : Bn m y) : Bn (m + 1) (x - y) := by have z := intBits_sub_le h.bits q.bits; rw [Nat.max_self] at z; exact .of_bits z
theorem Bn.neg (h : Bn m x) : Bn m (0 - x) := by unfold Bn at *; rw [Int.zero_sub, Int.natAbs_neg]; exact h
theorem Bn.le (h : Bn m x) (q : y.natAbs ≤ x.natAbs) : Bn m y := Nat.lt_of_le_of_lt q h
theorem Bn.mulok (h : Bn m x) (q : Bn n y) (l : m + n ≤ 134217728 := by decide) : IntMulOk x y := .of_le h.bits q.bits l
theorem Bn.log (h : Bn (m + 1) x) : x.natAbs.log2 ≤ m := by
  by_cases h0 : x.natAbs = 0
  · rw [h0]; exact Nat.zero_le _
  · exact Nat.le_of_lt_succ ((Nat.log2_lt h0).mpr h)
theorem Bn.div (h : Bn m x) : Bn m (x / y) := h.le (Int.natAbs_ediv_le_natAbs x y)
end
/-- lowest terms -/
def ru (p q : Int) : Int := p / (Int.gcd p q : Int)
def rl (p q : Int) : Int := q / (Int.gcd p q : Int)
section
variable {p q k r s : Int}
theorem gcd_pos (h : 0 < q) : 0 < (Int.gcd p q : Int) := by
  have : 0 < Int.gcd p q := Int.gcd_pos_of_ne_zero_right _ (by omega)
  omega
theorem gcd_pos_ne (h : q ≠ 0) : 0 < (Int.gcd p q : Int) := by
  have : 0 < Int.gcd p q := Int.gcd_pos_of_ne_zero_right _ h
  omega
theorem ru_mul : (Int.gcd p q : Int) * ru p q = p := Int.mul_ediv_cancel' (Int.gcd_dvd_left _ _)
theorem rl_mul : (Int.gcd p q : Int) * rl p q = q := Int.mul_ediv_cancel' (Int.gcd_dvd_right _ _)
theorem rl_pos (h : 0 < q) : 0 < rl p q := by
  have h1 := gcd_pos (p := p) h
  have h2 := rl_mul (p := p) (q := q)
  by_cases z : 0 < rl p q
  · exact z
  · have := Int.mul_nonpos_of_nonneg_of_nonpos (Int.le_of_lt h1) (Int.not_lt.mp z)
    omega
theorem r_scale (hk : 0 < k) : ru (k * p) (k * q) = ru p q ∧ rl (k * p) (k * q) = rl p q := by
  unfold ru rl
  rw [Int.gcd_mul_left]
  have e : ((k.natAbs * Int.gcd p q : Nat) : Int) = k * (Int.gcd p q : Int) := by
    rw [Int.natCast_mul, Int.natAbs_of_nonneg (Int.le_of_lt hk)]
  rw [e]
  exact ⟨Int.mul_ediv_mul_of_pos _ _ hk, Int.mul_ediv_mul_of_pos _ _ hk⟩
theorem r_one : ru k 1 = k ∧ rl k 1 = 1 := by
  unfold ru rl
  rw [Int.gcd_one]
  exact ⟨Int.ediv_one _, rfl⟩
theorem bn_ru {m : Nat} (h : Bn m p) : Bn m (ru p q) := h.div
theorem bn_rl {m : Nat} (h : Bn m q) : Bn m (rl p q) := h.div
/-- sums of fractions in lowest terms -/
theorem r_add (hq : 0 < q) (hs : 0 < s) : ru (ru p q * rl r s + ru r s * rl p q) (rl p q * rl r s) = ru (p * s + r * q) (q * s) ∧ rl (ru p q * rl r s + ru r s * rl p q) (rl p q * rl r s) = rl (p * s + r * q) (q * s) := by
  have g1 := gcd_pos (p := p) hq
  have g2 := gcd_pos (p := r) hs
  have e1 := ru_mul (p := p) (q := q)
  have e2 := rl_mul (p := p) (q := q)
  have e3 := ru_mul (p := r) (q := s)
  have e4 := rl_mul (p := r) (q := s)
  generalize ru p q = a at *
  generalize rl p q = b at *
  generalize ru r s = c at *
  generalize rl r s = d at *
  generalize (Int.gcd p q : Int) = g at *
  generalize (Int.gcd r s : Int) = h at *
  subst e1 e2 e3 e4
  have hk : 0 < g * h := Int.mul_pos g1 g2
  have z := r_scale (p := a * d + c * b) (q := b * d) hk
  have y1 : g * h * (a * d + c * b) = g * a * (h * d) + h * c * (g * b) := by
    rw [Int.mul_add]; ac_rfl
  have y2 : g * h * (b * d) = g * b * (h * d) := by ac_rfl
  rw [y1, y2] at z
  exact ⟨z.1.symm, z.2.symm⟩
theorem r_neg (hq : 0 < q) : ru (0 - ru p q) (rl p q) = ru (0 - p) q ∧ rl (0 - ru p q) (rl p q) = rl (0 - p) q := by
  have g1 := gcd_pos (p := p) hq
  have e1 := ru_mul (p := p) (q := q)
  have e2 := rl_mul (p := p) (q := q)
  generalize ru p q = a at *
  generalize rl p q = b at *
  generalize (Int.gcd p q : Int) = g at *
  subst e1 e2
  have z := r_scale (p := 0 - a) (q := b) g1
  have y : g * (0 - a) = 0 - g * a := by rw [Int.mul_sub, Int.mul_zero]
  rw [y] at z
  exact ⟨z.1.symm, z.2.symm⟩
theorem r_mul (hq : 0 < q) : ru (ru p q * k) (rl p q) = ru (p * k) q ∧ rl (ru p q * k) (rl p q) = rl (p * k) q := by
  have g1 := gcd_pos (p := p) hq
  have e1 := ru_mul (p := p) (q := q)
  have e2 := rl_mul (p := p) (q := q)
  generalize ru p q = a at *
  generalize rl p q = b at *
  generalize (Int.gcd p q : Int) = g at *
  subst e1 e2
  have z := r_scale (p := a * k) (q := b) g1
  rw [← Int.mul_assoc] at z
  exact ⟨z.1.symm, z.2.symm⟩
theorem r_lt (hq : 0 < q) (hs : 0 < s) : (ru p q * rl r s < ru r s * rl p q) ↔ p * s < r * q := by
  have g1 := gcd_pos (p := p) hq
  have g2 := gcd_pos (p := r) hs
  have e1 := ru_mul (p := p) (q := q)
  have e2 := rl_mul (p := p) (q := q)
  have e3 := ru_mul (p := r) (q := s)
  have e4 := rl_mul (p := r) (q := s)
  generalize ru p q = a at *
  generalize rl p q = b at *
  generalize ru r s = c at *
  generalize rl r s = d at *
  generalize (Int.gcd p q : Int) = g at *
  generalize (Int.gcd r s : Int) = h at *
  subst e1 e2 e3 e4
  have hk : 0 < g * h := Int.mul_pos g1 g2
  have y1 : g * a * (h * d) = g * h * (a * d) := by ac_rfl
  have y2 : h * c * (g * b) = g * h * (c * b) := by ac_rfl
  rw [y1, y2]
  exact ⟨fun z => Int.mul_lt_mul_of_pos_left z hk, fun z => Int.lt_of_mul_lt_mul_left z (Int.le_of_lt hk)⟩
theorem r_le (hq : 0 < q) (hs : 0 < s) : (ru p q * rl r s ≤ ru r s * rl p q) ↔ p * s ≤ r * q := by
  have z := r_lt (p := r) (q := s) (r := p) (s := q) hs hq
  constructor
  · intro h
    refine Int.not_lt.mp fun y => ?_
    have := z.mpr y
    omega
  · intro h
    refine Int.not_lt.mp fun y => ?_
    have := z.mp y
    omega
theorem r_eq (hq : 0 < q) (hs : 0 < s) : (ru p q = ru r s ∧ rl p q = rl r s) ↔ p * s = r * q := by
  constructor
  · rintro ⟨h1, h2⟩
    have e1 := ru_mul (p := p) (q := q)
    have e2 := rl_mul (p := p) (q := q)
    have e3 := ru_mul (p := r) (q := s)
    have e4 := rl_mul (p := r) (q := s)
    generalize ru p q = a at *
    generalize rl p q = b at *
    generalize ru r s = c at *
    generalize rl r s = d at *
    generalize (Int.gcd p q : Int) = g at *
    generalize (Int.gcd r s : Int) = h at *
    subst h1 h2 e1 e2 e3 e4
    ac_rfl
  · intro h
    have z1 := r_scale (p := p) (q := q) hs
    have z2 := r_scale (p := r) (q := s) hq
    have y1 : s * p = q * r := by rw [Int.mul_comm s p, h, Int.mul_comm]
    have y2 : s * q = q * s := Int.mul_comm _ _
    rw [y1, y2] at z1
    exact ⟨z1.1.symm.trans z2.1, z1.2.symm.trans z2.2⟩
end
/-- one step of the divisor's loop -/
theorem gcd_step {a b : Int} (h : 0 < b) : Int.gcd b (a % b) = Int.gcd a b := by
  rw [Int.gcd_comm a b, Int.emod_def, Int.gcd_sub_mul_left_right]
end HG

/-! The pen of the laws' scripts: what the laws' drawing defs are asked. -/
namespace HG
open PySem L2
/-- the pen at p, at most n cells used -/
def Pen (H : Hp) (p : Addr) (n : Nat) : Prop := ∃ (l : Addr) (cells : List Int) (turn rest : Int), H p = some (.lst [.ref l, .int turn, .int rest]) ∧ H l = some (.lst (cells.map V.int)) ∧ cells.length ≤ 63 ∧ 0 ≤ turn ∧ turn ≤ n ∧ 0 ≤ rest
def Grow (H H' : Hp) : Prop := ∀ b o, H b = some o → H' b = some o
theorem Grow.refl {H : Hp} : Grow H H := fun _ _ h => h
theorem Grow.trans {H H1 H2 : Hp} (h : Grow H H1) (q : Grow H1 H2) : Grow H H2 := fun b o e => q b o (h b o e)
theorem Grow.new {H : Hp} {p : Addr} {o : HO} (h : H p = none) : Grow H (upd H p o) := fun b u e => by
  rw [upd_ne (fun z => by rw [z, h] at e; cases e)]; exact e
theorem Grow.keep {p : Addr} {H H' : Hp} (h : Grow H H') : Keep p H H' := fun b o _ e => h b o e
theorem Keep.refl {p : Addr} {H : Hp} : Keep p H H := fun _ _ _ e => e
theorem Keep.trans {p : Addr} {H H1 H2 : Hp} (h : Keep p H H1) (q : Keep p H1 H2) : Keep p H H2 := fun b o n e => q b o n (h b o n e)
theorem Pen.grow {H H' : Hp} {p : Addr} {n : Nat} (h : Pen H p n) (g : Grow H H') : Pen H' p n := by
  obtain ⟨l, c, t, r, h1, h2, h3⟩ := h
  exact ⟨l, c, t, r, g _ _ h1, g _ _ h2, h3⟩
theorem Pen.up {H : Hp} {p : Addr} {m n : Nat} (h : Pen H p m) (g : m ≤ n) : Pen H p n := by
  obtain ⟨l, c, t, r, h1, h2, h3, h4, h5, h6⟩ := h
  exact ⟨l, c, t, r, h1, h2, h3, h4, by omega, h6⟩
theorem Pen.lst {H : Hp} {p : Addr} {n : Nat} (h : Pen H p n) : ∃ xs, H p = some (.lst xs) := by
  obtain ⟨l, c, t, r, h1, h2, h3⟩ := h
  exact ⟨_, h1⟩
/-- what is no list is not the pen -/
theorem Pen.other {H : Hp} {p b : Addr} {n : Nat} {C dx : Addr} {fs : List (Str × V)} (h : Pen H p n) (q : H b = some (.ins C dx fs)) : b ≠ p := by
  obtain ⟨xs, e⟩ := h.lst
  rintro rfl
  rw [e] at q
  cases q
theorem Pen.fresh {H : Hp} {p b : Addr} {n : Nat} (h : Pen H p n) (q : H b = none) : b ≠ p := by
  obtain ⟨xs, e⟩ := h.lst
  rintro rfl
  rw [e] at q
  cases q
def spPen (K : PySem.W.Frag) : Sp := fun vs H Q _ => match vs with
  | [.ref a] => ∃ ns : List Int, SqL K H a (ns.map V.int) ∧ ∀ p H', Pen H' p 0 → Grow H H' → Q (.ref p) H'
  | _ => False
def spDraw : Sp := fun vs H Q _ => match vs with
  | [.ref p, .int many] => ∃ n : Nat, Pen H p n ∧ n ≤ 999999 ∧ 0 < many ∧ many.natAbs.log2 < 9000 ∧ ∀ (d : Int) (H' : Hp), 0 ≤ d → d < many → Pen H' p (n + 1) → Keep p H H' → Q (.int d) H'
  | _ => False
def spPick : Sp := fun vs H Q _ => match vs with
  | [.ref p, .ref s] => ∃ (n : Nat) (xs : List V), Pen H p n ∧ n ≤ 999999 ∧ H s = some (.lst xs) ∧ s ≠ p ∧ xs ≠ [] ∧ xs.length ≤ 100000 ∧ ∀ (x : V) (H' : Hp), x ∈ xs → Pen H' p (n + 1) → Keep p H H' → Q x H'
  | _ => False
theorem log_small {m : Int} (h0 : 0 < m) (h : m ≤ 1000000) : m.natAbs.log2 < 9000 := by
  have h1 : m.natAbs < 2 ^ 20 := by omega
  have h2 : m.natAbs.log2 < 20 := (Nat.log2_lt (by omega)).mpr h1
  omega
end HG
namespace HG
open PySem L2
/-- the law's def -/
def spLaw (K : PySem.W.Frag) : Sp := fun vs H Q _ => match vs with
  | [.ref a] => (∃ ns : List Int, SqL K H a (ns.map V.int)) ∧ ∀ H', Q (.bl true) H'
  | _ => False
end HG

namespace HG
open PySem L2
theorem shown_int_len {i : Int} {m : Nat} (h : Bn (m + 1) i) : (PyData.shown (.int i)).length ≤ m + 2 := by
  have e := int_text_length_le (a := i) (k := m + 1) (by omega) (Nat.lt_succ_of_le h.log)
  show (Str.ofString (toString i)).length ≤ m + 2
  rw [ofString_length]; exact e
theorem showable_int {i : Int} (h : Bn 1900 i) : PyData.showable (.int i) = true := by
  have := Bn.log (m := 1899) h
  show decide (i.natAbs.log2 < 1920) = true
  exact decide_eq_true (by omega)
theorem weight_int {i : Int} (h : Bn 1900 i) : PyData.weight (.int i) ≤ 1900 := by
  have := Bn.log (m := 1899) h
  show (if i == 0 then 0 else i.natAbs.log2 + 1) ≤ 1900
  split <;> omega
theorem leaves_ints : ∀ ns : List Int, (∀ n ∈ ns, Bn 1900 n) → PyData.leavesShortAll 1901 (ns.map PyData.int) = true ∧ PyData.showableAll (ns.map PyData.int) = true ∧ PyData.weightAll (ns.map PyData.int) ≤ 1901 * ns.length
  | [], _ => ⟨rfl, rfl, Nat.le_refl _⟩
  | n :: r, h => by
    obtain ⟨h1, h2, h3⟩ := leaves_ints r fun m hm => h m (List.mem_cons_of_mem _ hm)
    have hn := h n (List.mem_cons_self ..)
    have e1 : PyData.leavesShort 1901 (.int n) = true := decide_eq_true (shown_int_len (m := 1899) hn)
    have e2 := showable_int hn
    have e3 := weight_int hn
    refine ⟨?_, ?_, ?_⟩
    · show (PyData.leavesShort 1901 (.int n) && PyData.leavesShortAll 1901 (r.map PyData.int)) = true
      rw [e1, h1]; rfl
    · show (PyData.showable (.int n) && PyData.showableAll (r.map PyData.int)) = true
      rw [e2, h2]; rfl
    · show PyData.weight (.int n) + 1 + PyData.weightAll (r.map PyData.int) ≤ 1901 * (r.length + 1)
      omega
theorem repr_ints {K : PySem.W.Frag} {H : Hp} {r : Addr} {ns : List Int} {Q : VK} (h : H r = some (.lst (ns.map V.int))) (hb : ∀ n ∈ ns, Bn 1900 n) (hl : ns.length ≤ 4) (k : Q (.str (PyData.shown (.list (ns.map PyData.int)))) H) : cRepr K [.ref r] H Q := by
  have e : dataF 8 H (.ref r) = some (.list (ns.map PyData.int)) := dataF_ints h
  obtain ⟨h1, h2, h3⟩ := leaves_ints ns hb
  simp only [cRepr, e]
  refine ⟨h2, ?_, ?_, k⟩
  · show PyData.depthAll (ns.map PyData.int) + 1 ≤ 60
    rw [depth_ints]; decide
  · have z := PyData.shown_le 1901 (by decide) (.list (ns.map PyData.int)) h1
    have w : PyData.weight (.list (ns.map PyData.int)) ≤ 1901 * 4 := by
      show PyData.weightAll _ ≤ _
      omega
    have e : (1901 + 2) * PyData.weight (.list (ns.map PyData.int)) ≤ (1901 + 2) * (1901 * 4) := Nat.mul_le_mul_left _ w
    have : sizeLine = 16777216 := rfl
    omega
theorem data_bools {n : Nat} {H : Hp} : ∀ bs : List Bool, dataL (dataF n H) (bs.map V.bl) = some (bs.map PyData.bool)
  | [] => rfl
  | b :: r => by
    have e : dataF n H (.bl b) = some (.bool b) := by cases n <;> rfl
    show (match dataF n H (.bl b) with | some d => (match dataL (dataF n H) (r.map V.bl) with | some ds => some (d :: ds) | none => none) | none => none) = _
    rw [e, data_bools r]
    rfl
theorem leaves_bools : ∀ bs : List Bool, PyData.leavesShortAll 8 (bs.map PyData.bool) = true ∧ PyData.showableAll (bs.map PyData.bool) = true ∧ PyData.weightAll (bs.map PyData.bool) = bs.length ∧ PyData.depthAll (bs.map PyData.bool) = 0
  | [] => ⟨rfl, rfl, rfl, rfl⟩
  | b :: r => by
    obtain ⟨h1, h2, h3, h4⟩ := leaves_bools r
    refine ⟨?_, ?_, ?_, ?_⟩
    · show (PyData.leavesShort 8 (.bool b) && PyData.leavesShortAll 8 (r.map PyData.bool)) = true
      rw [h1]; rfl
    · show (PyData.showable (.bool b) && PyData.showableAll (r.map PyData.bool)) = true
      rw [h2]; rfl
    · show PyData.weight (.bool b) + 1 + PyData.weightAll (r.map PyData.bool) = r.length + 1
      rw [h3]
      show 0 + 1 + r.length = r.length + 1
      omega
    · show max (PyData.depth (.bool b)) (PyData.depthAll (r.map PyData.bool)) = 0
      rw [h4]; rfl
theorem repr_bools {K : PySem.W.Frag} {H : Hp} {r : Addr} {bs : List Bool} {Q : VK} (h : H r = some (.lst (bs.map V.bl))) (hl : bs.length ≤ 1000) (k : Q (.str (PyData.shown (.list (bs.map PyData.bool)))) H) : cRepr K [.ref r] H Q := by
  have e : dataF 8 H (.ref r) = some (.list (bs.map PyData.bool)) := by
    simp only [dataF, h]
    rw [data_bools]
    rfl
  obtain ⟨h1, h2, h3, h4⟩ := leaves_bools bs
  simp only [cRepr, e]
  refine ⟨h2, ?_, ?_, k⟩
  · show PyData.depthAll (bs.map PyData.bool) + 1 ≤ 60
    rw [h4]; decide
  · have z := PyData.shown_le 8 (by decide) (.list (bs.map PyData.bool)) h1
    have w : PyData.weight (.list (bs.map PyData.bool)) = bs.length := h3
    have : sizeLine = 16777216 := rfl
    omega
end HG

namespace HG
open PySem L2
/-! ### new instances, properties: folded readings -/
def MKf (C : Addr) (sp : Sp) (E : XK) (f : V → List V) (H : Hp) (Q : VK) : Prop := ∀ x dx, H x = none → H dx = none → dx ≠ x → sp (f (.ref x)) (upd (upd H dx (.own x)) x (.ins C dx [])) (fun v H2 => v = .non ∧ Q (.ref x) H2) E
theorem tMake_eq {C : Addr} {sp : Sp} {dvs : List V} {E : XK} {t : TA} {σ : L2.St} {H : Hp} {Q : VK} : tMake C sp dvs E t σ H Q = t σ H fun vs H1 => MKf C sp E (fun r => r :: (vs ++ dvs)) H1 Q := rfl
theorem tMakeK_eq {C : Addr} {n m : Nat} {sp : Sp} {gV : List V → List V → List V} {E : XK} {t tk : TA} {σ : L2.St} {H : Hp} {Q : VK} : tMakeK C n m sp gV E t tk σ H Q = t σ H fun vs H1 => tk σ H1 fun zs H2 => vs.length = n ∧ zs.length = m ∧ MKf C sp E (fun r => gV (r :: vs) zs) H2 Q := rfl
def PRf (C : Addr) (sp : Sp) (dvs : List V) (E : XK) (x : V) (H : Hp) (Q : VK) : Prop := ∃ a dx fs, x = .ref a ∧ H a = some (.ins C dx fs) ∧ sp (.ref a :: dvs) H Q E
theorem tProp_eq {C : Addr} {sp : Sp} {dvs : List V} {E : XK} {t : TE} {σ : L2.St} {H : Hp} {Q : VK} : tProp C sp dvs E t σ H Q = t σ H fun x H1 => PRf C sp dvs E x H1 Q := rfl
theorem cRepr_int {K : PySem.W.Frag} {i : Int} {H : Hp} {Q : VK} : cRepr K [.int i] H Q = (i.natAbs.log2 < 1920 ∧ Q (.str (toString i)) H) := rfl
/-! ### a comprehension over a list -/
def LcK (K : PySem.W.Frag) (g : TG) (tt : TT) (te : TE) (vs : List Nat) (σ : L2.St) (Q : VK) : VK := fun x H1 => ∃ a, x = .ref a ∧ (∃ xs, SqL K H1 a xs) ∧ ∀ D, H1 D = none → ∃ W : Nat → Nat → Hp → Prop, (∃ m, W 0 m (upd H1 D (.lst []))) ∧ ∀ i m H, W i m H →
      ((Itl K a).stop i H ∧ Q (.ref D) H) ∨ ((Itl K a).go i H ∧ ∃ Nx : Hp → Prop, (∀ H', Nx H' → ∃ m', m' < m ∧ W (i + 1) m' H') ∧ ∀ x H', (Itl K a).yld i H x H' → g x (wipe σ vs) H' fun σ2 H2 => wipe σ2 vs = wipe σ vs ∧ tt σ2 H2 fun b H3 =>
        if b = true then te σ2 H3 fun y H4 => ∃ acc, H4 D = some (.lst acc) ∧ acc.length < sizeLine ∧ Nx (upd H4 D (.lst (acc ++ [y]))) else Nx H3)
theorem lc_go {K : PySem.W.Frag} {tl te : TE} {g : TG} {tt : TT} {vs : List Nat} {σ : L2.St} {H : Hp} {Q : VK} (h : tl σ H (LcK K g tt te vs σ Q)) : tLc (iList K tl) g tt te vs σ H Q := h
/-- one whose test lets nothing through -/
theorem lc_empty {K : PySem.W.Frag} {te : TE} {i : Nat} {tt : TT} {σ : L2.St} {H1 : Hp} {Q : VK} {a : Addr} {xs : List V} (ha : H1 a = some (.lst xs))
    (q : ∀ D, H1 D = none → (∀ x ∈ xs, ∀ H', Grow (upd H1 D (.lst [])) H' → ∀ R : Bool → Hp → Prop, (∀ H2, Grow H' H2 → R false H2) → tt ((wipe σ [i]).set i (some x)) H' R) ∧ ∀ H', Grow (upd H1 D (.lst [])) H' → Q (.ref D) H')
    (hw : ∀ x, wipe ((wipe σ [i]).set i (some x)) [i] = wipe σ [i]) : LcK K (gName i) tt te [i] σ Q (.ref a) H1 := by
  refine ⟨a, rfl, ⟨xs, SqL.of ha⟩, fun D hD => ?_⟩
  obtain ⟨q1, q2⟩ := q D hD
  have g0 : Grow H1 (upd H1 D (.lst [])) := Grow.new hD
  refine ⟨fun j m H' => m = xs.length - j ∧ Grow (upd H1 D (.lst [])) H', ⟨_, rfl, .refl⟩, fun j m H' ⟨hm, g⟩ => ?_⟩
  have ha' := g _ _ (g0 _ _ ha)
  by_cases hj : xs.length ≤ j
  · exact .inl ⟨⟨xs, SqL.of ha', hj⟩, q2 _ g⟩
  · refine .inr ⟨⟨xs, xs[j], SqL.of ha', List.getElem?_eq_getElem (by omega)⟩, fun H'' => Grow (upd H1 D (.lst [])) H'', fun H'' g' => ⟨xs.length - (j + 1), by omega, rfl, g'⟩, ?_⟩
    rintro x H'' ⟨rfl, e⟩
    have ex := e xs (SqL.of ha')
    refine ⟨hw x, q1 x (List.mem_of_getElem? ex) _ g _ fun H2 g2 => ?_⟩
    rw [if_neg (by decide)]
    exact g.trans g2
theorem st_ifcmp {r : R2} {ta tb : TE} {t u : TS} {D : Ends} {σ : L2.St} {H : Hp} (h : ta σ H fun x H1 => tb σ H1 fun y H2 => r x y H2 fun z H3 => ∃ k, z = .bl k ∧ if k = true then t D σ H3 else u D σ H3) : tIfS (tTest (tOp r ta tb)) t u D σ H := h
end HG

/-! What the top has written, in the forms that the rules want. -/
namespace HG
open PySem L2 PyProof.Rows
open PySem.W in
theorem fillsI_no {K : Frag} {M : Model} {h : Heap} {C : Addr} {cd : ClassData} {nm : String} {add : Bool} (X : K.In h) (hc : clsIn K C = some cd) (hm : cd.mro = [.ref C, .type "object"]) (hs : findIn K (.ref C) (dunderI nm) = some none)
    (ho : findIn K (.type "object") (dunderI nm) = some none) : Looks M h (fillsInplaceSlot (.ref C) nm add) false := by
  intro A Q E s k q
  have Lm : Looks M h (mroOf (.ref C)) cd.mro := (looks_clsIn X hc).andThen (f := fun cd => pure cd.mro) .now
  have Lm' := Lm.keeps k
  obtain ⟨hh, g, d, tt, os⟩ := s
  have X' : K.In hh := X.keeps k
  have L1 : Looks M hh (typeLookup (.ref C) (dunderI nm)) none := looks_findIn X' hs
  have L2 : Looks M hh (typeLookup (.type "object") (dunderI nm)) none := looks_findIn X' ho
  unfold fillsInplaceSlot
  refine wpAny_bind (Lm'.at ?_)
  rw [hm, List.anyM_cons]
  refine wpAny_bind (wpAny_bind (L1.at (wpAny_pure ?_)))
  simp only [Bool.false_eq_true, if_false]
  rw [List.anyM_cons]
  refine wpAny_bind (wpAny_bind (L2.at (wpAny_pure ?_)))
  simp only [Bool.false_eq_true, if_false, List.anyM_nil]
  exact wpAny_pure q
section
variable {K : PySem.W.Frag} {C f g : Addr} {op : Operator} {nm : Str}
theorem isSomeE {α : Type} {o : Option α} (h : o.isSome = true) : ∃ x, o = some x := Option.isSome_iff_exists.mp h
theorem binF_mk (d : PySem.dunder op.info.2 = nm) (sf : PySem.W.selfFirst K C = true) (fn : PySem.W.findIn K (.ref C) nm = some (some (.ref f))) (isf : PySem.W.isFn K (.ref f) = true)
    (rc : ∃ rc, PySem.W.findIn K (.ref C) (dunderR op.info.2) = some rc ∧ (rc = none ∨ ∃ g : Addr, rc = some (.ref g))) (i1 : (PySem.W.findIn K (.type "int") (PySem.dunder op.info.2)).isSome = true) (i2 : (PySem.W.findIn K (.type "int") (dunderR op.info.2)).isSome = true)
    (sub : PySem.W.subIn K (.type "int") (.ref C) = some false) : BinF K C f op := ⟨sf, by rw [d]; exact fn, isf, rc, isSomeE i1, isSomeE i2, sub⟩
theorem reflF_mk {nr : Str} (d : PySem.dunder op.info.2 = nm) (dr : dunderR op.info.2 = nr) (sf : PySem.W.selfFirst K C = true) (fn : PySem.W.findIn K (.ref C) nm = some (some (.ref f))) (rn : PySem.W.findIn K (.ref C) nr = some (some (.ref g))) (isf : PySem.W.isFn K (.ref g) = true)
    (sub : PySem.W.subIn K (.ref C) (.type "int") = some false) (fo : ∃ fo ro, PySem.W.findIn K (.type "int") (PySem.dunder op.info.2) = some fo ∧ PySem.W.findIn K (.type "int") (dunderR op.info.2) = some ro ∧ ((fo.isSome && !isSeqSlot fo) || (ro.isSome && !isSeqSlot ro)) = true) : ReflF K C f g op :=
  ⟨sf, by rw [d]; exact fn, by rw [dr]; exact rn, isf, sub, fo⟩
theorem inpF_mk {cd : ClassData} (d : PySem.dunder op.info.2 = nm) (sf : PySem.W.selfFirst K C = true) (fn : PySem.W.findIn K (.ref C) nm = some (some (.ref f))) (isf : PySem.W.isFn K (.ref f) = true) (hc : PySem.W.clsIn K C = some cd) (hm : cd.mro = [.ref C, .type "object"])
    (hs : PySem.W.findIn K (.ref C) (dunderI op.info.2) = some none) (ho : PySem.W.findIn K (.type "object") (dunderI op.info.2) = some none) : InpF K C f op := ⟨sf, by rw [d]; exact fn, isf, fun M h X => fillsI_no X hc hm hs ho⟩
end
theorem funD_mk {K : PySem.W.Frag} {x qual : Str} {st : Stmt} {f T : Addr} {oc oc2 : Value} {od od2 an : Option Addr} {osl osl2 : Array (Option Value)} {kV doc pm cdv ct : Value} {its : List Value} {dvs : List V} {n : Nat}
    (l : K.lookup f = some ⟨oc, od, .func (PySem.W.fnOf x qual (defArgs st) (defBody st) (defScope st) (.ref T) kV doc pm an cdv ct), osl⟩) (lT : K.lookup T = some ⟨oc2, od2, .seq its.toArray n, osl2⟩) (r : Vals dvs its) (ne : dvs ≠ [])
    (c : PySem.W.codeIn K cdv qual = true) (k : PySem.W.keepIn K (.ref f) = true) : FunD K x qual (defArgs st) (defBody st) (defScope st) dvs [] f (PySem.W.fnOf x qual (defArgs st) (defBody st) (defScope st) (.ref T) kV doc pm an cdv ct) :=
  ⟨⟨oc, od, .ref T, kV, doc, pm, an, cdv, ct, osl, rfl, l, c, .inr ⟨ne, T, _, its, n, rfl, lT, rfl, r⟩, .inl rfl⟩, k⟩
end HG
namespace HG
open PySem L2
theorem int_fo_Add {K : PySem.W.Frag} : ∃ fo ro, PySem.W.findIn K (.type "int") (PySem.dunder Operator.Add.info.2) = some fo ∧ PySem.W.findIn K (.type "int") (dunderR Operator.Add.info.2) = some ro ∧ ((fo.isSome && !isSeqSlot fo) || (ro.isSome && !isSeqSlot ro)) = true :=
  ⟨some (.builtin "int.__add__"), some (.builtin "int.__radd__"), by show fastLookup "int" _ = _; decide +kernel, by show fastLookup "int" _ = _; decide +kernel, by decide +kernel⟩
theorem int_fo_Sub {K : PySem.W.Frag} : ∃ fo ro, PySem.W.findIn K (.type "int") (PySem.dunder Operator.Sub.info.2) = some fo ∧ PySem.W.findIn K (.type "int") (dunderR Operator.Sub.info.2) = some ro ∧ ((fo.isSome && !isSeqSlot fo) || (ro.isSome && !isSeqSlot ro)) = true :=
  ⟨some (.builtin "int.__sub__"), some (.builtin "int.__rsub__"), by show fastLookup "int" _ = _; decide +kernel, by show fastLookup "int" _ = _; decide +kernel, by decide +kernel⟩
end HG
namespace HG
open PySem L2
theorem kit_tr {K : PySem.W.Frag} {C : Addr} {t : String} {b : Bool} (hc : PySem.W.isClsIn K C = true) (ht : PySem.W.typeIn K (.ref C) = some (.type "type")) (hs : PySem.W.subIn K (.type t) (.ref C) = some b) : PySem.W.kitOne K (.type t) (.ref C) = some b := by
  have hne : (Value.type t == Value.ref C) = false := Bool.eq_false_iff.mpr fun q => by cases beq_iff_eq.mp q
  have hc' : (PySem.W.clsIn K C).isSome = true := hc
  unfold PySem.W.kitOne PySem.W.kitCls
  simp only [hne, hc', ht, hs, Bool.false_eq_true, if_false, beq_self_eq_true, Bool.and_self, if_true]
theorem kit_rt {K : PySem.W.Frag} {C : Addr} {T : String} {b : Bool} (hm : PySem.W.kitMeta T = true) (hs : PySem.W.subIn K (.ref C) (.type T) = some b) : PySem.W.kitOne K (.ref C) (.type T) = some b := by
  have hne : (Value.ref C == Value.type T) = false := Bool.eq_false_iff.mpr fun q => by cases beq_iff_eq.mp q
  unfold PySem.W.kitOne PySem.W.kitCls
  simp only [hne, hm, hs, Bool.false_eq_true, if_false, if_true]
theorem kit_rr {K : PySem.W.Frag} {C : Addr} : PySem.W.kitOne K (.ref C) (.ref C) = some true := by
  unfold PySem.W.kitOne
  simp only [beq_self_eq_true, if_true]
theorem nsOk_mk {K : PySem.W.Frag} {N : Addr} {oc : Value} {od : Option Addr} {es : Array DictEntry} {n : Nat} {sl : Array (Option Value)} (h : K.lookup N = some ⟨oc, od, .dict es n, sl⟩) (e : (es.toList.all fun e => match e.key with | .str _ _ => true | _ => false) = true) : PySem.W.nsOkIn K N = true := by
  unfold PySem.W.nsOkIn
  rw [h]
  show (es.all _) = true
  rw [← Array.all_toList]
  exact e
end HG

namespace HG
open PySem L2 PyProof.Rows
section
variable {X : Cx}
/-! ### in, by data -/
def oIn (K : PySem.W.Frag) : R2 := fun x y H Q => match dataF 8 H x, dataF 8 H y with
  | some d, some (.list ds) => SeqAt.shaped d = true ∧ SeqAt.shaped (.list ds) = true ∧ Q (.bl (ds.any fun z => PyData.eqv z d)) H
  | _, _ => False
theorem op_inU (hu : X.A.units + 65 < cLine) : OpR X (compareOp .In) (oIn X.K) := opImp (op_inD hu) fun x y H Q h => by
  unfold oIn at h
  split at h
  · rename_i e1 e2
    exact ⟨_, _, dp_of e1, dp_of e2, h.1, h.2.1, h.2.2⟩
  · exact h.elim
def oNotIn (K : PySem.W.Frag) : R2 := fun x y H Q => match dataF 8 H x, dataF 8 H y with
  | some d, some (.list ds) => SeqAt.shaped d = true ∧ SeqAt.shaped (.list ds) = true ∧ Q (.bl (!ds.any fun z => PyData.eqv z d)) H
  | _, _ => False
theorem op_notInU (hu : X.A.units + 65 < cLine) : OpR X (compareOp .NotIn) (oNotIn X.K) := opImp (op_notInD hu) fun x y H Q h => by
  unfold oNotIn at h
  split at h
  · rename_i e1 e2
    exact ⟨_, _, dp_of e1, dp_of e2, h.1, h.2.1, h.2.2⟩
  · exact h.elim
theorem _root_.L2.Room.units65 {k : Nat} {A : Around} (r : Room k A) : A.units + 65 < cLine := by have := r.un; omega
/-! ### is None -/
def oIs : R2 := fun x y H Q => match y with
  | .non => match x with
    | .non => Q (.bl true) H
    | _ => Q (.bl false) H
  | _ => False
theorem op_isU : OpR X (compareOp .Is) oIs := opImp op_isN fun x y H Q h => by
  unfold oIs at h
  split at h
  · refine ⟨rfl, ?_⟩
    split at h
    · exact h
    · rename_i hn
      rw [decide_eq_false (fun e => hn e)]
      exact h
  · exact h.elim
def oIsNot : R2 := fun x y H Q => match y with
  | .non => match x with
    | .non => Q (.bl false) H
    | _ => Q (.bl true) H
  | _ => False
theorem op_isNotU : OpR X (compareOp .IsNot) oIsNot := opImp op_notN fun x y H Q h => by
  unfold oIsNot at h
  split at h
  · refine ⟨rfl, ?_⟩
    split at h
    · exact h
    · rename_i hn
      rw [decide_eq_false (fun e => hn e)]
      exact h
  · exact h.elim
/-! ### built-ins over sequences -/
def cTuple (K : PySem.W.Frag) : List V → Hp → VK → Prop := fun xs H Q => match xs with
  | [.ref p] => match H p with
    | some (.lst ys) => ∀ l, H l = none → Q (.ref l) (upd H l (.tup ys))
    | some (.tup ys) => Q (.ref p) H
    | _ => ∃ ys, SqT K H p ys ∧ Q (.ref p) H
  | _ => False
theorem call_tupleU : CallR X (.type "tuple") (cTuple X.K) := callImp call_tuple_of fun xs H Q h => by
  unfold cTuple at h
  split at h
  · split at h
    · rename_i e
      exact ⟨_, _, rfl, .inl ⟨SqL.of e, h⟩⟩
    · rename_i e
      exact ⟨_, _, rfl, .inr ⟨SqT.of e, h⟩⟩
    · obtain ⟨ys, h1, h2⟩ := h
      exact ⟨_, ys, rfl, .inr ⟨h1, h2⟩⟩
  · exact h.elim
def isBls : List V → Option (List Bool)
  | [] => some []
  | .bl b :: r => (isBls r).map (b :: ·)
  | _ :: _ => none
theorem isBls_map : ∀ bs : List Bool, isBls (bs.map V.bl) = some bs
  | [] => rfl
  | b :: r => by
    show (isBls (r.map V.bl)).map (b :: ·) = _
    rw [isBls_map r]
    rfl
theorem isBls_of : ∀ {xs : List V} {bs : List Bool}, isBls xs = some bs → xs = bs.map V.bl
  | [], bs, h => by cases h; rfl
  | .bl b :: r, bs, h => by
    obtain ⟨cs, e, rfl⟩ := Option.map_eq_some_iff.mp h
    rw [isBls_of e]
    rfl
  | .non :: r, bs, h => by cases h
  | .int i :: r, bs, h => by cases h
  | .str i :: r, bs, h => by cases h
  | .byt i :: r, bs, h => by cases h
  | .flt i :: r, bs, h => by cases h
  | .ref i :: r, bs, h => by cases h
  | .ty i :: r, bs, h => by cases h
def cAll (K : PySem.W.Frag) : List V → Hp → VK → Prop := fun xs H Q => ∃ a bs, xs = [.ref a] ∧ H a = some (.lst (List.map V.bl bs)) ∧ Q (.bl (bs.all id)) H
theorem call_allU (hc : X.calm = true) : CallR X (.builtin "all") (cAll X.K) := callImp (cr_all hc) fun xs H Q h => by
  obtain ⟨a, bs, e1, e2, q⟩ := h
  exact ⟨a, bs, e1, SqL.of e2, q⟩
def cAny (K : PySem.W.Frag) : List V → Hp → VK → Prop := fun xs H Q => ∃ a bs, xs = [.ref a] ∧ H a = some (.lst (List.map V.bl bs)) ∧ Q (.bl (bs.any id)) H
theorem call_anyU (hc : X.calm = true) : CallR X (.builtin "any") (cAny X.K) := callImp (cr_any hc) fun xs H Q h => by
  obtain ⟨a, bs, e1, e2, q⟩ := h
  exact ⟨a, bs, e1, SqL.of e2, q⟩
/-- the greatest number of a list, of two -/
def cMax (K : PySem.W.Frag) : List V → Hp → VK → Prop := fun xs H Q => match xs with
  | [.int i, .int j] => Q (.int (if j > i then j else i)) H
  | [.ref a] => ∃ ns : List Int, H a = some (.lst (ns.map V.int)) ∧ ns ≠ [] ∧ ∀ m, m ∈ ns → (∀ y, y ∈ ns → y ≤ m) → Q (.int m) H
  | _ => False
theorem call_maxU (hc : X.calm = true) : CallR X (.builtin "max") (cMax X.K) := callImp ((call_max2 hc).or (cr_max hc)) fun xs H Q h => by
  unfold cMax at h
  split at h
  · exact .inl ⟨_, _, rfl, h⟩
  · obtain ⟨ns, h1, h2, h3⟩ := h
    exact .inr ⟨_, ns, rfl, SqL.of h1, List.length_pos_iff.mpr h2, h3⟩
  · exact h.elim
def cMin (K : PySem.W.Frag) : List V → Hp → VK → Prop := fun xs H Q => match xs with
  | [.int i, .int j] => Q (.int (if j < i then j else i)) H
  | [.ref a] => ∃ ns : List Int, H a = some (.lst (ns.map V.int)) ∧ ns ≠ [] ∧ ∀ m, m ∈ ns → (∀ y, y ∈ ns → m ≤ y) → Q (.int m) H
  | _ => False
theorem call_minU (hc : X.calm = true) : CallR X (.builtin "min") (cMin X.K) := callImp ((call_min2 hc).or (cr_min hc)) fun xs H Q h => by
  unfold cMin at h
  split at h
  · exact .inl ⟨_, _, rfl, h⟩
  · obtain ⟨ns, h1, h2, h3⟩ := h
    exact .inr ⟨_, ns, rfl, SqL.of h1, List.length_pos_iff.mpr h2, h3⟩
  · exact h.elim
/-! ### isinstance by a tuple of types -/
def tysOf : List V → Option (List Value)
  | [] => some []
  | .ty n :: r => (tysOf r).map (.type n :: ·)
  | .ref C :: r => (tysOf r).map (.ref C :: ·)
  | _ :: _ => none
theorem tysOf_paired : ∀ {xs : List V} {us : List Value}, tysOf xs = some us → Paired ClsV xs us
  | [], us, h => by cases h; exact .nil
  | .ty n :: r, us, h => by
    obtain ⟨cs, e, rfl⟩ := Option.map_eq_some_iff.mp h
    exact .cons (.ty _) (tysOf_paired e)
  | .ref C :: r, us, h => by
    obtain ⟨cs, e, rfl⟩ := Option.map_eq_some_iff.mp h
    exact .cons (.own _) (tysOf_paired e)
  | .non :: r, bs, h => by cases h
  | .int i :: r, bs, h => by cases h
  | .bl i :: r, bs, h => by cases h
  | .str i :: r, bs, h => by cases h
  | .byt i :: r, bs, h => by cases h
  | .flt i :: r, bs, h => by cases h
def cIsiT (K : PySem.W.Frag) : List V → Hp → VK → Prop := fun xs H Q => match xs with
  | [x, .ref tp] => match H tp with
    | some (.tup cs) => match tyF H x with
      | some t => tyOk K t ∧ match tysOf cs with
        | some us => match PySem.W.kitAny K t us with
          | some b => Q (.bl b) H
          | none => False
        | none => False
      | none => False
    | _ => False
  | _ => False
theorem call_isiTU : CallR X (.builtin "isinstance") (cIsiT X.K) := callImp call_isiT fun xs H Q h => by
  unfold cIsiT at h
  split at h
  · split at h
    · rename_i e0
      split at h
      · rename_i e1
        obtain ⟨h1, h2⟩ := h
        split at h2
        · rename_i e2
          split at h2
          · rename_i e3
            exact ⟨_, _, _, _, _, _, rfl, e0, tysOf_paired e2, tyX_of e1 h1, e3, h2⟩
          · exact h2.elim
        · exact h2.elim
      · exact h.elim
    · exact h.elim
  · exact h.elim
theorem kitLT_l {K : PySem.W.Frag} : PySem.W.kitAny K (.type "list") [.type "list", .type "tuple"] = some true := kitAny_cons (b := true) (kit_ty (by decide +kernel)) (fun z => by cases z) (fun _ => rfl)
theorem kitLT_t {K : PySem.W.Frag} : PySem.W.kitAny K (.type "tuple") [.type "list", .type "tuple"] = some true := kitAny_cons (b := false) (kit_ty (by decide +kernel)) (fun _ => kitAny_cons (b := true) (kit_ty (by decide +kernel)) (fun z => by cases z) (fun _ => rfl)) (fun z => by cases z)
/-! ### an attribute as a target -/
def gFld (K : PySem.W.Frag) (ta : TE) (f : Str) : TG := fun y σ H Q => ta σ H fun x H2 => ∃ a C dx fs, x = .ref a ∧ H2 a = some (.ins C dx fs) ∧ Cls K C ∧ NoAttr K C f ∧ fs.length < 1000 ∧ Q σ (upd H2 a (.ins C dx (putF f y fs)))
theorem pg_fld {o : Expr} {f : Str} {pos : Pos} {ta : TE} (ho : PE X o ta) : PG X (.Attribute o f pos) (gFld X.K ta f) := by
  refine ⟨fun pins s σ H v u Q I r h => ?_⟩
  rw [assign_Attribute]
  refine wpAny_bind (wpAny_holding (thn (ho.run pins s σ H _ I h) fun ov s1 ⟨x, H1, I1, r1, a, C, dx, fs, ex, ea, c, n, l, q1⟩ => ?_))
  subst ex
  obtain rfl : ov = Value.ref a := r1
  refine wpAny_bind (wpAny_standAt (wpAny_bind (wpAny_holding (setattr_ok I1 ea c n l r fun s3 I3 => ?_))))
  exact wpAny_release ⟨σ, _, I3, q1⟩
/-! ### for x in a list or a tuple -/
def iSeq (K : PySem.W.Frag) (tl : TE) : TI := fun σ H R => tl σ H fun x H1 => ∃ a, x = .ref a ∧ (((∃ xs, SqL K H1 a xs) ∧ R (Itl K a) H1) ∨ ((∃ xs, SqT K H1 a xs) ∧ R (Itt K a) H1))
theorem pi_seq {tg l : Expr} {tl : TE} (hl : PE X l tl) : PI X tg l (iSeq X.K tl) := by
  refine ⟨fun pins s σ H R I h => ?_⟩
  refine thn (hl.run pins s σ H _ I h) fun v s1 ⟨x, H1, I1, r1, q1⟩ => ?_
  obtain ⟨a, e, q1⟩ := q1
  subst e
  cases r1
  rcases q1 with ⟨⟨xs, hq⟩, q⟩ | ⟨⟨xs, hq⟩, q⟩
  · obtain ⟨its, rv, p, hz⟩ := I1.list hq
    refine wpAny_pyIter_list p.isList ?_
    refine ⟨s1.heap.objs.size, [s1.heap.objs.size], _, _, H1, rfl, I1.kept (t' := s1.toks) fun b o e => Heap.get?_push_of_some _ e, turn_list a _, ⟨_, Heap.get?_push_size _ rfl, rfl, rfl⟩, fun b hb => ?_, q⟩
    have e : b = s1.heap.objs.size := by simpa using hb
    subst e
    exact I1.fpOk (Nat.le_refl _) (I1.hok.fresh (Nat.le_refl _))
  · obtain ⟨its, rv, p, hz⟩ := I1.tuple hq
    refine wpAny_pyIter_tuple (show s1.heap.IsTuple a its.toArray from p) ?_
    refine ⟨s1.heap.objs.size, [s1.heap.objs.size], _, _, H1, rfl, I1.kept (t' := s1.toks) fun b o e => Heap.get?_push_of_some _ e, turn_tuple a _, ⟨_, Heap.get?_push_size _ rfl, rfl, rfl⟩, fun b hb => ?_, q⟩
    have e : b = s1.heap.objs.size := by simpa using hb
    subst e
    exact I1.fpOk (Nat.le_refl _) (I1.hok.fresh (Nat.le_refl _))
end
end HG

/-! Comprehensions over numbers and over sequences: what they make. -/
namespace HG
open PySem L2
/-- a comprehension's continuation at its iterator -/
def LcJ (g : TG) (tt : TT) (te : TE) (vs : List Nat) (σ : L2.St) (Q : VK) (J : It) (H1 : Hp) : Prop := ∀ D, H1 D = none → ∃ W : Nat → Nat → Hp → Prop, (∃ m, W 0 m (upd H1 D (.lst []))) ∧ ∀ i m H, W i m H →
      (J.stop i H ∧ Q (.ref D) H) ∨ (J.go i H ∧ ∃ Nx : Hp → Prop, (∀ H', Nx H' → ∃ m', m' < m ∧ W (i + 1) m' H') ∧ ∀ x H', J.yld i H x H' → g x (wipe σ vs) H' fun σ2 H2 => wipe σ2 vs = wipe σ vs ∧ tt σ2 H2 fun b H3 =>
        if b = true then te σ2 H3 fun y H4 => ∃ acc, H4 D = some (.lst acc) ∧ acc.length < sizeLine ∧ Nx (upd H4 D (.lst (acc ++ [y]))) else Nx H3)
theorem lc_ev {wi : TI} {g : TG} {tt : TT} {te : TE} {vs : List Nat} {σ : L2.St} {H : Hp} {Q : VK} (h : wi σ H (LcJ g tt te vs σ Q)) : tLc wi g tt te vs σ H Q := h
/-- the iterator hands out xs 0 .. xs (n - 1), as long as what stood stands -/
structure JOk (J : It) (H1 : Hp) (n : Nat) (xs : Nat → V) : Prop where
  go : ∀ H, Grow H1 H → ∀ j, j < n → J.go j H
  yld : ∀ H, Grow H1 H → ∀ j, j < n → ∀ x H', J.yld j H x H' → H' = H ∧ x = xs j
  stop : ∀ H, Grow H1 H → J.stop n H
theorem jok_rng {lo : Int} {n : Nat} {H1 : Hp} : JOk (Itr lo n) H1 n (fun j => .int (lo + j)) :=
  ⟨fun _ _ _ h => h, fun _ _ _ _ _ _ h => h, fun _ _ => Nat.le_refl _⟩
theorem jok_lst {K : PySem.W.Frag} {a : Addr} {H1 : Hp} {xs : List V} (h : H1 a = some (.lst xs)) : JOk (Itl K a) H1 xs.length (fun j => xs.getD j .non) := by
  refine ⟨fun H g j hj => ⟨xs, _, SqL.of (g _ _ h), List.getElem?_eq_getElem hj⟩, fun H g j hj x H' y => ⟨y.1, ?_⟩, fun H g => ⟨xs, SqL.of (g _ _ h), Nat.le_refl _⟩⟩
  have e := y.2 xs (SqL.of (g _ _ h))
  rw [List.getD_eq_getElem?_getD, e]
  rfl
theorem jok_tup {K : PySem.W.Frag} {a : Addr} {H1 : Hp} {xs : List V} (h : H1 a = some (.tup xs)) : JOk (Itt K a) H1 xs.length (fun j => xs.getD j .non) := by
  refine ⟨fun H g j hj => ⟨xs, _, SqT.of (g _ _ h), List.getElem?_eq_getElem hj⟩, fun H g j hj x H' y => ⟨y.1, ?_⟩, fun H g => ⟨xs, SqT.of (g _ _ h), Nat.le_refl _⟩⟩
  have e := y.2 xs (SqT.of (g _ _ h))
  rw [List.getD_eq_getElem?_getD, e]
  rfl
/-- the results of the first j turns -/
def resF (p : Nat → Bool) (f : Nat → V) (j : Nat) : List V := ((List.range j).filter p).map f
theorem resF_succ (p : Nat → Bool) (f : Nat → V) (j : Nat) : resF p f (j + 1) = if p j = true then resF p f j ++ [f j] else resF p f j := by
  unfold resF
  rw [List.range_succ, List.filter_append, List.map_append]
  by_cases h : p j = true
  · simp [h]
  · simp [h]
theorem resF_le (p : Nat → Bool) (f : Nat → V) (j : Nat) : (resF p f j).length ≤ j := by
  unfold resF
  rw [List.length_map]
  have := List.length_filter_le p (List.range j)
  rw [List.length_range] at this
  exact this
theorem lc_filter {J : It} {H1 : Hp} {n : Nat} {xs : Nat → V} {i : Nat} {tt : TT} {te : TE} {σ : L2.St} {Q : VK} (hJ : JOk J H1 n xs) (p : Nat → Bool) (f : Nat → V) (hn : n ≤ sizeLine)
    (ht : ∀ j, j < n → ∀ H', Grow H1 H' → ∀ R : Bool → Hp → Prop, (∀ H2, Grow H' H2 → R (p j) H2) → tt ((wipe σ [i]).set i (some (xs j))) H' R)
    (he : ∀ j, j < n → p j = true → ∀ H', Grow H1 H' → ∀ R : VK, (∀ H2, Grow H' H2 → R (f j) H2) → te ((wipe σ [i]).set i (some (xs j))) H' R)
    (k : ∀ D H', Grow H1 H' → H1 D = none → H' D = some (.lst (resF p f n)) → Q (.ref D) H')
    (hw : ∀ x, wipe ((wipe σ [i]).set i (some x)) [i] = wipe σ [i]) : LcJ (gName i) tt te [i] σ Q J H1 := by
  intro D hD
  have g0 : ∀ {H : Hp} {o : HO}, Grow H1 H → Grow H1 (upd H D o) := fun {H o} g b u e => by
    rw [upd_ne (fun z => by rw [z, hD] at e; cases e)]; exact g b u e
  refine ⟨fun j m H' => j ≤ n ∧ m = n - j ∧ Grow H1 H' ∧ H' D = some (.lst (resF p f j)), ⟨_, Nat.zero_le _, rfl, g0 .refl, upd_same⟩, fun j m H' ⟨hj, hm, g, hd⟩ => ?_⟩
  by_cases e : j = n
  · subst e
    exact .inl ⟨hJ.stop _ g, k D H' g hD hd⟩
  · have hj' : j < n := by omega
    refine .inr ⟨hJ.go _ g _ hj', fun H'' => Grow H1 H'' ∧ H'' D = some (.lst (resF p f (j + 1))), fun H'' ⟨g', hd'⟩ => ⟨n - (j + 1), by omega, by omega, rfl, g', hd'⟩, ?_⟩
    intro x H'' y
    obtain ⟨rfl, rfl⟩ := hJ.yld _ g _ hj' x H'' y
    refine ⟨hw _, ht j hj' _ g _ fun H2 g2 => ?_⟩
    by_cases hp : p j = true
    · rw [hp, if_pos rfl]
      refine he j hj' hp _ (g.trans g2) _ fun H3 g3 => ?_
      refine ⟨_, g3 _ _ (g2 _ _ hd), ?_, g0 ((g.trans g2).trans g3), ?_⟩
      · have := resF_le p f j
        omega
      · rw [upd_same, resF_succ, if_pos hp]
    · have hp' : p j = false := by simpa using hp
      rw [hp', if_neg (by decide)]
      refine ⟨g.trans g2, ?_⟩
      rw [resF_succ, if_neg hp]
      exact g2 _ _ hd
theorem resF_all (f : Nat → V) (n : Nat) : resF (fun _ => true) f n = (List.range n).map f := by
  unfold resF
  rw [List.filter_eq_self.mpr (fun _ _ => rfl)]
theorem lc_map {J : It} {H1 : Hp} {n : Nat} {xs : Nat → V} {i : Nat} {te : TE} {σ : L2.St} {Q : VK} (hJ : JOk J H1 n xs) (f : Nat → V) (hn : n ≤ sizeLine)
    (he : ∀ j, j < n → ∀ H', Grow H1 H' → ∀ R : VK, (∀ H2, Grow H' H2 → R (f j) H2) → te ((wipe σ [i]).set i (some (xs j))) H' R)
    (k : ∀ D H', Grow H1 H' → H1 D = none → H' D = some (.lst ((List.range n).map f)) → Q (.ref D) H')
    (hw : ∀ x, wipe ((wipe σ [i]).set i (some x)) [i] = wipe σ [i]) : LcJ (gName i) tYes te [i] σ Q J H1 :=
  lc_filter hJ (fun _ => true) f hn (fun j hj H' g R hR => hR _ .refl) (fun j hj _ H' g R hR => he j hj H' g R hR) (fun D H' g hD hd => k D H' g hD (by rw [resF_all] at hd; exact hd)) hw
end HG

/-! The pen, its list of cells named. -/
namespace HG
open PySem L2
/-- the pen at p with its cells at l, at most n cells used -/
def PenL (H : Hp) (p l : Addr) (n : Nat) : Prop := ∃ (cells : List Int) (turn rest : Int), H p = some (.lst [.ref l, .int turn, .int rest]) ∧ H l = some (.lst (cells.map V.int)) ∧ cells.length ≤ 63 ∧ 0 ≤ turn ∧ turn ≤ n ∧ 0 ≤ rest
section
variable {H H' : Hp} {p l b : Addr} {m n : Nat}
theorem PenL.grow (h : PenL H p l n) (g : Grow H H') : PenL H' p l n := by
  obtain ⟨c, t, r, h1, h2, h3⟩ := h
  exact ⟨c, t, r, g _ _ h1, g _ _ h2, h3⟩
theorem PenL.up (h : PenL H p l m) (g : m ≤ n) : PenL H p l n := by
  obtain ⟨c, t, r, h1, h2, h3, h4, h5, h6⟩ := h
  exact ⟨c, t, r, h1, h2, h3, h4, by omega, h6⟩
theorem PenL.lst (h : PenL H p l n) : ∃ xs, H p = some (.lst xs) := by
  obtain ⟨c, t, r, h1, h2, h3⟩ := h
  exact ⟨_, h1⟩
theorem PenL.fresh (h : PenL H p l n) (q : H b = none) : b ≠ p := by
  obtain ⟨xs, e⟩ := h.lst
  rintro rfl
  rw [e] at q
  cases q
theorem PenL.freshL (h : PenL H p l n) (q : H b = none) : b ≠ l := by
  obtain ⟨c, t, r, h1, h2, h3⟩ := h
  rintro rfl
  rw [h2] at q
  cases q
theorem PenL.upd {o : HO} (h : PenL H p l n) (h1 : b ≠ p) (h2 : b ≠ l) : PenL (L2.upd H b o) p l n := by
  obtain ⟨c, t, r, e1, e2, e3⟩ := h
  exact ⟨c, t, r, by rw [upd_ne h1.symm]; exact e1, by rw [upd_ne h2.symm]; exact e2, e3⟩
end
def spPenL (K : PySem.W.Frag) : Sp := fun vs H Q _ => match vs with
  | [.ref a] => ∃ ns : List Int, SqL K H a (ns.map V.int) ∧ ∀ p l H', PenL H' p l 0 → Grow H H' → H p = none → Q (.ref p) H'
  | _ => False
def spDrawL : Sp := fun vs H Q _ => match vs with
  | [.ref p, .int many] => ∃ (l : Addr) (n : Nat), PenL H p l n ∧ n ≤ 999999 ∧ 0 < many ∧ many.natAbs.log2 < 9000 ∧ ∀ (d : Int) (H' : Hp), 0 ≤ d → d < many → PenL H' p l (n + 1) → Keep p H H' → Q (.int d) H'
  | _ => False
def spPickL : Sp := fun vs H Q _ => match vs with
  | [.ref p, .ref s] => ∃ (l : Addr) (n : Nat) (xs : List V), PenL H p l n ∧ n ≤ 999999 ∧ H s = some (.lst xs) ∧ s ≠ p ∧ xs ≠ [] ∧ xs.length ≤ 100000 ∧ ∀ (x : V) (H' : Hp), x ∈ xs → PenL H' p l (n + 1) → Keep p H H' → Q x H'
  | _ => False
/-- a comprehension with draws: values of a kind P, c draws a turn -/
theorem lc_pen {J : It} {H1 : Hp} {n m : Nat} {p l : Addr} {xs : Nat → V} {i : Nat} {te : TE} {σ : L2.St} {Q : VK} (P : V → Prop) (c : Nat) (hp : PenL H1 p l m)
    (hgo : ∀ H, Keep p H1 H → ∀ j, j < n → J.go j H) (hyld : ∀ H, Keep p H1 H → ∀ j, j < n → ∀ x H', J.yld j H x H' → H' = H ∧ x = xs j) (hstop : ∀ H, Keep p H1 H → J.stop n H) (hn : n ≤ sizeLine)
    (he : ∀ j, j < n → ∀ H', PenL H' p l (m + c * j) → Keep p H1 H' → ∀ R : VK, (∀ v H2, P v → PenL H2 p l (m + c * (j + 1)) → Keep p H' H2 → R v H2) → te ((wipe σ [i]).set i (some (xs j))) H' R)
    (k : ∀ D H' vs, vs.length = n → (∀ v ∈ vs, P v) → PenL H' p l (m + c * n) → Keep p H1 H' → H1 D = none → H' D = some (.lst vs) → Q (.ref D) H')
    (hw : ∀ x, wipe ((wipe σ [i]).set i (some x)) [i] = wipe σ [i]) : LcJ (gName i) tYes te [i] σ Q J H1 := by
  intro D hD
  have hDp : D ≠ p := hp.fresh hD
  have hDl : D ≠ l := hp.freshL hD
  have g0 : ∀ {H : Hp} {o : HO}, Keep p H1 H → Keep p H1 (upd H D o) := fun {H o} g b u nb e => by
    rw [upd_ne (fun z => by rw [z, hD] at e; cases e)]; exact g b u nb e
  refine ⟨fun j q H' => j ≤ n ∧ q = n - j ∧ PenL H' p l (m + c * j) ∧ Keep p H1 H' ∧ ∃ vs, vs.length = j ∧ (∀ v ∈ vs, P v) ∧ H' D = some (.lst vs),
    ⟨_, Nat.zero_le _, rfl, (hp.up (by omega)).upd hDp hDl, g0 .refl, [], rfl, fun v hv => (List.not_mem_nil hv).elim, upd_same⟩, ?_⟩
  rintro j q H' ⟨hj, hq, hp', kp, vs, hl, hv, hd⟩
  by_cases e : j = n
  · subst e
    exact .inl ⟨hstop _ kp, k D H' vs hl hv hp' kp hD hd⟩
  · have hj' : j < n := by omega
    refine .inr ⟨hgo _ kp _ hj', fun H'' => PenL H'' p l (m + c * (j + 1)) ∧ Keep p H1 H'' ∧ ∃ vs, vs.length = j + 1 ∧ (∀ v ∈ vs, P v) ∧ H'' D = some (.lst vs), fun H'' z => ⟨n - (j + 1), by omega, by omega, rfl, z⟩, ?_⟩
    intro x H'' y
    obtain ⟨rfl, rfl⟩ := hyld _ kp _ hj' x H'' y
    refine ⟨hw _, ?_⟩
    simp only [tYes, if_true]
    refine he j hj' _ hp' kp _ fun v H2 hP hp2 k2 => ?_
    refine ⟨vs, k2 _ _ hDp hd, by omega, hp2.upd hDp hDl, g0 (kp.trans k2), vs ++ [v], by rw [List.length_append, hl]; rfl, ?_, upd_same⟩
    intro u hu
    rcases List.mem_append.mp hu with hu | hu
    · exact hv u hu
    · rw [List.mem_singleton] at hu
      subst hu
      exact hP
theorem keep_rng {p : Addr} {H1 : Hp} {lo : Int} {n : Nat} : (∀ H, Keep p H1 H → ∀ j, j < n → (Itr lo n).go j H) ∧ (∀ H, Keep p H1 H → ∀ j, j < n → ∀ x H', (Itr lo n).yld j H x H' → H' = H ∧ x = (fun j : Nat => V.int (lo + j)) j) ∧ ∀ H, Keep p H1 H → (Itr lo n).stop n H :=
  ⟨fun _ _ _ h => h, fun _ _ _ _ _ _ h => h, fun _ _ => Nat.le_refl _⟩
end HG

/-! Static methods, called off the class. -/
namespace HG
open PySem L2 PyProof.Rows
structure SMet (K : PySem.W.Frag) (C : Addr) (m : Str) (p g : Addr) : Prop where
  rd : ∃ mc, PySem.W.readsIn K C mc = true ∧ PySem.W.findCls K (.ref C) mc m = some (.get (.builtin "staticmethod.__get__") (.ref p) .none (.ref C))
  ga : PySem.W.specialIn K (.ref C) "__getattribute__" = some (some (.builtin "type.__getattribute__"))
  rc : ∃ rest, PySem.W.recIn K p "staticmethod" = some (.ref g :: rest)
  kp : PySem.W.keepIn K (.ref g) = true
def tSMeth (C : Addr) (sp : Sp) (dvs : List V) (E : XK) (ta : TE) (t : TA) : TE := fun σ H Q => ta σ H fun x H1 => x = .ref C ∧ t σ H1 fun vs H2 => sp (vs ++ dvs) H2 Q E
section
variable {X : Cx} {CX : CXT} {k : Nat} {f C p' : Addr} {fd : FuncData} {ps : List Str} {sp : Sp} {dvs : List V} {ds : List Value} {E : XK} {m : Str} {pos apos : Pos} {e o : Expr} {es : List Expr} {ta : TE} {t : TA} {pl : Sem Bool}
theorem getsm_ok {pins : List (Addr × Obj)} {σ : L2.St} {H : Hp} {s : Shared} {Q : Value × List Value → Shared → Prop} {E : Value → Shared → Prop} (I : Inv X pins σ H s) (M : SMet X.K C m p' f) (h : Q (.ref f, []) { s with toks := s.toks + 1 }) :
    wpAny (model X.prog X.w) X.A (getMethod (.ref C) m pl) Q E s := by
  obtain ⟨mc, hr, he⟩ := M.rd
  obtain ⟨rest, hp⟩ := M.rc
  exact PySem.W.method_cls I.kIn M.ga (PySem.W.cls_bind I.kIn hr he (wpAny_call (PySem.W.sm_get (s := { s with toks := s.toks + 1 }) I.kIn hp (PySem.W.handed_on rfl h))))
theorem pe_smethG (he : PE X o ta) (M : SMet X.K C m p' f) (F : FnG X.prog X.w X.K X.mg X.base CX k f fd ps sp) (hr : Room k X.A) (hG : GA X.A) (hb : Binds X.K fd ps ds) (hd : Vals dvs ds) (hx : Passes CX X E) (ha : PA X (e :: es) t)
    (hst : starEach (e :: es) X.env = (false, eval e X.env) :: starEach es X.env := by rfl) (hpl : (backTo pos (starEach es X.env)).any (·.1) = false := by rfl)
    (ht : eval (.Call (.Attribute o m apos) (e :: es) [] pos) X.env = (do
      let ov ← eval o X.env
      standAt apos.atName
      let (f, first) ← holding [ov] (getMethod ov m pl)
      callWith pos f first (backTo pos (starEach (e :: es) X.env)) (backToKw pos (keywordEach [] X.env))) := by rfl) :
    PE X (.Call (.Attribute o m apos) (e :: es) [] pos) (tSMeth C sp dvs E ta t) := by
  refine ⟨fun pins s σ H Q I h => PySem.W.methodCall_KW (pl := pl) (thn (he.run pins s σ H _ I h) fun u s1 z => ?_) ht⟩
  obtain ⟨v, H1, I1, rx, rfl, q⟩ := z
  cases rx
  have I2 := I1.tok (s1.toks + 1)
  refine getsm_ok I1 M (PySem.W.callWith_K (first := []) (h₀ := X.base) I.ok.mod.kin M.kp (thn (ha.run pos pins _ σ H1 _ I2 q) fun us s2 z => ?_) hst hpl)
  obtain ⟨vs, H2, I3, r, q2⟩ := z
  exact ⟨I3.kIn, runG (us := us) (vs := vs) F hr hG hb hd hx I3 r q2⟩
theorem pe_smethG0 (he : PE X o ta) (M : SMet X.K C m p' f) (F : FnG X.prog X.w X.K X.mg X.base CX k f fd ps sp) (hr : Room k X.A) (hG : GA X.A) (hb : Binds X.K fd ps ds) (hd : Vals dvs ds) (hx : Passes CX X E)
    (ht : eval (.Call (.Attribute o m apos) [] [] pos) X.env = (do
      let ov ← eval o X.env
      standAt apos.atName
      let (f, first) ← holding [ov] (getMethod ov m pl)
      callWith pos f first (backTo pos (starEach [] X.env)) (backToKw pos (keywordEach [] X.env))) := by rfl) :
    PE X (.Call (.Attribute o m apos) [] [] pos) (tSMeth C sp dvs E ta tNil) := by
  refine ⟨fun pins s σ H Q I h => PySem.W.methodCall_KW (pl := pl) (thn (he.run pins s σ H _ I h) fun u s1 z => ?_) ht⟩
  obtain ⟨v, H1, I1, rx, rfl, q⟩ := z
  cases rx
  have I2 := I1.tok (s1.toks + 1)
  exact getsm_ok I1 M (PySem.W.callWith_K0 I2.kIn M.kp (runG (us := []) (vs := []) F hr hG hb hd hx I2 .nil q))
/-- o.m(), no values -/
theorem pe_methG0 (he : PE X o ta) (c : Cls X.K C) (hm : Meth X.K C m f) (F : FnG X.prog X.w X.K X.mg X.base CX k f fd ps sp) (hr : Room k X.A) (hG : GA X.A) (hb : Binds X.K fd ps ds) (hd : Vals dvs ds) (hx : Passes CX X E)
    (ht : eval (.Call (.Attribute o m apos) [] [] pos) X.env = (do
      let ov ← eval o X.env
      standAt apos.atName
      let (f, first) ← holding [ov] (getMethod ov m pl)
      callWith pos f first (backTo pos (starEach [] X.env)) (backToKw pos (keywordEach [] X.env))) := by rfl) :
    PE X (.Call (.Attribute o m apos) [] [] pos) (tMeth C m sp dvs E ta tNil) := by
  refine ⟨fun pins s σ H Q I h => PySem.W.methodCall_KW (pl := pl) (thn (he.run pins s σ H _ I h) fun u s1 z => ?_) ht⟩
  obtain ⟨v, H1, I1, rx, a, dx, fs, rfl, ea, l, q⟩ := z
  cases rx
  exact getmeth_ok I1 ea c hm l (PySem.W.callWith_K0 I1.kIn hm.kp (runG (us := [.ref a]) (vs := [.ref a]) F hr hG hb hd hx I1 (.cons rfl .nil) q))
end
end HG

/-! Sequences by evidence: tracked lists and tuples, tuples of the written part. -/
namespace HG
open PySem L2
inductive Sq (K : PySem.W.Frag) (H : Hp) (p : Addr) (xs : List V) : Prop where
  | l (h : H p = some (.lst xs)) : Sq K H p xs
  | t (h : H p = some (.tup xs)) : Sq K H p xs
  | k (o : Obj) (its : Array Value) (n : Nat) (h : K.lookup p = some o) (c : o.cls = .type "tuple") (d : o.data = .seq its n) (z : its.size ≤ sizeLine) (r : Vals xs its.toList) : Sq K H p xs
inductive St (K : PySem.W.Frag) (H : Hp) (p : Addr) (xs : List V) : Prop where
  | t (h : H p = some (.tup xs)) : St K H p xs
  | k (o : Obj) (its : Array Value) (n : Nat) (h : K.lookup p = some o) (c : o.cls = .type "tuple") (d : o.data = .seq its n) (z : its.size ≤ sizeLine) (r : Vals xs its.toList) : St K H p xs
section
variable {K : PySem.W.Frag} {H H' : Hp} {p : Addr} {xs : List V} {Q : VK}
theorem St.sq (h : St K H p xs) : Sq K H p xs := by
  cases h with
  | t h => exact .t h
  | k o its n h c d z r => exact .k o its n h c d z r
theorem Sq.grow (h : Sq K H p xs) (g : Grow H H') : Sq K H' p xs := by
  cases h with
  | l h => exact .l (g _ _ h)
  | t h => exact .t (g _ _ h)
  | k o its n h c d z r => exact .k o its n h c d z r
theorem St.grow (h : St K H p xs) (g : Grow H H') : St K H' p xs := by
  cases h with
  | t h => exact .t (g _ _ h)
  | k o its n h c d z r => exact .k o its n h c d z r
theorem St.sqT (h : St K H p xs) : SqT K H p xs := by
  cases h with
  | t h => exact SqT.of h
  | k o its n h c d z r => exact .inr ⟨o, its, n, h, c, d, z, r⟩
theorem Sq.or (h : Sq K H p xs) : SqL K H p xs ∨ SqT K H p xs := by
  cases h with
  | l h => exact .inl (SqL.of h)
  | t h => exact .inr (SqT.of h)
  | k o its n h c d z r => exact .inr (.inr ⟨o, its, n, h, c, d, z, r⟩)
theorem Sq.ty (h : Sq K H p xs) : ∃ t, TyX K H (.ref p) t ∧ PySem.W.kitAny K t [.type "list", .type "tuple"] = some true := by
  cases h with
  | l h => exact ⟨_, .base (.lst h), kitLT_l⟩
  | t h => exact ⟨_, .base (.tup h), kitLT_t⟩
  | k o its n h c d z r => exact ⟨_, .kTuple h c, kitLT_t⟩
/-! readings by evidence -/
def cLenE (K : PySem.W.Frag) : List V → Hp → VK → Prop := fun xs H Q => ∃ p ys, xs = [.ref p] ∧ (SqL K H p ys ∨ SqT K H p ys) ∧ Q (.int ys.length) H
theorem call_lenE {X : Cx} : CallR X (.builtin "len") (cLenE X.K) := call_len_seq
theorem lenE (h : Sq K H p xs) (k : Q (.int xs.length) H) : cLenE K [.ref p] H Q := ⟨p, xs, rfl, h.or, k⟩
theorem ixE {i : Int} {v : V} (h : Sq K H p xs) (e : atI xs i = some v) (k : Q v H) : rIx K (.ref p) (.int i) H Q := by
  rcases h.or with h | h
  · exact .inl ⟨p, xs, i, v, rfl, rfl, h, e, k⟩
  · exact .inr (.inl ⟨p, xs, i, v, rfl, rfl, h, e, k⟩)
theorem isiE {tp : Addr} (h : Sq K H p xs) (ht : H tp = some (.tup [.ty "list", .ty "tuple"])) (k : Q (.bl true) H) : rIsiT K [.ref p, .ref tp] H Q := by
  obtain ⟨t, h1, h2⟩ := h.ty
  exact ⟨_, tp, _, t, _, true, rfl, ht, .cons (.ty _) (.cons (.ty _) .nil), h1, h2, k⟩
def cTupE (K : PySem.W.Frag) : List V → Hp → VK → Prop := fun xs H Q => ∃ p ys, xs = [.ref p] ∧ ((SqL K H p ys ∧ ∀ l, H l = none → Q (.ref l) (upd H l (.tup ys))) ∨ (SqT K H p ys ∧ Q (.ref p) H))
theorem call_tupE {X : Cx} : CallR X (.type "tuple") (cTupE X.K) := call_tuple_of
/-- tuple(x): a tuple with these items, the same or new -/
theorem tupE (h : Sq K H p xs) (k : ∀ q H', Grow H H' → St K H' q xs → Q (.ref q) H') : cTupE K [.ref p] H Q := by
  cases h with
  | l h => exact ⟨p, xs, rfl, .inl ⟨SqL.of h, fun l hl => k l _ (Grow.new hl) (.t upd_same)⟩⟩
  | t h => exact ⟨p, xs, rfl, .inr ⟨SqT.of h, k p H .refl (.t h)⟩⟩
  | k o its n h c d z r => exact ⟨p, xs, rfl, .inr ⟨.inr ⟨o, its, n, h, c, d, z, r⟩, k p H .refl (.k o its n h c d z r)⟩⟩
theorem jok_sq {a : Addr} {H1 : Hp} {R : It → Hp → Prop} (h : Sq K H1 a xs) (k : ∀ J, JOk J H1 xs.length (fun j => xs.getD j .non) → R J H1) : ∃ a', V.ref a = .ref a' ∧ (((∃ xs, SqL K H1 a' xs) ∧ R (Itl K a') H1) ∨ ((∃ xs, SqT K H1 a' xs) ∧ R (Itt K a') H1)) := by
  refine ⟨a, rfl, ?_⟩
  cases h with
  | l h => exact .inl ⟨⟨_, SqL.of h⟩, k _ (jok_lst h)⟩
  | t h => exact .inr ⟨⟨_, SqT.of h⟩, k _ (jok_tup h)⟩
  | k o its n h c d z r =>
    have sq : ∀ H, SqT K H a xs := fun H => .inr ⟨o, its, n, h, c, d, z, r⟩
    refine .inr ⟨⟨_, sq _⟩, k _ ⟨fun H g j hj => ⟨xs, _, sq H, List.getElem?_eq_getElem hj⟩, fun H g j hj x H' y => ⟨y.1, ?_⟩, fun H g => ⟨xs, sq H, Nat.le_refl _⟩⟩⟩
    have e := y.2 xs (sq H)
    rw [List.getD_eq_getElem?_getD, e]
    rfl
end
/-! ### numbers or None -/
def oV : Option Int → V
  | none => .non
  | some i => .int i
section
variable {K : PySem.W.Frag} {H : Hp} {Q : VK}
theorem oIs_oV {o : Option Int} : oIs (oV o) .non H Q = Q (.bl o.isNone) H := by cases o <;> rfl
theorem oIsNot_oV {o : Option Int} : oIsNot (oV o) .non H Q = Q (.bl o.isSome) H := by cases o <;> rfl
def eqO (a b : Option Int) : Bool := decide (a = b)
theorem oEq_oV {a b : Option Int} : oEq K (oV a) (oV b) H Q = Q (.bl (decide (a = b))) H ∨ (Q (.bl (decide (a = b))) H → oEq K (oV a) (oV b) H Q) := by
  right
  intro h
  cases a with
  | none =>
    cases b with
    | none => exact ⟨rfl, rfl, h⟩
    | some j => exact ⟨rfl, rfl, h⟩
  | some i =>
    cases b with
    | none => exact ⟨rfl, rfl, h⟩
    | some j =>
      show Q (.bl (decide (i = j))) H
      have e : decide (some i = some j) = decide (i = j) := decide_eq_decide.mpr ⟨fun z => Option.some.inj z, fun z => by rw [z]⟩
      rw [e] at h
      exact h
theorem eqE {a b : Option Int} (h : Q (.bl (decide (a = b))) H) : oEq K (oV a) (oV b) H Q := (oEq_oV (K := K) (H := H) (Q := Q)).elim (fun e => e ▸ h) (fun f => f h)
theorem data_oV {n : Nat} {o : Option Int} : dataF n H (oV o) = some (match o with | none => .none | some i => .int i) := by
  cases o <;> cases n <;> rfl
end
end HG
namespace HG
open PySem L2
section
variable {K : PySem.W.Frag} {H : Hp} {Q : VK} {p : Addr} {xs : List V}
theorem tupL (h : H p = some (.lst xs)) (k : ∀ l H', Grow H H' → H' l = some (.tup xs) → Q (.ref l) H') : cTupE K [.ref p] H Q :=
  ⟨p, xs, rfl, .inl ⟨SqL.of h, fun l hl => k l _ (Grow.new hl) upd_same⟩⟩
def oD : Option Int → PyData
  | none => .none
  | some i => .int i
theorem dataF_oV {n : Nat} {o : Option Int} : dataF n H (oV o) = some (oD o) := by cases o <;> cases n <;> rfl
theorem dataL_oVs {n : Nat} : ∀ os : List (Option Int), dataL (dataF n H) (os.map oV) = some (os.map oD)
  | [] => rfl
  | o :: r => by
    show (match dataF n H (oV o) with | some d => (match dataL (dataF n H) (r.map oV) with | some ds => some (d :: ds) | none => none) | none => none) = _
    rw [dataF_oV, dataL_oVs r]
    rfl
theorem shape_oVs : ∀ os : List (Option Int), PyData.canLayAll0 (os.map oD) = true ∧ PyData.depthAll (os.map oD) = 0
  | [] => ⟨rfl, rfl⟩
  | o :: r => by
    obtain ⟨h1, h2⟩ := shape_oVs r
    constructor
    · show (PyData.canLay0 (oD o) && PyData.canLayAll0 (r.map oD)) = true
      rw [h1]
      cases o <;> rfl
    · show max (PyData.depth (oD o)) (PyData.depthAll (r.map oD)) = 0
      rw [h2]
      cases o <;> rfl
theorem shaped_oVs (os : List (Option Int)) : SeqAt.shaped (.list (os.map oD)) = true ∧ SeqAt.shaped (.tuple (os.map oD)) = true := by
  obtain ⟨h1, h2⟩ := shape_oVs os
  constructor
  · show (PyData.canLayAll0 (os.map oD) && decide (PyData.depthAll (os.map oD) + 1 ≤ 64)) = true
    rw [h1, h2]; rfl
  · show (PyData.canLayAll0 (os.map oD) && decide (PyData.depthAll (os.map oD) + 1 ≤ 64)) = true
    rw [h1, h2]; rfl
theorem dataF_lst {n : Nat} {os : List (Option Int)} (h : H p = some (.lst (os.map oV))) : dataF (n + 1) H (.ref p) = some (.list (os.map oD)) := by
  simp only [dataF, h]
  rw [dataL_oVs]
  rfl
theorem dataF_tup {n : Nat} {os : List (Option Int)} (h : H p = some (.tup (os.map oV))) : dataF (n + 1) H (.ref p) = some (.tuple (os.map oD)) := by
  simp only [dataF, h]
  rw [dataL_oVs]
  rfl
theorem any_none : ∀ os : List (Option Int), ((os.map oD).any fun z => PyData.eqv z .none) = os.any (·.isNone)
  | [] => rfl
  | o :: r => by
    show (PyData.eqv (oD o) .none || (r.map oD).any fun z => PyData.eqv z .none) = (o.isNone || r.any (·.isNone))
    rw [any_none r]
    cases o <;> rfl
/-- None in a list of numbers and Nones -/
theorem inNone {os : List (Option Int)} (h : H p = some (.lst (os.map oV))) (k : Q (.bl (os.any (·.isNone))) H) : oIn K .non (.ref p) H Q := by
  have e1 : dataF 8 H (.ref p) = some (.list (os.map oD)) := dataF_lst h
  have e2 : dataF 8 H .non = some .none := rfl
  simp only [oIn, e1, e2]
  exact ⟨rfl, (shaped_oVs os).1, by rw [any_none]; exact k⟩
end
end HG

/-! Growths, plainly: values, normal forms. No program in sight. -/
namespace HG
/-- the value at n of told values and gains -/
def gv (told : List (Option Int)) (gains : List Int) (n : Nat) : Option Int :=
  if n < told.length then told.getD n none
  else (told.getD (n - ((n - told.length) / gains.length + 1) * gains.length) none).map (· + (((n - told.length) / gains.length + 1 : Nat) : Int) * gains.getD (n % gains.length) 0)
section
variable {told : List (Option Int)} {gains : List Int} {n : Nat}
theorem gv_lt (h : n < told.length) : gv told gains n = told.getD n none := if_pos h
theorem gv_rec (hp : 0 < gains.length) (hl : gains.length ≤ told.length) (h : told.length ≤ n) : gv told gains n = (gv told gains (n - gains.length)).map (· + gains.getD (n % gains.length) 0) := by
  have hn : ¬ n < told.length := by omega
  unfold gv
  rw [if_neg hn]
  generalize hL : told.length = L at *
  generalize hP : gains.length = p at *
  by_cases h2 : n - p < L
  · rw [if_pos h2]
    have e : (n - L) / p = 0 := Nat.div_eq_of_lt (by omega)
    rw [e]
    have e2 : n - (0 + 1) * p = n - p := by omega
    rw [e2]
    congr 1
    funext x
    show x + ((0 + 1 : Nat) : Int) * _ = x + _
    rw [Nat.zero_add, Int.natCast_one, Int.one_mul]
  · rw [if_neg h2]
    have e : (n - L) / p = (n - p - L) / p + 1 := by
      have : n - L = (n - p - L) + p := by omega
      rw [this, Nat.add_div_right _ hp]
    have e3 : (n - p) % p = n % p := by
      have : n = (n - p) + p := by omega
      rw [this, Nat.add_mod_right, Nat.add_sub_cancel]
    rw [e, e3]
    generalize (n - p - L) / p + 1 = t
    have e2 : n - (t + 1) * p = n - p - t * p := by rw [Nat.add_mul, Nat.one_mul]; omega
    rw [e2, Option.map_map]
    congr 1
    funext x
    show x + ((t + 1 : Nat) : Int) * _ = x + (t : Int) * _ + _
    rw [Int.natCast_add, Int.natCast_one, Int.add_mul, Int.one_mul, Int.add_assoc]
/-- f is the growth of told and gains -/
structure Gr (told : List (Option Int)) (gains : List Int) (f : Nat → Option Int) : Prop where
  pos : 0 < gains.length
  le : gains.length ≤ told.length
  lo : ∀ n, n < told.length → f n = told.getD n none
  hi : ∀ n, told.length ≤ n → f n = (f (n - gains.length)).map (· + gains.getD (n % gains.length) 0)
theorem gr_gv (hp : 0 < gains.length) (hl : gains.length ≤ told.length) : Gr told gains (gv told gains) := ⟨hp, hl, fun n h => gv_lt h, fun n h => gv_rec hp hl h⟩
theorem Gr.eq {f g : Nat → Option Int} (h : Gr told gains f) (k : Gr told gains g) : ∀ n, f n = g n := by
  intro n
  induction n using Nat.strongRecOn with
  | _ n ih =>
    by_cases hn : n < told.length
    · rw [h.lo n hn, k.lo n hn]
    · rw [h.hi n (by omega), k.hi n (by omega), ih (n - gains.length) (by have := h.pos; have := h.le; omega)]
/-- from the last period of the told values on: a step of one period -/
theorem Gr.step {f : Nat → Option Int} (h : Gr told gains f) (hn : told.length - gains.length ≤ n) : f (n + gains.length) = (f n).map (· + gains.getD (n % gains.length) 0) := by
  have := h.hi (n + gains.length) (by have := h.le; omega)
  rw [Nat.add_sub_cancel, Nat.add_mod_right] at this
  exact this
theorem Gr.none {f : Nat → Option Int} (h : Gr told gains f) (hn : told.length - gains.length ≤ n) : f (n + gains.length) = none ↔ f n = none := by
  rw [h.step hn, Option.map_eq_none_iff]
end
/-! ### steps, gains -/
def stepB : Option Int → Option Int → Option Int
  | none, none => some 0
  | some a, some b => some (b - a)
  | _, _ => none
def stepsOf (row : List (Option Int)) (p : Nat) : List (Option Int) := (List.range (row.length - p)).map fun i => stepB (row.getD i none) (row.getD (i + p) none)
def gainsOf (row : List (Option Int)) (origin p : Nat) : Option (List Int) :=
  if (stepsOf row p).any (·.isNone) = true ∨ ¬ (((List.range (stepsOf row p).length).map fun i => decide ((stepsOf row p).getD i none = (stepsOf row p).getD (i % p) none)).all id = true) then none
  else some ((List.range p).map fun r : Nat => ((stepsOf row p).getD (((r : Int) - (origin : Int)) % (p : Int)).toNat none).getD 0)
def leastG (row : List (Option Int)) (origin p : Nat) : Option (List Int) :=
  match (List.range (p - 1)).findSome? fun i => if p % (i + 1) = 0 then gainsOf row origin (i + 1) else none with
  | some g => some g
  | none => gainsOf row origin p
def trimN (told : List (Option Int)) (gains : List Int) : Nat → Nat
  | 0 => 0
  | m + 1 => if gains.length < m + 1 ∧ told.getD m none = (told.getD (m - gains.length) none).map (· + gains.getD (m % gains.length) 0) then trimN told gains m else m + 1
def rowOf (told : List (Option Int)) (gains : List Int) : List (Option Int) := (List.range (3 * gains.length)).map fun i => gv told gains (told.length + i)
def nfG (told : List (Option Int)) (gains : List Int) : List Int := (leastG (rowOf told gains) told.length gains.length).getD []
def nfT (told : List (Option Int)) (gains : List Int) : List (Option Int) := told.take (trimN told (nfG told gains) told.length)
section
variable {told : List (Option Int)} {gains : List Int} {f : Nat → Option Int}
/-! ### trimming keeps the values -/
theorem trimN_le : ∀ m, trimN told gains m ≤ m
  | 0 => Nat.le_refl _
  | m + 1 => by
    unfold trimN
    split
    · exact Nat.le_succ_of_le (trimN_le m)
    · exact Nat.le_refl _
theorem getD_take {α : Type} {l : List α} {m n : Nat} {d : α} (h : n < m) : (l.take m).getD n d = l.getD n d := by
  rw [List.getD_eq_getElem?_getD, List.getD_eq_getElem?_getD, List.getElem?_take_of_lt h]
theorem gr_trim : ∀ m, m ≤ told.length → gains.length ≤ m → Gr (told.take m) gains f → Gr (told.take (trimN told gains m)) gains f
  | 0, _, _, h => h
  | m + 1, hm, hg, h => by
    unfold trimN
    split
    · rename_i c
      refine gr_trim m (by omega) (by omega) ?_
      have l1 : (told.take (m + 1)).length = m + 1 := by rw [List.length_take]; omega
      have l2 : (told.take m).length = m := by rw [List.length_take]; omega
      refine ⟨h.pos, by omega, fun n hn => ?_, fun n hn => ?_⟩
      · rw [h.lo n (by omega), getD_take (by omega), getD_take (by omega)]
      · by_cases e : n = m
        · subst e
          rw [h.lo n (by omega), getD_take (by omega), c.2, h.lo (n - gains.length) (by have := h.pos; omega), getD_take (by omega)]
        · exact h.hi n (by omega)
    · exact h
theorem trimN_ge : ∀ m, gains.length ≤ m → gains.length ≤ trimN told gains m
  | 0, h => h
  | m + 1, h => by
    unfold trimN
    split
    · rename_i c
      exact trimN_ge m (by omega)
    · exact h

/-! ### the gains of a shorter period -/
theorem getD_map_range {α : Type} {n i : Nat} {g : Nat → α} {d : α} (h : i < n) : ((List.range n).map g).getD i d = g i := by
  rw [List.getD_eq_getElem?_getD, List.getElem?_map, List.getElem?_range h]
  rfl
theorem stepB_map {a b : Option Int} {c : Int} (h : stepB a b = some c) : b = a.map (· + c) := by
  cases a with
  | none =>
    cases b with
    | none => rfl
    | some y => cases h
  | some x =>
    cases b with
    | none => cases h
    | some y =>
      have e : y - x = c := Option.some.inj h
      show some y = some (x + c)
      congr 1
      omega
/-- what gainsOf finds -/
theorem gainsOf_spec {row : List (Option Int)} {L l : Nat} {g' : List Int} (hl : 0 < l) (h2 : 2 * l ≤ row.length) (h : gainsOf row L l = some g') :
    ∃ c : Nat → Int, (∀ i, i + l < row.length → row.getD (i + l) none = (row.getD i none).map (· + c (i % l))) ∧ g'.length = l ∧ ∀ n, L ≤ n → g'.getD (n % l) 0 = c ((n - L) % l) := by
  unfold gainsOf at h
  split at h
  · cases h
  · rename_i hc
    have h3 : ¬ (stepsOf row l).any (·.isNone) = true := fun z => hc (.inl z)
    have h4 : (((List.range (stepsOf row l).length).map fun i => decide ((stepsOf row l).getD i none = (stepsOf row l).getD (i % l) none)).all id = true) := Classical.byContradiction fun z => hc (.inr z)
    have eg := Option.some.inj h
    have len : (stepsOf row l).length = row.length - l := by unfold stepsOf; rw [List.length_map, List.length_range]
    have per : ∀ i, i < row.length - l → (stepsOf row l).getD i none = (stepsOf row l).getD (i % l) none := by
      intro i hi
      rw [List.all_map, List.all_eq_true] at h4
      have := h4 i (by rw [List.mem_range, len]; exact hi)
      exact of_decide_eq_true this
    have non : ∀ i, i < row.length - l → ∃ c, (stepsOf row l).getD i none = some c := by
      intro i hi
      cases e : (stepsOf row l).getD i none with
      | some c => exact ⟨c, rfl⟩
      | none =>
        exfalso
        apply h3
        rw [List.any_eq_true]
        refine ⟨none, ?_, rfl⟩
        rw [List.getD_eq_getElem?_getD, List.getElem?_eq_getElem (by omega)] at e
        have e' : (stepsOf row l)[i] = none := e
        rw [← e']
        exact List.getElem_mem _
    refine ⟨fun j => ((stepsOf row l).getD j none).getD 0, fun i hi => ?_, ?_, fun n hn => ?_⟩
    · have hi' : i < row.length - l := by omega
      obtain ⟨c, hc⟩ := non i hi'
      have hb : stepB (row.getD i none) (row.getD (i + l) none) = some c := by
        have : (stepsOf row l).getD i none = stepB (row.getD i none) (row.getD (i + l) none) := by
          unfold stepsOf
          rw [getD_map_range hi']
        rw [← this]
        exact hc
      have e : ((stepsOf row l).getD (i % l) none).getD 0 = c := by
        rw [← per i hi', hc]
        rfl
      show _ = Option.map (· + ((stepsOf row l).getD (i % l) none).getD 0) _
      rw [e]
      exact stepB_map hb
    · rw [← eg, List.length_map, List.length_range]
    · have hm : n % l < l := Nat.mod_lt _ hl
      rw [← eg, getD_map_range hm]
      have e : (((n % l : Nat) : Int) - (L : Int)) % (l : Int) = (((n - L) % l : Nat) : Int) := by
        have e1 : ((n - L : Nat) : Int) = (n : Int) - L := by omega
        rw [Int.natCast_emod, Int.natCast_emod, e1, Int.emod_sub_emod]
      rw [e, Int.toNat_natCast]
theorem gr_gains {row : List (Option Int)} {l : Nat} {g' : List Int} (h : Gr told gains f) (hrow : row.length = 3 * gains.length) (hr : ∀ i, i < row.length → row.getD i none = f (told.length + i)) (hl : 0 < l) (hd : l ∣ gains.length)
    (hg : gainsOf row told.length l = some g') : g'.length = l ∧ Gr told g' f := by
  have hp := h.pos
  have hpl := h.le
  have hle : l ≤ gains.length := Nat.le_of_dvd hp hd
  obtain ⟨c, hc, len, hgc⟩ := gainsOf_spec hl (by omega) hg
  generalize hL : told.length = L at *
  generalize hP : gains.length = p at *
  have st : ∀ n, L - p ≤ n → f (n + p) = (f n).map (· + gains.getD (n % p) 0) := by
    intro n hn
    have := h.step (n := n) (by rw [hL, hP]; exact hn)
    rw [hP] at this
    exact this
  have modp : ∀ i, (i + p) % l = i % l := by
    intro i
    obtain ⟨q, rfl⟩ := hd
    exact Nat.add_mul_mod_self_left i l q
  have win : ∀ i, i + l < 3 * p → f (L + i + l) = (f (L + i)).map (· + c (i % l)) := by
    intro i hi
    have := hc i (by omega)
    rw [hr (i + l) (by omega), hr i (by omega), ← Nat.add_assoc] at this
    exact this
  have P : ∀ i, f (L + i + l) = (f (L + i)).map (· + c (i % l)) ∧ (f (L + i) ≠ none → gains.getD ((L + i + l) % p) 0 = gains.getD ((L + i) % p) 0) := by
    intro i
    induction i using Nat.strongRecOn with
    | _ i ih =>
      by_cases hi : i < p
      · have w1 := win i (by omega)
        have w2 := win (i + p) (by omega)
        refine ⟨w1, fun hne => ?_⟩
        have s1 := st (L + i) (by omega)
        have s2 := st (L + i + l) (by omega)
        rw [modp] at w2
        have e1 : L + (i + p) + l = L + i + l + p := by omega
        have e2 : L + (i + p) = L + i + p := by omega
        rw [e1, e2, s1, s2, w1] at w2
        cases hv : f (L + i) with
        | none => exact absurd hv hne
        | some v =>
          rw [hv] at w2
          have z : v + c (i % l) + gains.getD ((L + i + l) % p) 0 = v + gains.getD ((L + i) % p) 0 + c (i % l) := Option.some.inj w2
          omega
      · obtain ⟨j, rfl⟩ : ∃ j, i = j + p := ⟨i - p, by omega⟩
        obtain ⟨q1, q2⟩ := ih j (by omega)
        have s1 := st (L + j) (by omega)
        have s2 := st (L + j + l) (by omega)
        have e1 : L + (j + p) + l = L + j + l + p := by omega
        have e2 : L + (j + p) = L + j + p := by omega
        rw [e1, e2, s1, s2, modp, Nat.add_mod_right, Nat.add_mod_right, q1]
        cases hv : f (L + j) with
        | none => exact ⟨rfl, fun z => absurd rfl z⟩
        | some v =>
          have q3 := q2 (by rw [hv]; intro z; cases z)
          refine ⟨?_, fun _ => q3⟩
          show some (v + c (j % l) + _) = some (v + _ + c (j % l))
          rw [q3]
          congr 1
          omega
  refine ⟨len, by omega, by omega, fun n hn => h.lo n (by omega), fun n hn => ?_⟩
  rw [hL] at hn
  rw [len, hgc n hn]
  by_cases hn2 : L + l ≤ n
  · obtain ⟨i, rfl⟩ : ∃ i, n = L + i + l := ⟨n - L - l, by omega⟩
    have e : (L + i + l - L) % l = i % l := by
      have : L + i + l - L = i + l := by omega
      rw [this, Nat.add_mod_right]
    rw [e, Nat.add_sub_cancel]
    exact (P i).1
  · obtain ⟨m, rfl⟩ : ∃ m, n = m + l := ⟨n - l, by omega⟩
    rw [Nat.add_sub_cancel]
    obtain ⟨q1, q2⟩ := P (m + p - L)
    have s1 := st m (by omega)
    have s2 := st (m + l) (by omega)
    have e1 : L + (m + p - L) + l = m + l + p := by omega
    have e2 : L + (m + p - L) = m + p := by omega
    rw [e1, e2] at q1
    rw [e1, e2] at q2
    have e3 : (m + p - L) % l = (m + l - L) % l := by
      have a : m + p - L + l = (m + l - L) + p := by omega
      have b := modp (m + l - L)
      rw [← a, Nat.add_mod_right] at b
      exact b
    rw [e3, s1, s2] at q1
    rw [s1, Nat.add_mod_right, Nat.add_mod_right] at q2
    cases hv : f m with
    | none =>
      rw [hv] at q1
      have : (f (m + l)).map (· + gains.getD ((m + l) % p) 0) = none := q1
      rw [Option.map_eq_none_iff] at this
      rw [this]
      rfl
    | some v =>
      rw [hv] at q1 q2
      have q3 := q2 (by intro z; cases z)
      cases hw : f (m + l) with
      | none => rw [hw] at q1; cases q1
      | some w =>
        rw [hw] at q1
        have := Option.some.inj q1
        show some w = some (v + _)
        congr 1
        have z : w + gains.getD ((m + l) % p) 0 = v + gains.getD (m % p) 0 + c ((m + l - L) % l) := this
        omega

theorem gainsOf_full {row : List (Option Int)} (h : Gr told gains f) (hrow : row.length = 3 * gains.length) (hr : ∀ i, i < row.length → row.getD i none = f (told.length + i)) : ∃ g', gainsOf row told.length gains.length = some g' := by
  have hp := h.pos
  have hpl := h.le
  generalize hL : told.length = L at *
  generalize hP : gains.length = p at *
  have st : ∀ n, L - p ≤ n → f (n + p) = (f n).map (· + gains.getD (n % p) 0) := by
    intro n hn
    have := h.step (n := n) (by rw [hL, hP]; exact hn)
    rw [hP] at this
    exact this
  have sv : ∀ i, i < 2 * p → (stepsOf row p).getD i none = (match f (L + i) with | none => some 0 | some _ => some (gains.getD ((L + i) % p) 0)) := by
    intro i hi
    unfold stepsOf
    rw [getD_map_range (by omega), hr i (by omega), hr (i + p) (by omega), ← Nat.add_assoc, st (L + i) (by omega)]
    cases f (L + i) with
    | none => rfl
    | some v =>
      show some (v + _ - v) = some _
      congr 1
      omega
  have len : (stepsOf row p).length = 2 * p := by unfold stepsOf; rw [List.length_map, List.length_range]; omega
  unfold gainsOf
  rw [if_neg]
  · exact ⟨_, rfl⟩
  · rintro (z | z)
    · rw [List.any_eq_true] at z
      obtain ⟨o, ho, hn⟩ := z
      obtain ⟨i, hi, e⟩ := List.getElem_of_mem ho
      have s := sv i (by omega)
      rw [List.getD_eq_getElem?_getD, List.getElem?_eq_getElem hi, e] at s
      cases o with
      | some c => cases hn
      | none =>
        have s' : none = (match f (L + i) with | none => some 0 | some _ => some (gains.getD ((L + i) % p) 0)) := s
        split at s' <;> cases s'
    · apply z
      rw [List.all_map, List.all_eq_true]
      intro i hi
      rw [List.mem_range, len] at hi
      show decide _ = true
      refine decide_eq_true ?_
      by_cases hi2 : i < p
      · rw [Nat.mod_eq_of_lt hi2]
      · obtain ⟨j, rfl⟩ : ∃ j, i = j + p := ⟨i - p, by omega⟩
        rw [Nat.add_mod_right, Nat.mod_eq_of_lt (by omega : j < p), sv _ hi, sv j (by omega)]
        have e : L + (j + p) = L + j + p := by omega
        rw [e, st (L + j) (by omega), Nat.add_mod_right]
        cases f (L + j) <;> rfl
theorem leastG_spec {row : List (Option Int)} (h : Gr told gains f) (hrow : row.length = 3 * gains.length) (hr : ∀ i, i < row.length → row.getD i none = f (told.length + i)) : ∃ g', leastG row told.length gains.length = some g' ∧ g'.length ∣ gains.length ∧ Gr told g' f := by
  unfold leastG
  cases e : (List.range (gains.length - 1)).findSome? fun i => if gains.length % (i + 1) = 0 then gainsOf row told.length (i + 1) else none with
  | none =>
    obtain ⟨g', hg⟩ := gainsOf_full h hrow hr
    have := gr_gains h hrow hr h.pos (Nat.dvd_refl _) hg
    exact ⟨g', hg, by rw [this.1]; exact Nat.dvd_refl _, this.2⟩
  | some g' =>
    obtain ⟨i, hi, q⟩ := List.exists_of_findSome?_eq_some e
    split at q
    · rename_i hd
      have := gr_gains h hrow hr (by omega) (Nat.dvd_of_mod_eq_zero hd) q
      exact ⟨g', rfl, by rw [this.1]; exact Nat.dvd_of_mod_eq_zero hd, this.2⟩
    · cases q
theorem rowOf_ok (h : Gr told gains f) : (rowOf told gains).length = 3 * gains.length ∧ ∀ i, i < (rowOf told gains).length → (rowOf told gains).getD i none = f (told.length + i) := by
  have l : (rowOf told gains).length = 3 * gains.length := by unfold rowOf; rw [List.length_map, List.length_range]
  refine ⟨l, fun i hi => ?_⟩
  unfold rowOf
  rw [getD_map_range (by omega)]
  exact (gr_gv h.pos h.le).eq h _
/-- the normal form keeps the values -/
theorem nf_spec (h : Gr told gains f) : leastG (rowOf told gains) told.length gains.length = some (nfG told gains) ∧ (nfG told gains).length ∣ gains.length ∧ Gr told (nfG told gains) f ∧ Gr (nfT told gains) (nfG told gains) f := by
  obtain ⟨l, r⟩ := rowOf_ok h
  obtain ⟨g', h1, h2, h3⟩ := leastG_spec h l r
  have e : nfG told gains = g' := by unfold nfG; rw [h1]; rfl
  rw [e]
  refine ⟨h1, h2, h3, ?_⟩
  unfold nfT
  rw [e]
  exact gr_trim told.length (Nat.le_refl _) h3.le (by rw [List.take_length]; exact h3)
end
end HG

namespace HG
open PySem L2
structure Ad where
  c_Growth : Addr
  p_Growth_period : Addr
  p_Growth_lasting : Addr
  p_Growth_is_endless : Addr
  p_Growth_greatest : Addr
  p_Growth_slope : Addr
  dt_Growth_init_0 : Addr
  m_Growth_constant : Addr
  m_Growth_ramp : Addr
  m_Growth_none : Addr
  f_is_integer : Addr
  f_is_value : Addr
  f_is_list : Addr
  f_added : Addr
  f_value_at : Addr
  f_step_between : Addr
  f_gains_of : Addr
  f_least_gains : Addr
  f_trimmed : Addr
  f_normal_form : Addr
  f_shared_multiple : Addr
  f_need_integer : Addr
  f_Growth_init : Addr
  f_Growth_constant : Addr
  f_Growth_ramp : Addr
  f_Growth_none : Addr
  f_Growth_period : Addr
  f_Growth_lasting : Addr
  f_Growth_is_endless : Addr
  f_Growth_greatest : Addr
  f_Growth_slope : Addr
  f_law_pen : Addr
  f_law_draw : Addr
  f_law_pick : Addr
  f_law_told : Addr
  f_law_lasting : Addr
  f_law_right : Addr
  f_law : Addr
  d_is_integer : FuncData
  d_is_value : FuncData
  d_is_list : FuncData
  d_added : FuncData
  d_value_at : FuncData
  d_step_between : FuncData
  d_gains_of : FuncData
  d_least_gains : FuncData
  d_trimmed : FuncData
  d_normal_form : FuncData
  d_shared_multiple : FuncData
  d_need_integer : FuncData
  d_Growth_init : FuncData
  d_Growth_constant : FuncData
  d_Growth_ramp : FuncData
  d_Growth_none : FuncData
  d_Growth_period : FuncData
  d_Growth_lasting : FuncData
  d_Growth_is_endless : FuncData
  d_Growth_greatest : FuncData
  d_Growth_slope : FuncData
  d_law_pen : FuncData
  d_law_draw : FuncData
  d_law_pick : FuncData
  d_law_told : FuncData
  d_law_lasting : FuncData
  d_law_right : FuncData
  d_law : FuncData

def sp_law_pen (K : PySem.W.Frag) (A : Ad) : Sp := spPenL K
def sp_law_draw (K : PySem.W.Frag) (A : Ad) : Sp := spDrawL
def sp_law_pick (K : PySem.W.Frag) (A : Ad) : Sp := spPickL
def t_law_pen_0 (K : PySem.W.Frag) (A : Ad) : TS := (tRet (tLst (tCons (tCB (cList K) (tCons (tSl (rSlL K) (tVar 0) tNoPart (tPart (tC (.int 63)))) tNil)) (tCons (tC (.int 0)) (tCons (tC (.int 0)) tNil)))))

def t_law_draw_3 (K : PySem.W.Frag) (A : Ad) : TS := (tRet (tVar 2))
def t_law_draw_2 (K : PySem.W.Frag) (A : Ad) : TS := (tSeq (tAsg (tOp oFdiv (tCB cInt (tCons (tOp (iIx K) (tVar 0) (tC (.int 2))) tNil)) (tVar 1)) (gSub (tVar 0) (tC (.int 2)) stL)) (t_law_draw_3 K A))
def t_law_draw_1 (K : PySem.W.Frag) (A : Ad) : TS := (tSeq (tAsg (tOp oMod (tCB cInt (tCons (tOp (iIx K) (tVar 0) (tC (.int 2))) tNil)) (tVar 1)) (gName 2)) (t_law_draw_2 K A))
def t_law_draw_8 (K : PySem.W.Frag) (A : Ad) : TS := (tAsg (tOp (iIx K) (tOp (iIx K) (tVar 0) (tC (.int 0))) (tOp oMod (tCB cInt (tCons (tVar 3) tNil)) (tCB (cLen K) (tCons (tOp (iIx K) (tVar 0) (tC (.int 0))) tNil)))) (gName 4))
def t_law_draw_12 (K : PySem.W.Frag) (A : Ad) : TS := (tRet (tOp oMod (tCB cInt (tCons (tVar 5) tNil)) (tVar 1)))
def t_law_draw_11 (K : PySem.W.Frag) (A : Ad) : TS := (tSeq (tAsg (tOp oFdiv (tCB cInt (tCons (tVar 5) tNil)) (tVar 1)) (gSub (tVar 0) (tC (.int 2)) stL)) (t_law_draw_12 K A))
def t_law_draw_10 (K : PySem.W.Frag) (A : Ad) : TS := (tSeq (tAsg (tOp oAdd (tOp oMul (tC (.int 2)) (tOp oSub (tCB cAbs (tCons (tVar 4) tNil)) (tOp oPow (tC (.int 10)) (tC (.int 18))))) (tCB cInt (tCons (tOp oLt (tVar 4) (tC (.int 0))) tNil))) (gName 5)) (t_law_draw_11 K A))
def t_law_draw_15 (K : PySem.W.Frag) (A : Ad) : TS := (tRet (tOp oMod (tCB cInt (tCons (tOp oFdiv (tVar 6) (tC (.int 32))) tNil)) (tVar 1)))
def t_law_draw_14 (K : PySem.W.Frag) (A : Ad) : TS := (tSeq (tAsg (tOp oMod (tCB cInt (tCons (tOp oPow (tOp oAdd (tOp oAdd (tOp oMul (tVar 6) (tOp oAdd (tOp oMul (tC (.int 2)) (tVar 3)) (tC (.int 647)))) (tOp oMul (tOp oMul (tC (.int 52194)) (tVar 3)) (tVar 3))) (tC (.int 358))) (tC (.int 3))) tNil)) (tC (.int 2147483563))) (gName 6)) (t_law_draw_15 K A))
def t_law_draw_13 (K : PySem.W.Frag) (A : Ad) : TS := (tSeq (tAsg (tOp oMod (tCB cInt (tCons (tOp oPow (tOp oAdd (tOp oAdd (tOp oMod (tCB cInt (tCons (tVar 4) tNil)) (tC (.int 2147483549))) (tOp oMul (tC (.int 43120)) (tVar 3))) (tC (.int 2198))) (tC (.int 5))) tNil)) (tC (.int 2147483647))) (gName 6)) (t_law_draw_14 K A))
def t_law_draw_9 (K : PySem.W.Frag) (A : Ad) : TS := (tSeq (tIfS (tAnd (tTest (tOp oLt (tVar 3) (tCB (cLen K) (tCons (tOp (iIx K) (tVar 0) (tC (.int 0))) tNil)))) (tTest (tOp oGe (tCB cAbs (tCons (tVar 4) tNil)) (tOp oPow (tC (.int 10)) (tC (.int 18)))))) (t_law_draw_10 K A) tNext) (t_law_draw_13 K A))
def t_law_draw_7 (K : PySem.W.Frag) (A : Ad) : TS := (tSeq (tIfS (tTest (tOp (oNe K) (tOp (iIx K) (tVar 0) (tC (.int 0))) (tLst tNil))) (t_law_draw_8 K A) tNext) (t_law_draw_9 K A))
def t_law_draw_6 (K : PySem.W.Frag) (A : Ad) : TS := (tSeq (tAsg (tOp oAdd (tOp oMul (tC (.int 54802)) (tVar 3)) (tC (.int 2808))) (gName 4)) (t_law_draw_7 K A))
def t_law_draw_5 (K : PySem.W.Frag) (A : Ad) : TS := (tSeq (tAsg (tOp oAdd (tVar 3) (tC (.int 1))) (gSub (tVar 0) (tC (.int 1)) stL)) (t_law_draw_6 K A))
def t_law_draw_4 (K : PySem.W.Frag) (A : Ad) : TS := (tSeq (tAsg (tOp (iIx K) (tVar 0) (tC (.int 1))) (gName 3)) (t_law_draw_5 K A))
def t_law_draw_0 (K : PySem.W.Frag) (A : Ad) : TS := (tSeq (tIfS (tTest (tOp oGt (tOp (iIx K) (tVar 0) (tC (.int 2))) (tC (.int 0)))) (t_law_draw_1 K A) tNext) (t_law_draw_4 K A))

def t_law_pick_0 (K : PySem.W.Frag) (A : Ad) : TS := (tRet (tOp (iIx K) (tVar 1) (tCall (sp_law_draw K A) [] E0 (tCons (tVar 0) (tCons (tCB (cLen K) (tCons (tVar 1) tNil)) tNil)))))

theorem pure_law_pen {K : PySem.W.Frag} {A : Ad} {vs : List V} {H : Hp} {Q : VK} {E : XK} (h : sp_law_pen K A vs H Q E) : (t_law_pen_0 K A) { nx := fun _ H' => Q .non H', rt := Q } (start ["_law_script"] vs) H := by
  unfold sp_law_pen spPenL at h
  split at h
  · rename_i a
    obtain ⟨ns, hs, k⟩ := h
    show (t_law_pen_0 K A) _ [some (.ref a)] H
    refine st_ret ?_
    (refine evE ?P1 (fun Q h => ?h1) ?_; (case h1 => (simp only [tTest, tOp, tUn, tVar, tC, tCB, tCons, tNil, tAnd, tOr, tNot, tB, tTup, tLst, tIf, tAndV, tOrV, tNotV, tSl, tPart, tNoPart, tCall, iIx_ref, oGt_int, oMod_int, oFdiv_int, oAdd_int, oAdd_str, oSub_int, oMul_int, oLt_int, oGe_int, oLe_int, oPow_int, uNeg_int, oEq_int, oEq_str, oEq_bl, oNe_int, oNe_str, oNe_bl, cInt_int, cInt_bl, cAbs_int, cLen_ref, cList_ref, stL_ref, gName, gSub, gTup, gCons, gNil, rdSeq, List.getElem?_cons_zero, List.getElem?_cons_succ, List.set_cons_zero, List.set_cons_succ, List.cons_append, List.nil_append, Option.some.injEq, exists_eq_left', V.bl.injEq, V.int.injEq, V.ref.injEq, atI_0, atI_1, atI_2, setI_1, setI_2, Bool.not_true, Bool.not_false, Bool.false_eq_true, if_false, if_true, rSlL]; exact h)); (try dsimp only [gName, tNext, List.set_cons_zero, List.set_cons_succ]))
    refine ⟨a, _, rfl, hs, fun p hp => ?_⟩
    have e1 : cutV (ns.map V.int) none (some 63) = (ns.take 63).map V.int := by
      have e2 : HT.sIx (ns.map V.int).length (ns.map V.int).length (some 63) = min 63 (ns.map V.int).length := HT.sIx_nat _ _ 63
      unfold cutV
      rw [e2, HT.sIx_none, List.drop_zero, Nat.sub_zero, List.map_take, List.take_eq_take_iff]
      omega
    rw [e1, upd_same]
    intro l hl
    refine ⟨by show 3 ≤ sizeLine; decide, fun q hq => ?_⟩
    have hlp : l ≠ p := fun z => by rw [z, upd_same] at hl; cases hl
    have hlq : l ≠ q := fun z => by rw [← z, upd_same] at hq; cases hq
    refine k q l _ ⟨ns.take 63, 0, 0, upd_same, ?_, ?_, by decide, by decide, by decide⟩ (fun b o e => ?_) ?_
    · rw [upd_ne hlq, upd_same]
    · rw [List.length_take]; omega
    · have g1 : Grow H (upd H p (.lst ((ns.take 63).map V.int))) := Grow.new hp
      exact (g1.trans ((Grow.new hl).trans (Grow.new hq))) b o e
    · cases e : H q with
      | none => rfl
      | some o =>
        have g1 : Grow H (upd H p (.lst ((ns.take 63).map V.int))) := Grow.new hp
        rw [(g1.trans (Grow.new hl)) q o e] at hq
        cases hq
  · exact h.elim
theorem pure_law_draw {K : PySem.W.Frag} {A : Ad} {vs : List V} {H : Hp} {Q : VK} {E : XK} (h : sp_law_draw K A vs H Q E) : (t_law_draw_0 K A) { nx := fun _ H' => Q .non H', rt := Q } (start ["_law_pen_here", "_law_many", "_law_digit", "_law_turn", "_law_cell", "_law_great", "_law_blend"] vs) H := by
  unfold sp_law_draw spDrawL at h
  split at h
  · rename_i p many
    obtain ⟨l, n, ⟨cells, turn, rest, hp, hl, hc, ht0, ht1, hr0⟩, hn, hm0, hm1, k⟩ := h
    have k : ∀ (d turn' rest' : Int) (H' : Hp), 0 ≤ d → d < many → turn ≤ turn' → turn' ≤ turn + 1 → 0 ≤ rest' → H' p = some (.lst [.ref l, .int turn', .int rest']) → Keep p H H' → Q (.int d) H' := by
      intro d turn' rest' H' h1 h2 h3 h4 h5 h6 h7
      refine k d H' h1 h2 ⟨cells, turn', rest', h6, h7 l _ ?_ hl, hc, by omega, by omega, h5⟩ h7
      rintro rfl
      rw [hp] at hl
      cases cells <;> cases hl
    have ht1 : turn ≤ 1000000 := by omega
    show (t_law_draw_0 K A) _ [some (.ref p), some (.int many), none, none, none, none, none] H
    refine st_seq (st_if ?_)
    (refine evT ?P2 (fun Q h => ?h2) ?_; (case h2 => (simp only [tTest, tOp, tUn, tVar, tC, tCB, tCons, tNil, tAnd, tOr, tNot, tB, tTup, tLst, tIf, tAndV, tOrV, tNotV, tSl, tPart, tNoPart, tCall, iIx_ref, oGt_int, oMod_int, oFdiv_int, oAdd_int, oAdd_str, oSub_int, oMul_int, oLt_int, oGe_int, oLe_int, oPow_int, uNeg_int, oEq_int, oEq_str, oEq_bl, oNe_int, oNe_str, oNe_bl, cInt_int, cInt_bl, cAbs_int, cLen_ref, cList_ref, stL_ref, gName, gSub, gTup, gCons, gNil, rdSeq, List.getElem?_cons_zero, List.getElem?_cons_succ, List.set_cons_zero, List.set_cons_succ, List.cons_append, List.nil_append, Option.some.injEq, exists_eq_left', V.bl.injEq, V.int.injEq, V.ref.injEq, atI_0, atI_1, atI_2, setI_1, setI_2, Bool.not_true, Bool.not_false, Bool.false_eq_true, if_false, if_true, hp]; exact h)); (try dsimp only [gName, tNext, List.set_cons_zero, List.set_cons_succ]))
    refine ite_dec (fun hrest => ?_) (fun hrest => ?_)
    all_goals (try dsimp only [gName, tNext, List.set_cons_zero, List.set_cons_succ])
    · refine st_seq (st_asg ?_)
      (refine evE ?P3 (fun Q h => ?h3) ?_; (case h3 => (simp only [tTest, tOp, tUn, tVar, tC, tCB, tCons, tNil, tAnd, tOr, tNot, tB, tTup, tLst, tIf, tAndV, tOrV, tNotV, tSl, tPart, tNoPart, tCall, iIx_ref, oGt_int, oMod_int, oFdiv_int, oAdd_int, oAdd_str, oSub_int, oMul_int, oLt_int, oGe_int, oLe_int, oPow_int, uNeg_int, oEq_int, oEq_str, oEq_bl, oNe_int, oNe_str, oNe_bl, cInt_int, cInt_bl, cAbs_int, cLen_ref, cList_ref, stL_ref, gName, gSub, gTup, gCons, gNil, rdSeq, List.getElem?_cons_zero, List.getElem?_cons_succ, List.set_cons_zero, List.set_cons_succ, List.cons_append, List.nil_append, Option.some.injEq, exists_eq_left', V.bl.injEq, V.int.injEq, V.ref.injEq, atI_0, atI_1, atI_2, setI_1, setI_2, Bool.not_true, Bool.not_false, Bool.false_eq_true, if_false, if_true, hp]; exact h)); (try dsimp only [gName, tNext, List.set_cons_zero, List.set_cons_succ]))
      refine ⟨hm0, ?_⟩
      (try dsimp only [gName, tNext, List.set_cons_zero, List.set_cons_succ])
      refine st_seq (st_asg ?_)
      (refine evE ?P4 (fun Q h => ?h4) ?_; (case h4 => (simp only [tTest, tOp, tUn, tVar, tC, tCB, tCons, tNil, tAnd, tOr, tNot, tB, tTup, tLst, tIf, tAndV, tOrV, tNotV, tSl, tPart, tNoPart, tCall, iIx_ref, oGt_int, oMod_int, oFdiv_int, oAdd_int, oAdd_str, oSub_int, oMul_int, oLt_int, oGe_int, oLe_int, oPow_int, uNeg_int, oEq_int, oEq_str, oEq_bl, oNe_int, oNe_str, oNe_bl, cInt_int, cInt_bl, cAbs_int, cLen_ref, cList_ref, stL_ref, gName, gSub, gTup, gCons, gNil, rdSeq, List.getElem?_cons_zero, List.getElem?_cons_succ, List.set_cons_zero, List.set_cons_succ, List.cons_append, List.nil_append, Option.some.injEq, exists_eq_left', V.bl.injEq, V.int.injEq, V.ref.injEq, atI_0, atI_1, atI_2, setI_1, setI_2, Bool.not_true, Bool.not_false, Bool.false_eq_true, if_false, if_true, hp]; exact h)); (try dsimp only [gName, tNext, List.set_cons_zero, List.set_cons_succ]))
      refine ⟨⟨hm0, hm1⟩, ?_⟩
      (try dsimp only [gName, tNext, List.set_cons_zero, List.set_cons_succ])
      (refine evG ?P5 (fun Q h => ?h5) ?_; (case h5 => (simp only [tTest, tOp, tUn, tVar, tC, tCB, tCons, tNil, tAnd, tOr, tNot, tB, tTup, tLst, tIf, tAndV, tOrV, tNotV, tSl, tPart, tNoPart, tCall, iIx_ref, oGt_int, oMod_int, oFdiv_int, oAdd_int, oAdd_str, oSub_int, oMul_int, oLt_int, oGe_int, oLe_int, oPow_int, uNeg_int, oEq_int, oEq_str, oEq_bl, oNe_int, oNe_str, oNe_bl, cInt_int, cInt_bl, cAbs_int, cLen_ref, cList_ref, stL_ref, gName, gSub, gTup, gCons, gNil, rdSeq, List.getElem?_cons_zero, List.getElem?_cons_succ, List.set_cons_zero, List.set_cons_succ, List.cons_append, List.nil_append, Option.some.injEq, exists_eq_left', V.bl.injEq, V.int.injEq, V.ref.injEq, atI_0, atI_1, atI_2, setI_1, setI_2, Bool.not_true, Bool.not_false, Bool.false_eq_true, if_false, if_true, hp]; exact h)); (try dsimp only [gName, tNext, List.set_cons_zero, List.set_cons_succ]))
      refine st_ret ?_
      (refine evE ?P6 (fun Q h => ?h6) ?_; (case h6 => (simp only [tTest, tOp, tUn, tVar, tC, tCB, tCons, tNil, tAnd, tOr, tNot, tB, tTup, tLst, tIf, tAndV, tOrV, tNotV, tSl, tPart, tNoPart, tCall, iIx_ref, oGt_int, oMod_int, oFdiv_int, oAdd_int, oAdd_str, oSub_int, oMul_int, oLt_int, oGe_int, oLe_int, oPow_int, uNeg_int, oEq_int, oEq_str, oEq_bl, oNe_int, oNe_str, oNe_bl, cInt_int, cInt_bl, cAbs_int, cLen_ref, cList_ref, stL_ref, gName, gSub, gTup, gCons, gNil, rdSeq, List.getElem?_cons_zero, List.getElem?_cons_succ, List.set_cons_zero, List.set_cons_succ, List.cons_append, List.nil_append, Option.some.injEq, exists_eq_left', V.bl.injEq, V.int.injEq, V.ref.injEq, atI_0, atI_1, atI_2, setI_1, setI_2, Bool.not_true, Bool.not_false, Bool.false_eq_true, if_false, if_true]; exact h)); (try dsimp only [gName, tNext, List.set_cons_zero, List.set_cons_succ]))
      exact k _ turn _ _ (Int.emod_nonneg _ (by omega)) (Int.emod_lt_of_pos _ hm0) (by omega) (by omega) (Int.ediv_nonneg hr0 (by omega)) upd_same fun b o hb e => by rw [upd_ne hb]; exact e
    · refine st_seq (st_asg ?_)
      (refine evE ?P7 (fun Q h => ?h7) ?_; (case h7 => (simp only [tTest, tOp, tUn, tVar, tC, tCB, tCons, tNil, tAnd, tOr, tNot, tB, tTup, tLst, tIf, tAndV, tOrV, tNotV, tSl, tPart, tNoPart, tCall, iIx_ref, oGt_int, oMod_int, oFdiv_int, oAdd_int, oAdd_str, oSub_int, oMul_int, oLt_int, oGe_int, oLe_int, oPow_int, uNeg_int, oEq_int, oEq_str, oEq_bl, oNe_int, oNe_str, oNe_bl, cInt_int, cInt_bl, cAbs_int, cLen_ref, cList_ref, stL_ref, gName, gSub, gTup, gCons, gNil, rdSeq, List.getElem?_cons_zero, List.getElem?_cons_succ, List.set_cons_zero, List.set_cons_succ, List.cons_append, List.nil_append, Option.some.injEq, exists_eq_left', V.bl.injEq, V.int.injEq, V.ref.injEq, atI_0, atI_1, atI_2, setI_1, setI_2, Bool.not_true, Bool.not_false, Bool.false_eq_true, if_false, if_true, hp]; exact h)); (try dsimp only [gName, tNext, List.set_cons_zero, List.set_cons_succ]))
      refine st_seq (st_asg ?_)
      (refine evE ?P8 (fun Q h => ?h8) ?_; (case h8 => (simp only [tTest, tOp, tUn, tVar, tC, tCB, tCons, tNil, tAnd, tOr, tNot, tB, tTup, tLst, tIf, tAndV, tOrV, tNotV, tSl, tPart, tNoPart, tCall, iIx_ref, oGt_int, oMod_int, oFdiv_int, oAdd_int, oAdd_str, oSub_int, oMul_int, oLt_int, oGe_int, oLe_int, oPow_int, uNeg_int, oEq_int, oEq_str, oEq_bl, oNe_int, oNe_str, oNe_bl, cInt_int, cInt_bl, cAbs_int, cLen_ref, cList_ref, stL_ref, gName, gSub, gTup, gCons, gNil, rdSeq, List.getElem?_cons_zero, List.getElem?_cons_succ, List.set_cons_zero, List.set_cons_succ, List.cons_append, List.nil_append, Option.some.injEq, exists_eq_left', V.bl.injEq, V.int.injEq, V.ref.injEq, atI_0, atI_1, atI_2, setI_1, setI_2, Bool.not_true, Bool.not_false, Bool.false_eq_true, if_false, if_true, hp]; exact h)); (try dsimp only [gName, tNext, List.set_cons_zero, List.set_cons_succ]))
      (refine evG ?P9 (fun Q h => ?h9) ?_; (case h9 => (simp only [tTest, tOp, tUn, tVar, tC, tCB, tCons, tNil, tAnd, tOr, tNot, tB, tTup, tLst, tIf, tAndV, tOrV, tNotV, tSl, tPart, tNoPart, tCall, iIx_ref, oGt_int, oMod_int, oFdiv_int, oAdd_int, oAdd_str, oSub_int, oMul_int, oLt_int, oGe_int, oLe_int, oPow_int, uNeg_int, oEq_int, oEq_str, oEq_bl, oNe_int, oNe_str, oNe_bl, cInt_int, cInt_bl, cAbs_int, cLen_ref, cList_ref, stL_ref, gName, gSub, gTup, gCons, gNil, rdSeq, List.getElem?_cons_zero, List.getElem?_cons_succ, List.set_cons_zero, List.set_cons_succ, List.cons_append, List.nil_append, Option.some.injEq, exists_eq_left', V.bl.injEq, V.int.injEq, V.ref.injEq, atI_0, atI_1, atI_2, setI_1, setI_2, Bool.not_true, Bool.not_false, Bool.false_eq_true, if_false, if_true, hp]; exact h)); (try dsimp only [gName, tNext, List.set_cons_zero, List.set_cons_succ]))
      refine st_seq (st_asg ?_)
      (refine evE ?P10 (fun Q h => ?h10) ?_; (case h10 => (simp only [tTest, tOp, tUn, tVar, tC, tCB, tCons, tNil, tAnd, tOr, tNot, tB, tTup, tLst, tIf, tAndV, tOrV, tNotV, tSl, tPart, tNoPart, tCall, iIx_ref, oGt_int, oMod_int, oFdiv_int, oAdd_int, oAdd_str, oSub_int, oMul_int, oLt_int, oGe_int, oLe_int, oPow_int, uNeg_int, oEq_int, oEq_str, oEq_bl, oNe_int, oNe_str, oNe_bl, cInt_int, cInt_bl, cAbs_int, cLen_ref, cList_ref, stL_ref, gName, gSub, gTup, gCons, gNil, rdSeq, List.getElem?_cons_zero, List.getElem?_cons_succ, List.set_cons_zero, List.set_cons_succ, List.cons_append, List.nil_append, Option.some.injEq, exists_eq_left', V.bl.injEq, V.int.injEq, V.ref.injEq, atI_0, atI_1, atI_2, setI_1, setI_2, Bool.not_true, Bool.not_false, Bool.false_eq_true, if_false, if_true, hp]; exact h)); (try dsimp only [gName, tNext, List.set_cons_zero, List.set_cons_succ]))
      refine ⟨.of_left (intBits_le_64 (by omega) (by omega)), ?_⟩
      refine st_seq (st_if ?_)
      (refine evT ?P11 (fun Q h => ?h11) ?_; (case h11 => (simp only [tTest, tOp, tUn, tVar, tC, tCB, tCons, tNil, tAnd, tOr, tNot, tB, tTup, tLst, tIf, tAndV, tOrV, tNotV, tSl, tPart, tNoPart, tCall, iIx_ref, oGt_int, oMod_int, oFdiv_int, oAdd_int, oAdd_str, oSub_int, oMul_int, oLt_int, oGe_int, oLe_int, oPow_int, uNeg_int, oEq_int, oEq_str, oEq_bl, oNe_int, oNe_str, oNe_bl, cInt_int, cInt_bl, cAbs_int, cLen_ref, cList_ref, stL_ref, gName, gSub, gTup, gCons, gNil, rdSeq, List.getElem?_cons_zero, List.getElem?_cons_succ, List.set_cons_zero, List.set_cons_succ, List.cons_append, List.nil_append, Option.some.injEq, exists_eq_left', V.bl.injEq, V.int.injEq, V.ref.injEq, atI_0, atI_1, atI_2, setI_1, setI_2, Bool.not_true, Bool.not_false, Bool.false_eq_true, if_false, if_true, hp, upd_same]; exact h)); (try dsimp only [gName, tNext, List.set_cons_zero, List.set_cons_succ]))
      refine ⟨by decide, fun q hq => ?_⟩
      have npl : l ≠ p := by
        rintro rfl
        rw [hp] at hl
        cases cells <;> cases hl
      have hpq : q ≠ p := fun e => by rw [e, upd_same] at hq; cases hq
      have hq' : H q = none := by rw [upd_ne hpq] at hq; exact hq
      have hlq : l ≠ q := fun e => by rw [← e, hl] at hq'; cases hq'
      generalize hH2 : upd (upd H p (.lst [.ref l, .int (turn + 1), .int rest])) q (.lst []) = H2
      have h2p : H2 p = some (.lst [.ref l, .int (turn + 1), .int rest]) := by rw [← hH2, upd_ne hpq.symm, upd_same]
      have h2l : H2 l = some (.lst (cells.map V.int)) := by rw [← hH2, upd_ne hlq, upd_ne npl]; exact hl
      have h2q : H2 q = some (.lst []) := by rw [← hH2, upd_same]
      have k2 : Keep p H H2 := fun b o hb e => by
        rw [← hH2, upd_ne (fun z => by rw [z, hq'] at e; cases e), upd_ne hb]; exact e
      refine ne_nil h2l h2q ⟨_, rfl, ?_⟩
      have tail : ∀ cell : Int, t_law_draw_13 K A { nx := fun _ H' => Q .non H', rt := Q } [some (.ref p), some (.int many), none, some (.int turn), some (.int cell), none, none] H2 := by
        intro cell
        refine st_seq (st_asg ?_)
        (refine evE ?P12 (fun Q h => ?h12) ?_; (case h12 => (simp only [tTest, tOp, tUn, tVar, tC, tCB, tCons, tNil, tAnd, tOr, tNot, tB, tTup, tLst, tIf, tAndV, tOrV, tNotV, tSl, tPart, tNoPart, tCall, iIx_ref, oGt_int, oMod_int, oFdiv_int, oAdd_int, oAdd_str, oSub_int, oMul_int, oLt_int, oGe_int, oLe_int, oPow_int, uNeg_int, oEq_int, oEq_str, oEq_bl, oNe_int, oNe_str, oNe_bl, cInt_int, cInt_bl, cAbs_int, cLen_ref, cList_ref, stL_ref, gName, gSub, gTup, gCons, gNil, rdSeq, List.getElem?_cons_zero, List.getElem?_cons_succ, List.set_cons_zero, List.set_cons_succ, List.cons_append, List.nil_append, Option.some.injEq, exists_eq_left', V.bl.injEq, V.int.injEq, V.ref.injEq, atI_0, atI_1, atI_2, setI_1, setI_2, Bool.not_true, Bool.not_false, Bool.false_eq_true, if_false, if_true]; exact h)); (try dsimp only [gName, tNext, List.set_cons_zero, List.set_cons_succ]))
        have hx := mod_range (x := cell) (m := 2147483549) (by decide)
        refine ⟨by decide, mulok_left (by decide) (by decide), ⟨by decide, by decide, draw_pow1 hx.1 (by omega) ht0 ht1 (by decide) (by decide) (by decide) (by decide)⟩, by decide, ?_⟩
        (try dsimp only [gName, tNext, List.set_cons_zero, List.set_cons_succ])
        generalize hm : ((cell % 2147483549 + 43120 * turn + 2198) ^ Int.toNat 5 % 2147483647) = mixed
        have hmx : 0 ≤ mixed ∧ mixed < 2147483647 := by rw [← hm]; exact mod_range (by decide)
        refine st_seq (st_asg ?_)
        (refine evE ?P13 (fun Q h => ?h13) ?_; (case h13 => (simp only [tTest, tOp, tUn, tVar, tC, tCB, tCons, tNil, tAnd, tOr, tNot, tB, tTup, tLst, tIf, tAndV, tOrV, tNotV, tSl, tPart, tNoPart, tCall, iIx_ref, oGt_int, oMod_int, oFdiv_int, oAdd_int, oAdd_str, oSub_int, oMul_int, oLt_int, oGe_int, oLe_int, oPow_int, uNeg_int, oEq_int, oEq_str, oEq_bl, oNe_int, oNe_str, oNe_bl, cInt_int, cInt_bl, cAbs_int, cLen_ref, cList_ref, stL_ref, gName, gSub, gTup, gCons, gNil, rdSeq, List.getElem?_cons_zero, List.getElem?_cons_succ, List.set_cons_zero, List.set_cons_succ, List.cons_append, List.nil_append, Option.some.injEq, exists_eq_left', V.bl.injEq, V.int.injEq, V.ref.injEq, atI_0, atI_1, atI_2, setI_1, setI_2, Bool.not_true, Bool.not_false, Bool.false_eq_true, if_false, if_true]; exact h)); (try dsimp only [gName, tNext, List.set_cons_zero, List.set_cons_succ]))
        refine ⟨mulok_left (by decide) (by decide), mulok_left (by omega) (by omega), mulok_left (by decide) (by decide), draw_bt ht0 ht1 (by decide) (by decide), ⟨by decide, by decide, draw_pow2 hmx.1 (by omega) ht0 ht1 (by decide) (by decide) (by decide) (by decide) (by decide) (by decide)⟩, by decide, ?_⟩
        (try dsimp only [gName, tNext, List.set_cons_zero, List.set_cons_succ])
        refine st_ret ?_
        (refine evE ?P14 (fun Q h => ?h14) ?_; (case h14 => (simp only [tTest, tOp, tUn, tVar, tC, tCB, tCons, tNil, tAnd, tOr, tNot, tB, tTup, tLst, tIf, tAndV, tOrV, tNotV, tSl, tPart, tNoPart, tCall, iIx_ref, oGt_int, oMod_int, oFdiv_int, oAdd_int, oAdd_str, oSub_int, oMul_int, oLt_int, oGe_int, oLe_int, oPow_int, uNeg_int, oEq_int, oEq_str, oEq_bl, oNe_int, oNe_str, oNe_bl, cInt_int, cInt_bl, cAbs_int, cLen_ref, cList_ref, stL_ref, gName, gSub, gTup, gCons, gNil, rdSeq, List.getElem?_cons_zero, List.getElem?_cons_succ, List.set_cons_zero, List.set_cons_succ, List.cons_append, List.nil_append, Option.some.injEq, exists_eq_left', V.bl.injEq, V.int.injEq, V.ref.injEq, atI_0, atI_1, atI_2, setI_1, setI_2, Bool.not_true, Bool.not_false, Bool.false_eq_true, if_false, if_true]; exact h)); (try dsimp only [gName, tNext, List.set_cons_zero, List.set_cons_succ]))
        refine ⟨⟨by decide, by decide⟩, hm0, ?_⟩
        exact k _ (turn + 1) _ _ (mod_range hm0).1 (mod_range hm0).2 (by omega) (by omega) hr0 h2p k2
      -- both ways go on with a cell
      have go : ∀ cell : Int, t_law_draw_9 K A { nx := fun _ H' => Q .non H', rt := Q } [some (.ref p), some (.int many), none, some (.int turn), some (.int cell), none, none] H2 := by
        intro cell
        refine st_seq (st_if ?_)
        (refine evT ?P15 (fun Q h => ?h15) ?_; (case h15 => (simp only [tTest, tOp, tUn, tVar, tC, tCB, tCons, tNil, tAnd, tOr, tNot, tB, tTup, tLst, tIf, tAndV, tOrV, tNotV, tSl, tPart, tNoPart, tCall, iIx_ref, oGt_int, oMod_int, oFdiv_int, oAdd_int, oAdd_str, oSub_int, oMul_int, oLt_int, oGe_int, oLe_int, oPow_int, uNeg_int, oEq_int, oEq_str, oEq_bl, oNe_int, oNe_str, oNe_bl, cInt_int, cInt_bl, cAbs_int, cLen_ref, cList_ref, stL_ref, gName, gSub, gTup, gCons, gNil, rdSeq, List.getElem?_cons_zero, List.getElem?_cons_succ, List.set_cons_zero, List.set_cons_succ, List.cons_append, List.nil_append, Option.some.injEq, exists_eq_left', V.bl.injEq, V.int.injEq, V.ref.injEq, atI_0, atI_1, atI_2, setI_1, setI_2, Bool.not_true, Bool.not_false, Bool.false_eq_true, if_false, if_true, h2p, h2l]; exact h)); (try dsimp only [gName, tNext, List.set_cons_zero, List.set_cons_succ]))
        refine ite_dec (fun hc1 => ?_) (fun hc1 => ?_)
        all_goals (try dsimp only [gName, tNext, List.set_cons_zero, List.set_cons_succ])
        · refine ⟨⟨by decide, by decide, by decide⟩, ?_⟩
          refine ite_dec (fun hc2 => ?_) (fun hc2 => ?_)
          all_goals (try dsimp only [gName, tNext, List.set_cons_zero, List.set_cons_succ])
          · refine st_seq (st_asg ?_)
            (refine evE ?P16 (fun Q h => ?h16) ?_; (case h16 => (simp only [tTest, tOp, tUn, tVar, tC, tCB, tCons, tNil, tAnd, tOr, tNot, tB, tTup, tLst, tIf, tAndV, tOrV, tNotV, tSl, tPart, tNoPart, tCall, iIx_ref, oGt_int, oMod_int, oFdiv_int, oAdd_int, oAdd_str, oSub_int, oMul_int, oLt_int, oGe_int, oLe_int, oPow_int, uNeg_int, oEq_int, oEq_str, oEq_bl, oNe_int, oNe_str, oNe_bl, cInt_int, cInt_bl, cAbs_int, cLen_ref, cList_ref, stL_ref, gName, gSub, gTup, gCons, gNil, rdSeq, List.getElem?_cons_zero, List.getElem?_cons_succ, List.set_cons_zero, List.set_cons_succ, List.cons_append, List.nil_append, Option.some.injEq, exists_eq_left', V.bl.injEq, V.int.injEq, V.ref.injEq, atI_0, atI_1, atI_2, setI_1, setI_2, Bool.not_true, Bool.not_false, Bool.false_eq_true, if_false, if_true]; exact h)); (try dsimp only [gName, tNext, List.set_cons_zero, List.set_cons_succ]))
            refine ⟨⟨by decide, by decide, by decide⟩, mulok_left (by decide) (by decide), ?_⟩
            (try dsimp only [gName, tNext, List.set_cons_zero, List.set_cons_succ])
            refine st_seq (st_asg ?_)
            (refine evE ?P17 (fun Q h => ?h17) ?_; (case h17 => (simp only [tTest, tOp, tUn, tVar, tC, tCB, tCons, tNil, tAnd, tOr, tNot, tB, tTup, tLst, tIf, tAndV, tOrV, tNotV, tSl, tPart, tNoPart, tCall, iIx_ref, oGt_int, oMod_int, oFdiv_int, oAdd_int, oAdd_str, oSub_int, oMul_int, oLt_int, oGe_int, oLe_int, oPow_int, uNeg_int, oEq_int, oEq_str, oEq_bl, oNe_int, oNe_str, oNe_bl, cInt_int, cInt_bl, cAbs_int, cLen_ref, cList_ref, stL_ref, gName, gSub, gTup, gCons, gNil, rdSeq, List.getElem?_cons_zero, List.getElem?_cons_succ, List.set_cons_zero, List.set_cons_succ, List.cons_append, List.nil_append, Option.some.injEq, exists_eq_left', V.bl.injEq, V.int.injEq, V.ref.injEq, atI_0, atI_1, atI_2, setI_1, setI_2, Bool.not_true, Bool.not_false, Bool.false_eq_true, if_false, if_true]; exact h)); (try dsimp only [gName, tNext, List.set_cons_zero, List.set_cons_succ]))
            refine ⟨⟨hm0, hm1⟩, ?_⟩
            (refine evG ?P18 (fun Q h => ?h18) ?_; (case h18 => (simp only [tTest, tOp, tUn, tVar, tC, tCB, tCons, tNil, tAnd, tOr, tNot, tB, tTup, tLst, tIf, tAndV, tOrV, tNotV, tSl, tPart, tNoPart, tCall, iIx_ref, oGt_int, oMod_int, oFdiv_int, oAdd_int, oAdd_str, oSub_int, oMul_int, oLt_int, oGe_int, oLe_int, oPow_int, uNeg_int, oEq_int, oEq_str, oEq_bl, oNe_int, oNe_str, oNe_bl, cInt_int, cInt_bl, cAbs_int, cLen_ref, cList_ref, stL_ref, gName, gSub, gTup, gCons, gNil, rdSeq, List.getElem?_cons_zero, List.getElem?_cons_succ, List.set_cons_zero, List.set_cons_succ, List.cons_append, List.nil_append, Option.some.injEq, exists_eq_left', V.bl.injEq, V.int.injEq, V.ref.injEq, atI_0, atI_1, atI_2, setI_1, setI_2, Bool.not_true, Bool.not_false, Bool.false_eq_true, if_false, if_true, h2p]; exact h)); (try dsimp only [gName, tNext, List.set_cons_zero, List.set_cons_succ]))
            refine st_ret ?_
            (refine evE ?P19 (fun Q h => ?h19) ?_; (case h19 => (simp only [tTest, tOp, tUn, tVar, tC, tCB, tCons, tNil, tAnd, tOr, tNot, tB, tTup, tLst, tIf, tAndV, tOrV, tNotV, tSl, tPart, tNoPart, tCall, iIx_ref, oGt_int, oMod_int, oFdiv_int, oAdd_int, oAdd_str, oSub_int, oMul_int, oLt_int, oGe_int, oLe_int, oPow_int, uNeg_int, oEq_int, oEq_str, oEq_bl, oNe_int, oNe_str, oNe_bl, cInt_int, cInt_bl, cAbs_int, cLen_ref, cList_ref, stL_ref, gName, gSub, gTup, gCons, gNil, rdSeq, List.getElem?_cons_zero, List.getElem?_cons_succ, List.set_cons_zero, List.set_cons_succ, List.cons_append, List.nil_append, Option.some.injEq, exists_eq_left', V.bl.injEq, V.int.injEq, V.ref.injEq, atI_0, atI_1, atI_2, setI_1, setI_2, Bool.not_true, Bool.not_false, Bool.false_eq_true, if_false, if_true]; exact h)); (try dsimp only [gName, tNext, List.set_cons_zero, List.set_cons_succ]))
            refine ⟨hm0, ?_⟩
            refine k _ (turn + 1) _ _ (mod_range hm0).1 (mod_range hm0).2 (by omega) (by omega) (Int.ediv_nonneg ?_ (by omega)) upd_same fun b o hb e => by rw [upd_ne hb]; exact k2 b o hb e
            have e18 : (10 : Int) ^ Int.toNat 18 = 1000000000000000000 := by decide
            rw [e18] at hc2 ⊢
            split <;> split at hc2 <;> split <;> omega
          · exact tail cell
        · exact tail cell
      refine ite_b (fun hb => ?_) (fun _ => go _)
      refine st_asg ?_
      have hne : cells ≠ [] := by
        rintro rfl
        cases hb
      have hpos : 0 < cells.length := List.length_pos_iff.mpr hne
      have hi : turn % (cells.length : Int) < cells.length := (mod_range (by omega)).2
      have hi0 : 0 ≤ turn % (cells.length : Int) := (mod_range (by omega)).1
      have hat : atI (cells.map V.int) (turn % ((cells.map V.int).length : Int)) = some (.int (cells.getD (turn % (cells.length : Int)).toNat 0)) := by
        refine atI_nat' (by rw [List.length_map]; exact hi0) ?_
        rw [List.length_map, List.getElem?_map, List.getD_eq_getElem?_getD, List.getElem?_eq_getElem (by omega)]
        rfl
      (refine evE ?P20 (fun Q h => ?h20) ?_; (case h20 => (simp only [tTest, tOp, tUn, tVar, tC, tCB, tCons, tNil, tAnd, tOr, tNot, tB, tTup, tLst, tIf, tAndV, tOrV, tNotV, tSl, tPart, tNoPart, tCall, iIx_ref, oGt_int, oMod_int, oFdiv_int, oAdd_int, oAdd_str, oSub_int, oMul_int, oLt_int, oGe_int, oLe_int, oPow_int, uNeg_int, oEq_int, oEq_str, oEq_bl, oNe_int, oNe_str, oNe_bl, cInt_int, cInt_bl, cAbs_int, cLen_ref, cList_ref, stL_ref, gName, gSub, gTup, gCons, gNil, rdSeq, List.getElem?_cons_zero, List.getElem?_cons_succ, List.set_cons_zero, List.set_cons_succ, List.cons_append, List.nil_append, Option.some.injEq, exists_eq_left', V.bl.injEq, V.int.injEq, V.ref.injEq, atI_0, atI_1, atI_2, setI_1, setI_2, Bool.not_true, Bool.not_false, Bool.false_eq_true, if_false, if_true, h2p, h2l, hat]; exact h)); (try dsimp only [gName, tNext, List.set_cons_zero, List.set_cons_succ]))
      refine ⟨by rw [List.length_map]; omega, ?_⟩
      exact go _
  · exact h.elim
theorem pure_law_pick {K : PySem.W.Frag} {A : Ad} {vs : List V} {H : Hp} {Q : VK} {E : XK} (h : sp_law_pick K A vs H Q E) : (t_law_pick_0 K A) { nx := fun _ H' => Q .non H', rt := Q } (start ["_law_pen_here", "_law_some_here"] vs) H := by
  unfold sp_law_pick spPickL at h
  split at h
  · rename_i p s
    obtain ⟨l, n, xs, hp, hn, hs, hsp, hx, hl, k⟩ := h
    show (t_law_pick_0 K A) _ [some (.ref p), some (.ref s)] H
    refine st_ret ?_
    (refine evE ?P21 (fun Q h => ?h21) ?_; (case h21 => (simp only [tTest, tOp, tUn, tVar, tC, tCB, tCons, tNil, tAnd, tOr, tNot, tB, tTup, tLst, tIf, tAndV, tOrV, tNotV, tSl, tPart, tNoPart, tCall, iIx_ref, oGt_int, oMod_int, oFdiv_int, oAdd_int, oAdd_str, oSub_int, oMul_int, oLt_int, oGe_int, oLe_int, oPow_int, uNeg_int, oEq_int, oEq_str, oEq_bl, oNe_int, oNe_str, oNe_bl, cInt_int, cInt_bl, cAbs_int, cLen_ref, cList_ref, stL_ref, gName, gSub, gTup, gCons, gNil, rdSeq, List.getElem?_cons_zero, List.getElem?_cons_succ, List.set_cons_zero, List.set_cons_succ, List.cons_append, List.nil_append, Option.some.injEq, exists_eq_left', V.bl.injEq, V.int.injEq, V.ref.injEq, atI_0, atI_1, atI_2, setI_1, setI_2, Bool.not_true, Bool.not_false, Bool.false_eq_true, if_false, if_true, hs]; exact h)); (try dsimp only [gName, tNext, List.set_cons_zero, List.set_cons_succ]))
    have hpos : 0 < xs.length := List.length_pos_iff.mpr hx
    refine ⟨l, n, hp, hn, by omega, log_small (by omega) (by omega), fun d H' h0 h1 hp' kp => ?_⟩
    have e : atI xs d = some xs[d.toNat] := atI_nat' h0 (List.getElem?_eq_getElem (by omega))
    have hs' := kp s _ hsp hs
    simp only [tTest, tOp, tUn, tVar, tC, tCB, tCons, tNil, tAnd, tOr, tNot, tB, tTup, tLst, tIf, tAndV, tOrV, tNotV, tSl, tPart, tNoPart, tCall, iIx_ref, oGt_int, oMod_int, oFdiv_int, oAdd_int, oAdd_str, oSub_int, oMul_int, oLt_int, oGe_int, oLe_int, oPow_int, uNeg_int, oEq_int, oEq_str, oEq_bl, oNe_int, oNe_str, oNe_bl, cInt_int, cInt_bl, cAbs_int, cLen_ref, cList_ref, stL_ref, gName, gSub, gTup, gCons, gNil, rdSeq, List.getElem?_cons_zero, List.getElem?_cons_succ, List.set_cons_zero, List.set_cons_succ, List.cons_append, List.nil_append, Option.some.injEq, exists_eq_left', V.bl.injEq, V.int.injEq, V.ref.injEq, atI_0, atI_1, atI_2, setI_1, setI_2, Bool.not_true, Bool.not_false, Bool.false_eq_true, if_false, if_true, hs', e]
    exact k _ _ (List.getElem_mem _) hp' kp
  · exact h.elim

def sp_is_integer (K : PySem.W.Frag) (A : Ad) : Sp := fun vs H Q _ => match vs with
  | [.int _] => Q (.bl true) H
  | [.bl _] => Q (.bl false) H
  | [.non] => Q (.bl false) H
  | [.str _] => Q (.bl false) H
  | _ => False
theorem is_int {K : PySem.W.Frag} {A : Ad} {i : Int} {H : Hp} {Q : VK} {E : XK} : sp_is_integer K A [.int i] H Q E = Q (.bl true) H := rfl
theorem is_oV {K : PySem.W.Frag} {A : Ad} {o : Option Int} {H : Hp} {Q : VK} {E : XK} : sp_is_integer K A [oV o] H Q E = Q (.bl o.isSome) H := by cases o <;> rfl
def t_is_integer_0 (K : PySem.W.Frag) (A : Ad) : TS := (tRet (tAndV (tCB (cIsi K) (tCons (tVar 0) (tCons (tC (.ty "int")) tNil))) (tNotV (tCB (cIsi K) (tCons (tVar 0) (tCons (tC (.ty "bool")) tNil))))))

theorem pure_is_integer {K : PySem.W.Frag} {A : Ad} {vs : List V} {H : Hp} {Q : VK} {E : XK} (h : sp_is_integer K A vs H Q E) : (t_is_integer_0 K A) { nx := fun _ H' => Q .non H', rt := Q } (start ["value"] vs) H := by
  unfold sp_is_integer at h
  split at h
  · show (t_is_integer_0 K A) _ [some (.int _)] H
    refine st_ret ?_
    (refine evE ?P22 (fun Q h => ?h22) ?_; (case h22 => (simp only [tTest, tOp, tUn, tVar, tC, tCB, tCons, tNil, tAnd, tOr, tNot, tB, tTup, tLst, tIf, tAndV, tOrV, tNotV, tSl, tPart, tNoPart, tCall, iIx_ref, oGt_int, oMod_int, oFdiv_int, oAdd_int, oAdd_str, oSub_int, oMul_int, oLt_int, oGe_int, oLe_int, oPow_int, uNeg_int, oEq_int, oEq_str, oEq_bl, oNe_int, oNe_str, oNe_bl, cInt_int, cInt_bl, cAbs_int, cLen_ref, cList_ref, stL_ref, gName, gSub, gTup, gCons, gNil, rdSeq, List.getElem?_cons_zero, List.getElem?_cons_succ, List.set_cons_zero, List.set_cons_succ, List.cons_append, List.nil_append, Option.some.injEq, exists_eq_left', V.bl.injEq, V.int.injEq, V.ref.injEq, atI_0, atI_1, atI_2, setI_1, setI_2, Bool.not_true, Bool.not_false, Bool.false_eq_true, if_false, if_true, cIsi, tyF, kit_tt, kit_ib, tyOk, true_and, if_true]; exact h)); (try dsimp only [gName, tNext, List.set_cons_zero, List.set_cons_succ]))
    exact h
  · show (t_is_integer_0 K A) _ [some (.bl _)] H
    refine st_ret ?_
    (refine evE ?P23 (fun Q h => ?h23) ?_; (case h23 => (simp only [tTest, tOp, tUn, tVar, tC, tCB, tCons, tNil, tAnd, tOr, tNot, tB, tTup, tLst, tIf, tAndV, tOrV, tNotV, tSl, tPart, tNoPart, tCall, iIx_ref, oGt_int, oMod_int, oFdiv_int, oAdd_int, oAdd_str, oSub_int, oMul_int, oLt_int, oGe_int, oLe_int, oPow_int, uNeg_int, oEq_int, oEq_str, oEq_bl, oNe_int, oNe_str, oNe_bl, cInt_int, cInt_bl, cAbs_int, cLen_ref, cList_ref, stL_ref, gName, gSub, gTup, gCons, gNil, rdSeq, List.getElem?_cons_zero, List.getElem?_cons_succ, List.set_cons_zero, List.set_cons_succ, List.cons_append, List.nil_append, Option.some.injEq, exists_eq_left', V.bl.injEq, V.int.injEq, V.ref.injEq, atI_0, atI_1, atI_2, setI_1, setI_2, Bool.not_true, Bool.not_false, Bool.false_eq_true, if_false, if_true, cIsi, tyF, kit_bi, kit_bb, tyOk, true_and, if_true]; exact h)); (try dsimp only [gName, tNext, List.set_cons_zero, List.set_cons_succ]))
    exact h
  · show (t_is_integer_0 K A) _ [some (.non)] H
    refine st_ret ?_
    (refine evE ?P24 (fun Q h => ?h24) ?_; (case h24 => (simp only [tTest, tOp, tUn, tVar, tC, tCB, tCons, tNil, tAnd, tOr, tNot, tB, tTup, tLst, tIf, tAndV, tOrV, tNotV, tSl, tPart, tNoPart, tCall, iIx_ref, oGt_int, oMod_int, oFdiv_int, oAdd_int, oAdd_str, oSub_int, oMul_int, oLt_int, oGe_int, oLe_int, oPow_int, uNeg_int, oEq_int, oEq_str, oEq_bl, oNe_int, oNe_str, oNe_bl, cInt_int, cInt_bl, cAbs_int, cLen_ref, cList_ref, stL_ref, gName, gSub, gTup, gCons, gNil, rdSeq, List.getElem?_cons_zero, List.getElem?_cons_succ, List.set_cons_zero, List.set_cons_succ, List.cons_append, List.nil_append, Option.some.injEq, exists_eq_left', V.bl.injEq, V.int.injEq, V.ref.injEq, atI_0, atI_1, atI_2, setI_1, setI_2, Bool.not_true, Bool.not_false, Bool.false_eq_true, if_false, if_true, cIsi, tyF, kit_ni, tyOk, true_and, Bool.false_eq_true, if_false]; exact h)); (try dsimp only [gName, tNext, List.set_cons_zero, List.set_cons_succ]))
    exact h
  · show (t_is_integer_0 K A) _ [some (.str _)] H
    refine st_ret ?_
    (refine evE ?P25 (fun Q h => ?h25) ?_; (case h25 => (simp only [tTest, tOp, tUn, tVar, tC, tCB, tCons, tNil, tAnd, tOr, tNot, tB, tTup, tLst, tIf, tAndV, tOrV, tNotV, tSl, tPart, tNoPart, tCall, iIx_ref, oGt_int, oMod_int, oFdiv_int, oAdd_int, oAdd_str, oSub_int, oMul_int, oLt_int, oGe_int, oLe_int, oPow_int, uNeg_int, oEq_int, oEq_str, oEq_bl, oNe_int, oNe_str, oNe_bl, cInt_int, cInt_bl, cAbs_int, cLen_ref, cList_ref, stL_ref, gName, gSub, gTup, gCons, gNil, rdSeq, List.getElem?_cons_zero, List.getElem?_cons_succ, List.set_cons_zero, List.set_cons_succ, List.cons_append, List.nil_append, Option.some.injEq, exists_eq_left', V.bl.injEq, V.int.injEq, V.ref.injEq, atI_0, atI_1, atI_2, setI_1, setI_2, Bool.not_true, Bool.not_false, Bool.false_eq_true, if_false, if_true, cIsi, tyF, kit_si, tyOk, true_and, Bool.false_eq_true, if_false]; exact h)); (try dsimp only [gName, tNext, List.set_cons_zero, List.set_cons_succ]))
    exact h
  · exact h.elim
def sp_is_value (K : PySem.W.Frag) (A : Ad) : Sp := fun vs H Q _ => match vs with
  | [.int _] => Q (.bl true) H
  | [.non] => Q (.bl true) H
  | [.bl _] => Q (.bl false) H
  | [.str _] => Q (.bl false) H
  | _ => False
theorem isv_oV {K : PySem.W.Frag} {A : Ad} {o : Option Int} {H : Hp} {Q : VK} {E : XK} : sp_is_value K A [oV o] H Q E = Q (.bl true) H := by cases o <;> rfl
def t_is_value_0 (K : PySem.W.Frag) (A : Ad) : TS := (tRet (tOrV (tOp oIs (tVar 0) (tC .non)) (tCall (sp_is_integer K A) [] E0 (tCons (tVar 0) tNil))))

theorem pure_is_value {K : PySem.W.Frag} {A : Ad} {vs : List V} {H : Hp} {Q : VK} {E : XK} (h : sp_is_value K A vs H Q E) : (t_is_value_0 K A) { nx := fun _ H' => Q .non H', rt := Q } (start ["value"] vs) H := by
  unfold sp_is_value at h
  split at h
  · show (t_is_value_0 K A) _ [some (.int _)] H
    refine st_ret ?_
    (refine evE ?P26 (fun Q h => ?h26) ?_; (case h26 => (simp only [tTest, tOp, tUn, tVar, tC, tCB, tCons, tNil, tAnd, tOr, tNot, tB, tTup, tLst, tIf, tAndV, tOrV, tNotV, tSl, tPart, tNoPart, tCall, iIx_ref, oGt_int, oMod_int, oFdiv_int, oAdd_int, oAdd_str, oSub_int, oMul_int, oLt_int, oGe_int, oLe_int, oPow_int, uNeg_int, oEq_int, oEq_str, oEq_bl, oNe_int, oNe_str, oNe_bl, cInt_int, cInt_bl, cAbs_int, cLen_ref, cList_ref, stL_ref, gName, gSub, gTup, gCons, gNil, rdSeq, List.getElem?_cons_zero, List.getElem?_cons_succ, List.set_cons_zero, List.set_cons_succ, List.cons_append, List.nil_append, Option.some.injEq, exists_eq_left', V.bl.injEq, V.int.injEq, V.ref.injEq, atI_0, atI_1, atI_2, setI_1, setI_2, Bool.not_true, Bool.not_false, Bool.false_eq_true, if_false, if_true, oIs, is_int]; exact h)); (try dsimp only [gName, tNext, List.set_cons_zero, List.set_cons_succ]))
    exact h
  · show (t_is_value_0 K A) _ [some (.non)] H
    refine st_ret ?_
    (refine evE ?P27 (fun Q h => ?h27) ?_; (case h27 => (simp only [tTest, tOp, tUn, tVar, tC, tCB, tCons, tNil, tAnd, tOr, tNot, tB, tTup, tLst, tIf, tAndV, tOrV, tNotV, tSl, tPart, tNoPart, tCall, iIx_ref, oGt_int, oMod_int, oFdiv_int, oAdd_int, oAdd_str, oSub_int, oMul_int, oLt_int, oGe_int, oLe_int, oPow_int, uNeg_int, oEq_int, oEq_str, oEq_bl, oNe_int, oNe_str, oNe_bl, cInt_int, cInt_bl, cAbs_int, cLen_ref, cList_ref, stL_ref, gName, gSub, gTup, gCons, gNil, rdSeq, List.getElem?_cons_zero, List.getElem?_cons_succ, List.set_cons_zero, List.set_cons_succ, List.cons_append, List.nil_append, Option.some.injEq, exists_eq_left', V.bl.injEq, V.int.injEq, V.ref.injEq, atI_0, atI_1, atI_2, setI_1, setI_2, Bool.not_true, Bool.not_false, Bool.false_eq_true, if_false, if_true, oIs]; exact h)); (try dsimp only [gName, tNext, List.set_cons_zero, List.set_cons_succ]))
    exact h
  · show (t_is_value_0 K A) _ [some (.bl _)] H
    refine st_ret ?_
    (refine evE ?P28 (fun Q h => ?h28) ?_; (case h28 => (simp only [tTest, tOp, tUn, tVar, tC, tCB, tCons, tNil, tAnd, tOr, tNot, tB, tTup, tLst, tIf, tAndV, tOrV, tNotV, tSl, tPart, tNoPart, tCall, iIx_ref, oGt_int, oMod_int, oFdiv_int, oAdd_int, oAdd_str, oSub_int, oMul_int, oLt_int, oGe_int, oLe_int, oPow_int, uNeg_int, oEq_int, oEq_str, oEq_bl, oNe_int, oNe_str, oNe_bl, cInt_int, cInt_bl, cAbs_int, cLen_ref, cList_ref, stL_ref, gName, gSub, gTup, gCons, gNil, rdSeq, List.getElem?_cons_zero, List.getElem?_cons_succ, List.set_cons_zero, List.set_cons_succ, List.cons_append, List.nil_append, Option.some.injEq, exists_eq_left', V.bl.injEq, V.int.injEq, V.ref.injEq, atI_0, atI_1, atI_2, setI_1, setI_2, Bool.not_true, Bool.not_false, Bool.false_eq_true, if_false, if_true, oIs, sp_is_integer]; exact h)); (try dsimp only [gName, tNext, List.set_cons_zero, List.set_cons_succ]))
    exact h
  · show (t_is_value_0 K A) _ [some (.str _)] H
    refine st_ret ?_
    (refine evE ?P29 (fun Q h => ?h29) ?_; (case h29 => (simp only [tTest, tOp, tUn, tVar, tC, tCB, tCons, tNil, tAnd, tOr, tNot, tB, tTup, tLst, tIf, tAndV, tOrV, tNotV, tSl, tPart, tNoPart, tCall, iIx_ref, oGt_int, oMod_int, oFdiv_int, oAdd_int, oAdd_str, oSub_int, oMul_int, oLt_int, oGe_int, oLe_int, oPow_int, uNeg_int, oEq_int, oEq_str, oEq_bl, oNe_int, oNe_str, oNe_bl, cInt_int, cInt_bl, cAbs_int, cLen_ref, cList_ref, stL_ref, gName, gSub, gTup, gCons, gNil, rdSeq, List.getElem?_cons_zero, List.getElem?_cons_succ, List.set_cons_zero, List.set_cons_succ, List.cons_append, List.nil_append, Option.some.injEq, exists_eq_left', V.bl.injEq, V.int.injEq, V.ref.injEq, atI_0, atI_1, atI_2, setI_1, setI_2, Bool.not_true, Bool.not_false, Bool.false_eq_true, if_false, if_true, oIs, sp_is_integer]; exact h)); (try dsimp only [gName, tNext, List.set_cons_zero, List.set_cons_succ]))
    exact h
  · exact h.elim
def sp_is_list (K : PySem.W.Frag) (A : Ad) : Sp := fun vs H Q _ => match vs with
  | [.ref p, .int least] => ∃ xs, Sq K H p xs ∧ ∀ H', Grow H H' → Q (.bl (decide (least ≤ (xs.length : Int)))) H'
  | _ => False
def t_is_list_0 (K : PySem.W.Frag) (A : Ad) : TS := (tRet (tAndV (tCB (rIsiT K) (tCons (tVar 0) (tCons (tTup (tCons (tC (.ty "list")) (tCons (tC (.ty "tuple")) tNil))) tNil))) (tOp oGe (tCB (cLenE K) (tCons (tVar 0) tNil)) (tVar 1))))

theorem pure_is_list {K : PySem.W.Frag} {A : Ad} {vs : List V} {H : Hp} {Q : VK} {E : XK} (h : sp_is_list K A vs H Q E) : (t_is_list_0 K A) { nx := fun _ H' => Q .non H', rt := Q } (start ["value", "least"] vs) H := by
  unfold sp_is_list at h
  split at h
  · rename_i p least
    obtain ⟨xs, hs, k⟩ := h
    show (t_is_list_0 K A) _ [some (.ref p), some (.int least)] H
    refine st_ret ?_
    (refine evE ?P30 (fun Q h => ?h30) ?_; (case h30 => (simp only [tTest, tOp, tUn, tVar, tC, tCB, tCons, tNil, tAnd, tOr, tNot, tB, tTup, tLst, tIf, tAndV, tOrV, tNotV, tSl, tPart, tNoPart, tCall, iIx_ref, oGt_int, oMod_int, oFdiv_int, oAdd_int, oAdd_str, oSub_int, oMul_int, oLt_int, oGe_int, oLe_int, oPow_int, uNeg_int, oEq_int, oEq_str, oEq_bl, oNe_int, oNe_str, oNe_bl, cInt_int, cInt_bl, cAbs_int, cLen_ref, cList_ref, stL_ref, gName, gSub, gTup, gCons, gNil, rdSeq, List.getElem?_cons_zero, List.getElem?_cons_succ, List.set_cons_zero, List.set_cons_succ, List.cons_append, List.nil_append, Option.some.injEq, exists_eq_left', V.bl.injEq, V.int.injEq, V.ref.injEq, atI_0, atI_1, atI_2, setI_1, setI_2, Bool.not_true, Bool.not_false, Bool.false_eq_true, if_false, if_true]; exact h)); (try dsimp only [gName, tNext, List.set_cons_zero, List.set_cons_succ]))
    refine ⟨by show 2 ≤ sizeLine; decide, fun tp htp => isiE (hs.grow (Grow.new htp)) upd_same ⟨_, rfl, ?_⟩⟩
    refine if_yes (lenE (hs.grow (Grow.new htp)) ?_)
    simp only [tTest, tOp, tUn, tVar, tC, tCB, tCons, tNil, tAnd, tOr, tNot, tB, tTup, tLst, tIf, tAndV, tOrV, tNotV, tSl, tPart, tNoPart, tCall, iIx_ref, oGt_int, oMod_int, oFdiv_int, oAdd_int, oAdd_str, oSub_int, oMul_int, oLt_int, oGe_int, oLe_int, oPow_int, uNeg_int, oEq_int, oEq_str, oEq_bl, oNe_int, oNe_str, oNe_bl, cInt_int, cInt_bl, cAbs_int, cLen_ref, cList_ref, stL_ref, gName, gSub, gTup, gCons, gNil, rdSeq, List.getElem?_cons_zero, List.getElem?_cons_succ, List.set_cons_zero, List.set_cons_succ, List.cons_append, List.nil_append, Option.some.injEq, exists_eq_left', V.bl.injEq, V.int.injEq, V.ref.injEq, atI_0, atI_1, atI_2, setI_1, setI_2, Bool.not_true, Bool.not_false, Bool.false_eq_true, if_false, if_true]
    exact k _ (Grow.new htp)
  · exact h.elim
def sp_added (K : PySem.W.Frag) (A : Ad) : Sp := fun vs H Q _ => match vs with
  | [.int i, .int j] => Q (.int (i + j)) H
  | [.non, .int _] => Q .non H
  | _ => False
theorem added_oV {K : PySem.W.Frag} {A : Ad} {o : Option Int} {k : Int} {H : Hp} {Q : VK} {E : XK} : sp_added K A [oV o, .int k] H Q E = Q (oV (o.map (· + k))) H := by cases o <;> rfl
def t_added_0 (K : PySem.W.Frag) (A : Ad) : TS := (tRet (tIf (tTest (tOp oIs (tVar 0) (tC .non))) (tC .non) (tOp oAdd (tVar 0) (tVar 1))))

theorem pure_added {K : PySem.W.Frag} {A : Ad} {vs : List V} {H : Hp} {Q : VK} {E : XK} (h : sp_added K A vs H Q E) : (t_added_0 K A) { nx := fun _ H' => Q .non H', rt := Q } (start ["value", "number"] vs) H := by
  unfold sp_added at h
  split at h
  · show (t_added_0 K A) _ [some (.int _), some (.int _)] H
    refine st_ret ?_
    (refine evE ?P31 (fun Q h => ?h31) ?_; (case h31 => (simp only [tTest, tOp, tUn, tVar, tC, tCB, tCons, tNil, tAnd, tOr, tNot, tB, tTup, tLst, tIf, tAndV, tOrV, tNotV, tSl, tPart, tNoPart, tCall, iIx_ref, oGt_int, oMod_int, oFdiv_int, oAdd_int, oAdd_str, oSub_int, oMul_int, oLt_int, oGe_int, oLe_int, oPow_int, uNeg_int, oEq_int, oEq_str, oEq_bl, oNe_int, oNe_str, oNe_bl, cInt_int, cInt_bl, cAbs_int, cLen_ref, cList_ref, stL_ref, gName, gSub, gTup, gCons, gNil, rdSeq, List.getElem?_cons_zero, List.getElem?_cons_succ, List.set_cons_zero, List.set_cons_succ, List.cons_append, List.nil_append, Option.some.injEq, exists_eq_left', V.bl.injEq, V.int.injEq, V.ref.injEq, atI_0, atI_1, atI_2, setI_1, setI_2, Bool.not_true, Bool.not_false, Bool.false_eq_true, if_false, if_true, oIs]; exact h)); (try dsimp only [gName, tNext, List.set_cons_zero, List.set_cons_succ]))
    exact h
  · show (t_added_0 K A) _ [some (.non), some (.int _)] H
    refine st_ret ?_
    (refine evE ?P32 (fun Q h => ?h32) ?_; (case h32 => (simp only [tTest, tOp, tUn, tVar, tC, tCB, tCons, tNil, tAnd, tOr, tNot, tB, tTup, tLst, tIf, tAndV, tOrV, tNotV, tSl, tPart, tNoPart, tCall, iIx_ref, oGt_int, oMod_int, oFdiv_int, oAdd_int, oAdd_str, oSub_int, oMul_int, oLt_int, oGe_int, oLe_int, oPow_int, uNeg_int, oEq_int, oEq_str, oEq_bl, oNe_int, oNe_str, oNe_bl, cInt_int, cInt_bl, cAbs_int, cLen_ref, cList_ref, stL_ref, gName, gSub, gTup, gCons, gNil, rdSeq, List.getElem?_cons_zero, List.getElem?_cons_succ, List.set_cons_zero, List.set_cons_succ, List.cons_append, List.nil_append, Option.some.injEq, exists_eq_left', V.bl.injEq, V.int.injEq, V.ref.injEq, atI_0, atI_1, atI_2, setI_1, setI_2, Bool.not_true, Bool.not_false, Bool.false_eq_true, if_false, if_true, oIs]; exact h)); (try dsimp only [gName, tNext, List.set_cons_zero, List.set_cons_succ]))
    exact h
  · exact h.elim
def BnA (gains : List Int) : Prop := ∀ x ∈ gains, Bn 100000 x
def sp_value_at (K : PySem.W.Frag) (A : Ad) : Sp := fun vs H Q _ => match vs with
  | [.ref t, .ref g, .int n] => ∃ (told : List (Option Int)) (gains : List Int), Sq K H t (told.map oV) ∧ Sq K H g (gains.map V.int) ∧ 0 ≤ n ∧ 0 < gains.length ∧ gains.length ≤ told.length ∧ gains.length ≤ 1000000 ∧ BnA gains ∧ Bn 100000 n ∧ Q (oV (gv told gains n.toNat)) H
  | _ => False
def t_value_at_1 (K : PySem.W.Frag) (A : Ad) : TS := (tRet (tOp (rIx K) (tVar 0) (tVar 2)))
def t_value_at_3 (K : PySem.W.Frag) (A : Ad) : TS := (tRet (tCall (sp_added K A) [] E0 (tCons (tOp (rIx K) (tVar 0) (tOp oSub (tVar 2) (tOp oMul (tVar 3) (tCB (cLenE K) (tCons (tVar 1) tNil))))) (tCons (tOp oMul (tVar 3) (tOp (rIx K) (tVar 1) (tOp oMod (tVar 2) (tCB (cLenE K) (tCons (tVar 1) tNil))))) tNil))))
def t_value_at_2 (K : PySem.W.Frag) (A : Ad) : TS := (tSeq (tAsg (tOp oAdd (tOp oFdiv (tOp oSub (tVar 2) (tCB (cLenE K) (tCons (tVar 0) tNil))) (tCB (cLenE K) (tCons (tVar 1) tNil))) (tC (.int 1))) (gName 3)) (t_value_at_3 K A))
def t_value_at_0 (K : PySem.W.Frag) (A : Ad) : TS := (tSeq (tIfS (tTest (tOp oLt (tVar 2) (tCB (cLenE K) (tCons (tVar 0) tNil)))) (t_value_at_1 K A) tNext) (t_value_at_2 K A))

theorem getD_mem {α : Type} {l : List α} {i : Nat} {d : α} (h : i < l.length) : l.getD i d ∈ l := by
  rw [List.getD_eq_getElem?_getD, List.getElem?_eq_getElem h]
  exact List.getElem_mem h
theorem atI_map {α : Type} {l : List α} {f : α → V} {i : Nat} {d : α} (h : i < l.length) : atI (l.map f) (i : Int) = some (f (l.getD i d)) := by
  refine atI_nat' (by omega) ?_
  rw [Int.toNat_natCast, List.getElem?_map, List.getD_eq_getElem?_getD, List.getElem?_eq_getElem h]
  rfl
theorem log_len {n : Nat} (h0 : 0 < n) (h : n ≤ 1000000) : ((n : Int)).natAbs.log2 < 9000 := log_small (by omega) (by omega)
theorem pure_value_at {K : PySem.W.Frag} {A : Ad} {vs : List V} {H : Hp} {Q : VK} {E : XK} (h : sp_value_at K A vs H Q E) : (t_value_at_0 K A) { nx := fun _ H' => Q .non H', rt := Q } (start ["told", "gains", "n", "turns"] vs) H := by
  unfold sp_value_at at h
  split at h
  · rename_i t g n
    obtain ⟨told, gains, ht, hg, hn, hp, hpl, hps, bg, bn, k⟩ := h
    obtain ⟨N, rfl⟩ : ∃ N : Nat, n = N := ⟨n.toNat, by omega⟩
    rw [Int.toNat_natCast] at k
    show (t_value_at_0 K A) _ [some (.ref t), some (.ref g), some (.int N), none] H
    refine st_seq (st_if ?_)
    (refine evT ?P33 (fun Q h => ?h33) ?_; (case h33 => (simp only [tTest, tOp, tUn, tVar, tC, tCB, tCons, tNil, tAnd, tOr, tNot, tB, tTup, tLst, tIf, tAndV, tOrV, tNotV, tSl, tPart, tNoPart, tCall, iIx_ref, oGt_int, oMod_int, oFdiv_int, oAdd_int, oAdd_str, oSub_int, oMul_int, oLt_int, oGe_int, oLe_int, oPow_int, uNeg_int, oEq_int, oEq_str, oEq_bl, oNe_int, oNe_str, oNe_bl, cInt_int, cInt_bl, cAbs_int, cLen_ref, cList_ref, stL_ref, gName, gSub, gTup, gCons, gNil, rdSeq, List.getElem?_cons_zero, List.getElem?_cons_succ, List.set_cons_zero, List.set_cons_succ, List.cons_append, List.nil_append, Option.some.injEq, exists_eq_left', V.bl.injEq, V.int.injEq, V.ref.injEq, atI_0, atI_1, atI_2, setI_1, setI_2, Bool.not_true, Bool.not_false, Bool.false_eq_true, if_false, if_true]; exact h)); (try dsimp only [gName, tNext, List.set_cons_zero, List.set_cons_succ]))
    refine lenE ht ?_
    simp only [tTest, tOp, tUn, tVar, tC, tCB, tCons, tNil, tAnd, tOr, tNot, tB, tTup, tLst, tIf, tAndV, tOrV, tNotV, tSl, tPart, tNoPart, tCall, iIx_ref, oGt_int, oMod_int, oFdiv_int, oAdd_int, oAdd_str, oSub_int, oMul_int, oLt_int, oGe_int, oLe_int, oPow_int, uNeg_int, oEq_int, oEq_str, oEq_bl, oNe_int, oNe_str, oNe_bl, cInt_int, cInt_bl, cAbs_int, cLen_ref, cList_ref, stL_ref, gName, gSub, gTup, gCons, gNil, rdSeq, List.getElem?_cons_zero, List.getElem?_cons_succ, List.set_cons_zero, List.set_cons_succ, List.cons_append, List.nil_append, Option.some.injEq, exists_eq_left', V.bl.injEq, V.int.injEq, V.ref.injEq, atI_0, atI_1, atI_2, setI_1, setI_2, Bool.not_true, Bool.not_false, Bool.false_eq_true, if_false, if_true, List.length_map]
    refine ite_dec (fun hc => ?_) (fun hc => ?_)
    all_goals (try dsimp only [gName, tNext, List.set_cons_zero, List.set_cons_succ])
    · refine st_ret ?_
      (refine evE ?P34 (fun Q h => ?h34) ?_; (case h34 => (simp only [tTest, tOp, tUn, tVar, tC, tCB, tCons, tNil, tAnd, tOr, tNot, tB, tTup, tLst, tIf, tAndV, tOrV, tNotV, tSl, tPart, tNoPart, tCall, iIx_ref, oGt_int, oMod_int, oFdiv_int, oAdd_int, oAdd_str, oSub_int, oMul_int, oLt_int, oGe_int, oLe_int, oPow_int, uNeg_int, oEq_int, oEq_str, oEq_bl, oNe_int, oNe_str, oNe_bl, cInt_int, cInt_bl, cAbs_int, cLen_ref, cList_ref, stL_ref, gName, gSub, gTup, gCons, gNil, rdSeq, List.getElem?_cons_zero, List.getElem?_cons_succ, List.set_cons_zero, List.set_cons_succ, List.cons_append, List.nil_append, Option.some.injEq, exists_eq_left', V.bl.injEq, V.int.injEq, V.ref.injEq, atI_0, atI_1, atI_2, setI_1, setI_2, Bool.not_true, Bool.not_false, Bool.false_eq_true, if_false, if_true]; exact h)); (try dsimp only [gName, tNext, List.set_cons_zero, List.set_cons_succ]))
      refine ixE ht (atI_map (d := none) (by omega)) ?_
      rw [gv_lt (by omega)] at k
      exact k
    · refine st_seq (st_asg ?_)
      (refine evE ?P35 (fun Q h => ?h35) ?_; (case h35 => (simp only [tTest, tOp, tUn, tVar, tC, tCB, tCons, tNil, tAnd, tOr, tNot, tB, tTup, tLst, tIf, tAndV, tOrV, tNotV, tSl, tPart, tNoPart, tCall, iIx_ref, oGt_int, oMod_int, oFdiv_int, oAdd_int, oAdd_str, oSub_int, oMul_int, oLt_int, oGe_int, oLe_int, oPow_int, uNeg_int, oEq_int, oEq_str, oEq_bl, oNe_int, oNe_str, oNe_bl, cInt_int, cInt_bl, cAbs_int, cLen_ref, cList_ref, stL_ref, gName, gSub, gTup, gCons, gNil, rdSeq, List.getElem?_cons_zero, List.getElem?_cons_succ, List.set_cons_zero, List.set_cons_succ, List.cons_append, List.nil_append, Option.some.injEq, exists_eq_left', V.bl.injEq, V.int.injEq, V.ref.injEq, atI_0, atI_1, atI_2, setI_1, setI_2, Bool.not_true, Bool.not_false, Bool.false_eq_true, if_false, if_true]; exact h)); (try dsimp only [gName, tNext, List.set_cons_zero, List.set_cons_succ]))
      refine lenE ht ?_
      simp only [tTest, tOp, tUn, tVar, tC, tCB, tCons, tNil, tAnd, tOr, tNot, tB, tTup, tLst, tIf, tAndV, tOrV, tNotV, tSl, tPart, tNoPart, tCall, iIx_ref, oGt_int, oMod_int, oFdiv_int, oAdd_int, oAdd_str, oSub_int, oMul_int, oLt_int, oGe_int, oLe_int, oPow_int, uNeg_int, oEq_int, oEq_str, oEq_bl, oNe_int, oNe_str, oNe_bl, cInt_int, cInt_bl, cAbs_int, cLen_ref, cList_ref, stL_ref, gName, gSub, gTup, gCons, gNil, rdSeq, List.getElem?_cons_zero, List.getElem?_cons_succ, List.set_cons_zero, List.set_cons_succ, List.cons_append, List.nil_append, Option.some.injEq, exists_eq_left', V.bl.injEq, V.int.injEq, V.ref.injEq, atI_0, atI_1, atI_2, setI_1, setI_2, Bool.not_true, Bool.not_false, Bool.false_eq_true, if_false, if_true]
      refine lenE hg ?_
      simp only [tTest, tOp, tUn, tVar, tC, tCB, tCons, tNil, tAnd, tOr, tNot, tB, tTup, tLst, tIf, tAndV, tOrV, tNotV, tSl, tPart, tNoPart, tCall, iIx_ref, oGt_int, oMod_int, oFdiv_int, oAdd_int, oAdd_str, oSub_int, oMul_int, oLt_int, oGe_int, oLe_int, oPow_int, uNeg_int, oEq_int, oEq_str, oEq_bl, oNe_int, oNe_str, oNe_bl, cInt_int, cInt_bl, cAbs_int, cLen_ref, cList_ref, stL_ref, gName, gSub, gTup, gCons, gNil, rdSeq, List.getElem?_cons_zero, List.getElem?_cons_succ, List.set_cons_zero, List.set_cons_succ, List.cons_append, List.nil_append, Option.some.injEq, exists_eq_left', V.bl.injEq, V.int.injEq, V.ref.injEq, atI_0, atI_1, atI_2, setI_1, setI_2, Bool.not_true, Bool.not_false, Bool.false_eq_true, if_false, if_true, List.length_map]
      refine ⟨⟨by omega, log_len hp hps⟩, ?_⟩
      (try dsimp only [gName, tNext, List.set_cons_zero, List.set_cons_succ])
      have e1 : ((N : Int) - (told.length : Int)) / (gains.length : Int) + 1 = (((N - told.length) / gains.length + 1 : Nat) : Int) := by
        have : (N : Int) - (told.length : Int) = ((N - told.length : Nat) : Int) := by omega
        rw [this, ← Int.natCast_ediv]
        rfl
      rw [e1]
      have gvn : gv told gains N = (told.getD (N - ((N - told.length) / gains.length + 1) * gains.length) none).map (· + (((N - told.length) / gains.length + 1 : Nat) : Int) * gains.getD (N % gains.length) 0) := by
        unfold gv
        rw [if_neg (by omega)]
      have tb : ((N - told.length) / gains.length + 1) * gains.length ≤ N := by
        rw [Nat.add_mul, Nat.one_mul]
        have := Nat.div_mul_le_self (N - told.length) gains.length
        omega
      have tl : N - ((N - told.length) / gains.length + 1) * gains.length < told.length := by
        rw [Nat.add_mul, Nat.one_mul]
        have h1 := Nat.div_add_mod (N - told.length) gains.length
        have h2 := Nat.mod_lt (N - told.length) hp
        rw [Nat.mul_comm] at h1
        omega
      have bt : Bn 100000 (((N - told.length) / gains.length + 1 : Nat) : Int) := bn.le (by
        rw [Int.natAbs_natCast, Int.natAbs_natCast]
        exact Nat.le_trans (Nat.le_mul_of_pos_right _ hp) tb)
      generalize (N - told.length) / gains.length + 1 = T at *
      refine st_ret ?_
      (refine evE ?P36 (fun Q h => ?h36) ?_; (case h36 => (simp only [tTest, tOp, tUn, tVar, tC, tCB, tCons, tNil, tAnd, tOr, tNot, tB, tTup, tLst, tIf, tAndV, tOrV, tNotV, tSl, tPart, tNoPart, tCall, iIx_ref, oGt_int, oMod_int, oFdiv_int, oAdd_int, oAdd_str, oSub_int, oMul_int, oLt_int, oGe_int, oLe_int, oPow_int, uNeg_int, oEq_int, oEq_str, oEq_bl, oNe_int, oNe_str, oNe_bl, cInt_int, cInt_bl, cAbs_int, cLen_ref, cList_ref, stL_ref, gName, gSub, gTup, gCons, gNil, rdSeq, List.getElem?_cons_zero, List.getElem?_cons_succ, List.set_cons_zero, List.set_cons_succ, List.cons_append, List.nil_append, Option.some.injEq, exists_eq_left', V.bl.injEq, V.int.injEq, V.ref.injEq, atI_0, atI_1, atI_2, setI_1, setI_2, Bool.not_true, Bool.not_false, Bool.false_eq_true, if_false, if_true]; exact h)); (try dsimp only [gName, tNext, List.set_cons_zero, List.set_cons_succ]))
      refine lenE hg ?_
      simp only [tTest, tOp, tUn, tVar, tC, tCB, tCons, tNil, tAnd, tOr, tNot, tB, tTup, tLst, tIf, tAndV, tOrV, tNotV, tSl, tPart, tNoPart, tCall, iIx_ref, oGt_int, oMod_int, oFdiv_int, oAdd_int, oAdd_str, oSub_int, oMul_int, oLt_int, oGe_int, oLe_int, oPow_int, uNeg_int, oEq_int, oEq_str, oEq_bl, oNe_int, oNe_str, oNe_bl, cInt_int, cInt_bl, cAbs_int, cLen_ref, cList_ref, stL_ref, gName, gSub, gTup, gCons, gNil, rdSeq, List.getElem?_cons_zero, List.getElem?_cons_succ, List.set_cons_zero, List.set_cons_succ, List.cons_append, List.nil_append, Option.some.injEq, exists_eq_left', V.bl.injEq, V.int.injEq, V.ref.injEq, atI_0, atI_1, atI_2, setI_1, setI_2, Bool.not_true, Bool.not_false, Bool.false_eq_true, if_false, if_true, List.length_map]
      refine ⟨.of_right (intBits_le_64 (by omega) (by omega)), ?_⟩
      have e2 : (N : Int) - (T : Int) * (gains.length : Int) = ((N - T * gains.length : Nat) : Int) := by
        rw [← Int.natCast_mul]
        omega
      rw [e2]
      refine ixE ht (atI_map (d := none) tl) ?_
      refine lenE hg ?_
      simp only [tTest, tOp, tUn, tVar, tC, tCB, tCons, tNil, tAnd, tOr, tNot, tB, tTup, tLst, tIf, tAndV, tOrV, tNotV, tSl, tPart, tNoPart, tCall, iIx_ref, oGt_int, oMod_int, oFdiv_int, oAdd_int, oAdd_str, oSub_int, oMul_int, oLt_int, oGe_int, oLe_int, oPow_int, uNeg_int, oEq_int, oEq_str, oEq_bl, oNe_int, oNe_str, oNe_bl, cInt_int, cInt_bl, cAbs_int, cLen_ref, cList_ref, stL_ref, gName, gSub, gTup, gCons, gNil, rdSeq, List.getElem?_cons_zero, List.getElem?_cons_succ, List.set_cons_zero, List.set_cons_succ, List.cons_append, List.nil_append, Option.some.injEq, exists_eq_left', V.bl.injEq, V.int.injEq, V.ref.injEq, atI_0, atI_1, atI_2, setI_1, setI_2, Bool.not_true, Bool.not_false, Bool.false_eq_true, if_false, if_true, List.length_map]
      refine ⟨by omega, ?_⟩
      have e3 : (N : Int) % (gains.length : Int) = ((N % gains.length : Nat) : Int) := (Int.natCast_emod ..).symm
      rw [e3]
      have hm : N % gains.length < gains.length := Nat.mod_lt _ hp
      refine ixE hg (atI_map (d := 0) hm) ?_
      simp only [tTest, tOp, tUn, tVar, tC, tCB, tCons, tNil, tAnd, tOr, tNot, tB, tTup, tLst, tIf, tAndV, tOrV, tNotV, tSl, tPart, tNoPart, tCall, iIx_ref, oGt_int, oMod_int, oFdiv_int, oAdd_int, oAdd_str, oSub_int, oMul_int, oLt_int, oGe_int, oLe_int, oPow_int, uNeg_int, oEq_int, oEq_str, oEq_bl, oNe_int, oNe_str, oNe_bl, cInt_int, cInt_bl, cAbs_int, cLen_ref, cList_ref, stL_ref, gName, gSub, gTup, gCons, gNil, rdSeq, List.getElem?_cons_zero, List.getElem?_cons_succ, List.set_cons_zero, List.set_cons_succ, List.cons_append, List.nil_append, Option.some.injEq, exists_eq_left', V.bl.injEq, V.int.injEq, V.ref.injEq, atI_0, atI_1, atI_2, setI_1, setI_2, Bool.not_true, Bool.not_false, Bool.false_eq_true, if_false, if_true, added_oV]
      refine ⟨bt.mulok (bg _ (getD_mem hm)) (by decide), ?_⟩
      rw [gvn] at k
      exact k
  · exact h.elim

end HG

namespace HG
open PySem L2
def sp_step_between (K : PySem.W.Frag) (A : Ad) : Sp := fun vs H Q _ => match vs with
  | [x, y] => ∃ a b, x = oV a ∧ y = oV b ∧ Q (oV (stepB a b)) H
  | _ => False
def t_step_between_1 (K : PySem.W.Frag) (A : Ad) : TS := (tRet (tIf (tTest (tOp (oEq K) (tVar 0) (tVar 1))) (tC (.int 0)) (tC .non)))
def t_step_between_2 (K : PySem.W.Frag) (A : Ad) : TS := (tRet (tOp oSub (tVar 1) (tVar 0)))
def t_step_between_0 (K : PySem.W.Frag) (A : Ad) : TS := (tSeq (tIfS (tOr (tTest (tOp oIs (tVar 0) (tC .non))) (tTest (tOp oIs (tVar 1) (tC .non)))) (t_step_between_1 K A) tNext) (t_step_between_2 K A))

theorem pure_step_between {K : PySem.W.Frag} {A : Ad} {vs : List V} {H : Hp} {Q : VK} {E : XK} (h : sp_step_between K A vs H Q E) : (t_step_between_0 K A) { nx := fun _ H' => Q .non H', rt := Q } (start ["low", "high"] vs) H := by
  unfold sp_step_between at h
  split at h
  · rename_i x y
    obtain ⟨a, b, rfl, rfl, k⟩ := h
    show (t_step_between_0 K A) _ [some (oV a), some (oV b)] H
    refine st_seq (st_if ?_)
    (refine evT ?P37 (fun Q h => ?h37) ?_; (case h37 => (simp only [tTest, tOp, tUn, tVar, tC, tCB, tCons, tNil, tAnd, tOr, tNot, tB, tTup, tLst, tIf, tAndV, tOrV, tNotV, tSl, tPart, tNoPart, tCall, iIx_ref, oGt_int, oMod_int, oFdiv_int, oAdd_int, oAdd_str, oSub_int, oMul_int, oLt_int, oGe_int, oLe_int, oPow_int, uNeg_int, oEq_int, oEq_str, oEq_bl, oNe_int, oNe_str, oNe_bl, cInt_int, cInt_bl, cAbs_int, cLen_ref, cList_ref, stL_ref, gName, gSub, gTup, gCons, gNil, rdSeq, List.getElem?_cons_zero, List.getElem?_cons_succ, List.set_cons_zero, List.set_cons_succ, List.cons_append, List.nil_append, Option.some.injEq, exists_eq_left', V.bl.injEq, V.int.injEq, V.ref.injEq, atI_0, atI_1, atI_2, setI_1, setI_2, Bool.not_true, Bool.not_false, Bool.false_eq_true, if_false, if_true, oIs_oV]; exact h)); (try dsimp only [gName, tNext, List.set_cons_zero, List.set_cons_succ]))
    cases a with
    | none =>
      refine if_yes ?_
      (refine if_yes ?_; (try dsimp only [gName, tNext, List.set_cons_zero, List.set_cons_succ]))
      refine st_ret ?_
      unfold tIf
      (refine evT ?P38 (fun Q h => ?h38) ?_; (case h38 => (simp only [tTest, tOp, tUn, tVar, tC, tCB, tCons, tNil, tAnd, tOr, tNot, tB, tTup, tLst, tIf, tAndV, tOrV, tNotV, tSl, tPart, tNoPart, tCall, iIx_ref, oGt_int, oMod_int, oFdiv_int, oAdd_int, oAdd_str, oSub_int, oMul_int, oLt_int, oGe_int, oLe_int, oPow_int, uNeg_int, oEq_int, oEq_str, oEq_bl, oNe_int, oNe_str, oNe_bl, cInt_int, cInt_bl, cAbs_int, cLen_ref, cList_ref, stL_ref, gName, gSub, gTup, gCons, gNil, rdSeq, List.getElem?_cons_zero, List.getElem?_cons_succ, List.set_cons_zero, List.set_cons_succ, List.cons_append, List.nil_append, Option.some.injEq, exists_eq_left', V.bl.injEq, V.int.injEq, V.ref.injEq, atI_0, atI_1, atI_2, setI_1, setI_2, Bool.not_true, Bool.not_false, Bool.false_eq_true, if_false, if_true]; exact h)); (try dsimp only [gName, tNext, List.set_cons_zero, List.set_cons_succ]))
      refine eqE (a := none) (b := b) ⟨_, rfl, ?_⟩
      cases b with
      | none =>
        (refine if_yes ?_; (try dsimp only [gName, tNext, List.set_cons_zero, List.set_cons_succ]))
        exact k
      | some j =>
        (refine if_no ?_; (try dsimp only [gName, tNext, List.set_cons_zero, List.set_cons_succ]))
        exact k
    | some i =>
      cases b with
      | none =>
        refine if_no (if_yes ?_)
        (try dsimp only [gName, tNext, List.set_cons_zero, List.set_cons_succ])
        refine st_ret ?_
        unfold tIf
        (refine evT ?P39 (fun Q h => ?h39) ?_; (case h39 => (simp only [tTest, tOp, tUn, tVar, tC, tCB, tCons, tNil, tAnd, tOr, tNot, tB, tTup, tLst, tIf, tAndV, tOrV, tNotV, tSl, tPart, tNoPart, tCall, iIx_ref, oGt_int, oMod_int, oFdiv_int, oAdd_int, oAdd_str, oSub_int, oMul_int, oLt_int, oGe_int, oLe_int, oPow_int, uNeg_int, oEq_int, oEq_str, oEq_bl, oNe_int, oNe_str, oNe_bl, cInt_int, cInt_bl, cAbs_int, cLen_ref, cList_ref, stL_ref, gName, gSub, gTup, gCons, gNil, rdSeq, List.getElem?_cons_zero, List.getElem?_cons_succ, List.set_cons_zero, List.set_cons_succ, List.cons_append, List.nil_append, Option.some.injEq, exists_eq_left', V.bl.injEq, V.int.injEq, V.ref.injEq, atI_0, atI_1, atI_2, setI_1, setI_2, Bool.not_true, Bool.not_false, Bool.false_eq_true, if_false, if_true]; exact h)); (try dsimp only [gName, tNext, List.set_cons_zero, List.set_cons_succ]))
        refine eqE (a := some i) (b := none) ⟨_, rfl, ?_⟩
        (refine if_no ?_; (try dsimp only [gName, tNext, List.set_cons_zero, List.set_cons_succ]))
        exact k
      | some j =>
        refine if_no (if_no ?_)
        (try dsimp only [gName, tNext, List.set_cons_zero, List.set_cons_succ])
        refine st_ret ?_
        (refine evE ?P40 (fun Q h => ?h40) ?_; (case h40 => (simp only [tTest, tOp, tUn, tVar, tC, tCB, tCons, tNil, tAnd, tOr, tNot, tB, tTup, tLst, tIf, tAndV, tOrV, tNotV, tSl, tPart, tNoPart, tCall, iIx_ref, oGt_int, oMod_int, oFdiv_int, oAdd_int, oAdd_str, oSub_int, oMul_int, oLt_int, oGe_int, oLe_int, oPow_int, uNeg_int, oEq_int, oEq_str, oEq_bl, oNe_int, oNe_str, oNe_bl, cInt_int, cInt_bl, cAbs_int, cLen_ref, cList_ref, stL_ref, gName, gSub, gTup, gCons, gNil, rdSeq, List.getElem?_cons_zero, List.getElem?_cons_succ, List.set_cons_zero, List.set_cons_succ, List.cons_append, List.nil_append, Option.some.injEq, exists_eq_left', V.bl.injEq, V.int.injEq, V.ref.injEq, atI_0, atI_1, atI_2, setI_1, setI_2, Bool.not_true, Bool.not_false, Bool.false_eq_true, if_false, if_true, oV]; exact h)); (try dsimp only [gName, tNext, List.set_cons_zero, List.set_cons_succ]))
        exact k
  · exact h.elim
def sp_gains_of (K : PySem.W.Frag) (A : Ad) : Sp := fun vs H Q _ => match vs with
  | [.ref r, .int L, .int p] => ∃ (row : List (Option Int)) (L' p' : Nat), L = L' ∧ p = p' ∧ H r = some (.lst (row.map oV)) ∧ 0 < p' ∧ 2 * p' ≤ row.length ∧ row.length ≤ 100000 ∧
      (gainsOf row L' p' = none → ∀ H', Grow H H' → Q .non H') ∧ (∀ gs, gainsOf row L' p' = some gs → ∀ t H', Grow H H' → H' t = some (.tup (gs.map V.int)) → Q (.ref t) H')
  | _ => False
def t_gains_of_2 (K : PySem.W.Frag) (A : Ad) : TS := (tRet (tC .non))
def t_gains_of_3 (K : PySem.W.Frag) (A : Ad) : TS := (tRet (tCB (cTupE K) (tCons (tLc (iRng1 (tCons (tVar 2) tNil)) (gName 5) tYes (tOp (rIx K) (tVar 3) (tOp oMod (tOp oSub (tVar 5) (tVar 1)) (tVar 2))) [5]) tNil)))
def t_gains_of_1 (K : PySem.W.Frag) (A : Ad) : TS := (tSeq (tIfS (tOr (tTest (tOp (oIn K) (tC .non) (tVar 3))) (tNot (tB (tCB (cAll K) (tCons (tLc (iRng1 (tCons (tCB (cLenE K) (tCons (tVar 3) tNil)) tNil)) (gName 4) tYes (tOp (oEq K) (tOp (rIx K) (tVar 3) (tVar 4)) (tOp (rIx K) (tVar 3) (tOp oMod (tVar 4) (tVar 2)))) [4]) tNil))))) (t_gains_of_2 K A) tNext) (t_gains_of_3 K A))
def t_gains_of_0 (K : PySem.W.Frag) (A : Ad) : TS := (tSeq (tAsg (tLc (iRng1 (tCons (tOp oSub (tCB (cLenE K) (tCons (tVar 0) tNil)) (tVar 2)) tNil)) (gName 4) tYes (tCall (sp_step_between K A) [] E0 (tCons (tOp (rIx K) (tVar 0) (tVar 4)) (tCons (tOp (rIx K) (tVar 0) (tOp oAdd (tVar 4) (tVar 2))) tNil))) [4]) (gName 3)) (t_gains_of_1 K A))

theorem pure_gains_of {K : PySem.W.Frag} {A : Ad} {vs : List V} {H : Hp} {Q : VK} {E : XK} (h : sp_gains_of K A vs H Q E) : (t_gains_of_0 K A) { nx := fun _ H' => Q .non H', rt := Q } (start ["row", "origin", "period", "steps", "at", "rest"] vs) H := by
  unfold sp_gains_of at h
  split at h
  · rename_i r L p
    obtain ⟨row, L, p, rfl, rfl, hr, hp, h2, hs, k1, k2⟩ := h
    show (t_gains_of_0 K A) _ [some (.ref r), some (.int L), some (.int p), none, none, none] H
    have hsz : sizeLine = 16777216 := rfl
    refine st_seq (st_asg (lc_ev ?_))
    unfold iRng1
    (refine evA ?P46 (fun Q h => ?h46) ?_; (case h46 => (simp only [tTest, tOp, tUn, tVar, tC, tCB, tCons, tNil, tAnd, tOr, tNot, tB, tTup, tLst, tIf, tAndV, tOrV, tNotV, tSl, tPart, tNoPart, tCall, iIx_ref, oGt_int, oMod_int, oFdiv_int, oAdd_int, oAdd_str, oSub_int, oMul_int, oLt_int, oGe_int, oLe_int, oPow_int, uNeg_int, oEq_int, oEq_str, oEq_bl, oNe_int, oNe_str, oNe_bl, cInt_int, cInt_bl, cAbs_int, cLen_ref, cList_ref, stL_ref, gName, gSub, gTup, gCons, gNil, rdSeq, List.getElem?_cons_zero, List.getElem?_cons_succ, List.set_cons_zero, List.set_cons_succ, List.cons_append, List.nil_append, Option.some.injEq, exists_eq_left', V.bl.injEq, V.int.injEq, V.ref.injEq, atI_0, atI_1, atI_2, setI_1, setI_2, Bool.not_true, Bool.not_false, Bool.false_eq_true, if_false, if_true]; exact h)))
    refine lenE (.l hr) ?_
    simp only [tTest, tOp, tUn, tVar, tC, tCB, tCons, tNil, tAnd, tOr, tNot, tB, tTup, tLst, tIf, tAndV, tOrV, tNotV, tSl, tPart, tNoPart, tCall, iIx_ref, oGt_int, oMod_int, oFdiv_int, oAdd_int, oAdd_str, oSub_int, oMul_int, oLt_int, oGe_int, oLe_int, oPow_int, uNeg_int, oEq_int, oEq_str, oEq_bl, oNe_int, oNe_str, oNe_bl, cInt_int, cInt_bl, cAbs_int, cLen_ref, cList_ref, stL_ref, gName, gSub, gTup, gCons, gNil, rdSeq, List.getElem?_cons_zero, List.getElem?_cons_succ, List.set_cons_zero, List.set_cons_succ, List.cons_append, List.nil_append, Option.some.injEq, exists_eq_left', V.bl.injEq, V.int.injEq, V.ref.injEq, atI_0, atI_1, atI_2, setI_1, setI_2, Bool.not_true, Bool.not_false, Bool.false_eq_true, if_false, if_true, List.length_map]
    refine ⟨_, rfl, by omega, by omega, ?_⟩
    have en : ((row.length : Int) - (p : Int)).toNat = row.length - p := by omega
    rw [en]
    refine lc_map jok_rng (fun j => oV (stepB (row.getD j none) (row.getD (j + p) none))) (by omega) (fun j hj H' g R hR => ?_) (fun D H' g hD hd => ?_) (by exact fun x => rfl)
    · (refine evE ?P41 (fun Q h => ?h41) ?_; (case h41 => (simp only [tTest, tOp, tUn, tVar, tC, tCB, tCons, tNil, tAnd, tOr, tNot, tB, tTup, tLst, tIf, tAndV, tOrV, tNotV, tSl, tPart, tNoPart, tCall, iIx_ref, oGt_int, oMod_int, oFdiv_int, oAdd_int, oAdd_str, oSub_int, oMul_int, oLt_int, oGe_int, oLe_int, oPow_int, uNeg_int, oEq_int, oEq_str, oEq_bl, oNe_int, oNe_str, oNe_bl, cInt_int, cInt_bl, cAbs_int, cLen_ref, cList_ref, stL_ref, gName, gSub, gTup, gCons, gNil, rdSeq, List.getElem?_cons_zero, List.getElem?_cons_succ, List.set_cons_zero, List.set_cons_succ, List.cons_append, List.nil_append, Option.some.injEq, exists_eq_left', V.bl.injEq, V.int.injEq, V.ref.injEq, atI_0, atI_1, atI_2, setI_1, setI_2, Bool.not_true, Bool.not_false, Bool.false_eq_true, if_false, if_true, wipe]; exact h)); (try dsimp only [gName, tNext, List.set_cons_zero, List.set_cons_succ]))
      have e0 : (0 : Int) + (j : Int) = (j : Int) := by omega
      rw [e0]
      refine ixE (.l (g _ _ hr)) (atI_map (d := none) (by omega)) ?_
      refine ixE (.l (g _ _ hr)) (by have e : (j : Int) + (p : Int) = ((j + p : Nat) : Int) := by omega
                                     rw [e]; exact atI_map (d := none) (by omega)) ?_
      exact ⟨_, _, rfl, rfl, hR _ .refl⟩
    (try dsimp only [gName, tNext, List.set_cons_zero, List.set_cons_succ])
    have hst : H' D = some (.lst ((stepsOf row p).map oV)) := by
      rw [hd]
      unfold stepsOf
      rw [List.map_map]
      rfl
    have hlen : (stepsOf row p).length = row.length - p := by unfold stepsOf; rw [List.length_map, List.length_range]
    clear hd
    refine st_seq (st_if ?_)
    (refine evT ?P47 (fun Q h => ?h47) ?_; (case h47 => (simp only [tTest, tOp, tUn, tVar, tC, tCB, tCons, tNil, tAnd, tOr, tNot, tB, tTup, tLst, tIf, tAndV, tOrV, tNotV, tSl, tPart, tNoPart, tCall, iIx_ref, oGt_int, oMod_int, oFdiv_int, oAdd_int, oAdd_str, oSub_int, oMul_int, oLt_int, oGe_int, oLe_int, oPow_int, uNeg_int, oEq_int, oEq_str, oEq_bl, oNe_int, oNe_str, oNe_bl, cInt_int, cInt_bl, cAbs_int, cLen_ref, cList_ref, stL_ref, gName, gSub, gTup, gCons, gNil, rdSeq, List.getElem?_cons_zero, List.getElem?_cons_succ, List.set_cons_zero, List.set_cons_succ, List.cons_append, List.nil_append, Option.some.injEq, exists_eq_left', V.bl.injEq, V.int.injEq, V.ref.injEq, atI_0, atI_1, atI_2, setI_1, setI_2, Bool.not_true, Bool.not_false, Bool.false_eq_true, if_false, if_true]; exact h)))
    refine inNone hst ⟨_, rfl, ?_⟩
    cases hany : (stepsOf row p).any (·.isNone) with
    | true =>
      refine if_yes ?_
      (refine if_yes ?_; (try dsimp only [gName, tNext, List.set_cons_zero, List.set_cons_succ]))
      refine st_ret ?_
      (refine evE ?P42 (fun Q h => ?h42) ?_; (case h42 => (simp only [tTest, tOp, tUn, tVar, tC, tCB, tCons, tNil, tAnd, tOr, tNot, tB, tTup, tLst, tIf, tAndV, tOrV, tNotV, tSl, tPart, tNoPart, tCall, iIx_ref, oGt_int, oMod_int, oFdiv_int, oAdd_int, oAdd_str, oSub_int, oMul_int, oLt_int, oGe_int, oLe_int, oPow_int, uNeg_int, oEq_int, oEq_str, oEq_bl, oNe_int, oNe_str, oNe_bl, cInt_int, cInt_bl, cAbs_int, cLen_ref, cList_ref, stL_ref, gName, gSub, gTup, gCons, gNil, rdSeq, List.getElem?_cons_zero, List.getElem?_cons_succ, List.set_cons_zero, List.set_cons_succ, List.cons_append, List.nil_append, Option.some.injEq, exists_eq_left', V.bl.injEq, V.int.injEq, V.ref.injEq, atI_0, atI_1, atI_2, setI_1, setI_2, Bool.not_true, Bool.not_false, Bool.false_eq_true, if_false, if_true]; exact h)); (try dsimp only [gName, tNext, List.set_cons_zero, List.set_cons_succ]))
      exact k1 (by unfold gainsOf; rw [if_pos (.inl hany)]) _ g
    | false =>
      refine if_no (lc_ev ?_)
      unfold iRng1
      (refine evA ?P48 (fun Q h => ?h48) ?_; (case h48 => (simp only [tTest, tOp, tUn, tVar, tC, tCB, tCons, tNil, tAnd, tOr, tNot, tB, tTup, tLst, tIf, tAndV, tOrV, tNotV, tSl, tPart, tNoPart, tCall, iIx_ref, oGt_int, oMod_int, oFdiv_int, oAdd_int, oAdd_str, oSub_int, oMul_int, oLt_int, oGe_int, oLe_int, oPow_int, uNeg_int, oEq_int, oEq_str, oEq_bl, oNe_int, oNe_str, oNe_bl, cInt_int, cInt_bl, cAbs_int, cLen_ref, cList_ref, stL_ref, gName, gSub, gTup, gCons, gNil, rdSeq, List.getElem?_cons_zero, List.getElem?_cons_succ, List.set_cons_zero, List.set_cons_succ, List.cons_append, List.nil_append, Option.some.injEq, exists_eq_left', V.bl.injEq, V.int.injEq, V.ref.injEq, atI_0, atI_1, atI_2, setI_1, setI_2, Bool.not_true, Bool.not_false, Bool.false_eq_true, if_false, if_true]; exact h)))
      refine lenE (.l hst) ?_
      simp only [tTest, tOp, tUn, tVar, tC, tCB, tCons, tNil, tAnd, tOr, tNot, tB, tTup, tLst, tIf, tAndV, tOrV, tNotV, tSl, tPart, tNoPart, tCall, iIx_ref, oGt_int, oMod_int, oFdiv_int, oAdd_int, oAdd_str, oSub_int, oMul_int, oLt_int, oGe_int, oLe_int, oPow_int, uNeg_int, oEq_int, oEq_str, oEq_bl, oNe_int, oNe_str, oNe_bl, cInt_int, cInt_bl, cAbs_int, cLen_ref, cList_ref, stL_ref, gName, gSub, gTup, gCons, gNil, rdSeq, List.getElem?_cons_zero, List.getElem?_cons_succ, List.set_cons_zero, List.set_cons_succ, List.cons_append, List.nil_append, Option.some.injEq, exists_eq_left', V.bl.injEq, V.int.injEq, V.ref.injEq, atI_0, atI_1, atI_2, setI_1, setI_2, Bool.not_true, Bool.not_false, Bool.false_eq_true, if_false, if_true, List.length_map]
      refine ⟨_, rfl, by omega, by omega, ?_⟩
      rw [Int.toNat_natCast]
      refine lc_map jok_rng (fun j => .bl (decide ((stepsOf row p).getD j none = (stepsOf row p).getD (j % p) none))) (by omega) (fun j hj H2 g2 R hR => ?_) (fun D2 H2 g2 hD2 hd2 => ?_) (by exact fun x => rfl)
      · (refine evE ?P43 (fun Q h => ?h43) ?_; (case h43 => (simp only [tTest, tOp, tUn, tVar, tC, tCB, tCons, tNil, tAnd, tOr, tNot, tB, tTup, tLst, tIf, tAndV, tOrV, tNotV, tSl, tPart, tNoPart, tCall, iIx_ref, oGt_int, oMod_int, oFdiv_int, oAdd_int, oAdd_str, oSub_int, oMul_int, oLt_int, oGe_int, oLe_int, oPow_int, uNeg_int, oEq_int, oEq_str, oEq_bl, oNe_int, oNe_str, oNe_bl, cInt_int, cInt_bl, cAbs_int, cLen_ref, cList_ref, stL_ref, gName, gSub, gTup, gCons, gNil, rdSeq, List.getElem?_cons_zero, List.getElem?_cons_succ, List.set_cons_zero, List.set_cons_succ, List.cons_append, List.nil_append, Option.some.injEq, exists_eq_left', V.bl.injEq, V.int.injEq, V.ref.injEq, atI_0, atI_1, atI_2, setI_1, setI_2, Bool.not_true, Bool.not_false, Bool.false_eq_true, if_false, if_true, wipe]; exact h)); (try dsimp only [gName, tNext, List.set_cons_zero, List.set_cons_succ]))
        have e0 : (0 : Int) + (j : Int) = (j : Int) := by omega
        rw [e0]
        refine ixE (.l (g2 _ _ hst)) (atI_map (d := none) hj) ?_
        refine ⟨by omega, ?_⟩
        have hm : j % p < p := Nat.mod_lt _ hp
        refine ixE (.l (g2 _ _ hst)) (by rw [← Int.natCast_emod]; exact atI_map (d := none) (by omega)) ?_
        exact eqE (hR _ .refl)
      refine ⟨D2, (List.range (stepsOf row p).length).map fun j => decide ((stepsOf row p).getD j none = (stepsOf row p).getD (j % p) none), rfl, by rw [hd2, List.map_map]; rfl, ⟨_, rfl, ?_⟩⟩
      cases hall : (((List.range (stepsOf row p).length).map fun j => decide ((stepsOf row p).getD j none = (stepsOf row p).getD (j % p) none)).all id) with
      | false =>
        (refine if_yes ?_; (try dsimp only [gName, tNext, List.set_cons_zero, List.set_cons_succ]))
        refine st_ret ?_
        (refine evE ?P44 (fun Q h => ?h44) ?_; (case h44 => (simp only [tTest, tOp, tUn, tVar, tC, tCB, tCons, tNil, tAnd, tOr, tNot, tB, tTup, tLst, tIf, tAndV, tOrV, tNotV, tSl, tPart, tNoPart, tCall, iIx_ref, oGt_int, oMod_int, oFdiv_int, oAdd_int, oAdd_str, oSub_int, oMul_int, oLt_int, oGe_int, oLe_int, oPow_int, uNeg_int, oEq_int, oEq_str, oEq_bl, oNe_int, oNe_str, oNe_bl, cInt_int, cInt_bl, cAbs_int, cLen_ref, cList_ref, stL_ref, gName, gSub, gTup, gCons, gNil, rdSeq, List.getElem?_cons_zero, List.getElem?_cons_succ, List.set_cons_zero, List.set_cons_succ, List.cons_append, List.nil_append, Option.some.injEq, exists_eq_left', V.bl.injEq, V.int.injEq, V.ref.injEq, atI_0, atI_1, atI_2, setI_1, setI_2, Bool.not_true, Bool.not_false, Bool.false_eq_true, if_false, if_true]; exact h)); (try dsimp only [gName, tNext, List.set_cons_zero, List.set_cons_succ]))
        exact k1 (by unfold gainsOf; rw [if_pos (.inr (by rw [hall]; decide))]) _ (g.trans g2)
      | true =>
        (refine if_no ?_; (try dsimp only [gName, tNext, List.set_cons_zero, List.set_cons_succ]))
        have hst2 := g2 _ _ hst
        have hg : gainsOf row L p = some ((List.range p).map fun r : Nat => ((stepsOf row p).getD (((r : Int) - (L : Int)) % (p : Int)).toNat none).getD 0) := by
          unfold gainsOf
          rw [if_neg]
          rintro (z | z)
          · rw [hany] at z; cases z
          · exact z hall
        refine st_ret ?_
        (refine evE ?P49 (fun Q h => ?h49) ?_; (case h49 => (simp only [tTest, tOp, tUn, tVar, tC, tCB, tCons, tNil, tAnd, tOr, tNot, tB, tTup, tLst, tIf, tAndV, tOrV, tNotV, tSl, tPart, tNoPart, tCall, iIx_ref, oGt_int, oMod_int, oFdiv_int, oAdd_int, oAdd_str, oSub_int, oMul_int, oLt_int, oGe_int, oLe_int, oPow_int, uNeg_int, oEq_int, oEq_str, oEq_bl, oNe_int, oNe_str, oNe_bl, cInt_int, cInt_bl, cAbs_int, cLen_ref, cList_ref, stL_ref, gName, gSub, gTup, gCons, gNil, rdSeq, List.getElem?_cons_zero, List.getElem?_cons_succ, List.set_cons_zero, List.set_cons_succ, List.cons_append, List.nil_append, Option.some.injEq, exists_eq_left', V.bl.injEq, V.int.injEq, V.ref.injEq, atI_0, atI_1, atI_2, setI_1, setI_2, Bool.not_true, Bool.not_false, Bool.false_eq_true, if_false, if_true]; exact h)))
        refine lc_ev ?_
        unfold iRng1
        (refine evA ?P50 (fun Q h => ?h50) ?_; (case h50 => (simp only [tTest, tOp, tUn, tVar, tC, tCB, tCons, tNil, tAnd, tOr, tNot, tB, tTup, tLst, tIf, tAndV, tOrV, tNotV, tSl, tPart, tNoPart, tCall, iIx_ref, oGt_int, oMod_int, oFdiv_int, oAdd_int, oAdd_str, oSub_int, oMul_int, oLt_int, oGe_int, oLe_int, oPow_int, uNeg_int, oEq_int, oEq_str, oEq_bl, oNe_int, oNe_str, oNe_bl, cInt_int, cInt_bl, cAbs_int, cLen_ref, cList_ref, stL_ref, gName, gSub, gTup, gCons, gNil, rdSeq, List.getElem?_cons_zero, List.getElem?_cons_succ, List.set_cons_zero, List.set_cons_succ, List.cons_append, List.nil_append, Option.some.injEq, exists_eq_left', V.bl.injEq, V.int.injEq, V.ref.injEq, atI_0, atI_1, atI_2, setI_1, setI_2, Bool.not_true, Bool.not_false, Bool.false_eq_true, if_false, if_true]; exact h)))
        refine ⟨_, rfl, by omega, by omega, ?_⟩
        rw [Int.toNat_natCast]
        refine lc_map jok_rng (fun j => .int (((stepsOf row p).getD (((j : Int) - (L : Int)) % (p : Int)).toNat none).getD 0)) (by omega) (fun j hj H3 g3 R hR => ?_) (fun D3 H3 g3 hD3 hd3 => ?_) (by exact fun x => rfl)
        · (refine evE ?P45 (fun Q h => ?h45) ?_; (case h45 => (simp only [tTest, tOp, tUn, tVar, tC, tCB, tCons, tNil, tAnd, tOr, tNot, tB, tTup, tLst, tIf, tAndV, tOrV, tNotV, tSl, tPart, tNoPart, tCall, iIx_ref, oGt_int, oMod_int, oFdiv_int, oAdd_int, oAdd_str, oSub_int, oMul_int, oLt_int, oGe_int, oLe_int, oPow_int, uNeg_int, oEq_int, oEq_str, oEq_bl, oNe_int, oNe_str, oNe_bl, cInt_int, cInt_bl, cAbs_int, cLen_ref, cList_ref, stL_ref, gName, gSub, gTup, gCons, gNil, rdSeq, List.getElem?_cons_zero, List.getElem?_cons_succ, List.set_cons_zero, List.set_cons_succ, List.cons_append, List.nil_append, Option.some.injEq, exists_eq_left', V.bl.injEq, V.int.injEq, V.ref.injEq, atI_0, atI_1, atI_2, setI_1, setI_2, Bool.not_true, Bool.not_false, Bool.false_eq_true, if_false, if_true, wipe]; exact h)); (try dsimp only [gName, tNext, List.set_cons_zero, List.set_cons_succ]))
          have e0 : (0 : Int) + (j : Int) = (j : Int) := by omega
          rw [e0]
          refine ⟨by omega, ?_⟩
          have hm := mod_range (x := (j : Int) - (L : Int)) (m := (p : Int)) (by omega)
          obtain ⟨i, hi⟩ : ∃ i : Nat, ((j : Int) - (L : Int)) % (p : Int) = i := ⟨(((j : Int) - (L : Int)) % (p : Int)).toNat, by omega⟩
          rw [hi] at hR ⊢
          refine ixE (.l (g3 _ _ hst2)) (atI_map (d := none) (by omega)) ?_
          have hne : (stepsOf row p).getD i none ≠ none := by
            intro z
            have hx : (stepsOf row p).any (·.isNone) = true := by
              rw [List.any_eq_true]
              refine ⟨none, ?_, rfl⟩
              rw [← z]
              exact getD_mem (by omega)
            rw [hany] at hx
            cases hx
          rw [Int.toNat_natCast] at hR
          cases ev : (stepsOf row p).getD i none with
          | none => exact absurd ev hne
          | some v =>
            rw [ev] at hR
            exact hR _ .refl
        refine tupL (xs := (((List.range p).map fun r : Nat => ((stepsOf row p).getD (((r : Int) - (L : Int)) % (p : Int)).toNat none).getD 0)).map V.int) (by rw [hd3, List.map_map]; rfl) fun l H4 g4 hl => ?_
        exact k2 _ hg l H4 ((g.trans g2).trans (g3.trans g4)) hl
  · exact h.elim

end HG

namespace HG
open PySem L2
theorem findSome_at {α : Type} {F : Nat → Option α} {n i : Nat} {g : α} (hi : i < n) (h1 : ∀ j, j < i → F j = none) (h2 : F i = some g) : (List.range n).findSome? F = some g := by
  induction n with
  | zero => omega
  | succ n ih =>
    rw [List.range_succ, List.findSome?_append]
    by_cases e : i = n
    · subst e
      have : (List.range i).findSome? F = none := List.findSome?_eq_none_iff.mpr fun x hx => h1 x (List.mem_range.mp hx)
      rw [this]
      show ([i].findSome? F) = some g
      rw [List.findSome?_cons, h2]
    · rw [ih (by omega)]
      rfl
theorem findSome_no {α : Type} {F : Nat → Option α} {n : Nat} (h1 : ∀ j, j < n → F j = none) : (List.range n).findSome? F = none :=
  List.findSome?_eq_none_iff.mpr fun x hx => h1 x (List.mem_range.mp hx)
def sp_least_gains (K : PySem.W.Frag) (A : Ad) : Sp := fun vs H Q _ => match vs with
  | [.ref r, .int L, .int p] => ∃ (row : List (Option Int)) (L' p' : Nat) (gs : List Int), L = L' ∧ p = p' ∧ H r = some (.lst (row.map oV)) ∧ 0 < p' ∧ 2 * p' ≤ row.length ∧ row.length ≤ 100000 ∧
      leastG row L' p' = some gs ∧ ∀ t H', Grow H H' → H' t = some (.tup (gs.map V.int)) → Q (.ref t) H'
  | _ => False
def t_least_gains_3 (K : PySem.W.Frag) (A : Ad) : TS := (tRet (tVar 4))
def t_least_gains_2 (K : PySem.W.Frag) (A : Ad) : TS := (tIfS (tTest (tOp oIsNot (tVar 4) (tC .non))) (t_least_gains_3 K A) tNext)
def t_least_gains_1 (K : PySem.W.Frag) (A : Ad) : TS := (tSeq (tAsg (tIf (tTest (tOp (oEq K) (tOp oMod (tVar 2) (tVar 3)) (tC (.int 0)))) (tCall (sp_gains_of K A) [] E0 (tCons (tVar 0) (tCons (tVar 1) (tCons (tVar 3) tNil)))) (tC .non)) (gName 4)) (t_least_gains_2 K A))
def t_least_gains_4 (K : PySem.W.Frag) (A : Ad) : TS := (tRet (tCall (sp_gains_of K A) [] E0 (tCons (tVar 0) (tCons (tVar 1) (tCons (tVar 2) tNil)))))
def t_least_gains_0 (K : PySem.W.Frag) (A : Ad) : TS := (tSeq (tFor (iRng2 (tCons (tC (.int 1)) (tCons (tVar 2) tNil))) (gName 3)
    (t_least_gains_1 K A)) (t_least_gains_4 K A))

theorem pure_least_gains {K : PySem.W.Frag} {A : Ad} {vs : List V} {H : Hp} {Q : VK} {E : XK} (h : sp_least_gains K A vs H Q E) : (t_least_gains_0 K A) { nx := fun _ H' => Q .non H', rt := Q } (start ["row", "origin", "period", "least", "gains"] vs) H := by
  unfold sp_least_gains at h
  split at h
  · rename_i r L p
    obtain ⟨row, L, p, gs, rfl, rfl, hr, hp, h2, hs, hg, k⟩ := h
    show (t_least_gains_0 K A) _ [some (.ref r), some (.int L), some (.int p), none, none] H
    refine st_seq ?_
    unfold tFor iRng2
    (refine evA ?P51 (fun Q h => ?h51) ?_; (case h51 => (simp only [tTest, tOp, tUn, tVar, tC, tCB, tCons, tNil, tAnd, tOr, tNot, tB, tTup, tLst, tIf, tAndV, tOrV, tNotV, tSl, tPart, tNoPart, tCall, iIx_ref, oGt_int, oMod_int, oFdiv_int, oAdd_int, oAdd_str, oSub_int, oMul_int, oLt_int, oGe_int, oLe_int, oPow_int, uNeg_int, oEq_int, oEq_str, oEq_bl, oNe_int, oNe_str, oNe_bl, cInt_int, cInt_bl, cAbs_int, cLen_ref, cList_ref, stL_ref, gName, gSub, gTup, gCons, gNil, rdSeq, List.getElem?_cons_zero, List.getElem?_cons_succ, List.set_cons_zero, List.set_cons_succ, List.cons_append, List.nil_append, Option.some.injEq, exists_eq_left', V.bl.injEq, V.int.injEq, V.ref.injEq, atI_0, atI_1, atI_2, setI_1, setI_2, Bool.not_true, Bool.not_false, Bool.false_eq_true, if_false, if_true]; exact h)); (try dsimp only [gName, tNext, List.set_cons_zero, List.set_cons_succ]))
    refine ⟨_, _, rfl, ⟨by omega, by omega, by omega, by omega⟩, ?_⟩
    refine ⟨fun i m σ H' => i ≤ p - 1 ∧ m = p - 1 - i ∧ Grow H H' ∧ (∃ x y, σ = [some (.ref r), some (.int L), some (.int p), x, y]) ∧ ∀ j, j < i → (if p % (j + 1) = 0 then gainsOf row L (j + 1) else none) = none, ⟨_, Nat.zero_le _, rfl, .refl, ⟨_, _, rfl⟩, fun j hj => absurd hj (Nat.not_lt_zero _)⟩, ?_⟩
    rintro i m σ H' ⟨hi, hm, g, ⟨x, y, rfl⟩, hno⟩
    by_cases e : i = p - 1
    · refine .inl ⟨by show ((p : Int) - 1).toNat ≤ i; omega, ?_⟩
      refine st_ret ?_
      (refine evE ?P52 (fun Q h => ?h52) ?_; (case h52 => (simp only [tTest, tOp, tUn, tVar, tC, tCB, tCons, tNil, tAnd, tOr, tNot, tB, tTup, tLst, tIf, tAndV, tOrV, tNotV, tSl, tPart, tNoPart, tCall, iIx_ref, oGt_int, oMod_int, oFdiv_int, oAdd_int, oAdd_str, oSub_int, oMul_int, oLt_int, oGe_int, oLe_int, oPow_int, uNeg_int, oEq_int, oEq_str, oEq_bl, oNe_int, oNe_str, oNe_bl, cInt_int, cInt_bl, cAbs_int, cLen_ref, cList_ref, stL_ref, gName, gSub, gTup, gCons, gNil, rdSeq, List.getElem?_cons_zero, List.getElem?_cons_succ, List.set_cons_zero, List.set_cons_succ, List.cons_append, List.nil_append, Option.some.injEq, exists_eq_left', V.bl.injEq, V.int.injEq, V.ref.injEq, atI_0, atI_1, atI_2, setI_1, setI_2, Bool.not_true, Bool.not_false, Bool.false_eq_true, if_false, if_true]; exact h)); (try dsimp only [gName, tNext, List.set_cons_zero, List.set_cons_succ]))
      have hl : leastG row L p = gainsOf row L p := by
        unfold leastG
        rw [findSome_no (by rw [← e]; exact hno)]
      rw [hl] at hg
      exact ⟨row, L, p, rfl, rfl, g _ _ hr, hp, h2, hs, (fun z => by rw [z] at hg; cases hg), (fun gs' z t H2 g2 ht => by rw [hg] at z; cases z; exact k t H2 (g.trans g2) ht)⟩
    · refine .inr ⟨by show i < ((p : Int) - 1).toNat; omega, fun σ' H'' => Grow H H'' ∧ (∃ x y, σ' = [some (.ref r), some (.int L), some (.int p), x, y]) ∧ ∀ j, j < i + 1 → (if p % (j + 1) = 0 then gainsOf row L (j + 1) else none) = none, fun σ' H'' z => ⟨p - 1 - (i + 1), by omega, by omega, rfl, z⟩, ?_⟩
      rintro x' H'' ⟨rfl, rfl⟩
      (try dsimp only [gName, tNext, List.set_cons_zero, List.set_cons_succ])
      have e1 : (1 : Int) + (i : Int) = ((i + 1 : Nat) : Int) := by omega
      rw [e1]
      refine st_seq (st_asg ?_)
      unfold tIf
      (refine evT ?P53 (fun Q h => ?h53) ?_; (case h53 => (simp only [tTest, tOp, tUn, tVar, tC, tCB, tCons, tNil, tAnd, tOr, tNot, tB, tTup, tLst, tIf, tAndV, tOrV, tNotV, tSl, tPart, tNoPart, tCall, iIx_ref, oGt_int, oMod_int, oFdiv_int, oAdd_int, oAdd_str, oSub_int, oMul_int, oLt_int, oGe_int, oLe_int, oPow_int, uNeg_int, oEq_int, oEq_str, oEq_bl, oNe_int, oNe_str, oNe_bl, cInt_int, cInt_bl, cAbs_int, cLen_ref, cList_ref, stL_ref, gName, gSub, gTup, gCons, gNil, rdSeq, List.getElem?_cons_zero, List.getElem?_cons_succ, List.set_cons_zero, List.set_cons_succ, List.cons_append, List.nil_append, Option.some.injEq, exists_eq_left', V.bl.injEq, V.int.injEq, V.ref.injEq, atI_0, atI_1, atI_2, setI_1, setI_2, Bool.not_true, Bool.not_false, Bool.false_eq_true, if_false, if_true]; exact h)); (try dsimp only [gName, tNext, List.set_cons_zero, List.set_cons_succ]))
      refine ⟨by omega, ?_⟩
      have more : (if p % (i + 1) = 0 then gainsOf row L (i + 1) else none) = none → ∀ H3, Grow H'' H3 → (fun (σ' : L2.St) (H'' : Hp) => Grow H H'' ∧ (∃ x y, σ' = [some (.ref r), some (.int L), some (.int p), x, y]) ∧ ∀ j, j < i + 1 → (if p % (j + 1) = 0 then gainsOf row L (j + 1) else none) = none) ([some (.ref r), some (.int L), some (.int p), some (.int ((i + 1 : Nat) : Int)), some .non] : L2.St) H3 := by
        intro z H3 g3
        refine ⟨g.trans g3, ⟨_, _, rfl⟩, fun j hj => ?_⟩
        by_cases ej : j = i
        · rw [ej]; exact z
        · exact hno j (by omega)
      by_cases hd : p % (i + 1) = 0
      · have ed : decide ((p : Int) % ((i + 1 : Nat) : Int) = 0) = true := decide_eq_true (by rw [← Int.natCast_emod, hd]; rfl)
        rw [ed]
        refine if_yes ?_
        (refine evE ?P54 (fun Q h => ?h54) ?_; (case h54 => (simp only [tTest, tOp, tUn, tVar, tC, tCB, tCons, tNil, tAnd, tOr, tNot, tB, tTup, tLst, tIf, tAndV, tOrV, tNotV, tSl, tPart, tNoPart, tCall, iIx_ref, oGt_int, oMod_int, oFdiv_int, oAdd_int, oAdd_str, oSub_int, oMul_int, oLt_int, oGe_int, oLe_int, oPow_int, uNeg_int, oEq_int, oEq_str, oEq_bl, oNe_int, oNe_str, oNe_bl, cInt_int, cInt_bl, cAbs_int, cLen_ref, cList_ref, stL_ref, gName, gSub, gTup, gCons, gNil, rdSeq, List.getElem?_cons_zero, List.getElem?_cons_succ, List.set_cons_zero, List.set_cons_succ, List.cons_append, List.nil_append, Option.some.injEq, exists_eq_left', V.bl.injEq, V.int.injEq, V.ref.injEq, atI_0, atI_1, atI_2, setI_1, setI_2, Bool.not_true, Bool.not_false, Bool.false_eq_true, if_false, if_true]; exact h)); (try dsimp only [gName, tNext, List.set_cons_zero, List.set_cons_succ]))
        rw [if_pos hd] at more
        refine ⟨row, L, i + 1, rfl, rfl, g _ _ hr, by omega, by omega, hs, fun z H3 g3 => ?_, fun gs' z t H3 g3 ht => ?_⟩
        · (try dsimp only [gName, tNext, List.set_cons_zero, List.set_cons_succ])
          refine st_if ?_
          (refine evT ?P55 (fun Q h => ?h55) ?_; (case h55 => (simp only [tTest, tOp, tUn, tVar, tC, tCB, tCons, tNil, tAnd, tOr, tNot, tB, tTup, tLst, tIf, tAndV, tOrV, tNotV, tSl, tPart, tNoPart, tCall, iIx_ref, oGt_int, oMod_int, oFdiv_int, oAdd_int, oAdd_str, oSub_int, oMul_int, oLt_int, oGe_int, oLe_int, oPow_int, uNeg_int, oEq_int, oEq_str, oEq_bl, oNe_int, oNe_str, oNe_bl, cInt_int, cInt_bl, cAbs_int, cLen_ref, cList_ref, stL_ref, gName, gSub, gTup, gCons, gNil, rdSeq, List.getElem?_cons_zero, List.getElem?_cons_succ, List.set_cons_zero, List.set_cons_succ, List.cons_append, List.nil_append, Option.some.injEq, exists_eq_left', V.bl.injEq, V.int.injEq, V.ref.injEq, atI_0, atI_1, atI_2, setI_1, setI_2, Bool.not_true, Bool.not_false, Bool.false_eq_true, if_false, if_true, oIsNot]; exact h)); (try dsimp only [gName, tNext, List.set_cons_zero, List.set_cons_succ]))
          (refine if_no ?_; (try dsimp only [gName, tNext, List.set_cons_zero, List.set_cons_succ]))
          exact more z H3 g3
        · (try dsimp only [gName, tNext, List.set_cons_zero, List.set_cons_succ])
          refine st_if ?_
          (refine evT ?P56 (fun Q h => ?h56) ?_; (case h56 => (simp only [tTest, tOp, tUn, tVar, tC, tCB, tCons, tNil, tAnd, tOr, tNot, tB, tTup, tLst, tIf, tAndV, tOrV, tNotV, tSl, tPart, tNoPart, tCall, iIx_ref, oGt_int, oMod_int, oFdiv_int, oAdd_int, oAdd_str, oSub_int, oMul_int, oLt_int, oGe_int, oLe_int, oPow_int, uNeg_int, oEq_int, oEq_str, oEq_bl, oNe_int, oNe_str, oNe_bl, cInt_int, cInt_bl, cAbs_int, cLen_ref, cList_ref, stL_ref, gName, gSub, gTup, gCons, gNil, rdSeq, List.getElem?_cons_zero, List.getElem?_cons_succ, List.set_cons_zero, List.set_cons_succ, List.cons_append, List.nil_append, Option.some.injEq, exists_eq_left', V.bl.injEq, V.int.injEq, V.ref.injEq, atI_0, atI_1, atI_2, setI_1, setI_2, Bool.not_true, Bool.not_false, Bool.false_eq_true, if_false, if_true, oIsNot]; exact h)); (try dsimp only [gName, tNext, List.set_cons_zero, List.set_cons_succ]))
          (refine if_yes ?_; (try dsimp only [gName, tNext, List.set_cons_zero, List.set_cons_succ]))
          refine st_ret ?_
          (refine evE ?P57 (fun Q h => ?h57) ?_; (case h57 => (simp only [tTest, tOp, tUn, tVar, tC, tCB, tCons, tNil, tAnd, tOr, tNot, tB, tTup, tLst, tIf, tAndV, tOrV, tNotV, tSl, tPart, tNoPart, tCall, iIx_ref, oGt_int, oMod_int, oFdiv_int, oAdd_int, oAdd_str, oSub_int, oMul_int, oLt_int, oGe_int, oLe_int, oPow_int, uNeg_int, oEq_int, oEq_str, oEq_bl, oNe_int, oNe_str, oNe_bl, cInt_int, cInt_bl, cAbs_int, cLen_ref, cList_ref, stL_ref, gName, gSub, gTup, gCons, gNil, rdSeq, List.getElem?_cons_zero, List.getElem?_cons_succ, List.set_cons_zero, List.set_cons_succ, List.cons_append, List.nil_append, Option.some.injEq, exists_eq_left', V.bl.injEq, V.int.injEq, V.ref.injEq, atI_0, atI_1, atI_2, setI_1, setI_2, Bool.not_true, Bool.not_false, Bool.false_eq_true, if_false, if_true]; exact h)); (try dsimp only [gName, tNext, List.set_cons_zero, List.set_cons_succ]))
          have hl : leastG row L p = some gs' := by
            unfold leastG
            rw [findSome_at (F := fun i => if p % (i + 1) = 0 then gainsOf row L (i + 1) else none) (i := i) (g := gs') (by omega) hno (by show (if p % (i + 1) = 0 then gainsOf row L (i + 1) else none) = some gs'; rw [if_pos hd]; exact z)]
          rw [hl] at hg
          cases hg
          exact k t H3 (g.trans g3) ht
      · have ed : decide ((p : Int) % ((i + 1 : Nat) : Int) = 0) = false := decide_eq_false (by rw [← Int.natCast_emod]; omega)
        rw [ed]
        refine if_no ?_
        (refine evE ?P58 (fun Q h => ?h58) ?_; (case h58 => (simp only [tTest, tOp, tUn, tVar, tC, tCB, tCons, tNil, tAnd, tOr, tNot, tB, tTup, tLst, tIf, tAndV, tOrV, tNotV, tSl, tPart, tNoPart, tCall, iIx_ref, oGt_int, oMod_int, oFdiv_int, oAdd_int, oAdd_str, oSub_int, oMul_int, oLt_int, oGe_int, oLe_int, oPow_int, uNeg_int, oEq_int, oEq_str, oEq_bl, oNe_int, oNe_str, oNe_bl, cInt_int, cInt_bl, cAbs_int, cLen_ref, cList_ref, stL_ref, gName, gSub, gTup, gCons, gNil, rdSeq, List.getElem?_cons_zero, List.getElem?_cons_succ, List.set_cons_zero, List.set_cons_succ, List.cons_append, List.nil_append, Option.some.injEq, exists_eq_left', V.bl.injEq, V.int.injEq, V.ref.injEq, atI_0, atI_1, atI_2, setI_1, setI_2, Bool.not_true, Bool.not_false, Bool.false_eq_true, if_false, if_true]; exact h)); (try dsimp only [gName, tNext, List.set_cons_zero, List.set_cons_succ]))
        refine st_if ?_
        (refine evT ?P59 (fun Q h => ?h59) ?_; (case h59 => (simp only [tTest, tOp, tUn, tVar, tC, tCB, tCons, tNil, tAnd, tOr, tNot, tB, tTup, tLst, tIf, tAndV, tOrV, tNotV, tSl, tPart, tNoPart, tCall, iIx_ref, oGt_int, oMod_int, oFdiv_int, oAdd_int, oAdd_str, oSub_int, oMul_int, oLt_int, oGe_int, oLe_int, oPow_int, uNeg_int, oEq_int, oEq_str, oEq_bl, oNe_int, oNe_str, oNe_bl, cInt_int, cInt_bl, cAbs_int, cLen_ref, cList_ref, stL_ref, gName, gSub, gTup, gCons, gNil, rdSeq, List.getElem?_cons_zero, List.getElem?_cons_succ, List.set_cons_zero, List.set_cons_succ, List.cons_append, List.nil_append, Option.some.injEq, exists_eq_left', V.bl.injEq, V.int.injEq, V.ref.injEq, atI_0, atI_1, atI_2, setI_1, setI_2, Bool.not_true, Bool.not_false, Bool.false_eq_true, if_false, if_true, oIsNot]; exact h)); (try dsimp only [gName, tNext, List.set_cons_zero, List.set_cons_succ]))
        (refine if_no ?_; (try dsimp only [gName, tNext, List.set_cons_zero, List.set_cons_succ]))
        exact more (if_neg hd) _ .refl
  · exact h.elim

end HG

namespace HG
open PySem L2
def sp_trimmed (K : PySem.W.Frag) (A : Ad) : Sp := fun vs H Q _ => match vs with
  | [.ref t, .ref g] => ∃ (told : List (Option Int)) (gains : List Int), St K H t (told.map oV) ∧ Sq K H g (gains.map V.int) ∧ 0 < gains.length ∧ gains.length ≤ told.length ∧ told.length ≤ 1000000 ∧
      ∀ t' H', Grow H H' → St K H' t' ((told.take (trimN told gains told.length)).map oV) → Q (.ref t') H'
  | _ => False
def t_trimmed_2 (K : PySem.W.Frag) (A : Ad) : TS := (tAsg (tOp oSub (tVar 2) (tC (.int 1))) (gName 2))
def t_trimmed_3 (K : PySem.W.Frag) (A : Ad) : TS := (tRet (tSl (rSlA K) (tVar 0) tNoPart (tPart (tVar 2))))
def t_trimmed_1 (K : PySem.W.Frag) (A : Ad) : TS := (tSeq (tWhile (tAnd (tTest (tOp oGt (tVar 2) (tVar 3))) (tTest (tOp (oEq K) (tOp (rIx K) (tVar 0) (tOp oSub (tVar 2) (tC (.int 1)))) (tCall (sp_added K A) [] E0 (tCons (tOp (rIx K) (tVar 0) (tOp oSub (tOp oSub (tVar 2) (tC (.int 1))) (tVar 3))) (tCons (tOp (rIx K) (tVar 1) (tOp oMod (tOp oSub (tVar 2) (tC (.int 1))) (tVar 3))) tNil)))))) (t_trimmed_2 K A)) (t_trimmed_3 K A))
def t_trimmed_0 (K : PySem.W.Frag) (A : Ad) : TS := (tSeq (tPar 2 3 (tCons (tCB (cLenE K) (tCons (tVar 0) tNil)) (tCons (tCB (cLenE K) (tCons (tVar 1) tNil)) tNil))) (t_trimmed_1 K A))

theorem pure_trimmed {K : PySem.W.Frag} {A : Ad} {vs : List V} {H : Hp} {Q : VK} {E : XK} (h : sp_trimmed K A vs H Q E) : (t_trimmed_0 K A) { nx := fun _ H' => Q .non H', rt := Q } (start ["told", "gains", "many", "period"] vs) H := by
  unfold sp_trimmed at h
  split at h
  · rename_i t g
    obtain ⟨told, gains, ht, hg, hp, hpl, hs, k⟩ := h
    show (t_trimmed_0 K A) _ [some (.ref t), some (.ref g), none, none] H
    refine st_seq ?_
    unfold tPar
    (refine evA ?P60 (fun Q h => ?h60) ?_; (case h60 => (simp only [tTest, tOp, tUn, tVar, tC, tCB, tCons, tNil, tAnd, tOr, tNot, tB, tTup, tLst, tIf, tAndV, tOrV, tNotV, tSl, tPart, tNoPart, tCall, iIx_ref, oGt_int, oMod_int, oFdiv_int, oAdd_int, oAdd_str, oSub_int, oMul_int, oLt_int, oGe_int, oLe_int, oPow_int, uNeg_int, oEq_int, oEq_str, oEq_bl, oNe_int, oNe_str, oNe_bl, cInt_int, cInt_bl, cAbs_int, cLen_ref, cList_ref, stL_ref, gName, gSub, gTup, gCons, gNil, rdSeq, List.getElem?_cons_zero, List.getElem?_cons_succ, List.set_cons_zero, List.set_cons_succ, List.cons_append, List.nil_append, Option.some.injEq, exists_eq_left', V.bl.injEq, V.int.injEq, V.ref.injEq, atI_0, atI_1, atI_2, setI_1, setI_2, Bool.not_true, Bool.not_false, Bool.false_eq_true, if_false, if_true]; exact h)); (try dsimp only [gName, tNext, List.set_cons_zero, List.set_cons_succ]))
    refine lenE ht.sq (lenE hg ?_)
    refine ⟨_, _, rfl, ?_⟩
    (try dsimp only [gName, tNext, List.set_cons_zero, List.set_cons_succ])
    rw [List.length_map, List.length_map]
    refine st_seq ?_
    unfold tWhile
    refine ⟨fun m σ H' => H' = H ∧ σ = [some (.ref t), some (.ref g), some (.int m), some (.int gains.length)] ∧ gains.length ≤ m ∧ m ≤ told.length ∧ trimN told gains m = trimN told gains told.length, ⟨_, rfl, rfl, hpl, Nat.le_refl _, rfl⟩, ?_⟩
    rintro m σ H' ⟨rfl, rfl, hm1, hm2, hm3⟩
    have done : ∀ m' : Nat, m' ≤ told.length → trimN told gains told.length = m' → t_trimmed_3 K A { nx := fun x H' => Q .non H', rt := Q } [some (.ref t), some (.ref g), some (.int m'), some (.int gains.length)] H' := by
      intro m' hm' he
      refine st_ret ?_
      (refine evE ?P61 (fun Q h => ?h61) ?_; (case h61 => (simp only [tTest, tOp, tUn, tVar, tC, tCB, tCons, tNil, tAnd, tOr, tNot, tB, tTup, tLst, tIf, tAndV, tOrV, tNotV, tSl, tPart, tNoPart, tCall, iIx_ref, oGt_int, oMod_int, oFdiv_int, oAdd_int, oAdd_str, oSub_int, oMul_int, oLt_int, oGe_int, oLe_int, oPow_int, uNeg_int, oEq_int, oEq_str, oEq_bl, oNe_int, oNe_str, oNe_bl, cInt_int, cInt_bl, cAbs_int, cLen_ref, cList_ref, stL_ref, gName, gSub, gTup, gCons, gNil, rdSeq, List.getElem?_cons_zero, List.getElem?_cons_succ, List.set_cons_zero, List.set_cons_succ, List.cons_append, List.nil_append, Option.some.injEq, exists_eq_left', V.bl.injEq, V.int.injEq, V.ref.injEq, atI_0, atI_1, atI_2, setI_1, setI_2, Bool.not_true, Bool.not_false, Bool.false_eq_true, if_false, if_true, rSlA]; exact h)); (try dsimp only [gName, tNext, List.set_cons_zero, List.set_cons_succ]))
      rw [he] at k
      have c1 : HT.sIx (told.map oV).length 0 none = 0 := rfl
      have c2 : HT.sIx (told.map oV).length (told.map oV).length (some (m' : Int)) = m' := by rw [HT.sIx_nat, List.length_map]; omega
      refine ⟨t, _, rfl, ht.sqT, fun z => ?_, fun z q hq => ?_⟩
      · rw [c2, List.length_map] at z
        rw [z.2, List.take_length] at k
        exact k t H' .refl ht
      · refine k q _ (Grow.new hq) (.t ?_)
        rw [upd_same]
        unfold cutV
        rw [c1, c2, List.drop_zero, Nat.sub_zero, List.map_take]
    (refine evT ?P62 (fun Q h => ?h62) ?_; (case h62 => (simp only [tTest, tOp, tUn, tVar, tC, tCB, tCons, tNil, tAnd, tOr, tNot, tB, tTup, tLst, tIf, tAndV, tOrV, tNotV, tSl, tPart, tNoPart, tCall, iIx_ref, oGt_int, oMod_int, oFdiv_int, oAdd_int, oAdd_str, oSub_int, oMul_int, oLt_int, oGe_int, oLe_int, oPow_int, uNeg_int, oEq_int, oEq_str, oEq_bl, oNe_int, oNe_str, oNe_bl, cInt_int, cInt_bl, cAbs_int, cLen_ref, cList_ref, stL_ref, gName, gSub, gTup, gCons, gNil, rdSeq, List.getElem?_cons_zero, List.getElem?_cons_succ, List.set_cons_zero, List.set_cons_succ, List.cons_append, List.nil_append, Option.some.injEq, exists_eq_left', V.bl.injEq, V.int.injEq, V.ref.injEq, atI_0, atI_1, atI_2, setI_1, setI_2, Bool.not_true, Bool.not_false, Bool.false_eq_true, if_false, if_true]; exact h)); (try dsimp only [gName, tNext, List.set_cons_zero, List.set_cons_succ]))
    refine ite_dec (fun hc => ?_) (fun hc => ?_)
    · obtain ⟨m, rfl⟩ : ∃ n, m = n + 1 := ⟨m - 1, by omega⟩
      have e1 : ((m + 1 : Nat) : Int) - 1 = (m : Int) := by omega
      rw [e1]
      refine ixE ht.sq (atI_map (d := none) (by omega)) ?_
      have e2 : (m : Int) - (gains.length : Int) = ((m - gains.length : Nat) : Int) := by omega
      rw [e2]
      refine ixE ht.sq (atI_map (d := none) (by omega)) ?_
      have hmm : m % gains.length < gains.length := Nat.mod_lt _ hp
      refine ⟨by omega, ixE hg (by rw [← Int.natCast_emod]; exact atI_map (d := 0) hmm) ?_⟩
      simp only [tTest, tOp, tUn, tVar, tC, tCB, tCons, tNil, tAnd, tOr, tNot, tB, tTup, tLst, tIf, tAndV, tOrV, tNotV, tSl, tPart, tNoPart, tCall, iIx_ref, oGt_int, oMod_int, oFdiv_int, oAdd_int, oAdd_str, oSub_int, oMul_int, oLt_int, oGe_int, oLe_int, oPow_int, uNeg_int, oEq_int, oEq_str, oEq_bl, oNe_int, oNe_str, oNe_bl, cInt_int, cInt_bl, cAbs_int, cLen_ref, cList_ref, stL_ref, gName, gSub, gTup, gCons, gNil, rdSeq, List.getElem?_cons_zero, List.getElem?_cons_succ, List.set_cons_zero, List.set_cons_succ, List.cons_append, List.nil_append, Option.some.injEq, exists_eq_left', V.bl.injEq, V.int.injEq, V.ref.injEq, atI_0, atI_1, atI_2, setI_1, setI_2, Bool.not_true, Bool.not_false, Bool.false_eq_true, if_false, if_true, added_oV]
      refine eqE ⟨_, rfl, ?_⟩
      refine ite_dec (fun hq => ?_) (fun hq => ?_)
      · have ht' : trimN told gains (m + 1) = trimN told gains m := by
          show (if gains.length < m + 1 ∧ told.getD m none = (told.getD (m - gains.length) none).map (· + gains.getD (m % gains.length) 0) then trimN told gains m else m + 1) = _
          rw [if_pos ⟨by omega, hq⟩]
        refine ⟨fun σ' H'' => H'' = H' ∧ σ' = [some (.ref t), some (.ref g), some (.int m), some (.int gains.length)], ?_, ?_⟩
        · rintro σ' H'' ⟨rfl, rfl⟩
          exact ⟨m, by omega, rfl, rfl, by omega, by omega, by rw [← ht', hm3]⟩
        · refine st_asg ?_
          (refine evE ?P63 (fun Q h => ?h63) ?_; (case h63 => (simp only [tTest, tOp, tUn, tVar, tC, tCB, tCons, tNil, tAnd, tOr, tNot, tB, tTup, tLst, tIf, tAndV, tOrV, tNotV, tSl, tPart, tNoPart, tCall, iIx_ref, oGt_int, oMod_int, oFdiv_int, oAdd_int, oAdd_str, oSub_int, oMul_int, oLt_int, oGe_int, oLe_int, oPow_int, uNeg_int, oEq_int, oEq_str, oEq_bl, oNe_int, oNe_str, oNe_bl, cInt_int, cInt_bl, cAbs_int, cLen_ref, cList_ref, stL_ref, gName, gSub, gTup, gCons, gNil, rdSeq, List.getElem?_cons_zero, List.getElem?_cons_succ, List.set_cons_zero, List.set_cons_succ, List.cons_append, List.nil_append, Option.some.injEq, exists_eq_left', V.bl.injEq, V.int.injEq, V.ref.injEq, atI_0, atI_1, atI_2, setI_1, setI_2, Bool.not_true, Bool.not_false, Bool.false_eq_true, if_false, if_true]; exact h)); (try dsimp only [gName, tNext, List.set_cons_zero, List.set_cons_succ]))
          exact ⟨rfl, by rw [e1]⟩
      · refine done (m + 1) (by omega) ?_
        rw [← hm3]
        show (if gains.length < m + 1 ∧ told.getD m none = (told.getD (m - gains.length) none).map (· + gains.getD (m % gains.length) 0) then trimN told gains m else m + 1) = m + 1
        rw [if_neg (fun z => hq z.2)]
    · refine done m hm2 ?_
      rw [← hm3]
      cases m with
      | zero => rfl
      | succ m =>
        show (if gains.length < m + 1 ∧ told.getD m none = (told.getD (m - gains.length) none).map (· + gains.getD (m % gains.length) 0) then trimN told gains m else m + 1) = m + 1
        rw [if_neg (fun z => by omega)]
  · exact h.elim

end HG

namespace HG
open PySem L2
def sp_normal_form (K : PySem.W.Frag) (A : Ad) : Sp := fun vs H Q _ => match vs with
  | [.ref t, .ref g] => ∃ (told : List (Option Int)) (gains : List Int), St K H t (told.map oV) ∧ St K H g (gains.map V.int) ∧ 0 < gains.length ∧ gains.length ≤ told.length ∧ told.length ≤ 100000 ∧ gains.length ≤ 10000 ∧ BnA gains ∧
      ∀ r t' g' H', Grow H H' → H' r = some (.tup [.ref t', .ref g']) → St K H' t' ((nfT told gains).map oV) → H' g' = some (.tup ((nfG told gains).map V.int)) → Q (.ref r) H'
  | _ => False
def t_normal_form_3 (K : PySem.W.Frag) (A : Ad) : TS := (tRet (tTup (tCons (tCall (sp_trimmed K A) [] E0 (tCons (tVar 0) (tCons (tVar 5) tNil))) (tCons (tVar 5) tNil))))
def t_normal_form_2 (K : PySem.W.Frag) (A : Ad) : TS := (tSeq (tAsg (tCall (sp_least_gains K A) [] E0 (tCons (tVar 4) (tCons (tVar 2) (tCons (tVar 3) tNil)))) (gName 5)) (t_normal_form_3 K A))
def t_normal_form_1 (K : PySem.W.Frag) (A : Ad) : TS := (tSeq (tAsg (tLc (iRng1 (tCons (tOp oMul (tC (.int 3)) (tVar 3)) tNil)) (gName 6) tYes (tCall (sp_value_at K A) [] E0 (tCons (tVar 0) (tCons (tVar 1) (tCons (tOp oAdd (tVar 2) (tVar 6)) tNil)))) [6]) (gName 4)) (t_normal_form_2 K A))
def t_normal_form_0 (K : PySem.W.Frag) (A : Ad) : TS := (tSeq (tAsg (tTup (tCons (tCB (cLenE K) (tCons (tVar 0) tNil)) (tCons (tCB (cLenE K) (tCons (tVar 1) tNil)) tNil))) (gTup K 2 (gCons (gName 2) (gCons (gName 3) gNil)))) (t_normal_form_1 K A))

theorem bn_nat {m n : Nat} (h : n < 2 ^ m) : Bn m (n : Int) := by unfold Bn; rw [Int.natAbs_natCast]; exact h
theorem lt_pow_big {n : Nat} (h : n ≤ 1000000) : Bn 100000 (n : Int) := (bn_nat (m := 20) (by omega)).up (by decide)
theorem pure_normal_form {K : PySem.W.Frag} {A : Ad} {vs : List V} {H : Hp} {Q : VK} {E : XK} (h : sp_normal_form K A vs H Q E) : (t_normal_form_0 K A) { nx := fun _ H' => Q .non H', rt := Q } (start ["told", "gains", "origin", "period", "row", "least", "at"] vs) H := by
  unfold sp_normal_form at h
  split at h
  · rename_i t g
    obtain ⟨told, gains, ht, hg, hp, hpl, hs, hs2, bg, k⟩ := h
    have hsz : sizeLine = 16777216 := rfl
    show (t_normal_form_0 K A) _ [some (.ref t), some (.ref g), none, none, none, none, none] H
    refine st_seq (st_asg ?_)
    (refine evE ?P64 (fun Q h => ?h64) ?_; (case h64 => (simp only [tTest, tOp, tUn, tVar, tC, tCB, tCons, tNil, tAnd, tOr, tNot, tB, tTup, tLst, tIf, tAndV, tOrV, tNotV, tSl, tPart, tNoPart, tCall, iIx_ref, oGt_int, oMod_int, oFdiv_int, oAdd_int, oAdd_str, oSub_int, oMul_int, oLt_int, oGe_int, oLe_int, oPow_int, uNeg_int, oEq_int, oEq_str, oEq_bl, oNe_int, oNe_str, oNe_bl, cInt_int, cInt_bl, cAbs_int, cLen_ref, cList_ref, stL_ref, gName, gSub, gTup, gCons, gNil, rdSeq, List.getElem?_cons_zero, List.getElem?_cons_succ, List.set_cons_zero, List.set_cons_succ, List.cons_append, List.nil_append, Option.some.injEq, exists_eq_left', V.bl.injEq, V.int.injEq, V.ref.injEq, atI_0, atI_1, atI_2, setI_1, setI_2, Bool.not_true, Bool.not_false, Bool.false_eq_true, if_false, if_true]; exact h)); (try dsimp only [gName, tNext, List.set_cons_zero, List.set_cons_succ]))
    refine lenE ht.sq (lenE hg.sq ?_)
    refine ⟨by show 2 ≤ sizeLine; decide, fun pt hpt => ?_⟩
    refine ⟨pt, _, rfl, SqT.of upd_same, rfl, ?_⟩
    refine ⟨_, _, rfl, ?_⟩
    refine ⟨_, _, rfl, ?_⟩
    refine ⟨rfl, ?_⟩
    (try dsimp only [gName, tNext, List.set_cons_zero, List.set_cons_succ])
    rw [List.length_map, List.length_map]
    have g0 := Grow.new (o := .tup [.int told.length, .int gains.length]) hpt
    replace ht := ht.grow g0
    replace hg := hg.grow g0
    replace k := fun r t' g' H' (g : Grow (upd H pt (.tup [.int told.length, .int gains.length])) H') => k r t' g' H' (g0.trans g)
    generalize upd H pt (.tup [.int told.length, .int gains.length]) = H at *
    refine st_seq (st_asg (lc_ev ?_))
    unfold iRng1
    (refine evA ?P71 (fun Q h => ?h71) ?_; (case h71 => (simp only [tTest, tOp, tUn, tVar, tC, tCB, tCons, tNil, tAnd, tOr, tNot, tB, tTup, tLst, tIf, tAndV, tOrV, tNotV, tSl, tPart, tNoPart, tCall, iIx_ref, oGt_int, oMod_int, oFdiv_int, oAdd_int, oAdd_str, oSub_int, oMul_int, oLt_int, oGe_int, oLe_int, oPow_int, uNeg_int, oEq_int, oEq_str, oEq_bl, oNe_int, oNe_str, oNe_bl, cInt_int, cInt_bl, cAbs_int, cLen_ref, cList_ref, stL_ref, gName, gSub, gTup, gCons, gNil, rdSeq, List.getElem?_cons_zero, List.getElem?_cons_succ, List.set_cons_zero, List.set_cons_succ, List.cons_append, List.nil_append, Option.some.injEq, exists_eq_left', V.bl.injEq, V.int.injEq, V.ref.injEq, atI_0, atI_1, atI_2, setI_1, setI_2, Bool.not_true, Bool.not_false, Bool.false_eq_true, if_false, if_true]; exact h)))
    refine ⟨mulok_left (by decide) (by decide), _, rfl, by omega, by omega, ?_⟩
    have en : (3 * (gains.length : Int)).toNat = 3 * gains.length := by omega
    rw [en]
    refine lc_map jok_rng (fun j => oV (gv told gains (told.length + j))) (by omega) (fun j hj H' g' R hR => ?_) (fun D H' g1 hD hd => ?_) (by exact fun x => rfl)
    · (refine evE ?P65 (fun Q h => ?h65) ?_; (case h65 => (simp only [tTest, tOp, tUn, tVar, tC, tCB, tCons, tNil, tAnd, tOr, tNot, tB, tTup, tLst, tIf, tAndV, tOrV, tNotV, tSl, tPart, tNoPart, tCall, iIx_ref, oGt_int, oMod_int, oFdiv_int, oAdd_int, oAdd_str, oSub_int, oMul_int, oLt_int, oGe_int, oLe_int, oPow_int, uNeg_int, oEq_int, oEq_str, oEq_bl, oNe_int, oNe_str, oNe_bl, cInt_int, cInt_bl, cAbs_int, cLen_ref, cList_ref, stL_ref, gName, gSub, gTup, gCons, gNil, rdSeq, List.getElem?_cons_zero, List.getElem?_cons_succ, List.set_cons_zero, List.set_cons_succ, List.cons_append, List.nil_append, Option.some.injEq, exists_eq_left', V.bl.injEq, V.int.injEq, V.ref.injEq, atI_0, atI_1, atI_2, setI_1, setI_2, Bool.not_true, Bool.not_false, Bool.false_eq_true, if_false, if_true, wipe]; exact h)); (try dsimp only [gName, tNext, List.set_cons_zero, List.set_cons_succ]))
      have e0 : (told.length : Int) + (0 + (j : Int)) = ((told.length + j : Nat) : Int) := by omega
      rw [e0]
      refine ⟨told, gains, ht.sq.grow g', hg.sq.grow g', by omega, hp, hpl, by omega, bg, lt_pow_big (by omega), ?_⟩
      rw [Int.toNat_natCast]
      exact hR _ .refl
    (try dsimp only [gName, tNext, List.set_cons_zero, List.set_cons_succ])
    have hrow : H' D = some (.lst ((rowOf told gains).map oV)) := by
      rw [hd]
      unfold rowOf
      rw [List.map_map]
      rfl
    have G := gr_gv hp hpl
    obtain ⟨rl1, _⟩ := rowOf_ok G
    obtain ⟨n1, n2, n3, n4⟩ := nf_spec G
    refine st_seq (st_asg ?_)
    (refine evE ?P66 (fun Q h => ?h66) ?_; (case h66 => (simp only [tTest, tOp, tUn, tVar, tC, tCB, tCons, tNil, tAnd, tOr, tNot, tB, tTup, tLst, tIf, tAndV, tOrV, tNotV, tSl, tPart, tNoPart, tCall, iIx_ref, oGt_int, oMod_int, oFdiv_int, oAdd_int, oAdd_str, oSub_int, oMul_int, oLt_int, oGe_int, oLe_int, oPow_int, uNeg_int, oEq_int, oEq_str, oEq_bl, oNe_int, oNe_str, oNe_bl, cInt_int, cInt_bl, cAbs_int, cLen_ref, cList_ref, stL_ref, gName, gSub, gTup, gCons, gNil, rdSeq, List.getElem?_cons_zero, List.getElem?_cons_succ, List.set_cons_zero, List.set_cons_succ, List.cons_append, List.nil_append, Option.some.injEq, exists_eq_left', V.bl.injEq, V.int.injEq, V.ref.injEq, atI_0, atI_1, atI_2, setI_1, setI_2, Bool.not_true, Bool.not_false, Bool.false_eq_true, if_false, if_true]; exact h)); (try dsimp only [gName, tNext, List.set_cons_zero, List.set_cons_succ]))
    refine ⟨rowOf told gains, told.length, gains.length, nfG told gains, rfl, rfl, hrow, hp, by omega, by omega, n1, fun l H2 g2 hl => ?_⟩
    (try dsimp only [gName, tNext, List.set_cons_zero, List.set_cons_succ])
    refine st_ret ?_
    (refine evE ?P67 (fun Q h => ?h67) ?_; (case h67 => (simp only [tTest, tOp, tUn, tVar, tC, tCB, tCons, tNil, tAnd, tOr, tNot, tB, tTup, tLst, tIf, tAndV, tOrV, tNotV, tSl, tPart, tNoPart, tCall, iIx_ref, oGt_int, oMod_int, oFdiv_int, oAdd_int, oAdd_str, oSub_int, oMul_int, oLt_int, oGe_int, oLe_int, oPow_int, uNeg_int, oEq_int, oEq_str, oEq_bl, oNe_int, oNe_str, oNe_bl, cInt_int, cInt_bl, cAbs_int, cLen_ref, cList_ref, stL_ref, gName, gSub, gTup, gCons, gNil, rdSeq, List.getElem?_cons_zero, List.getElem?_cons_succ, List.set_cons_zero, List.set_cons_succ, List.cons_append, List.nil_append, Option.some.injEq, exists_eq_left', V.bl.injEq, V.int.injEq, V.ref.injEq, atI_0, atI_1, atI_2, setI_1, setI_2, Bool.not_true, Bool.not_false, Bool.false_eq_true, if_false, if_true]; exact h)); (try dsimp only [gName, tNext, List.set_cons_zero, List.set_cons_succ]))
    refine ⟨told, nfG told gains, (ht.grow g1).grow g2, .t hl, n3.pos, n3.le, by omega, fun t' H3 g3 ht' => ?_⟩
    refine ⟨by show 2 ≤ sizeLine; decide, fun r hr => ?_⟩
    exact k r t' l _ ((g1.trans g2).trans (g3.trans (Grow.new hr))) upd_same (ht'.grow (Grow.new hr)) ((g3.trans (Grow.new hr)) _ _ hl)
  · exact h.elim
/-- a growth stands at a -/
def GrAt (K : PySem.W.Frag) (A : Ad) (H : Hp) (a : Addr) (told : List (Option Int)) (gains : List Int) : Prop :=
  ∃ dx t g, H a = some (.ins A.c_Growth dx [("told", .ref t), ("gains", .ref g)]) ∧ St K H t (told.map oV) ∧ H g = some (.tup (gains.map V.int))
theorem GrAt.grow {K : PySem.W.Frag} {A : Ad} {H H' : Hp} {a : Addr} {told : List (Option Int)} {gains : List Int} (h : GrAt K A H a told gains) (g : Grow H H') : GrAt K A H' a told gains := by
  obtain ⟨dx, t, gg, h1, h2, h3⟩ := h
  exact ⟨dx, t, gg, g _ _ h1, h2.grow g, g _ _ h3⟩
structure KF (K : PySem.W.Frag) (A : Ad) : Prop where
  cl : Cls K A.c_Growth
  ut : NoAttr K A.c_Growth "told"
  ug : NoAttr K A.c_Growth "gains"
  dt : ∀ H, St K H A.dt_Growth_init_0 [.int 0]
def sp_Growth_init (K : PySem.W.Frag) (A : Ad) : Sp := fun vs H Q _ => match vs with
  | [.ref x, .ref t, .ref g] => ∃ (dx : Addr) (told : List (Option Int)) (gains : List Int), H x = some (.ins A.c_Growth dx []) ∧ Sq K H t (told.map oV) ∧ Sq K H g (gains.map V.int) ∧ 0 < gains.length ∧ gains.length ≤ 60 ∧ gains.length ≤ told.length ∧ told.length ≤ 100000 ∧ BnA gains ∧ (nfT told gains).length ≤ 4000 ∧
      ∀ H', (∀ b o, b ≠ x → H b = some o → H' b = some o) → GrAt K A H' x (nfT told gains) (nfG told gains) → Q .non H'
  | _ => False
def t_Growth_init_1 (K : PySem.W.Frag) (A : Ad) : TS := tNever
def t_Growth_init_3 (K : PySem.W.Frag) (A : Ad) : TS := tNever
def t_Growth_init_6 (K : PySem.W.Frag) (A : Ad) : TS := tNever
def t_Growth_init_5 (K : PySem.W.Frag) (A : Ad) : TS := (tIfS (tTest (tOp oGt (tCB (cLenE K) (tCons (tFld K (tVar 0) "told") tNil)) (tC (.int 4000)))) (t_Growth_init_6 K A) tNext)
def t_Growth_init_4 (K : PySem.W.Frag) (A : Ad) : TS := (tSeq (tAsg (tCall (sp_normal_form K A) [] E0 (tCons (tCB (cTupE K) (tCons (tVar 1) tNil)) (tCons (tCB (cTupE K) (tCons (tVar 2) tNil)) tNil))) (gTup K 2 (gCons (gFld K (tVar 0) "told") (gCons (gFld K (tVar 0) "gains") gNil)))) (t_Growth_init_5 K A))
def t_Growth_init_2 (K : PySem.W.Frag) (A : Ad) : TS := (tSeq (tIfS (tOr (tNot (tB (tCall (sp_is_list K A) [] E0 (tCons (tVar 1) (tCons (tCB (cLenE K) (tCons (tVar 2) tNil)) tNil))))) (tNot (tB (tCB (cAll K) (tCons (tLc (iSeq K (tVar 1)) (gName 4) tYes (tCall (sp_is_value K A) [] E0 (tCons (tVar 4) tNil)) [4]) tNil))))) (t_Growth_init_3 K A) tNext) (t_Growth_init_4 K A))
def t_Growth_init_0 (K : PySem.W.Frag) (A : Ad) : TS := (tSeq (tIfS (tOr (tNot (tB (tCall (sp_is_list K A) [] E0 (tCons (tVar 2) (tCons (tC (.int 1)) tNil))))) (tOr (tTest (tOp oGt (tCB (cLenE K) (tCons (tVar 2) tNil)) (tC (.int 60)))) (tNot (tB (tCB (cAll K) (tCons (tLc (iSeq K (tVar 2)) (gName 3) tYes (tCall (sp_is_integer K A) [] E0 (tCons (tVar 3) tNil)) [3]) tNil)))))) (t_Growth_init_1 K A) tNext) (t_Growth_init_2 K A))

theorem pure_Growth_init {K : PySem.W.Frag} {A : Ad} {vs : List V} {H : Hp} {Q : VK} {E : XK} (F : KF K A) (h : sp_Growth_init K A vs H Q E) : (t_Growth_init_0 K A) { nx := fun _ H' => Q .non H', rt := Q } (start ["self", "told", "gains", "gain", "value"] vs) H := by
  unfold sp_Growth_init at h
  split at h
  · rename_i x t g
    obtain ⟨dx, told, gains, hx, ht, hg, hp, hp60, hpl, hs, bg, h4k, k⟩ := h
    have hsz : sizeLine = 16777216 := rfl
    show (t_Growth_init_0 K A) _ [some (.ref x), some (.ref t), some (.ref g), none, none] H
    refine st_seq (st_if ?_)
    (refine evT ?P72 (fun Q h => ?h72) ?_; (case h72 => (simp only [tTest, tOp, tUn, tVar, tC, tCB, tCons, tNil, tAnd, tOr, tNot, tB, tTup, tLst, tIf, tAndV, tOrV, tNotV, tSl, tPart, tNoPart, tCall, iIx_ref, oGt_int, oMod_int, oFdiv_int, oAdd_int, oAdd_str, oSub_int, oMul_int, oLt_int, oGe_int, oLe_int, oPow_int, uNeg_int, oEq_int, oEq_str, oEq_bl, oNe_int, oNe_str, oNe_bl, cInt_int, cInt_bl, cAbs_int, cLen_ref, cList_ref, stL_ref, gName, gSub, gTup, gCons, gNil, rdSeq, List.getElem?_cons_zero, List.getElem?_cons_succ, List.set_cons_zero, List.set_cons_succ, List.cons_append, List.nil_append, Option.some.injEq, exists_eq_left', V.bl.injEq, V.int.injEq, V.ref.injEq, atI_0, atI_1, atI_2, setI_1, setI_2, Bool.not_true, Bool.not_false, Bool.false_eq_true, if_false, if_true]; exact h)))
    refine ⟨_, hg, fun H1 g1 => ?_⟩
    rw [List.length_map, decide_eq_true (by omega)]
    simp only [tTest, tOp, tUn, tVar, tC, tCB, tCons, tNil, tAnd, tOr, tNot, tB, tTup, tLst, tIf, tAndV, tOrV, tNotV, tSl, tPart, tNoPart, tCall, iIx_ref, oGt_int, oMod_int, oFdiv_int, oAdd_int, oAdd_str, oSub_int, oMul_int, oLt_int, oGe_int, oLe_int, oPow_int, uNeg_int, oEq_int, oEq_str, oEq_bl, oNe_int, oNe_str, oNe_bl, cInt_int, cInt_bl, cAbs_int, cLen_ref, cList_ref, stL_ref, gName, gSub, gTup, gCons, gNil, rdSeq, List.getElem?_cons_zero, List.getElem?_cons_succ, List.set_cons_zero, List.set_cons_succ, List.cons_append, List.nil_append, Option.some.injEq, exists_eq_left', V.bl.injEq, V.int.injEq, V.ref.injEq, atI_0, atI_1, atI_2, setI_1, setI_2, Bool.not_true, Bool.not_false, Bool.false_eq_true, if_false, if_true]
    refine lenE (hg.grow g1) ?_
    rw [List.length_map]
    simp only [tTest, tOp, tUn, tVar, tC, tCB, tCons, tNil, tAnd, tOr, tNot, tB, tTup, tLst, tIf, tAndV, tOrV, tNotV, tSl, tPart, tNoPart, tCall, iIx_ref, oGt_int, oMod_int, oFdiv_int, oAdd_int, oAdd_str, oSub_int, oMul_int, oLt_int, oGe_int, oLe_int, oPow_int, uNeg_int, oEq_int, oEq_str, oEq_bl, oNe_int, oNe_str, oNe_bl, cInt_int, cInt_bl, cAbs_int, cLen_ref, cList_ref, stL_ref, gName, gSub, gTup, gCons, gNil, rdSeq, List.getElem?_cons_zero, List.getElem?_cons_succ, List.set_cons_zero, List.set_cons_succ, List.cons_append, List.nil_append, Option.some.injEq, exists_eq_left', V.bl.injEq, V.int.injEq, V.ref.injEq, atI_0, atI_1, atI_2, setI_1, setI_2, Bool.not_true, Bool.not_false, Bool.false_eq_true, if_false, if_true]
    rw [decide_eq_false (by omega)]
    refine if_no (lc_ev ?_)
    unfold iSeq
    (refine evE ?P73 (fun Q h => ?h73) ?_; (case h73 => (simp only [tTest, tOp, tUn, tVar, tC, tCB, tCons, tNil, tAnd, tOr, tNot, tB, tTup, tLst, tIf, tAndV, tOrV, tNotV, tSl, tPart, tNoPart, tCall, iIx_ref, oGt_int, oMod_int, oFdiv_int, oAdd_int, oAdd_str, oSub_int, oMul_int, oLt_int, oGe_int, oLe_int, oPow_int, uNeg_int, oEq_int, oEq_str, oEq_bl, oNe_int, oNe_str, oNe_bl, cInt_int, cInt_bl, cAbs_int, cLen_ref, cList_ref, stL_ref, gName, gSub, gTup, gCons, gNil, rdSeq, List.getElem?_cons_zero, List.getElem?_cons_succ, List.set_cons_zero, List.set_cons_succ, List.cons_append, List.nil_append, Option.some.injEq, exists_eq_left', V.bl.injEq, V.int.injEq, V.ref.injEq, atI_0, atI_1, atI_2, setI_1, setI_2, Bool.not_true, Bool.not_false, Bool.false_eq_true, if_false, if_true]; exact h)))
    refine jok_sq (hg.grow g1) fun J hJ => ?_
    refine lc_map hJ (fun _ => .bl true) (by rw [List.length_map]; omega) (fun j hj H' g' R hR => ?_) (fun D H2 g2 hD hd => ?_) (by exact fun x => rfl)
    · (refine evE ?P68 (fun Q h => ?h68) ?_; (case h68 => (simp only [tTest, tOp, tUn, tVar, tC, tCB, tCons, tNil, tAnd, tOr, tNot, tB, tTup, tLst, tIf, tAndV, tOrV, tNotV, tSl, tPart, tNoPart, tCall, iIx_ref, oGt_int, oMod_int, oFdiv_int, oAdd_int, oAdd_str, oSub_int, oMul_int, oLt_int, oGe_int, oLe_int, oPow_int, uNeg_int, oEq_int, oEq_str, oEq_bl, oNe_int, oNe_str, oNe_bl, cInt_int, cInt_bl, cAbs_int, cLen_ref, cList_ref, stL_ref, gName, gSub, gTup, gCons, gNil, rdSeq, List.getElem?_cons_zero, List.getElem?_cons_succ, List.set_cons_zero, List.set_cons_succ, List.cons_append, List.nil_append, Option.some.injEq, exists_eq_left', V.bl.injEq, V.int.injEq, V.ref.injEq, atI_0, atI_1, atI_2, setI_1, setI_2, Bool.not_true, Bool.not_false, Bool.false_eq_true, if_false, if_true, wipe]; exact h)); (try dsimp only [gName, tNext, List.set_cons_zero, List.set_cons_succ]))
      rw [List.length_map] at hj
      rw [List.getD_eq_getElem?_getD, List.getElem?_map, List.getElem?_eq_getElem hj]
      exact hR _ .refl
    refine ⟨D, List.replicate gains.length true, rfl, ?_, ⟨_, rfl, ?_⟩⟩
    · rw [hd, List.length_map, List.map_replicate, List.map_const', List.length_range]
    have ha : (List.replicate gains.length true).all id = true := by simp
    rw [ha]
    (refine if_no ?_; (try dsimp only [gName, tNext, List.set_cons_zero, List.set_cons_succ]))
    have g12 := g1.trans g2
    refine st_seq (st_if ?_)
    (refine evT ?P74 (fun Q h => ?h74) ?_; (case h74 => (simp only [tTest, tOp, tUn, tVar, tC, tCB, tCons, tNil, tAnd, tOr, tNot, tB, tTup, tLst, tIf, tAndV, tOrV, tNotV, tSl, tPart, tNoPart, tCall, iIx_ref, oGt_int, oMod_int, oFdiv_int, oAdd_int, oAdd_str, oSub_int, oMul_int, oLt_int, oGe_int, oLe_int, oPow_int, uNeg_int, oEq_int, oEq_str, oEq_bl, oNe_int, oNe_str, oNe_bl, cInt_int, cInt_bl, cAbs_int, cLen_ref, cList_ref, stL_ref, gName, gSub, gTup, gCons, gNil, rdSeq, List.getElem?_cons_zero, List.getElem?_cons_succ, List.set_cons_zero, List.set_cons_succ, List.cons_append, List.nil_append, Option.some.injEq, exists_eq_left', V.bl.injEq, V.int.injEq, V.ref.injEq, atI_0, atI_1, atI_2, setI_1, setI_2, Bool.not_true, Bool.not_false, Bool.false_eq_true, if_false, if_true]; exact h)))
    refine lenE (hg.grow g12) ?_
    rw [List.length_map]
    refine ⟨_, ht.grow g12, fun H3 g3 => ?_⟩
    rw [List.length_map, decide_eq_true (by omega)]
    simp only [tTest, tOp, tUn, tVar, tC, tCB, tCons, tNil, tAnd, tOr, tNot, tB, tTup, tLst, tIf, tAndV, tOrV, tNotV, tSl, tPart, tNoPart, tCall, iIx_ref, oGt_int, oMod_int, oFdiv_int, oAdd_int, oAdd_str, oSub_int, oMul_int, oLt_int, oGe_int, oLe_int, oPow_int, uNeg_int, oEq_int, oEq_str, oEq_bl, oNe_int, oNe_str, oNe_bl, cInt_int, cInt_bl, cAbs_int, cLen_ref, cList_ref, stL_ref, gName, gSub, gTup, gCons, gNil, rdSeq, List.getElem?_cons_zero, List.getElem?_cons_succ, List.set_cons_zero, List.set_cons_succ, List.cons_append, List.nil_append, Option.some.injEq, exists_eq_left', V.bl.injEq, V.int.injEq, V.ref.injEq, atI_0, atI_1, atI_2, setI_1, setI_2, Bool.not_true, Bool.not_false, Bool.false_eq_true, if_false, if_true]
    refine lc_ev ?_
    unfold iSeq
    (refine evE ?P75 (fun Q h => ?h75) ?_; (case h75 => (simp only [tTest, tOp, tUn, tVar, tC, tCB, tCons, tNil, tAnd, tOr, tNot, tB, tTup, tLst, tIf, tAndV, tOrV, tNotV, tSl, tPart, tNoPart, tCall, iIx_ref, oGt_int, oMod_int, oFdiv_int, oAdd_int, oAdd_str, oSub_int, oMul_int, oLt_int, oGe_int, oLe_int, oPow_int, uNeg_int, oEq_int, oEq_str, oEq_bl, oNe_int, oNe_str, oNe_bl, cInt_int, cInt_bl, cAbs_int, cLen_ref, cList_ref, stL_ref, gName, gSub, gTup, gCons, gNil, rdSeq, List.getElem?_cons_zero, List.getElem?_cons_succ, List.set_cons_zero, List.set_cons_succ, List.cons_append, List.nil_append, Option.some.injEq, exists_eq_left', V.bl.injEq, V.int.injEq, V.ref.injEq, atI_0, atI_1, atI_2, setI_1, setI_2, Bool.not_true, Bool.not_false, Bool.false_eq_true, if_false, if_true]; exact h)))
    refine jok_sq ((ht.grow g12).grow g3) fun J hJ => ?_
    refine lc_map hJ (fun _ => .bl true) (by rw [List.length_map]; omega) (fun j hj H' g' R hR => ?_) (fun D2 H4 g4 hD2 hd2 => ?_) (by exact fun x => rfl)
    · (refine evE ?P69 (fun Q h => ?h69) ?_; (case h69 => (simp only [tTest, tOp, tUn, tVar, tC, tCB, tCons, tNil, tAnd, tOr, tNot, tB, tTup, tLst, tIf, tAndV, tOrV, tNotV, tSl, tPart, tNoPart, tCall, iIx_ref, oGt_int, oMod_int, oFdiv_int, oAdd_int, oAdd_str, oSub_int, oMul_int, oLt_int, oGe_int, oLe_int, oPow_int, uNeg_int, oEq_int, oEq_str, oEq_bl, oNe_int, oNe_str, oNe_bl, cInt_int, cInt_bl, cAbs_int, cLen_ref, cList_ref, stL_ref, gName, gSub, gTup, gCons, gNil, rdSeq, List.getElem?_cons_zero, List.getElem?_cons_succ, List.set_cons_zero, List.set_cons_succ, List.cons_append, List.nil_append, Option.some.injEq, exists_eq_left', V.bl.injEq, V.int.injEq, V.ref.injEq, atI_0, atI_1, atI_2, setI_1, setI_2, Bool.not_true, Bool.not_false, Bool.false_eq_true, if_false, if_true, wipe]; exact h)); (try dsimp only [gName, tNext, List.set_cons_zero, List.set_cons_succ]))
      rw [List.length_map] at hj
      rw [List.getD_eq_getElem?_getD, List.getElem?_map, List.getElem?_eq_getElem hj]
      show sp_is_value K A [oV _] _ _ _
      rw [isv_oV]
      exact hR _ .refl
    refine ⟨D2, List.replicate told.length true, rfl, ?_, ⟨_, rfl, ?_⟩⟩
    · rw [hd2, List.length_map, List.map_replicate, List.map_const', List.length_range]
    have ha2 : (List.replicate told.length true).all id = true := by simp
    rw [ha2]
    (refine if_no ?_; (try dsimp only [gName, tNext, List.set_cons_zero, List.set_cons_succ]))
    have g14 := (g12.trans g3).trans g4
    refine st_seq (st_asg ?_)
    (refine evE ?P76 (fun Q h => ?h76) ?_; (case h76 => (simp only [tTest, tOp, tUn, tVar, tC, tCB, tCons, tNil, tAnd, tOr, tNot, tB, tTup, tLst, tIf, tAndV, tOrV, tNotV, tSl, tPart, tNoPart, tCall, iIx_ref, oGt_int, oMod_int, oFdiv_int, oAdd_int, oAdd_str, oSub_int, oMul_int, oLt_int, oGe_int, oLe_int, oPow_int, uNeg_int, oEq_int, oEq_str, oEq_bl, oNe_int, oNe_str, oNe_bl, cInt_int, cInt_bl, cAbs_int, cLen_ref, cList_ref, stL_ref, gName, gSub, gTup, gCons, gNil, rdSeq, List.getElem?_cons_zero, List.getElem?_cons_succ, List.set_cons_zero, List.set_cons_succ, List.cons_append, List.nil_append, Option.some.injEq, exists_eq_left', V.bl.injEq, V.int.injEq, V.ref.injEq, atI_0, atI_1, atI_2, setI_1, setI_2, Bool.not_true, Bool.not_false, Bool.false_eq_true, if_false, if_true]; exact h)))
    refine tupE (ht.grow g14) fun t1 H5 g5 ht1 => ?_
    refine tupE ((hg.grow g14).grow g5) fun q1 H6 g6 hg1 => ?_
    refine ⟨told, gains, ht1.grow g6, hg1, hp, hpl, hs, by omega, bg, fun r t' g' H7 g7 hr ht' hg' => ?_⟩
    have g17 := (g14.trans g5).trans (g6.trans g7)
    have hx7 := g17 _ _ hx
    refine ⟨r, _, rfl, SqT.of hr, rfl, ?_⟩
    refine ⟨_, _, rfl, ?_⟩
    refine ⟨_, rfl, x, _, dx, _, rfl, hx7, F.cl, F.ut, by decide, ?_⟩
    refine ⟨_, _, rfl, ?_⟩
    refine ⟨_, rfl, x, _, dx, _, rfl, upd_same, F.cl, F.ug, by show 1 < 1000; decide, ?_⟩
    refine ⟨rfl, ?_⟩
    generalize hH8 : upd (upd H7 x _) x _ = H8
    have hx8 : H8 x = some (.ins A.c_Growth dx [("told", .ref t'), ("gains", .ref g')]) := by rw [← hH8, upd_same]; rfl
    have kp : ∀ b o, b ≠ x → H7 b = some o → H8 b = some o := fun b o hb e => by rw [← hH8, upd_ne hb, upd_ne hb]; exact e
    have ht8 : St K H8 t' ((nfT told gains).map oV) := by
      cases ht' with
      | t h => exact .t (kp _ _ (fun z => by rw [z, hx7] at h; cases h) h)
      | k o its n h c d z r => exact .k o its n h c d z r
    have hg8 : H8 g' = some (.tup ((nfG told gains).map V.int)) := kp _ _ (fun z => by rw [z, hx7] at hg'; cases hg') hg'
    show t_Growth_init_5 K A _ _ _
    refine st_if ?_
    (refine evT ?P70 (fun Q h => ?h70) ?_; (case h70 => (simp only [tTest, tOp, tUn, tVar, tC, tCB, tCons, tNil, tAnd, tOr, tNot, tB, tTup, tLst, tIf, tAndV, tOrV, tNotV, tSl, tPart, tNoPart, tCall, iIx_ref, oGt_int, oMod_int, oFdiv_int, oAdd_int, oAdd_str, oSub_int, oMul_int, oLt_int, oGe_int, oLe_int, oPow_int, uNeg_int, oEq_int, oEq_str, oEq_bl, oNe_int, oNe_str, oNe_bl, cInt_int, cInt_bl, cAbs_int, cLen_ref, cList_ref, stL_ref, gName, gSub, gTup, gCons, gNil, rdSeq, List.getElem?_cons_zero, List.getElem?_cons_succ, List.set_cons_zero, List.set_cons_succ, List.cons_append, List.nil_append, Option.some.injEq, exists_eq_left', V.bl.injEq, V.int.injEq, V.ref.injEq, atI_0, atI_1, atI_2, setI_1, setI_2, Bool.not_true, Bool.not_false, Bool.false_eq_true, if_false, if_true, tFld_eq, fldR_eq hx8 F.cl F.ut rfl]; exact h)); (try dsimp only [gName, tNext, List.set_cons_zero, List.set_cons_succ]))
    refine lenE ht8.sq ?_
    rw [List.length_map]
    simp only [tTest, tOp, tUn, tVar, tC, tCB, tCons, tNil, tAnd, tOr, tNot, tB, tTup, tLst, tIf, tAndV, tOrV, tNotV, tSl, tPart, tNoPart, tCall, iIx_ref, oGt_int, oMod_int, oFdiv_int, oAdd_int, oAdd_str, oSub_int, oMul_int, oLt_int, oGe_int, oLe_int, oPow_int, uNeg_int, oEq_int, oEq_str, oEq_bl, oNe_int, oNe_str, oNe_bl, cInt_int, cInt_bl, cAbs_int, cLen_ref, cList_ref, stL_ref, gName, gSub, gTup, gCons, gNil, rdSeq, List.getElem?_cons_zero, List.getElem?_cons_succ, List.set_cons_zero, List.set_cons_succ, List.cons_append, List.nil_append, Option.some.injEq, exists_eq_left', V.bl.injEq, V.int.injEq, V.ref.injEq, atI_0, atI_1, atI_2, setI_1, setI_2, Bool.not_true, Bool.not_false, Bool.false_eq_true, if_false, if_true]
    rw [decide_eq_false (by omega)]
    (refine if_no ?_; (try dsimp only [gName, tNext, List.set_cons_zero, List.set_cons_succ]))
    exact k H8 (fun b o hb e => kp b o hb (g17 b o e)) ⟨dx, t', g', hx8, ht8, hg8⟩
  · exact h.elim

end HG

namespace HG
open PySem L2
theorem mkG {K : PySem.W.Frag} {A : Ad} {t g : Addr} {told : List (Option Int)} {gains : List Int} {f : V → List V} {H : Hp} {Q : VK} (ht : Sq K H t (told.map oV)) (hg : Sq K H g (gains.map V.int)) (hp : 0 < gains.length) (hp60 : gains.length ≤ 60) (hpl : gains.length ≤ told.length) (hs : told.length ≤ 100000) (bg : BnA gains) (h4k : (nfT told gains).length ≤ 4000)
    (k : ∀ c H', Grow H H' → GrAt K A H' c (nfT told gains) (nfG told gains) → Q (.ref c) H') (hf : ∀ r, f r = [r, .ref t, .ref g] := by exact fun _ => rfl) : MKf A.c_Growth (sp_Growth_init K A) E0 f H Q := by
  intro x dx hx hd hn
  rw [hf]
  have gr : Grow H (upd (upd H dx (.own x)) x (.ins A.c_Growth dx [])) := fun b o e => by
    rw [upd_ne (fun z => by rw [z, hx] at e; cases e), upd_ne (fun z => by rw [z, hd] at e; cases e)]; exact e
  refine ⟨dx, told, gains, upd_same, ht.grow gr, hg.grow gr, hp, hp60, hpl, hs, bg, h4k, fun H' h1 h2 => ⟨rfl, k x H' (fun b o e => h1 b o (fun z => by rw [z, hx] at e; cases e) (gr b o e)) h2⟩⟩
def sp_Growth_period (K : PySem.W.Frag) (A : Ad) : Sp := fun vs H Q _ => match vs with
  | [.ref a] => ∃ told gains, GrAt K A H a told gains ∧ Q (.int (gains.length : Int)) H
  | _ => False
def t_Growth_period_0 (K : PySem.W.Frag) (A : Ad) : TS := (tRet (tCB (cLenE K) (tCons (tFld K (tVar 0) "gains") tNil)))

theorem pure_Growth_period {K : PySem.W.Frag} {A : Ad} {vs : List V} {H : Hp} {Q : VK} {E : XK} (F : KF K A) (h : sp_Growth_period K A vs H Q E) : (t_Growth_period_0 K A) { nx := fun _ H' => Q .non H', rt := Q } (start ["self"] vs) H := by
  unfold sp_Growth_period at h
  split at h
  · rename_i a
    obtain ⟨told, gains, ⟨dx, t, g, h1, h2, h3⟩, k⟩ := h
    show (t_Growth_period_0 K A) _ [some (.ref a)] H
    refine st_ret ?_
    (refine evE ?P77 (fun Q h => ?h77) ?_; (case h77 => (simp only [tTest, tOp, tUn, tVar, tC, tCB, tCons, tNil, tAnd, tOr, tNot, tB, tTup, tLst, tIf, tAndV, tOrV, tNotV, tSl, tPart, tNoPart, tCall, iIx_ref, oGt_int, oMod_int, oFdiv_int, oAdd_int, oAdd_str, oSub_int, oMul_int, oLt_int, oGe_int, oLe_int, oPow_int, uNeg_int, oEq_int, oEq_str, oEq_bl, oNe_int, oNe_str, oNe_bl, cInt_int, cInt_bl, cAbs_int, cLen_ref, cList_ref, stL_ref, gName, gSub, gTup, gCons, gNil, rdSeq, List.getElem?_cons_zero, List.getElem?_cons_succ, List.set_cons_zero, List.set_cons_succ, List.cons_append, List.nil_append, Option.some.injEq, exists_eq_left', V.bl.injEq, V.int.injEq, V.ref.injEq, atI_0, atI_1, atI_2, setI_1, setI_2, Bool.not_true, Bool.not_false, Bool.false_eq_true, if_false, if_true, tFld_eq, fldR_eq h1 F.cl F.ug rfl]; exact h)); (try dsimp only [gName, tNext, List.set_cons_zero, List.set_cons_succ]))
    refine lenE (.t h3) ?_
    rw [List.length_map]
    exact k
  · exact h.elim
/-- the gains of the rests that last -/
def lastL (told : List (Option Int)) (gains : List Int) : List Int :=
  ((List.range gains.length).filter fun j => (told.getD (told.length - gains.length + j) none).isSome).map fun j => gains.getD ((told.length - gains.length + j) % gains.length) 0
theorem prG {A : Ad} {K : PySem.W.Frag} {a : Addr} {told : List (Option Int)} {gains : List Int} {sp : Sp} {H : Hp} {Q : VK} (h : GrAt K A H a told gains) (k : sp [.ref a] H Q E0) : PRf A.c_Growth sp [] E0 (.ref a) H Q := by
  obtain ⟨dx, t, g, h1, _⟩ := h
  exact ⟨a, dx, _, rfl, h1, k⟩
def sp_Growth_lasting (K : PySem.W.Frag) (A : Ad) : Sp := fun vs H Q _ => match vs with
  | [.ref a] => ∃ told gains, GrAt K A H a told gains ∧ 0 < gains.length ∧ gains.length ≤ told.length ∧ told.length ≤ 100000 ∧ ∀ l H', Grow H H' → H' l = some (.lst ((lastL told gains).map V.int)) → Q (.ref l) H'
  | _ => False
def t_Growth_lasting_1 (K : PySem.W.Frag) (A : Ad) : TS := (tRet (tLc (iRng2 (tCons (tVar 1) (tCons (tCB (cLenE K) (tCons (tFld K (tVar 0) "told") tNil)) tNil))) (gName 2) (tTest (tOp oIsNot (tOp (rIx K) (tFld K (tVar 0) "told") (tVar 2)) (tC .non))) (tOp (rIx K) (tFld K (tVar 0) "gains") (tOp oMod (tVar 2) (tProp A.c_Growth (sp_Growth_period K A) [] E0 (tVar 0)))) [2]))
def t_Growth_lasting_0 (K : PySem.W.Frag) (A : Ad) : TS := (tSeq (tAsg (tOp oSub (tCB (cLenE K) (tCons (tFld K (tVar 0) "told") tNil)) (tProp A.c_Growth (sp_Growth_period K A) [] E0 (tVar 0))) (gName 1)) (t_Growth_lasting_1 K A))

theorem pure_Growth_lasting {K : PySem.W.Frag} {A : Ad} {vs : List V} {H : Hp} {Q : VK} {E : XK} (F : KF K A) (h : sp_Growth_lasting K A vs H Q E) : (t_Growth_lasting_0 K A) { nx := fun _ H' => Q .non H', rt := Q } (start ["self", "origin", "n"] vs) H := by
  unfold sp_Growth_lasting at h
  split at h
  · rename_i a
    obtain ⟨told, gains, hG, hp, hpl, hs, k⟩ := h
    obtain ⟨dx, t, g, h1, h2, h3⟩ := id hG
    have hsz : sizeLine = 16777216 := rfl
    show (t_Growth_lasting_0 K A) _ [some (.ref a), none, none] H
    refine st_seq (st_asg ?_)
    (refine evE ?P78 (fun Q h => ?h78) ?_; (case h78 => (simp only [tTest, tOp, tUn, tVar, tC, tCB, tCons, tNil, tAnd, tOr, tNot, tB, tTup, tLst, tIf, tAndV, tOrV, tNotV, tSl, tPart, tNoPart, tCall, iIx_ref, oGt_int, oMod_int, oFdiv_int, oAdd_int, oAdd_str, oSub_int, oMul_int, oLt_int, oGe_int, oLe_int, oPow_int, uNeg_int, oEq_int, oEq_str, oEq_bl, oNe_int, oNe_str, oNe_bl, cInt_int, cInt_bl, cAbs_int, cLen_ref, cList_ref, stL_ref, gName, gSub, gTup, gCons, gNil, rdSeq, List.getElem?_cons_zero, List.getElem?_cons_succ, List.set_cons_zero, List.set_cons_succ, List.cons_append, List.nil_append, Option.some.injEq, exists_eq_left', V.bl.injEq, V.int.injEq, V.ref.injEq, atI_0, atI_1, atI_2, setI_1, setI_2, Bool.not_true, Bool.not_false, Bool.false_eq_true, if_false, if_true, tFld_eq, fldR_eq h1 F.cl F.ut rfl, tProp_eq]; exact h)); (try dsimp only [gName, tNext, List.set_cons_zero, List.set_cons_succ]))
    refine lenE h2.sq ?_
    refine prG hG ⟨told, gains, hG, ?_⟩
    simp only [tTest, tOp, tUn, tVar, tC, tCB, tCons, tNil, tAnd, tOr, tNot, tB, tTup, tLst, tIf, tAndV, tOrV, tNotV, tSl, tPart, tNoPart, tCall, iIx_ref, oGt_int, oMod_int, oFdiv_int, oAdd_int, oAdd_str, oSub_int, oMul_int, oLt_int, oGe_int, oLe_int, oPow_int, uNeg_int, oEq_int, oEq_str, oEq_bl, oNe_int, oNe_str, oNe_bl, cInt_int, cInt_bl, cAbs_int, cLen_ref, cList_ref, stL_ref, gName, gSub, gTup, gCons, gNil, rdSeq, List.getElem?_cons_zero, List.getElem?_cons_succ, List.set_cons_zero, List.set_cons_succ, List.cons_append, List.nil_append, Option.some.injEq, exists_eq_left', V.bl.injEq, V.int.injEq, V.ref.injEq, atI_0, atI_1, atI_2, setI_1, setI_2, Bool.not_true, Bool.not_false, Bool.false_eq_true, if_false, if_true, List.length_map]
    (try dsimp only [gName, tNext, List.set_cons_zero, List.set_cons_succ])
    refine st_ret (lc_ev ?_)
    unfold iRng2
    (refine evA ?P81 (fun Q h => ?h81) ?_; (case h81 => (simp only [tTest, tOp, tUn, tVar, tC, tCB, tCons, tNil, tAnd, tOr, tNot, tB, tTup, tLst, tIf, tAndV, tOrV, tNotV, tSl, tPart, tNoPart, tCall, iIx_ref, oGt_int, oMod_int, oFdiv_int, oAdd_int, oAdd_str, oSub_int, oMul_int, oLt_int, oGe_int, oLe_int, oPow_int, uNeg_int, oEq_int, oEq_str, oEq_bl, oNe_int, oNe_str, oNe_bl, cInt_int, cInt_bl, cAbs_int, cLen_ref, cList_ref, stL_ref, gName, gSub, gTup, gCons, gNil, rdSeq, List.getElem?_cons_zero, List.getElem?_cons_succ, List.set_cons_zero, List.set_cons_succ, List.cons_append, List.nil_append, Option.some.injEq, exists_eq_left', V.bl.injEq, V.int.injEq, V.ref.injEq, atI_0, atI_1, atI_2, setI_1, setI_2, Bool.not_true, Bool.not_false, Bool.false_eq_true, if_false, if_true, tFld_eq, fldR_eq h1 F.cl F.ut rfl]; exact h)))
    refine lenE h2.sq ?_
    rw [List.length_map]
    refine ⟨_, _, rfl, ⟨by omega, by omega, by omega, by omega⟩, ?_⟩
    have en : ((told.length : Int) - ((told.length : Int) - (gains.length : Int))).toNat = gains.length := by omega
    rw [en]
    have ej : ∀ j : Nat, (told.length : Int) - (gains.length : Int) + (j : Int) = ((told.length - gains.length + j : Nat) : Int) := fun j => by omega
    refine lc_filter jok_rng (fun j => (told.getD (told.length - gains.length + j) none).isSome) (fun j => .int (gains.getD ((told.length - gains.length + j) % gains.length) 0)) (by omega) (fun j hj H' g' R hR => ?_) (fun j hj hpj H' g' R hR => ?_) (fun D H' g' hD hd => ?_) (by exact fun x => rfl)
    · have hG' := hG.grow g'
      (refine evT ?P79 (fun Q h => ?h79) ?_; (case h79 => (simp only [tTest, tOp, tUn, tVar, tC, tCB, tCons, tNil, tAnd, tOr, tNot, tB, tTup, tLst, tIf, tAndV, tOrV, tNotV, tSl, tPart, tNoPart, tCall, iIx_ref, oGt_int, oMod_int, oFdiv_int, oAdd_int, oAdd_str, oSub_int, oMul_int, oLt_int, oGe_int, oLe_int, oPow_int, uNeg_int, oEq_int, oEq_str, oEq_bl, oNe_int, oNe_str, oNe_bl, cInt_int, cInt_bl, cAbs_int, cLen_ref, cList_ref, stL_ref, gName, gSub, gTup, gCons, gNil, rdSeq, List.getElem?_cons_zero, List.getElem?_cons_succ, List.set_cons_zero, List.set_cons_succ, List.cons_append, List.nil_append, Option.some.injEq, exists_eq_left', V.bl.injEq, V.int.injEq, V.ref.injEq, atI_0, atI_1, atI_2, setI_1, setI_2, Bool.not_true, Bool.not_false, Bool.false_eq_true, if_false, if_true, wipe, tFld_eq, fldR_eq (g' _ _ h1) F.cl F.ut rfl]; exact h)); (try dsimp only [gName, tNext, List.set_cons_zero, List.set_cons_succ]))
      rw [ej]
      refine ixE (h2.grow g').sq (atI_map (d := none) (by omega)) ?_
      simp only [tTest, tOp, tUn, tVar, tC, tCB, tCons, tNil, tAnd, tOr, tNot, tB, tTup, tLst, tIf, tAndV, tOrV, tNotV, tSl, tPart, tNoPart, tCall, iIx_ref, oGt_int, oMod_int, oFdiv_int, oAdd_int, oAdd_str, oSub_int, oMul_int, oLt_int, oGe_int, oLe_int, oPow_int, uNeg_int, oEq_int, oEq_str, oEq_bl, oNe_int, oNe_str, oNe_bl, cInt_int, cInt_bl, cAbs_int, cLen_ref, cList_ref, stL_ref, gName, gSub, gTup, gCons, gNil, rdSeq, List.getElem?_cons_zero, List.getElem?_cons_succ, List.set_cons_zero, List.set_cons_succ, List.cons_append, List.nil_append, Option.some.injEq, exists_eq_left', V.bl.injEq, V.int.injEq, V.ref.injEq, atI_0, atI_1, atI_2, setI_1, setI_2, Bool.not_true, Bool.not_false, Bool.false_eq_true, if_false, if_true, oIsNot_oV]
      exact hR _ .refl
    · have hG' := hG.grow g'
      (refine evE ?P80 (fun Q h => ?h80) ?_; (case h80 => (simp only [tTest, tOp, tUn, tVar, tC, tCB, tCons, tNil, tAnd, tOr, tNot, tB, tTup, tLst, tIf, tAndV, tOrV, tNotV, tSl, tPart, tNoPart, tCall, iIx_ref, oGt_int, oMod_int, oFdiv_int, oAdd_int, oAdd_str, oSub_int, oMul_int, oLt_int, oGe_int, oLe_int, oPow_int, uNeg_int, oEq_int, oEq_str, oEq_bl, oNe_int, oNe_str, oNe_bl, cInt_int, cInt_bl, cAbs_int, cLen_ref, cList_ref, stL_ref, gName, gSub, gTup, gCons, gNil, rdSeq, List.getElem?_cons_zero, List.getElem?_cons_succ, List.set_cons_zero, List.set_cons_succ, List.cons_append, List.nil_append, Option.some.injEq, exists_eq_left', V.bl.injEq, V.int.injEq, V.ref.injEq, atI_0, atI_1, atI_2, setI_1, setI_2, Bool.not_true, Bool.not_false, Bool.false_eq_true, if_false, if_true, wipe, tFld_eq, fldR_eq (g' _ _ h1) F.cl F.ug rfl, tProp_eq]; exact h)); (try dsimp only [gName, tNext, List.set_cons_zero, List.set_cons_succ]))
      refine prG hG' ⟨told, gains, hG', ?_⟩
      simp only [tTest, tOp, tUn, tVar, tC, tCB, tCons, tNil, tAnd, tOr, tNot, tB, tTup, tLst, tIf, tAndV, tOrV, tNotV, tSl, tPart, tNoPart, tCall, iIx_ref, oGt_int, oMod_int, oFdiv_int, oAdd_int, oAdd_str, oSub_int, oMul_int, oLt_int, oGe_int, oLe_int, oPow_int, uNeg_int, oEq_int, oEq_str, oEq_bl, oNe_int, oNe_str, oNe_bl, cInt_int, cInt_bl, cAbs_int, cLen_ref, cList_ref, stL_ref, gName, gSub, gTup, gCons, gNil, rdSeq, List.getElem?_cons_zero, List.getElem?_cons_succ, List.set_cons_zero, List.set_cons_succ, List.cons_append, List.nil_append, Option.some.injEq, exists_eq_left', V.bl.injEq, V.int.injEq, V.ref.injEq, atI_0, atI_1, atI_2, setI_1, setI_2, Bool.not_true, Bool.not_false, Bool.false_eq_true, if_false, if_true]
      refine ⟨by omega, ?_⟩
      have hm : (told.length - gains.length + j) % gains.length < gains.length := Nat.mod_lt _ hp
      refine ixE (.t (g' _ _ h3)) (by rw [ej, ← Int.natCast_emod]; exact atI_map (d := 0) hm) ?_
      exact hR _ .refl
    · refine k D H' g' ?_
      rw [hd]
      unfold resF lastL
      rw [List.map_map]
      rfl
  · exact h.elim

end HG

namespace HG
open PySem L2
theorem range_getD {α : Type} (l : List α) (d : α) : (List.range l.length).map (fun j => l.getD j d) = l := by
  apply List.ext_getElem
  · rw [List.length_map, List.length_range]
  · intro i h1 h2
    rw [List.getElem_map, List.getElem_range, List.getD_eq_getElem?_getD, List.getElem?_eq_getElem h2]
    rfl
theorem resF_list {α : Type} (l : List α) (d : α) (p : α → Bool) (f : α → V) : resF (fun j => p (l.getD j d)) (fun j => f (l.getD j d)) l.length = (l.filter p).map f := by
  unfold resF
  have h : (l.filter p).map f = (((List.range l.length).map (fun j => l.getD j d)).filter p).map f := by rw [range_getD]
  rw [h, List.filter_map, List.map_map]
  rfl
theorem map_list {α : Type} (l : List α) (d : α) (f : α → V) : (List.range l.length).map (fun j => f (l.getD j d)) = l.map f := by
  have h : l.map f = ((List.range l.length).map (fun j => l.getD j d)).map f := by rw [range_getD]
  rw [h, List.map_map]
  rfl
def nums (told : List (Option Int)) : List Int := told.filterMap id
theorem nums_map : ∀ told : List (Option Int), (told.filter (·.isSome)).map oV = (nums told).map V.int
  | [] => rfl
  | none :: r => nums_map r
  | some i :: r => by
    show V.int i :: (r.filter (·.isSome)).map oV = V.int i :: (nums r).map V.int
    rw [nums_map r]
theorem eq_nil {K : PySem.W.Frag} {H : Hp} {l q : Addr} {ns : List Int} {Q : VK} (hl : H l = some (.lst (ns.map V.int))) (hq : H q = some (.lst [])) (h : Q (.bl ns.isEmpty) H) : oEq K (.ref l) (.ref q) H Q := by
  have e1 : dataF 8 H (.ref l) = some (.list (ns.map PyData.int)) := dataF_ints hl
  have e2 : dataF 8 H (.ref q) = some (.list []) := dataF_ints (ns := []) hq
  simp only [oEq, e1, e2]
  exact ⟨shaped_ints ns, shaped_ints [], by rw [eqv_nil]; exact h⟩
def endL (told : List (Option Int)) (gains : List Int) : Bool := ((lastL told gains).map fun g => decide (0 < g)).any id
def sp_Growth_is_endless (K : PySem.W.Frag) (A : Ad) : Sp := fun vs H Q _ => match vs with
  | [.ref a] => ∃ told gains, GrAt K A H a told gains ∧ 0 < gains.length ∧ gains.length ≤ told.length ∧ told.length ≤ 100000 ∧ ∀ H', Grow H H' → Q (.bl (endL told gains)) H'
  | _ => False
def t_Growth_is_endless_0 (K : PySem.W.Frag) (A : Ad) : TS := (tRet (tCB (cAny K) (tCons (tLc (iSeq K (tProp A.c_Growth (sp_Growth_lasting K A) [] E0 (tVar 0))) (gName 1) tYes (tOp oGt (tVar 1) (tC (.int 0))) [1]) tNil)))

theorem lastL_len (told : List (Option Int)) (gains : List Int) : (lastL told gains).length ≤ gains.length := by
  unfold lastL
  rw [List.length_map]
  have := List.length_filter_le (fun j => (told.getD (told.length - gains.length + j) none).isSome) (List.range gains.length)
  rw [List.length_range] at this
  exact this
theorem getD_map_int {ns : List Int} {j : Nat} (h : j < ns.length) : (ns.map V.int).getD j .non = .int (ns.getD j 0) := by
  rw [List.getD_eq_getElem?_getD, List.getElem?_map, List.getElem?_eq_getElem h, List.getD_eq_getElem?_getD, List.getElem?_eq_getElem h]
  rfl
theorem getD_map_oV {ns : List (Option Int)} {j : Nat} (h : j < ns.length) : (ns.map oV).getD j .non = oV (ns.getD j none) := by
  rw [List.getD_eq_getElem?_getD, List.getElem?_map, List.getElem?_eq_getElem h, List.getD_eq_getElem?_getD, List.getElem?_eq_getElem h]
  rfl
theorem pure_Growth_is_endless {K : PySem.W.Frag} {A : Ad} {vs : List V} {H : Hp} {Q : VK} {E : XK} (F : KF K A) (h : sp_Growth_is_endless K A vs H Q E) : (t_Growth_is_endless_0 K A) { nx := fun _ H' => Q .non H', rt := Q } (start ["self", "gain"] vs) H := by
  unfold sp_Growth_is_endless at h
  split at h
  · rename_i a
    obtain ⟨told, gains, hG, hp, hpl, hs, k⟩ := h
    have hsz : sizeLine = 16777216 := rfl
    have hll := lastL_len told gains
    show (t_Growth_is_endless_0 K A) _ [some (.ref a), none] H
    refine st_ret ?_
    (refine evE ?P89 (fun Q h => ?h89) ?_; (case h89 => (simp only [tTest, tOp, tUn, tVar, tC, tCB, tCons, tNil, tAnd, tOr, tNot, tB, tTup, tLst, tIf, tAndV, tOrV, tNotV, tSl, tPart, tNoPart, tCall, iIx_ref, oGt_int, oMod_int, oFdiv_int, oAdd_int, oAdd_str, oSub_int, oMul_int, oLt_int, oGe_int, oLe_int, oPow_int, uNeg_int, oEq_int, oEq_str, oEq_bl, oNe_int, oNe_str, oNe_bl, cInt_int, cInt_bl, cAbs_int, cLen_ref, cList_ref, stL_ref, gName, gSub, gTup, gCons, gNil, rdSeq, List.getElem?_cons_zero, List.getElem?_cons_succ, List.set_cons_zero, List.set_cons_succ, List.cons_append, List.nil_append, Option.some.injEq, exists_eq_left', V.bl.injEq, V.int.injEq, V.ref.injEq, atI_0, atI_1, atI_2, setI_1, setI_2, Bool.not_true, Bool.not_false, Bool.false_eq_true, if_false, if_true]; exact h)))
    refine lc_ev ?_
    unfold iSeq
    (refine evE ?P90 (fun Q h => ?h90) ?_; (case h90 => (simp only [tTest, tOp, tUn, tVar, tC, tCB, tCons, tNil, tAnd, tOr, tNot, tB, tTup, tLst, tIf, tAndV, tOrV, tNotV, tSl, tPart, tNoPart, tCall, iIx_ref, oGt_int, oMod_int, oFdiv_int, oAdd_int, oAdd_str, oSub_int, oMul_int, oLt_int, oGe_int, oLe_int, oPow_int, uNeg_int, oEq_int, oEq_str, oEq_bl, oNe_int, oNe_str, oNe_bl, cInt_int, cInt_bl, cAbs_int, cLen_ref, cList_ref, stL_ref, gName, gSub, gTup, gCons, gNil, rdSeq, List.getElem?_cons_zero, List.getElem?_cons_succ, List.set_cons_zero, List.set_cons_succ, List.cons_append, List.nil_append, Option.some.injEq, exists_eq_left', V.bl.injEq, V.int.injEq, V.ref.injEq, atI_0, atI_1, atI_2, setI_1, setI_2, Bool.not_true, Bool.not_false, Bool.false_eq_true, if_false, if_true, tProp_eq]; exact h)))
    refine prG hG ⟨told, gains, hG, hp, hpl, hs, fun l H1 g1 hl => ?_⟩
    refine jok_sq (.l hl) fun J hJ => ?_
    refine lc_map hJ (fun j => .bl (decide (0 < (lastL told gains).getD j 0))) (by rw [List.length_map]; omega) (fun j hj H' g' R hR => ?_) (fun D H2 g2 hD hd => ?_) (by exact fun x => rfl)
    · rw [List.length_map] at hj
      rw [getD_map_int hj]
      (refine evE ?P82 (fun Q h => ?h82) ?_; (case h82 => (simp only [tTest, tOp, tUn, tVar, tC, tCB, tCons, tNil, tAnd, tOr, tNot, tB, tTup, tLst, tIf, tAndV, tOrV, tNotV, tSl, tPart, tNoPart, tCall, iIx_ref, oGt_int, oMod_int, oFdiv_int, oAdd_int, oAdd_str, oSub_int, oMul_int, oLt_int, oGe_int, oLe_int, oPow_int, uNeg_int, oEq_int, oEq_str, oEq_bl, oNe_int, oNe_str, oNe_bl, cInt_int, cInt_bl, cAbs_int, cLen_ref, cList_ref, stL_ref, gName, gSub, gTup, gCons, gNil, rdSeq, List.getElem?_cons_zero, List.getElem?_cons_succ, List.set_cons_zero, List.set_cons_succ, List.cons_append, List.nil_append, Option.some.injEq, exists_eq_left', V.bl.injEq, V.int.injEq, V.ref.injEq, atI_0, atI_1, atI_2, setI_1, setI_2, Bool.not_true, Bool.not_false, Bool.false_eq_true, if_false, if_true, wipe]; exact h)); (try dsimp only [gName, tNext, List.set_cons_zero, List.set_cons_succ]))
      exact hR _ .refl
    refine ⟨D, (lastL told gains).map fun g => decide (0 < g), rfl, ?_, k _ (g1.trans g2)⟩
    rw [hd, List.length_map, List.map_map, ← map_list (lastL told gains) 0]
    rfl
  · exact h.elim
def sp_Growth_greatest (K : PySem.W.Frag) (A : Ad) : Sp := fun vs H Q _ => match vs with
  | [.ref a] => ∃ told gains, GrAt K A H a told gains ∧ 0 < gains.length ∧ gains.length ≤ told.length ∧ told.length ≤ 100000 ∧
      ((nums told = [] ∨ endL told gains = true) → ∀ H', Grow H H' → Q .non H') ∧ (endL told gains = false → ∀ m H', m ∈ nums told → (∀ y, y ∈ nums told → y ≤ m) → Grow H H' → Q (.int m) H')
  | _ => False
def t_Growth_greatest_2 (K : PySem.W.Frag) (A : Ad) : TS := (tRet (tC .non))
def t_Growth_greatest_3 (K : PySem.W.Frag) (A : Ad) : TS := (tRet (tCB (cMax K) (tCons (tLc (iSeq K (tVar 1)) (gName 2) tYes (tCB cInt (tCons (tVar 2) tNil)) [2]) tNil)))
def t_Growth_greatest_1 (K : PySem.W.Frag) (A : Ad) : TS := (tSeq (tIfS (tOr (tTest (tOp (oEq K) (tVar 1) (tLst tNil))) (tB (tProp A.c_Growth (sp_Growth_is_endless K A) [] E0 (tVar 0)))) (t_Growth_greatest_2 K A) tNext) (t_Growth_greatest_3 K A))
def t_Growth_greatest_0 (K : PySem.W.Frag) (A : Ad) : TS := (tSeq (tAsg (tLc (iSeq K (tFld K (tVar 0) "told")) (gName 2) (tTest (tOp oIsNot (tVar 2) (tC .non))) (tVar 2) [2]) (gName 1)) (t_Growth_greatest_1 K A))

theorem nums_len (told : List (Option Int)) : (nums told).length ≤ told.length := List.length_filterMap_le ..
theorem pure_Growth_greatest {K : PySem.W.Frag} {A : Ad} {vs : List V} {H : Hp} {Q : VK} {E : XK} (F : KF K A) (h : sp_Growth_greatest K A vs H Q E) : (t_Growth_greatest_0 K A) { nx := fun _ H' => Q .non H', rt := Q } (start ["self", "numbers", "value"] vs) H := by
  unfold sp_Growth_greatest at h
  split at h
  · rename_i a
    obtain ⟨told, gains, hG, hp, hpl, hs, k1, k2⟩ := h
    obtain ⟨dx, t, g, h1, h2, h3⟩ := id hG
    have hsz : sizeLine = 16777216 := rfl
    show (t_Growth_greatest_0 K A) _ [some (.ref a), none, none] H
    refine st_seq (st_asg (lc_ev ?_))
    unfold iSeq
    (refine evE ?P91 (fun Q h => ?h91) ?_; (case h91 => (simp only [tTest, tOp, tUn, tVar, tC, tCB, tCons, tNil, tAnd, tOr, tNot, tB, tTup, tLst, tIf, tAndV, tOrV, tNotV, tSl, tPart, tNoPart, tCall, iIx_ref, oGt_int, oMod_int, oFdiv_int, oAdd_int, oAdd_str, oSub_int, oMul_int, oLt_int, oGe_int, oLe_int, oPow_int, uNeg_int, oEq_int, oEq_str, oEq_bl, oNe_int, oNe_str, oNe_bl, cInt_int, cInt_bl, cAbs_int, cLen_ref, cList_ref, stL_ref, gName, gSub, gTup, gCons, gNil, rdSeq, List.getElem?_cons_zero, List.getElem?_cons_succ, List.set_cons_zero, List.set_cons_succ, List.cons_append, List.nil_append, Option.some.injEq, exists_eq_left', V.bl.injEq, V.int.injEq, V.ref.injEq, atI_0, atI_1, atI_2, setI_1, setI_2, Bool.not_true, Bool.not_false, Bool.false_eq_true, if_false, if_true, tFld_eq, fldR_eq h1 F.cl F.ut rfl]; exact h)))
    refine jok_sq h2.sq fun J hJ => ?_
    refine lc_filter hJ (fun j => (told.getD j none).isSome) (fun j => oV (told.getD j none)) (by rw [List.length_map]; omega) (fun j hj H' g' R hR => ?_) (fun j hj hpj H' g' R hR => ?_) (fun D H1 g1 hD hd => ?_) (by exact fun x => rfl)
    · rw [List.length_map] at hj
      rw [getD_map_oV hj]
      (refine evT ?P83 (fun Q h => ?h83) ?_; (case h83 => (simp only [tTest, tOp, tUn, tVar, tC, tCB, tCons, tNil, tAnd, tOr, tNot, tB, tTup, tLst, tIf, tAndV, tOrV, tNotV, tSl, tPart, tNoPart, tCall, iIx_ref, oGt_int, oMod_int, oFdiv_int, oAdd_int, oAdd_str, oSub_int, oMul_int, oLt_int, oGe_int, oLe_int, oPow_int, uNeg_int, oEq_int, oEq_str, oEq_bl, oNe_int, oNe_str, oNe_bl, cInt_int, cInt_bl, cAbs_int, cLen_ref, cList_ref, stL_ref, gName, gSub, gTup, gCons, gNil, rdSeq, List.getElem?_cons_zero, List.getElem?_cons_succ, List.set_cons_zero, List.set_cons_succ, List.cons_append, List.nil_append, Option.some.injEq, exists_eq_left', V.bl.injEq, V.int.injEq, V.ref.injEq, atI_0, atI_1, atI_2, setI_1, setI_2, Bool.not_true, Bool.not_false, Bool.false_eq_true, if_false, if_true, wipe, oIsNot_oV]; exact h)); (try dsimp only [gName, tNext, List.set_cons_zero, List.set_cons_succ]))
      exact hR _ .refl
    · rw [List.length_map] at hj
      rw [getD_map_oV hj]
      (refine evE ?P84 (fun Q h => ?h84) ?_; (case h84 => (simp only [tTest, tOp, tUn, tVar, tC, tCB, tCons, tNil, tAnd, tOr, tNot, tB, tTup, tLst, tIf, tAndV, tOrV, tNotV, tSl, tPart, tNoPart, tCall, iIx_ref, oGt_int, oMod_int, oFdiv_int, oAdd_int, oAdd_str, oSub_int, oMul_int, oLt_int, oGe_int, oLe_int, oPow_int, uNeg_int, oEq_int, oEq_str, oEq_bl, oNe_int, oNe_str, oNe_bl, cInt_int, cInt_bl, cAbs_int, cLen_ref, cList_ref, stL_ref, gName, gSub, gTup, gCons, gNil, rdSeq, List.getElem?_cons_zero, List.getElem?_cons_succ, List.set_cons_zero, List.set_cons_succ, List.cons_append, List.nil_append, Option.some.injEq, exists_eq_left', V.bl.injEq, V.int.injEq, V.ref.injEq, atI_0, atI_1, atI_2, setI_1, setI_2, Bool.not_true, Bool.not_false, Bool.false_eq_true, if_false, if_true, wipe]; exact h)); (try dsimp only [gName, tNext, List.set_cons_zero, List.set_cons_succ]))
      exact hR _ .refl
    (try dsimp only [gName, tNext, List.set_cons_zero, List.set_cons_succ])
    have hn : H1 D = some (.lst ((nums told).map V.int)) := by rw [hd, List.length_map, resF_list told none (·.isSome) oV, nums_map]
    refine st_seq (st_if ?_)
    (refine evT ?P85 (fun Q h => ?h85) ?_; (case h85 => (simp only [tTest, tOp, tUn, tVar, tC, tCB, tCons, tNil, tAnd, tOr, tNot, tB, tTup, tLst, tIf, tAndV, tOrV, tNotV, tSl, tPart, tNoPart, tCall, iIx_ref, oGt_int, oMod_int, oFdiv_int, oAdd_int, oAdd_str, oSub_int, oMul_int, oLt_int, oGe_int, oLe_int, oPow_int, uNeg_int, oEq_int, oEq_str, oEq_bl, oNe_int, oNe_str, oNe_bl, cInt_int, cInt_bl, cAbs_int, cLen_ref, cList_ref, stL_ref, gName, gSub, gTup, gCons, gNil, rdSeq, List.getElem?_cons_zero, List.getElem?_cons_succ, List.set_cons_zero, List.set_cons_succ, List.cons_append, List.nil_append, Option.some.injEq, exists_eq_left', V.bl.injEq, V.int.injEq, V.ref.injEq, atI_0, atI_1, atI_2, setI_1, setI_2, Bool.not_true, Bool.not_false, Bool.false_eq_true, if_false, if_true]; exact h)); (try dsimp only [gName, tNext, List.set_cons_zero, List.set_cons_succ]))
    refine ⟨by show 0 ≤ sizeLine; decide, fun e he => ?_⟩
    have g2 := Grow.new (o := .lst []) he
    refine eq_nil (g2 _ _ hn) upd_same ⟨_, rfl, ?_⟩
    by_cases hem : nums told = []
    · rw [hem]
      refine if_yes ?_
      (try dsimp only [gName, tNext, List.set_cons_zero, List.set_cons_succ])
      (refine if_yes ?_; (try dsimp only [gName, tNext, List.set_cons_zero, List.set_cons_succ]))
      refine st_ret ?_
      (refine evE ?P86 (fun Q h => ?h86) ?_; (case h86 => (simp only [tTest, tOp, tUn, tVar, tC, tCB, tCons, tNil, tAnd, tOr, tNot, tB, tTup, tLst, tIf, tAndV, tOrV, tNotV, tSl, tPart, tNoPart, tCall, iIx_ref, oGt_int, oMod_int, oFdiv_int, oAdd_int, oAdd_str, oSub_int, oMul_int, oLt_int, oGe_int, oLe_int, oPow_int, uNeg_int, oEq_int, oEq_str, oEq_bl, oNe_int, oNe_str, oNe_bl, cInt_int, cInt_bl, cAbs_int, cLen_ref, cList_ref, stL_ref, gName, gSub, gTup, gCons, gNil, rdSeq, List.getElem?_cons_zero, List.getElem?_cons_succ, List.set_cons_zero, List.set_cons_succ, List.cons_append, List.nil_append, Option.some.injEq, exists_eq_left', V.bl.injEq, V.int.injEq, V.ref.injEq, atI_0, atI_1, atI_2, setI_1, setI_2, Bool.not_true, Bool.not_false, Bool.false_eq_true, if_false, if_true]; exact h)); (try dsimp only [gName, tNext, List.set_cons_zero, List.set_cons_succ]))
      exact k1 (.inl hem) _ (g1.trans g2)
    · have he2 : (nums told).isEmpty = false := by rw [List.isEmpty_eq_false_iff]; exact hem
      rw [he2]
      refine if_no ?_
      have g12 := g1.trans g2
      simp only [tTest, tOp, tUn, tVar, tC, tCB, tCons, tNil, tAnd, tOr, tNot, tB, tTup, tLst, tIf, tAndV, tOrV, tNotV, tSl, tPart, tNoPart, tCall, iIx_ref, oGt_int, oMod_int, oFdiv_int, oAdd_int, oAdd_str, oSub_int, oMul_int, oLt_int, oGe_int, oLe_int, oPow_int, uNeg_int, oEq_int, oEq_str, oEq_bl, oNe_int, oNe_str, oNe_bl, cInt_int, cInt_bl, cAbs_int, cLen_ref, cList_ref, stL_ref, gName, gSub, gTup, gCons, gNil, rdSeq, List.getElem?_cons_zero, List.getElem?_cons_succ, List.set_cons_zero, List.set_cons_succ, List.cons_append, List.nil_append, Option.some.injEq, exists_eq_left', V.bl.injEq, V.int.injEq, V.ref.injEq, atI_0, atI_1, atI_2, setI_1, setI_2, Bool.not_true, Bool.not_false, Bool.false_eq_true, if_false, if_true, tProp_eq]
      refine prG (hG.grow g12) ⟨told, gains, hG.grow g12, hp, hpl, hs, fun H3 g3 => ⟨_, rfl, ?_⟩⟩
      have g13 := g12.trans g3
      cases hen : endL told gains with
      | true =>
        (refine if_yes ?_; (try dsimp only [gName, tNext, List.set_cons_zero, List.set_cons_succ]))
        refine st_ret ?_
        (refine evE ?P87 (fun Q h => ?h87) ?_; (case h87 => (simp only [tTest, tOp, tUn, tVar, tC, tCB, tCons, tNil, tAnd, tOr, tNot, tB, tTup, tLst, tIf, tAndV, tOrV, tNotV, tSl, tPart, tNoPart, tCall, iIx_ref, oGt_int, oMod_int, oFdiv_int, oAdd_int, oAdd_str, oSub_int, oMul_int, oLt_int, oGe_int, oLe_int, oPow_int, uNeg_int, oEq_int, oEq_str, oEq_bl, oNe_int, oNe_str, oNe_bl, cInt_int, cInt_bl, cAbs_int, cLen_ref, cList_ref, stL_ref, gName, gSub, gTup, gCons, gNil, rdSeq, List.getElem?_cons_zero, List.getElem?_cons_succ, List.set_cons_zero, List.set_cons_succ, List.cons_append, List.nil_append, Option.some.injEq, exists_eq_left', V.bl.injEq, V.int.injEq, V.ref.injEq, atI_0, atI_1, atI_2, setI_1, setI_2, Bool.not_true, Bool.not_false, Bool.false_eq_true, if_false, if_true]; exact h)); (try dsimp only [gName, tNext, List.set_cons_zero, List.set_cons_succ]))
        exact k1 (.inr hen) _ g13
      | false =>
        (refine if_no ?_; (try dsimp only [gName, tNext, List.set_cons_zero, List.set_cons_succ]))
        have hn3 := g3 _ _ (g2 _ _ hn)
        have hnl := nums_len told
        refine st_ret ?_
        (refine evE ?P92 (fun Q h => ?h92) ?_; (case h92 => (simp only [tTest, tOp, tUn, tVar, tC, tCB, tCons, tNil, tAnd, tOr, tNot, tB, tTup, tLst, tIf, tAndV, tOrV, tNotV, tSl, tPart, tNoPart, tCall, iIx_ref, oGt_int, oMod_int, oFdiv_int, oAdd_int, oAdd_str, oSub_int, oMul_int, oLt_int, oGe_int, oLe_int, oPow_int, uNeg_int, oEq_int, oEq_str, oEq_bl, oNe_int, oNe_str, oNe_bl, cInt_int, cInt_bl, cAbs_int, cLen_ref, cList_ref, stL_ref, gName, gSub, gTup, gCons, gNil, rdSeq, List.getElem?_cons_zero, List.getElem?_cons_succ, List.set_cons_zero, List.set_cons_succ, List.cons_append, List.nil_append, Option.some.injEq, exists_eq_left', V.bl.injEq, V.int.injEq, V.ref.injEq, atI_0, atI_1, atI_2, setI_1, setI_2, Bool.not_true, Bool.not_false, Bool.false_eq_true, if_false, if_true]; exact h)))
        refine lc_ev ?_
        unfold iSeq
        (refine evE ?P93 (fun Q h => ?h93) ?_; (case h93 => (simp only [tTest, tOp, tUn, tVar, tC, tCB, tCons, tNil, tAnd, tOr, tNot, tB, tTup, tLst, tIf, tAndV, tOrV, tNotV, tSl, tPart, tNoPart, tCall, iIx_ref, oGt_int, oMod_int, oFdiv_int, oAdd_int, oAdd_str, oSub_int, oMul_int, oLt_int, oGe_int, oLe_int, oPow_int, uNeg_int, oEq_int, oEq_str, oEq_bl, oNe_int, oNe_str, oNe_bl, cInt_int, cInt_bl, cAbs_int, cLen_ref, cList_ref, stL_ref, gName, gSub, gTup, gCons, gNil, rdSeq, List.getElem?_cons_zero, List.getElem?_cons_succ, List.set_cons_zero, List.set_cons_succ, List.cons_append, List.nil_append, Option.some.injEq, exists_eq_left', V.bl.injEq, V.int.injEq, V.ref.injEq, atI_0, atI_1, atI_2, setI_1, setI_2, Bool.not_true, Bool.not_false, Bool.false_eq_true, if_false, if_true]; exact h)))
        refine jok_sq (.l hn3) fun J hJ => ?_
        refine lc_map hJ (fun j => .int ((nums told).getD j 0)) (by rw [List.length_map]; omega) (fun j hj H' g' R hR => ?_) (fun D2 H4 g4 hD2 hd2 => ?_) (by exact fun x => rfl)
        · rw [List.length_map] at hj
          rw [getD_map_int hj]
          (refine evE ?P88 (fun Q h => ?h88) ?_; (case h88 => (simp only [tTest, tOp, tUn, tVar, tC, tCB, tCons, tNil, tAnd, tOr, tNot, tB, tTup, tLst, tIf, tAndV, tOrV, tNotV, tSl, tPart, tNoPart, tCall, iIx_ref, oGt_int, oMod_int, oFdiv_int, oAdd_int, oAdd_str, oSub_int, oMul_int, oLt_int, oGe_int, oLe_int, oPow_int, uNeg_int, oEq_int, oEq_str, oEq_bl, oNe_int, oNe_str, oNe_bl, cInt_int, cInt_bl, cAbs_int, cLen_ref, cList_ref, stL_ref, gName, gSub, gTup, gCons, gNil, rdSeq, List.getElem?_cons_zero, List.getElem?_cons_succ, List.set_cons_zero, List.set_cons_succ, List.cons_append, List.nil_append, Option.some.injEq, exists_eq_left', V.bl.injEq, V.int.injEq, V.ref.injEq, atI_0, atI_1, atI_2, setI_1, setI_2, Bool.not_true, Bool.not_false, Bool.false_eq_true, if_false, if_true, wipe]; exact h)); (try dsimp only [gName, tNext, List.set_cons_zero, List.set_cons_succ]))
          exact hR _ .refl
        refine ⟨nums told, by rw [hd2, List.length_map, map_list (nums told) 0], hem, fun m hm hmx => ?_⟩
        exact k2 hen m H4 hm hmx (g13.trans g4)
  · exact h.elim

end HG

namespace HG
open PySem L2
def sp_need_integer (K : PySem.W.Frag) (A : Ad) : Sp := fun vs H Q _ => match vs with
  | [.int _] => Q .non H
  | _ => False
theorem need_int {K : PySem.W.Frag} {A : Ad} {i : Int} {H : Hp} {Q : VK} {E : XK} : sp_need_integer K A [.int i] H Q E = Q .non H := rfl
def t_need_integer_1 (K : PySem.W.Frag) (A : Ad) : TS := tNever
def t_need_integer_0 (K : PySem.W.Frag) (A : Ad) : TS := (tIfS (tNot (tB (tCall (sp_is_integer K A) [] E0 (tCons (tVar 0) tNil)))) (t_need_integer_1 K A) tNext)

theorem pure_need_integer {K : PySem.W.Frag} {A : Ad} {vs : List V} {H : Hp} {Q : VK} {E : XK} (h : sp_need_integer K A vs H Q E) : (t_need_integer_0 K A) { nx := fun _ H' => Q .non H', rt := Q } (start ["number"] vs) H := by
  unfold sp_need_integer at h
  split at h
  · show (t_need_integer_0 K A) _ [some (.int _)] H
    refine st_if ?_
    (refine evT ?P94 (fun Q h => ?h94) ?_; (case h94 => (simp only [tTest, tOp, tUn, tVar, tC, tCB, tCons, tNil, tAnd, tOr, tNot, tB, tTup, tLst, tIf, tAndV, tOrV, tNotV, tSl, tPart, tNoPart, tCall, iIx_ref, oGt_int, oMod_int, oFdiv_int, oAdd_int, oAdd_str, oSub_int, oMul_int, oLt_int, oGe_int, oLe_int, oPow_int, uNeg_int, oEq_int, oEq_str, oEq_bl, oNe_int, oNe_str, oNe_bl, cInt_int, cInt_bl, cAbs_int, cLen_ref, cList_ref, stL_ref, gName, gSub, gTup, gCons, gNil, rdSeq, List.getElem?_cons_zero, List.getElem?_cons_succ, List.set_cons_zero, List.set_cons_succ, List.cons_append, List.nil_append, Option.some.injEq, exists_eq_left', V.bl.injEq, V.int.injEq, V.ref.injEq, atI_0, atI_1, atI_2, setI_1, setI_2, Bool.not_true, Bool.not_false, Bool.false_eq_true, if_false, if_true, is_int]; exact h)); (try dsimp only [gName, tNext, List.set_cons_zero, List.set_cons_succ]))
    (refine if_no ?_; (try dsimp only [gName, tNext, List.set_cons_zero, List.set_cons_succ]))
    exact h
  · exact h.elim
theorem nfT_len (told : List (Option Int)) (gains : List Int) : (nfT told gains).length ≤ told.length := by
  unfold nfT
  rw [List.length_take]
  omega
theorem bnA_one {x : Int} (h : Bn 100000 x) : BnA [x] := fun y hy => by rw [List.mem_singleton] at hy; rw [hy]; exact h
def spNew (K : PySem.W.Frag) (A : Ad) (told : List (Option Int)) (gains : List Int) (H : Hp) (Q : VK) : Prop := ∀ c H', Grow H H' → GrAt K A H' c (nfT told gains) (nfG told gains) → Q (.ref c) H'
def sp_Growth_constant (K : PySem.W.Frag) (A : Ad) : Sp := fun vs H Q _ => match vs with
  | [.int k] => spNew K A [some k] [0] H Q
  | _ => False
def sp_Growth_ramp (K : PySem.W.Frag) (A : Ad) : Sp := fun vs H Q _ => match vs with
  | [.int gain, .int begin] => Bn 100000 gain ∧ spNew K A [some begin] [gain] H Q
  | _ => False
def sp_Growth_none (K : PySem.W.Frag) (A : Ad) : Sp := fun vs H Q _ => match vs with
  | [] => spNew K A [none] [0] H Q
  | _ => False
def t_Growth_constant_1 (K : PySem.W.Frag) (A : Ad) : TS := (tRet (tMake A.c_Growth (sp_Growth_init K A) [.ref A.dt_Growth_init_0] E0 (tCons (tLst (tCons (tVar 0) tNil)) tNil)))
def t_Growth_constant_0 (K : PySem.W.Frag) (A : Ad) : TS := (tSeq (tDrop (tCall (sp_need_integer K A) [] E0 (tCons (tVar 0) tNil))) (t_Growth_constant_1 K A))

def t_Growth_ramp_2 (K : PySem.W.Frag) (A : Ad) : TS := (tRet (tMake A.c_Growth (sp_Growth_init K A) [] E0 (tCons (tLst (tCons (tVar 1) tNil)) (tCons (tLst (tCons (tVar 0) tNil)) tNil))))
def t_Growth_ramp_1 (K : PySem.W.Frag) (A : Ad) : TS := (tSeq (tDrop (tCall (sp_need_integer K A) [] E0 (tCons (tVar 1) tNil))) (t_Growth_ramp_2 K A))
def t_Growth_ramp_0 (K : PySem.W.Frag) (A : Ad) : TS := (tSeq (tDrop (tCall (sp_need_integer K A) [] E0 (tCons (tVar 0) tNil))) (t_Growth_ramp_1 K A))

def t_Growth_none_0 (K : PySem.W.Frag) (A : Ad) : TS := (tRet (tMake A.c_Growth (sp_Growth_init K A) [.ref A.dt_Growth_init_0] E0 (tCons (tLst (tCons (tC .non) tNil)) tNil)))

theorem pure_Growth_constant {K : PySem.W.Frag} {A : Ad} {vs : List V} {H : Hp} {Q : VK} {E : XK} (F : KF K A) (h : sp_Growth_constant K A vs H Q E) : (t_Growth_constant_0 K A) { nx := fun _ H' => Q .non H', rt := Q } (start ["k"] vs) H := by
  unfold sp_Growth_constant at h
  split at h
  · rename_i i
    show (t_Growth_constant_0 K A) _ [some (.int i)] H
    refine st_seq (st_drop ?_)
    (refine evE ?P95 (fun Q h => ?h95) ?_; (case h95 => (simp only [tTest, tOp, tUn, tVar, tC, tCB, tCons, tNil, tAnd, tOr, tNot, tB, tTup, tLst, tIf, tAndV, tOrV, tNotV, tSl, tPart, tNoPart, tCall, iIx_ref, oGt_int, oMod_int, oFdiv_int, oAdd_int, oAdd_str, oSub_int, oMul_int, oLt_int, oGe_int, oLe_int, oPow_int, uNeg_int, oEq_int, oEq_str, oEq_bl, oNe_int, oNe_str, oNe_bl, cInt_int, cInt_bl, cAbs_int, cLen_ref, cList_ref, stL_ref, gName, gSub, gTup, gCons, gNil, rdSeq, List.getElem?_cons_zero, List.getElem?_cons_succ, List.set_cons_zero, List.set_cons_succ, List.cons_append, List.nil_append, Option.some.injEq, exists_eq_left', V.bl.injEq, V.int.injEq, V.ref.injEq, atI_0, atI_1, atI_2, setI_1, setI_2, Bool.not_true, Bool.not_false, Bool.false_eq_true, if_false, if_true, need_int]; exact h)); (try dsimp only [gName, tNext, List.set_cons_zero, List.set_cons_succ]))
    refine st_ret ?_
    (refine evE ?P96 (fun Q h => ?h96) ?_; (case h96 => (simp only [tTest, tOp, tUn, tVar, tC, tCB, tCons, tNil, tAnd, tOr, tNot, tB, tTup, tLst, tIf, tAndV, tOrV, tNotV, tSl, tPart, tNoPart, tCall, iIx_ref, oGt_int, oMod_int, oFdiv_int, oAdd_int, oAdd_str, oSub_int, oMul_int, oLt_int, oGe_int, oLe_int, oPow_int, uNeg_int, oEq_int, oEq_str, oEq_bl, oNe_int, oNe_str, oNe_bl, cInt_int, cInt_bl, cAbs_int, cLen_ref, cList_ref, stL_ref, gName, gSub, gTup, gCons, gNil, rdSeq, List.getElem?_cons_zero, List.getElem?_cons_succ, List.set_cons_zero, List.set_cons_succ, List.cons_append, List.nil_append, Option.some.injEq, exists_eq_left', V.bl.injEq, V.int.injEq, V.ref.injEq, atI_0, atI_1, atI_2, setI_1, setI_2, Bool.not_true, Bool.not_false, Bool.false_eq_true, if_false, if_true, tMake_eq]; exact h)); (try dsimp only [gName, tNext, List.set_cons_zero, List.set_cons_succ]))
    refine ⟨by show 1 ≤ sizeLine; decide, fun l hl => ?_⟩
    exact mkG (told := [some i]) (gains := [0]) (.l upd_same) (F.dt _).sq (by decide) (by decide) (by show 1 ≤ 1; decide) (by show 1 ≤ 100000; decide) (bnA_one (lt_pow_big (n := 0) (by decide))) (Nat.le_trans (nfT_len _ _) (by show 1 ≤ 4000; decide)) fun c H' g hc => h c H' ((Grow.new hl).trans g) hc
  · exact h.elim
theorem pure_Growth_ramp {K : PySem.W.Frag} {A : Ad} {vs : List V} {H : Hp} {Q : VK} {E : XK} (F : KF K A) (h : sp_Growth_ramp K A vs H Q E) : (t_Growth_ramp_0 K A) { nx := fun _ H' => Q .non H', rt := Q } (start ["gain", "begin"] vs) H := by
  unfold sp_Growth_ramp at h
  split at h
  · rename_i i j
    obtain ⟨bi, h⟩ := h
    show (t_Growth_ramp_0 K A) _ [some (.int i), some (.int j)] H
    refine st_seq (st_drop ?_)
    (refine evE ?P97 (fun Q h => ?h97) ?_; (case h97 => (simp only [tTest, tOp, tUn, tVar, tC, tCB, tCons, tNil, tAnd, tOr, tNot, tB, tTup, tLst, tIf, tAndV, tOrV, tNotV, tSl, tPart, tNoPart, tCall, iIx_ref, oGt_int, oMod_int, oFdiv_int, oAdd_int, oAdd_str, oSub_int, oMul_int, oLt_int, oGe_int, oLe_int, oPow_int, uNeg_int, oEq_int, oEq_str, oEq_bl, oNe_int, oNe_str, oNe_bl, cInt_int, cInt_bl, cAbs_int, cLen_ref, cList_ref, stL_ref, gName, gSub, gTup, gCons, gNil, rdSeq, List.getElem?_cons_zero, List.getElem?_cons_succ, List.set_cons_zero, List.set_cons_succ, List.cons_append, List.nil_append, Option.some.injEq, exists_eq_left', V.bl.injEq, V.int.injEq, V.ref.injEq, atI_0, atI_1, atI_2, setI_1, setI_2, Bool.not_true, Bool.not_false, Bool.false_eq_true, if_false, if_true, need_int]; exact h)); (try dsimp only [gName, tNext, List.set_cons_zero, List.set_cons_succ]))
    refine st_seq (st_drop ?_)
    (refine evE ?P98 (fun Q h => ?h98) ?_; (case h98 => (simp only [tTest, tOp, tUn, tVar, tC, tCB, tCons, tNil, tAnd, tOr, tNot, tB, tTup, tLst, tIf, tAndV, tOrV, tNotV, tSl, tPart, tNoPart, tCall, iIx_ref, oGt_int, oMod_int, oFdiv_int, oAdd_int, oAdd_str, oSub_int, oMul_int, oLt_int, oGe_int, oLe_int, oPow_int, uNeg_int, oEq_int, oEq_str, oEq_bl, oNe_int, oNe_str, oNe_bl, cInt_int, cInt_bl, cAbs_int, cLen_ref, cList_ref, stL_ref, gName, gSub, gTup, gCons, gNil, rdSeq, List.getElem?_cons_zero, List.getElem?_cons_succ, List.set_cons_zero, List.set_cons_succ, List.cons_append, List.nil_append, Option.some.injEq, exists_eq_left', V.bl.injEq, V.int.injEq, V.ref.injEq, atI_0, atI_1, atI_2, setI_1, setI_2, Bool.not_true, Bool.not_false, Bool.false_eq_true, if_false, if_true, need_int]; exact h)); (try dsimp only [gName, tNext, List.set_cons_zero, List.set_cons_succ]))
    refine st_ret ?_
    (refine evE ?P99 (fun Q h => ?h99) ?_; (case h99 => (simp only [tTest, tOp, tUn, tVar, tC, tCB, tCons, tNil, tAnd, tOr, tNot, tB, tTup, tLst, tIf, tAndV, tOrV, tNotV, tSl, tPart, tNoPart, tCall, iIx_ref, oGt_int, oMod_int, oFdiv_int, oAdd_int, oAdd_str, oSub_int, oMul_int, oLt_int, oGe_int, oLe_int, oPow_int, uNeg_int, oEq_int, oEq_str, oEq_bl, oNe_int, oNe_str, oNe_bl, cInt_int, cInt_bl, cAbs_int, cLen_ref, cList_ref, stL_ref, gName, gSub, gTup, gCons, gNil, rdSeq, List.getElem?_cons_zero, List.getElem?_cons_succ, List.set_cons_zero, List.set_cons_succ, List.cons_append, List.nil_append, Option.some.injEq, exists_eq_left', V.bl.injEq, V.int.injEq, V.ref.injEq, atI_0, atI_1, atI_2, setI_1, setI_2, Bool.not_true, Bool.not_false, Bool.false_eq_true, if_false, if_true, tMake_eq]; exact h)); (try dsimp only [gName, tNext, List.set_cons_zero, List.set_cons_succ]))
    refine ⟨by show 1 ≤ sizeLine; decide, fun l hl => ⟨by show 1 ≤ sizeLine; decide, fun l2 hl2 => ?_⟩⟩
    exact mkG (told := [some j]) (gains := [i]) (.l ((Grow.new hl2) _ _ upd_same)) (.l upd_same) (by show 0 < 1; decide) (by show 1 ≤ 60; decide) (by show 1 ≤ 1; decide) (by show 1 ≤ 100000; decide) (bnA_one bi) (Nat.le_trans (nfT_len _ _) (by show 1 ≤ 4000; decide)) fun c H' g hc => h c H' ((Grow.new hl).trans ((Grow.new hl2).trans g)) hc
  · exact h.elim
theorem pure_Growth_none {K : PySem.W.Frag} {A : Ad} {vs : List V} {H : Hp} {Q : VK} {E : XK} (F : KF K A) (h : sp_Growth_none K A vs H Q E) : (t_Growth_none_0 K A) { nx := fun _ H' => Q .non H', rt := Q } (start [] vs) H := by
  unfold sp_Growth_none at h
  split at h
  · show (t_Growth_none_0 K A) _ [] H
    refine st_ret ?_
    (refine evE ?P100 (fun Q h => ?h100) ?_; (case h100 => (simp only [tTest, tOp, tUn, tVar, tC, tCB, tCons, tNil, tAnd, tOr, tNot, tB, tTup, tLst, tIf, tAndV, tOrV, tNotV, tSl, tPart, tNoPart, tCall, iIx_ref, oGt_int, oMod_int, oFdiv_int, oAdd_int, oAdd_str, oSub_int, oMul_int, oLt_int, oGe_int, oLe_int, oPow_int, uNeg_int, oEq_int, oEq_str, oEq_bl, oNe_int, oNe_str, oNe_bl, cInt_int, cInt_bl, cAbs_int, cLen_ref, cList_ref, stL_ref, gName, gSub, gTup, gCons, gNil, rdSeq, List.getElem?_cons_zero, List.getElem?_cons_succ, List.set_cons_zero, List.set_cons_succ, List.cons_append, List.nil_append, Option.some.injEq, exists_eq_left', V.bl.injEq, V.int.injEq, V.ref.injEq, atI_0, atI_1, atI_2, setI_1, setI_2, Bool.not_true, Bool.not_false, Bool.false_eq_true, if_false, if_true, tMake_eq]; exact h)); (try dsimp only [gName, tNext, List.set_cons_zero, List.set_cons_succ]))
    refine ⟨by show 1 ≤ sizeLine; decide, fun l hl => ?_⟩
    exact mkG (told := [none]) (gains := [0]) (.l upd_same) (F.dt _).sq (by decide) (by decide) (by show 1 ≤ 1; decide) (by show 1 ≤ 100000; decide) (bnA_one (lt_pow_big (n := 0) (by decide))) (Nat.le_trans (nfT_len _ _) (by show 1 ≤ 4000; decide)) fun c H' g hc => h c H' ((Grow.new hl).trans g) hc
  · exact h.elim
def sp_shared_multiple (K : PySem.W.Frag) (A : Ad) : Sp := fun vs H Q _ => match vs with
  | [.int a, .int b] => 0 < a ∧ 0 < b ∧ Bn 8000 a ∧ Bn 8000 b ∧ Q (.int (a / (Int.gcd a b : Int) * b)) H
  | _ => False
def t_shared_multiple_2 (K : PySem.W.Frag) (A : Ad) : TS := (tPar 2 3 (tCons (tOp oMod (tVar 3) (tVar 2)) (tCons (tVar 2) tNil)))
def t_shared_multiple_3 (K : PySem.W.Frag) (A : Ad) : TS := (tRet (tOp oMul (tOp oFdiv (tVar 0) (tVar 3)) (tVar 1)))
def t_shared_multiple_1 (K : PySem.W.Frag) (A : Ad) : TS := (tSeq (tWhile (tTest (tOp oGt (tVar 2) (tC (.int 0)))) (t_shared_multiple_2 K A)) (t_shared_multiple_3 K A))
def t_shared_multiple_0 (K : PySem.W.Frag) (A : Ad) : TS := (tSeq (tPar 2 3 (tCons (tVar 0) (tCons (tVar 1) tNil))) (t_shared_multiple_1 K A))

theorem pure_shared_multiple {K : PySem.W.Frag} {A : Ad} {vs : List V} {H : Hp} {Q : VK} {E : XK} (h : sp_shared_multiple K A vs H Q E) : (t_shared_multiple_0 K A) { nx := fun _ H' => Q .non H', rt := Q } (start ["one", "other", "low", "high"] vs) H := by
  unfold sp_shared_multiple at h
  split at h
  · rename_i a b
    obtain ⟨ha, hb, ba, bb, k⟩ := h
    show (t_shared_multiple_0 K A) _ [some (.int a), some (.int b), none, none] H
    refine st_seq ?_
    unfold tPar
    (refine evA ?P101 (fun Q h => ?h101) ?_; (case h101 => (simp only [tTest, tOp, tUn, tVar, tC, tCB, tCons, tNil, tAnd, tOr, tNot, tB, tTup, tLst, tIf, tAndV, tOrV, tNotV, tSl, tPart, tNoPart, tCall, iIx_ref, oGt_int, oMod_int, oFdiv_int, oAdd_int, oAdd_str, oSub_int, oMul_int, oLt_int, oGe_int, oLe_int, oPow_int, uNeg_int, oEq_int, oEq_str, oEq_bl, oNe_int, oNe_str, oNe_bl, cInt_int, cInt_bl, cAbs_int, cLen_ref, cList_ref, stL_ref, gName, gSub, gTup, gCons, gNil, rdSeq, List.getElem?_cons_zero, List.getElem?_cons_succ, List.set_cons_zero, List.set_cons_succ, List.cons_append, List.nil_append, Option.some.injEq, exists_eq_left', V.bl.injEq, V.int.injEq, V.ref.injEq, atI_0, atI_1, atI_2, setI_1, setI_2, Bool.not_true, Bool.not_false, Bool.false_eq_true, if_false, if_true]; exact h)); (try dsimp only [gName, tNext, List.set_cons_zero, List.set_cons_succ]))
    refine ⟨_, _, rfl, ?_⟩
    (try dsimp only [gName, tNext, List.set_cons_zero, List.set_cons_succ])
    refine st_seq ?_
    unfold tWhile
    refine ⟨fun m σ H' => H' = H ∧ ∃ x y : Int, σ = [some (.int a), some (.int b), some (.int x), some (.int y)] ∧ 0 ≤ x ∧ 0 < y ∧ Int.gcd x y = Int.gcd a b ∧ x.toNat = m, ⟨a.toNat, rfl, _, _, rfl, by omega, hb, rfl, rfl⟩, ?_⟩
    rintro m σ H' ⟨rfl, x, y, rfl, hx, hy, hg, hm⟩
    (refine evT ?P102 (fun Q h => ?h102) ?_; (case h102 => (simp only [tTest, tOp, tUn, tVar, tC, tCB, tCons, tNil, tAnd, tOr, tNot, tB, tTup, tLst, tIf, tAndV, tOrV, tNotV, tSl, tPart, tNoPart, tCall, iIx_ref, oGt_int, oMod_int, oFdiv_int, oAdd_int, oAdd_str, oSub_int, oMul_int, oLt_int, oGe_int, oLe_int, oPow_int, uNeg_int, oEq_int, oEq_str, oEq_bl, oNe_int, oNe_str, oNe_bl, cInt_int, cInt_bl, cAbs_int, cLen_ref, cList_ref, stL_ref, gName, gSub, gTup, gCons, gNil, rdSeq, List.getElem?_cons_zero, List.getElem?_cons_succ, List.set_cons_zero, List.set_cons_succ, List.cons_append, List.nil_append, Option.some.injEq, exists_eq_left', V.bl.injEq, V.int.injEq, V.ref.injEq, atI_0, atI_1, atI_2, setI_1, setI_2, Bool.not_true, Bool.not_false, Bool.false_eq_true, if_false, if_true]; exact h)); (try dsimp only [gName, tNext, List.set_cons_zero, List.set_cons_succ]))
    refine ite_dec (fun hc => ?_) (fun hc => ?_)
    · refine ⟨fun σ' H'' => H'' = H' ∧ σ' = [some (.int a), some (.int b), some (.int (y % x)), some (.int x)], ?_, ?_⟩
      · rintro σ' H'' ⟨rfl, rfl⟩
        have z := mod_range (x := y) hc
        exact ⟨(y % x).toNat, by omega, rfl, y % x, x, rfl, z.1, hc, by rw [Int.gcd_comm, gcd_step hc, Int.gcd_comm, hg], rfl⟩
      · show tPar _ _ _ _ _ _
        unfold tPar
        (refine evA ?P103 (fun Q h => ?h103) ?_; (case h103 => (simp only [tTest, tOp, tUn, tVar, tC, tCB, tCons, tNil, tAnd, tOr, tNot, tB, tTup, tLst, tIf, tAndV, tOrV, tNotV, tSl, tPart, tNoPart, tCall, iIx_ref, oGt_int, oMod_int, oFdiv_int, oAdd_int, oAdd_str, oSub_int, oMul_int, oLt_int, oGe_int, oLe_int, oPow_int, uNeg_int, oEq_int, oEq_str, oEq_bl, oNe_int, oNe_str, oNe_bl, cInt_int, cInt_bl, cAbs_int, cLen_ref, cList_ref, stL_ref, gName, gSub, gTup, gCons, gNil, rdSeq, List.getElem?_cons_zero, List.getElem?_cons_succ, List.set_cons_zero, List.set_cons_succ, List.cons_append, List.nil_append, Option.some.injEq, exists_eq_left', V.bl.injEq, V.int.injEq, V.ref.injEq, atI_0, atI_1, atI_2, setI_1, setI_2, Bool.not_true, Bool.not_false, Bool.false_eq_true, if_false, if_true]; exact h)); (try dsimp only [gName, tNext, List.set_cons_zero, List.set_cons_succ]))
        refine ⟨hc, _, _, rfl, rfl, rfl⟩
    · refine st_ret ?_
      (refine evE ?P104 (fun Q h => ?h104) ?_; (case h104 => (simp only [tTest, tOp, tUn, tVar, tC, tCB, tCons, tNil, tAnd, tOr, tNot, tB, tTup, tLst, tIf, tAndV, tOrV, tNotV, tSl, tPart, tNoPart, tCall, iIx_ref, oGt_int, oMod_int, oFdiv_int, oAdd_int, oAdd_str, oSub_int, oMul_int, oLt_int, oGe_int, oLe_int, oPow_int, uNeg_int, oEq_int, oEq_str, oEq_bl, oNe_int, oNe_str, oNe_bl, cInt_int, cInt_bl, cAbs_int, cLen_ref, cList_ref, stL_ref, gName, gSub, gTup, gCons, gNil, rdSeq, List.getElem?_cons_zero, List.getElem?_cons_succ, List.set_cons_zero, List.set_cons_succ, List.cons_append, List.nil_append, Option.some.injEq, exists_eq_left', V.bl.injEq, V.int.injEq, V.ref.injEq, atI_0, atI_1, atI_2, setI_1, setI_2, Bool.not_true, Bool.not_false, Bool.false_eq_true, if_false, if_true]; exact h)); (try dsimp only [gName, tNext, List.set_cons_zero, List.set_cons_succ]))
      have e : x = 0 := by omega
      subst e
      rw [Int.gcd_zero_left] at hg
      have e : y = (Int.gcd a b : Int) := by omega
      rw [e]
      have h2 : ((Int.gcd a b : Nat) : Int).natAbs ≤ b.natAbs := by
        have z : Int.gcd a b ∣ b.natAbs := Nat.gcd_dvd_right _ _
        have := Nat.le_of_dvd (by omega) z
        omega
      have h3 := Bn.log (m := 7999) (bb.le h2)
      exact ⟨⟨by omega, by omega⟩, ba.div.mulok bb, k⟩
  · exact h.elim

end HG

namespace HG
open PySem L2
def sp_Growth_slope (K : PySem.W.Frag) (A : Ad) : Sp := fun vs H Q _ => match vs with
  | [.ref a] => ∃ told gains, GrAt K A H a told gains ∧ 0 < gains.length ∧ gains.length ≤ told.length ∧ told.length ≤ 100000 ∧ (∀ x ∈ lastL told gains, Bn 1000 x) ∧
      (lastL told gains = [] → ∀ H', Grow H H' → Q .non H') ∧ (∀ best, best ∈ lastL told gains → (∀ y, y ∈ lastL told gains → y ≤ best) → ∀ t H', Grow H H' → H' t = some (.tup [.int (best / (Int.gcd best gains.length : Int)), .int ((gains.length : Int) / (Int.gcd best gains.length : Int))]) → Q (.ref t) H')
  | _ => False
def t_Growth_slope_1 (K : PySem.W.Frag) (A : Ad) : TS := (tRet (tC .non))
def t_Growth_slope_4 (K : PySem.W.Frag) (A : Ad) : TS := (tRet (tTup (tCons (tOp oFdiv (tVar 1) (tVar 2)) (tCons (tOp oFdiv (tProp A.c_Growth (sp_Growth_period K A) [] E0 (tVar 0)) (tVar 2)) tNil))))
def t_Growth_slope_3 (K : PySem.W.Frag) (A : Ad) : TS := (tSeq (tAsg (tIf (tTest (tOp (oNe K) (tVar 1) (tC (.int 0)))) (tOp oFdiv (tOp oMul (tCB cAbs (tCons (tVar 1) tNil)) (tProp A.c_Growth (sp_Growth_period K A) [] E0 (tVar 0))) (tCall (sp_shared_multiple K A) [] E0 (tCons (tCB cAbs (tCons (tVar 1) tNil)) (tCons (tProp A.c_Growth (sp_Growth_period K A) [] E0 (tVar 0)) tNil)))) (tProp A.c_Growth (sp_Growth_period K A) [] E0 (tVar 0))) (gName 2)) (t_Growth_slope_4 K A))
def t_Growth_slope_2 (K : PySem.W.Frag) (A : Ad) : TS := (tSeq (tAsg (tCB (cMax K) (tCons (tLc (iSeq K (tProp A.c_Growth (sp_Growth_lasting K A) [] E0 (tVar 0))) (gName 3) tYes (tCB cInt (tCons (tVar 3) tNil)) [3]) tNil)) (gName 1)) (t_Growth_slope_3 K A))
def t_Growth_slope_0 (K : PySem.W.Frag) (A : Ad) : TS := (tSeq (tIfS (tTest (tOp (oEq K) (tProp A.c_Growth (sp_Growth_lasting K A) [] E0 (tVar 0)) (tLst tNil))) (t_Growth_slope_1 K A) tNext) (t_Growth_slope_2 K A))

theorem lastL_mem {told : List (Option Int)} {gains : List Int} {x : Int} (hp : 0 < gains.length) (h : x ∈ lastL told gains) : x ∈ gains := by
  unfold lastL at h
  obtain ⟨j, hj, rfl⟩ := List.mem_map.mp h
  exact getD_mem (Nat.mod_lt _ hp)
theorem slope_shared {b p : Int} (hb : 0 < b) (hp : 0 < p) : b * p / (b / (Int.gcd b p : Int) * p) = (Int.gcd b p : Int) := by
  have hg := gcd_pos (p := b) hp
  have e : (Int.gcd b p : Int) * (b / (Int.gcd b p : Int)) = b := Int.mul_ediv_cancel' (Int.gcd_dvd_left _ _)
  generalize (Int.gcd b p : Int) = g at *
  generalize hq : b / g = q at *
  have hq0 : 0 < q := by
    by_cases z : 0 < q
    · exact z
    · have := Int.mul_nonpos_of_nonneg_of_nonpos (Int.le_of_lt hg) (Int.not_lt.mp z)
      omega
  rw [← e, Int.mul_assoc]
  exact Int.mul_ediv_cancel _ (by have := Int.mul_pos hq0 hp; omega)
theorem pure_Growth_slope {K : PySem.W.Frag} {A : Ad} {vs : List V} {H : Hp} {Q : VK} {E : XK} (F : KF K A) (h : sp_Growth_slope K A vs H Q E) : (t_Growth_slope_0 K A) { nx := fun _ H' => Q .non H', rt := Q } (start ["self", "best", "shared", "gain"] vs) H := by
  unfold sp_Growth_slope at h
  split at h
  · rename_i a
    obtain ⟨told, gains, hG, hp, hpl, hs, bg, k1, k2⟩ := h
    have hsz : sizeLine = 16777216 := rfl
    have hll := lastL_len told gains
    show (t_Growth_slope_0 K A) _ [some (.ref a), none, none, none] H
    refine st_seq (st_if ?_)
    (refine evT ?P105 (fun Q h => ?h105) ?_; (case h105 => (simp only [tTest, tOp, tUn, tVar, tC, tCB, tCons, tNil, tAnd, tOr, tNot, tB, tTup, tLst, tIf, tAndV, tOrV, tNotV, tSl, tPart, tNoPart, tCall, iIx_ref, oGt_int, oMod_int, oFdiv_int, oAdd_int, oAdd_str, oSub_int, oMul_int, oLt_int, oGe_int, oLe_int, oPow_int, uNeg_int, oEq_int, oEq_str, oEq_bl, oNe_int, oNe_str, oNe_bl, cInt_int, cInt_bl, cAbs_int, cLen_ref, cList_ref, stL_ref, gName, gSub, gTup, gCons, gNil, rdSeq, List.getElem?_cons_zero, List.getElem?_cons_succ, List.set_cons_zero, List.set_cons_succ, List.cons_append, List.nil_append, Option.some.injEq, exists_eq_left', V.bl.injEq, V.int.injEq, V.ref.injEq, atI_0, atI_1, atI_2, setI_1, setI_2, Bool.not_true, Bool.not_false, Bool.false_eq_true, if_false, if_true, tProp_eq]; exact h)); (try dsimp only [gName, tNext, List.set_cons_zero, List.set_cons_succ]))
    refine prG hG ⟨told, gains, hG, hp, hpl, hs, fun l H1 g1 hl => ?_⟩
    refine ⟨by show 0 ≤ sizeLine; decide, fun e he => ?_⟩
    have g2 := Grow.new (o := .lst []) he
    refine eq_nil (g2 _ _ hl) upd_same ⟨_, rfl, ?_⟩
    have g12 := g1.trans g2
    by_cases hem : lastL told gains = []
    · rw [hem]
      (refine if_yes ?_; (try dsimp only [gName, tNext, List.set_cons_zero, List.set_cons_succ]))
      refine st_ret ?_
      (refine evE ?P106 (fun Q h => ?h106) ?_; (case h106 => (simp only [tTest, tOp, tUn, tVar, tC, tCB, tCons, tNil, tAnd, tOr, tNot, tB, tTup, tLst, tIf, tAndV, tOrV, tNotV, tSl, tPart, tNoPart, tCall, iIx_ref, oGt_int, oMod_int, oFdiv_int, oAdd_int, oAdd_str, oSub_int, oMul_int, oLt_int, oGe_int, oLe_int, oPow_int, uNeg_int, oEq_int, oEq_str, oEq_bl, oNe_int, oNe_str, oNe_bl, cInt_int, cInt_bl, cAbs_int, cLen_ref, cList_ref, stL_ref, gName, gSub, gTup, gCons, gNil, rdSeq, List.getElem?_cons_zero, List.getElem?_cons_succ, List.set_cons_zero, List.set_cons_succ, List.cons_append, List.nil_append, Option.some.injEq, exists_eq_left', V.bl.injEq, V.int.injEq, V.ref.injEq, atI_0, atI_1, atI_2, setI_1, setI_2, Bool.not_true, Bool.not_false, Bool.false_eq_true, if_false, if_true]; exact h)); (try dsimp only [gName, tNext, List.set_cons_zero, List.set_cons_succ]))
      exact k1 hem _ g12
    · have he2 : (lastL told gains).isEmpty = false := by rw [List.isEmpty_eq_false_iff]; exact hem
      rw [he2]
      (refine if_no ?_; (try dsimp only [gName, tNext, List.set_cons_zero, List.set_cons_succ]))
      refine st_seq (st_asg ?_)
      (refine evE ?P112 (fun Q h => ?h112) ?_; (case h112 => (simp only [tTest, tOp, tUn, tVar, tC, tCB, tCons, tNil, tAnd, tOr, tNot, tB, tTup, tLst, tIf, tAndV, tOrV, tNotV, tSl, tPart, tNoPart, tCall, iIx_ref, oGt_int, oMod_int, oFdiv_int, oAdd_int, oAdd_str, oSub_int, oMul_int, oLt_int, oGe_int, oLe_int, oPow_int, uNeg_int, oEq_int, oEq_str, oEq_bl, oNe_int, oNe_str, oNe_bl, cInt_int, cInt_bl, cAbs_int, cLen_ref, cList_ref, stL_ref, gName, gSub, gTup, gCons, gNil, rdSeq, List.getElem?_cons_zero, List.getElem?_cons_succ, List.set_cons_zero, List.set_cons_succ, List.cons_append, List.nil_append, Option.some.injEq, exists_eq_left', V.bl.injEq, V.int.injEq, V.ref.injEq, atI_0, atI_1, atI_2, setI_1, setI_2, Bool.not_true, Bool.not_false, Bool.false_eq_true, if_false, if_true]; exact h)))
      refine lc_ev ?_
      unfold iSeq
      (refine evE ?P113 (fun Q h => ?h113) ?_; (case h113 => (simp only [tTest, tOp, tUn, tVar, tC, tCB, tCons, tNil, tAnd, tOr, tNot, tB, tTup, tLst, tIf, tAndV, tOrV, tNotV, tSl, tPart, tNoPart, tCall, iIx_ref, oGt_int, oMod_int, oFdiv_int, oAdd_int, oAdd_str, oSub_int, oMul_int, oLt_int, oGe_int, oLe_int, oPow_int, uNeg_int, oEq_int, oEq_str, oEq_bl, oNe_int, oNe_str, oNe_bl, cInt_int, cInt_bl, cAbs_int, cLen_ref, cList_ref, stL_ref, gName, gSub, gTup, gCons, gNil, rdSeq, List.getElem?_cons_zero, List.getElem?_cons_succ, List.set_cons_zero, List.set_cons_succ, List.cons_append, List.nil_append, Option.some.injEq, exists_eq_left', V.bl.injEq, V.int.injEq, V.ref.injEq, atI_0, atI_1, atI_2, setI_1, setI_2, Bool.not_true, Bool.not_false, Bool.false_eq_true, if_false, if_true, tProp_eq]; exact h)))
      refine prG (hG.grow g12) ⟨told, gains, hG.grow g12, hp, hpl, hs, fun l2 H2 g3 hl2 => ?_⟩
      refine jok_sq (.l hl2) fun J hJ => ?_
      refine lc_map hJ (fun j => .int ((lastL told gains).getD j 0)) (by rw [List.length_map]; omega) (fun j hj H' g' R hR => ?_) (fun D H3 g4 hD hd => ?_) (by exact fun x => rfl)
      · rw [List.length_map] at hj
        rw [getD_map_int hj]
        (refine evE ?P107 (fun Q h => ?h107) ?_; (case h107 => (simp only [tTest, tOp, tUn, tVar, tC, tCB, tCons, tNil, tAnd, tOr, tNot, tB, tTup, tLst, tIf, tAndV, tOrV, tNotV, tSl, tPart, tNoPart, tCall, iIx_ref, oGt_int, oMod_int, oFdiv_int, oAdd_int, oAdd_str, oSub_int, oMul_int, oLt_int, oGe_int, oLe_int, oPow_int, uNeg_int, oEq_int, oEq_str, oEq_bl, oNe_int, oNe_str, oNe_bl, cInt_int, cInt_bl, cAbs_int, cLen_ref, cList_ref, stL_ref, gName, gSub, gTup, gCons, gNil, rdSeq, List.getElem?_cons_zero, List.getElem?_cons_succ, List.set_cons_zero, List.set_cons_succ, List.cons_append, List.nil_append, Option.some.injEq, exists_eq_left', V.bl.injEq, V.int.injEq, V.ref.injEq, atI_0, atI_1, atI_2, setI_1, setI_2, Bool.not_true, Bool.not_false, Bool.false_eq_true, if_false, if_true, wipe]; exact h)); (try dsimp only [gName, tNext, List.set_cons_zero, List.set_cons_succ]))
        exact hR _ .refl
      refine ⟨lastL told gains, by rw [hd, List.length_map, map_list (lastL told gains) 0], hem, fun best hb hmx => ?_⟩
      have g14 := g12.trans (g3.trans g4)
      have hG3 := hG.grow g14
      have bb : Bn 1000 best := bg _ hb
      have bp : Bn 20 (gains.length : Int) := bn_nat (by omega)
      (try dsimp only [gName, tNext, List.set_cons_zero, List.set_cons_succ])
      have go : ∀ s : Int, s = (Int.gcd best gains.length : Int) → t_Growth_slope_4 K A { nx := fun x H' => Q .non H', rt := Q } [some (.ref a), some (.int best), some (.int s), none] H3 := by
        rintro s rfl
        have hg := gcd_pos (p := best) (q := (gains.length : Int)) (by omega)
        have hlg : ((Int.gcd best gains.length : Nat) : Int).natAbs.log2 < 9000 := by
          have z : Int.gcd best gains.length ∣ (gains.length : Int).natAbs := Nat.gcd_dvd_right _ _
          have h1 := Nat.le_of_dvd (by omega) z
          have := Bn.log (m := 19) (bp.le (y := ((Int.gcd best gains.length : Nat) : Int)) (by rw [Int.natAbs_natCast]; exact h1))
          omega
        refine st_ret ?_
        (refine evE ?P108 (fun Q h => ?h108) ?_; (case h108 => (simp only [tTest, tOp, tUn, tVar, tC, tCB, tCons, tNil, tAnd, tOr, tNot, tB, tTup, tLst, tIf, tAndV, tOrV, tNotV, tSl, tPart, tNoPart, tCall, iIx_ref, oGt_int, oMod_int, oFdiv_int, oAdd_int, oAdd_str, oSub_int, oMul_int, oLt_int, oGe_int, oLe_int, oPow_int, uNeg_int, oEq_int, oEq_str, oEq_bl, oNe_int, oNe_str, oNe_bl, cInt_int, cInt_bl, cAbs_int, cLen_ref, cList_ref, stL_ref, gName, gSub, gTup, gCons, gNil, rdSeq, List.getElem?_cons_zero, List.getElem?_cons_succ, List.set_cons_zero, List.set_cons_succ, List.cons_append, List.nil_append, Option.some.injEq, exists_eq_left', V.bl.injEq, V.int.injEq, V.ref.injEq, atI_0, atI_1, atI_2, setI_1, setI_2, Bool.not_true, Bool.not_false, Bool.false_eq_true, if_false, if_true, tProp_eq]; exact h)); (try dsimp only [gName, tNext, List.set_cons_zero, List.set_cons_succ]))
        refine ⟨⟨hg, hlg⟩, prG hG3 ⟨told, gains, hG3, ?_⟩⟩
        simp only [tTest, tOp, tUn, tVar, tC, tCB, tCons, tNil, tAnd, tOr, tNot, tB, tTup, tLst, tIf, tAndV, tOrV, tNotV, tSl, tPart, tNoPart, tCall, iIx_ref, oGt_int, oMod_int, oFdiv_int, oAdd_int, oAdd_str, oSub_int, oMul_int, oLt_int, oGe_int, oLe_int, oPow_int, uNeg_int, oEq_int, oEq_str, oEq_bl, oNe_int, oNe_str, oNe_bl, cInt_int, cInt_bl, cAbs_int, cLen_ref, cList_ref, stL_ref, gName, gSub, gTup, gCons, gNil, rdSeq, List.getElem?_cons_zero, List.getElem?_cons_succ, List.set_cons_zero, List.set_cons_succ, List.cons_append, List.nil_append, Option.some.injEq, exists_eq_left', V.bl.injEq, V.int.injEq, V.ref.injEq, atI_0, atI_1, atI_2, setI_1, setI_2, Bool.not_true, Bool.not_false, Bool.false_eq_true, if_false, if_true]
        refine ⟨⟨hg, hlg⟩, by show 2 ≤ sizeLine; decide, fun t ht => ?_⟩
        exact k2 best hb hmx t _ (g14.trans (Grow.new ht)) upd_same
      refine st_seq (st_asg ?_)
      unfold tIf
      (refine evT ?P109 (fun Q h => ?h109) ?_; (case h109 => (simp only [tTest, tOp, tUn, tVar, tC, tCB, tCons, tNil, tAnd, tOr, tNot, tB, tTup, tLst, tIf, tAndV, tOrV, tNotV, tSl, tPart, tNoPart, tCall, iIx_ref, oGt_int, oMod_int, oFdiv_int, oAdd_int, oAdd_str, oSub_int, oMul_int, oLt_int, oGe_int, oLe_int, oPow_int, uNeg_int, oEq_int, oEq_str, oEq_bl, oNe_int, oNe_str, oNe_bl, cInt_int, cInt_bl, cAbs_int, cLen_ref, cList_ref, stL_ref, gName, gSub, gTup, gCons, gNil, rdSeq, List.getElem?_cons_zero, List.getElem?_cons_succ, List.set_cons_zero, List.set_cons_succ, List.cons_append, List.nil_append, Option.some.injEq, exists_eq_left', V.bl.injEq, V.int.injEq, V.ref.injEq, atI_0, atI_1, atI_2, setI_1, setI_2, Bool.not_true, Bool.not_false, Bool.false_eq_true, if_false, if_true]; exact h)); (try dsimp only [gName, tNext, List.set_cons_zero, List.set_cons_succ]))
      refine ite_ndec (fun hb0 => ?_) (fun hb0 => ?_)
      · (refine evE ?P110 (fun Q h => ?h110) ?_; (case h110 => (simp only [tTest, tOp, tUn, tVar, tC, tCB, tCons, tNil, tAnd, tOr, tNot, tB, tTup, tLst, tIf, tAndV, tOrV, tNotV, tSl, tPart, tNoPart, tCall, iIx_ref, oGt_int, oMod_int, oFdiv_int, oAdd_int, oAdd_str, oSub_int, oMul_int, oLt_int, oGe_int, oLe_int, oPow_int, uNeg_int, oEq_int, oEq_str, oEq_bl, oNe_int, oNe_str, oNe_bl, cInt_int, cInt_bl, cAbs_int, cLen_ref, cList_ref, stL_ref, gName, gSub, gTup, gCons, gNil, rdSeq, List.getElem?_cons_zero, List.getElem?_cons_succ, List.set_cons_zero, List.set_cons_succ, List.cons_append, List.nil_append, Option.some.injEq, exists_eq_left', V.bl.injEq, V.int.injEq, V.ref.injEq, atI_0, atI_1, atI_2, setI_1, setI_2, Bool.not_true, Bool.not_false, Bool.false_eq_true, if_false, if_true, tProp_eq]; exact h)); (try dsimp only [gName, tNext, List.set_cons_zero, List.set_cons_succ]))
        generalize hab : (if best < 0 then -best else best) = ab
        have hab0 : 0 < ab := by rw [← hab]; split <;> omega
        have bab : Bn 1000 ab := bb.le (by rw [← hab]; split <;> omega)
        have egc : Int.gcd ab gains.length = Int.gcd best gains.length := by
          rw [← hab]
          split
          · exact Int.neg_gcd
          · rfl
        refine prG hG3 ⟨told, gains, hG3, ?_⟩
        simp only [tTest, tOp, tUn, tVar, tC, tCB, tCons, tNil, tAnd, tOr, tNot, tB, tTup, tLst, tIf, tAndV, tOrV, tNotV, tSl, tPart, tNoPart, tCall, iIx_ref, oGt_int, oMod_int, oFdiv_int, oAdd_int, oAdd_str, oSub_int, oMul_int, oLt_int, oGe_int, oLe_int, oPow_int, uNeg_int, oEq_int, oEq_str, oEq_bl, oNe_int, oNe_str, oNe_bl, cInt_int, cInt_bl, cAbs_int, cLen_ref, cList_ref, stL_ref, gName, gSub, gTup, gCons, gNil, rdSeq, List.getElem?_cons_zero, List.getElem?_cons_succ, List.set_cons_zero, List.set_cons_succ, List.cons_append, List.nil_append, Option.some.injEq, exists_eq_left', V.bl.injEq, V.int.injEq, V.ref.injEq, atI_0, atI_1, atI_2, setI_1, setI_2, Bool.not_true, Bool.not_false, Bool.false_eq_true, if_false, if_true]
        refine ⟨bab.mulok bp, prG hG3 ⟨told, gains, hG3, ?_⟩⟩
        refine ⟨hab0, by omega, bab.up (by decide), bp.up (by decide), ?_⟩
        have hq : 0 < ab / (Int.gcd ab gains.length : Int) * (gains.length : Int) := by
          have hg := gcd_pos (p := ab) (q := (gains.length : Int)) (by omega)
          have e : (Int.gcd ab gains.length : Int) * (ab / (Int.gcd ab gains.length : Int)) = ab := Int.mul_ediv_cancel' (Int.gcd_dvd_left _ _)
          refine Int.mul_pos ?_ (by omega)
          by_cases z : 0 < ab / (Int.gcd ab gains.length : Int)
          · exact z
          · have := Int.mul_nonpos_of_nonneg_of_nonpos (Int.le_of_lt hg) (Int.not_lt.mp z)
            omega
        have bq : Bn 1020 (ab / (Int.gcd ab gains.length : Int) * (gains.length : Int)) := bab.div.mul bp
        simp only [tTest, tOp, tUn, tVar, tC, tCB, tCons, tNil, tAnd, tOr, tNot, tB, tTup, tLst, tIf, tAndV, tOrV, tNotV, tSl, tPart, tNoPart, tCall, iIx_ref, oGt_int, oMod_int, oFdiv_int, oAdd_int, oAdd_str, oSub_int, oMul_int, oLt_int, oGe_int, oLe_int, oPow_int, uNeg_int, oEq_int, oEq_str, oEq_bl, oNe_int, oNe_str, oNe_bl, cInt_int, cInt_bl, cAbs_int, cLen_ref, cList_ref, stL_ref, gName, gSub, gTup, gCons, gNil, rdSeq, List.getElem?_cons_zero, List.getElem?_cons_succ, List.set_cons_zero, List.set_cons_succ, List.cons_append, List.nil_append, Option.some.injEq, exists_eq_left', V.bl.injEq, V.int.injEq, V.ref.injEq, atI_0, atI_1, atI_2, setI_1, setI_2, Bool.not_true, Bool.not_false, Bool.false_eq_true, if_false, if_true]
        refine ⟨⟨hq, Nat.lt_of_le_of_lt (Bn.log (m := 1019) bq) (by decide)⟩, ?_⟩
        (try dsimp only [gName, tNext, List.set_cons_zero, List.set_cons_succ])
        exact go _ (by rw [slope_shared hab0 (by omega), egc])
      · (refine evE ?P111 (fun Q h => ?h111) ?_; (case h111 => (simp only [tTest, tOp, tUn, tVar, tC, tCB, tCons, tNil, tAnd, tOr, tNot, tB, tTup, tLst, tIf, tAndV, tOrV, tNotV, tSl, tPart, tNoPart, tCall, iIx_ref, oGt_int, oMod_int, oFdiv_int, oAdd_int, oAdd_str, oSub_int, oMul_int, oLt_int, oGe_int, oLe_int, oPow_int, uNeg_int, oEq_int, oEq_str, oEq_bl, oNe_int, oNe_str, oNe_bl, cInt_int, cInt_bl, cAbs_int, cLen_ref, cList_ref, stL_ref, gName, gSub, gTup, gCons, gNil, rdSeq, List.getElem?_cons_zero, List.getElem?_cons_succ, List.set_cons_zero, List.set_cons_succ, List.cons_append, List.nil_append, Option.some.injEq, exists_eq_left', V.bl.injEq, V.int.injEq, V.ref.injEq, atI_0, atI_1, atI_2, setI_1, setI_2, Bool.not_true, Bool.not_false, Bool.false_eq_true, if_false, if_true, tProp_eq]; exact h)); (try dsimp only [gName, tNext, List.set_cons_zero, List.set_cons_succ]))
        refine prG hG3 ⟨told, gains, hG3, ?_⟩
        exact go _ (by rw [hb0, Int.gcd_zero_left]; rfl)
  · exact h.elim

end HG

namespace HG
open PySem L2
theorem ints_of {R : Int → Prop} : ∀ {vs : List V}, (∀ v ∈ vs, ∃ x, v = .int x ∧ R x) → ∃ ns : List Int, vs = ns.map V.int ∧ ∀ n ∈ ns, R n
  | [], _ => ⟨[], rfl, fun n hn => (List.not_mem_nil hn).elim⟩
  | v :: r, h => by
    obtain ⟨x, rfl, hx⟩ := h v (List.mem_cons_self ..)
    obtain ⟨ns, rfl, hn⟩ := ints_of (vs := r) fun u hu => h u (List.mem_cons_of_mem _ hu)
    refine ⟨x :: ns, rfl, fun n hm => ?_⟩
    rcases List.mem_cons.mp hm with e | e
    · rw [e]; exact hx
    · exact hn n e
theorem opts_of {R : Option Int → Prop} : ∀ {vs : List V}, (∀ v ∈ vs, ∃ x, v = oV x ∧ R x) → ∃ ns : List (Option Int), vs = ns.map oV ∧ ∀ n ∈ ns, R n
  | [], _ => ⟨[], rfl, fun n hn => (List.not_mem_nil hn).elim⟩
  | v :: r, h => by
    obtain ⟨x, rfl, hx⟩ := h v (List.mem_cons_self ..)
    obtain ⟨ns, rfl, hn⟩ := opts_of (vs := r) fun u hu => h u (List.mem_cons_of_mem _ hu)
    refine ⟨x :: ns, rfl, fun n hm => ?_⟩
    rcases List.mem_cons.mp hm with e | e
    · rw [e]; exact hx
    · exact hn n e
def sp_law_told (K : PySem.W.Frag) (A : Ad) : Sp := fun vs H Q _ => match vs with
  | [.ref p] => ∃ l n, PenL H p l n ∧ n ≤ 900000 ∧ ∀ r t g told gains H', PenL H' p l (n + 30) → Keep p H H' → H' r = some (.tup [.ref t, .ref g]) → H' t = some (.lst (List.map oV told)) → H' g = some (.lst (List.map V.int gains)) → t ≠ p → g ≠ p → r ≠ p →
      0 < gains.length → gains.length ≤ 6 → gains.length ≤ told.length → told.length ≤ 9 → (∀ x ∈ gains, -3 ≤ x ∧ x ≤ 4) → (∀ o ∈ told, ∀ i, o = some i → -9 ≤ i ∧ i ≤ 30) → Q (.ref r) H'
  | _ => False
def t_law_told_2 (K : PySem.W.Frag) (A : Ad) : TS := (tRet (tTup (tCons (tLc (iRng1 (tCons (tVar 2) tNil)) (gName 3) tYes (tIf (tTest (tOp (oEq K) (tCall (sp_law_draw K A) [] E0 (tCons (tVar 0) (tCons (tC (.int 5)) tNil))) (tC (.int 0)))) (tC .non) (tOp oSub (tCall (sp_law_draw K A) [] E0 (tCons (tVar 0) (tCons (tC (.int 40)) tNil))) (tC (.int 9)))) [3]) (tCons (tVar 1) tNil))))
def t_law_told_1 (K : PySem.W.Frag) (A : Ad) : TS := (tSeq (tAsg (tOp oAdd (tCB (cLenE K) (tCons (tVar 1) tNil)) (tCall (sp_law_draw K A) [] E0 (tCons (tVar 0) (tCons (tC (.int 4)) tNil)))) (gName 2)) (t_law_told_2 K A))
def t_law_told_0 (K : PySem.W.Frag) (A : Ad) : TS := (tSeq (tAsg (tLc (iRng1 (tCons (tOp oAdd (tC (.int 1)) (tCall (sp_law_draw K A) [] E0 (tCons (tVar 0) (tCons (tC (.int 6)) tNil)))) tNil)) (gName 3) tYes (tOp oSub (tCall (sp_law_draw K A) [] E0 (tCons (tVar 0) (tCons (tC (.int 8)) tNil))) (tC (.int 3))) [3]) (gName 1)) (t_law_told_1 K A))

theorem pure_law_told {K : PySem.W.Frag} {A : Ad} {vs : List V} {H : Hp} {Q : VK} {E : XK} (h : sp_law_told K A vs H Q E) : (t_law_told_0 K A) { nx := fun _ H' => Q .non H', rt := Q } (start ["_law_pen_here", "_law_gains", "_law_many", "_law_turn"] vs) H := by
  unfold sp_law_told at h
  split at h
  · rename_i p
    obtain ⟨l, n, hp, hn, k⟩ := h
    have hsz : sizeLine = 16777216 := rfl
    show (t_law_told_0 K A) _ [some (.ref p), none, none, none] H
    refine st_seq (st_asg (lc_ev ?_))
    unfold iRng1
    (refine evA ?P117 (fun Q h => ?h117) ?_; (case h117 => (simp only [tTest, tOp, tUn, tVar, tC, tCB, tCons, tNil, tAnd, tOr, tNot, tB, tTup, tLst, tIf, tAndV, tOrV, tNotV, tSl, tPart, tNoPart, tCall, iIx_ref, oGt_int, oMod_int, oFdiv_int, oAdd_int, oAdd_str, oSub_int, oMul_int, oLt_int, oGe_int, oLe_int, oPow_int, uNeg_int, oEq_int, oEq_str, oEq_bl, oNe_int, oNe_str, oNe_bl, cInt_int, cInt_bl, cAbs_int, cLen_ref, cList_ref, stL_ref, gName, gSub, gTup, gCons, gNil, rdSeq, List.getElem?_cons_zero, List.getElem?_cons_succ, List.set_cons_zero, List.set_cons_succ, List.cons_append, List.nil_append, Option.some.injEq, exists_eq_left', V.bl.injEq, V.int.injEq, V.ref.injEq, atI_0, atI_1, atI_2, setI_1, setI_2, Bool.not_true, Bool.not_false, Bool.false_eq_true, if_false, if_true]; exact h)))
    refine ⟨l, n, hp, by omega, by decide, by decide, fun d H1 d0 d1 hp1 k1 => ?_⟩
    simp only [tTest, tOp, tUn, tVar, tC, tCB, tCons, tNil, tAnd, tOr, tNot, tB, tTup, tLst, tIf, tAndV, tOrV, tNotV, tSl, tPart, tNoPart, tCall, iIx_ref, oGt_int, oMod_int, oFdiv_int, oAdd_int, oAdd_str, oSub_int, oMul_int, oLt_int, oGe_int, oLe_int, oPow_int, uNeg_int, oEq_int, oEq_str, oEq_bl, oNe_int, oNe_str, oNe_bl, cInt_int, cInt_bl, cAbs_int, cLen_ref, cList_ref, stL_ref, gName, gSub, gTup, gCons, gNil, rdSeq, List.getElem?_cons_zero, List.getElem?_cons_succ, List.set_cons_zero, List.set_cons_succ, List.cons_append, List.nil_append, Option.some.injEq, exists_eq_left', V.bl.injEq, V.int.injEq, V.ref.injEq, atI_0, atI_1, atI_2, setI_1, setI_2, Bool.not_true, Bool.not_false, Bool.false_eq_true, if_false, if_true]
    refine ⟨_, rfl, by omega, by omega, ?_⟩
    obtain ⟨z1, z2, z3⟩ := keep_rng (p := p) (H1 := H1) (lo := 0) (n := (1 + d).toNat)
    refine lc_pen (fun v => ∃ x : Int, v = .int x ∧ (-3 ≤ x ∧ x ≤ 4)) 1 hp1 z1 z2 z3 (by omega) (fun j hj H' hp' k' R hR => ?_) (fun D H2 vs hvl hvs hp2 k2 hD hd => ?_) (by exact fun x => rfl)
    · (refine evE ?P114 (fun Q h => ?h114) ?_; (case h114 => (simp only [tTest, tOp, tUn, tVar, tC, tCB, tCons, tNil, tAnd, tOr, tNot, tB, tTup, tLst, tIf, tAndV, tOrV, tNotV, tSl, tPart, tNoPart, tCall, iIx_ref, oGt_int, oMod_int, oFdiv_int, oAdd_int, oAdd_str, oSub_int, oMul_int, oLt_int, oGe_int, oLe_int, oPow_int, uNeg_int, oEq_int, oEq_str, oEq_bl, oNe_int, oNe_str, oNe_bl, cInt_int, cInt_bl, cAbs_int, cLen_ref, cList_ref, stL_ref, gName, gSub, gTup, gCons, gNil, rdSeq, List.getElem?_cons_zero, List.getElem?_cons_succ, List.set_cons_zero, List.set_cons_succ, List.cons_append, List.nil_append, Option.some.injEq, exists_eq_left', V.bl.injEq, V.int.injEq, V.ref.injEq, atI_0, atI_1, atI_2, setI_1, setI_2, Bool.not_true, Bool.not_false, Bool.false_eq_true, if_false, if_true, wipe]; exact h)); (try dsimp only [gName, tNext, List.set_cons_zero, List.set_cons_succ]))
      refine ⟨l, _, hp', by omega, by decide, by decide, fun e H3 e0 e1 hp3 k3 => ?_⟩
      simp only [tTest, tOp, tUn, tVar, tC, tCB, tCons, tNil, tAnd, tOr, tNot, tB, tTup, tLst, tIf, tAndV, tOrV, tNotV, tSl, tPart, tNoPart, tCall, iIx_ref, oGt_int, oMod_int, oFdiv_int, oAdd_int, oAdd_str, oSub_int, oMul_int, oLt_int, oGe_int, oLe_int, oPow_int, uNeg_int, oEq_int, oEq_str, oEq_bl, oNe_int, oNe_str, oNe_bl, cInt_int, cInt_bl, cAbs_int, cLen_ref, cList_ref, stL_ref, gName, gSub, gTup, gCons, gNil, rdSeq, List.getElem?_cons_zero, List.getElem?_cons_succ, List.set_cons_zero, List.set_cons_succ, List.cons_append, List.nil_append, Option.some.injEq, exists_eq_left', V.bl.injEq, V.int.injEq, V.ref.injEq, atI_0, atI_1, atI_2, setI_1, setI_2, Bool.not_true, Bool.not_false, Bool.false_eq_true, if_false, if_true]
      exact hR _ _ ⟨_, rfl, by omega, by omega⟩ (hp3.up (by omega)) k3
    obtain ⟨gains, rfl, hgs⟩ := ints_of hvs
    rw [List.length_map] at hvl
    (try dsimp only [gName, tNext, List.set_cons_zero, List.set_cons_succ])
    have hDp : D ≠ p := hp1.fresh hD
    refine st_seq (st_asg ?_)
    (refine evE ?P115 (fun Q h => ?h115) ?_; (case h115 => (simp only [tTest, tOp, tUn, tVar, tC, tCB, tCons, tNil, tAnd, tOr, tNot, tB, tTup, tLst, tIf, tAndV, tOrV, tNotV, tSl, tPart, tNoPart, tCall, iIx_ref, oGt_int, oMod_int, oFdiv_int, oAdd_int, oAdd_str, oSub_int, oMul_int, oLt_int, oGe_int, oLe_int, oPow_int, uNeg_int, oEq_int, oEq_str, oEq_bl, oNe_int, oNe_str, oNe_bl, cInt_int, cInt_bl, cAbs_int, cLen_ref, cList_ref, stL_ref, gName, gSub, gTup, gCons, gNil, rdSeq, List.getElem?_cons_zero, List.getElem?_cons_succ, List.set_cons_zero, List.set_cons_succ, List.cons_append, List.nil_append, Option.some.injEq, exists_eq_left', V.bl.injEq, V.int.injEq, V.ref.injEq, atI_0, atI_1, atI_2, setI_1, setI_2, Bool.not_true, Bool.not_false, Bool.false_eq_true, if_false, if_true]; exact h)); (try dsimp only [gName, tNext, List.set_cons_zero, List.set_cons_succ]))
    refine lenE (.l hd) ?_
    rw [List.length_map]
    refine ⟨l, _, hp2, by omega, by decide, by decide, fun e H3 e0 e1 hp3 k3 => ?_⟩
    simp only [tTest, tOp, tUn, tVar, tC, tCB, tCons, tNil, tAnd, tOr, tNot, tB, tTup, tLst, tIf, tAndV, tOrV, tNotV, tSl, tPart, tNoPart, tCall, iIx_ref, oGt_int, oMod_int, oFdiv_int, oAdd_int, oAdd_str, oSub_int, oMul_int, oLt_int, oGe_int, oLe_int, oPow_int, uNeg_int, oEq_int, oEq_str, oEq_bl, oNe_int, oNe_str, oNe_bl, cInt_int, cInt_bl, cAbs_int, cLen_ref, cList_ref, stL_ref, gName, gSub, gTup, gCons, gNil, rdSeq, List.getElem?_cons_zero, List.getElem?_cons_succ, List.set_cons_zero, List.set_cons_succ, List.cons_append, List.nil_append, Option.some.injEq, exists_eq_left', V.bl.injEq, V.int.injEq, V.ref.injEq, atI_0, atI_1, atI_2, setI_1, setI_2, Bool.not_true, Bool.not_false, Bool.false_eq_true, if_false, if_true]
    (try dsimp only [gName, tNext, List.set_cons_zero, List.set_cons_succ])
    refine st_ret ?_
    (refine evE ?P118 (fun Q h => ?h118) ?_; (case h118 => (simp only [tTest, tOp, tUn, tVar, tC, tCB, tCons, tNil, tAnd, tOr, tNot, tB, tTup, tLst, tIf, tAndV, tOrV, tNotV, tSl, tPart, tNoPart, tCall, iIx_ref, oGt_int, oMod_int, oFdiv_int, oAdd_int, oAdd_str, oSub_int, oMul_int, oLt_int, oGe_int, oLe_int, oPow_int, uNeg_int, oEq_int, oEq_str, oEq_bl, oNe_int, oNe_str, oNe_bl, cInt_int, cInt_bl, cAbs_int, cLen_ref, cList_ref, stL_ref, gName, gSub, gTup, gCons, gNil, rdSeq, List.getElem?_cons_zero, List.getElem?_cons_succ, List.set_cons_zero, List.set_cons_succ, List.cons_append, List.nil_append, Option.some.injEq, exists_eq_left', V.bl.injEq, V.int.injEq, V.ref.injEq, atI_0, atI_1, atI_2, setI_1, setI_2, Bool.not_true, Bool.not_false, Bool.false_eq_true, if_false, if_true]; exact h)))
    refine lc_ev ?_
    unfold iRng1
    (refine evA ?P119 (fun Q h => ?h119) ?_; (case h119 => (simp only [tTest, tOp, tUn, tVar, tC, tCB, tCons, tNil, tAnd, tOr, tNot, tB, tTup, tLst, tIf, tAndV, tOrV, tNotV, tSl, tPart, tNoPart, tCall, iIx_ref, oGt_int, oMod_int, oFdiv_int, oAdd_int, oAdd_str, oSub_int, oMul_int, oLt_int, oGe_int, oLe_int, oPow_int, uNeg_int, oEq_int, oEq_str, oEq_bl, oNe_int, oNe_str, oNe_bl, cInt_int, cInt_bl, cAbs_int, cLen_ref, cList_ref, stL_ref, gName, gSub, gTup, gCons, gNil, rdSeq, List.getElem?_cons_zero, List.getElem?_cons_succ, List.set_cons_zero, List.set_cons_succ, List.cons_append, List.nil_append, Option.some.injEq, exists_eq_left', V.bl.injEq, V.int.injEq, V.ref.injEq, atI_0, atI_1, atI_2, setI_1, setI_2, Bool.not_true, Bool.not_false, Bool.false_eq_true, if_false, if_true]; exact h)))
    refine ⟨_, rfl, by omega, by omega, ?_⟩
    have hd3 := k3 _ _ hDp hd
    obtain ⟨z1, z2, z3⟩ := keep_rng (p := p) (H1 := H3) (lo := 0) (n := ((gains.length : Int) + e).toNat)
    refine lc_pen (fun v => ∃ x : Option Int, v = oV x ∧ ∀ i, x = some i → -9 ≤ i ∧ i ≤ 30) 2 hp3 z1 z2 z3 (by omega) (fun j hj H' hp' k' R hR => ?_) (fun D2 H4 vs hvl2 hvs2 hp4 k4 hD2 hd2 => ?_) (by exact fun x => rfl)
    · unfold tIf
      (refine evT ?P116 (fun Q h => ?h116) ?_; (case h116 => (simp only [tTest, tOp, tUn, tVar, tC, tCB, tCons, tNil, tAnd, tOr, tNot, tB, tTup, tLst, tIf, tAndV, tOrV, tNotV, tSl, tPart, tNoPart, tCall, iIx_ref, oGt_int, oMod_int, oFdiv_int, oAdd_int, oAdd_str, oSub_int, oMul_int, oLt_int, oGe_int, oLe_int, oPow_int, uNeg_int, oEq_int, oEq_str, oEq_bl, oNe_int, oNe_str, oNe_bl, cInt_int, cInt_bl, cAbs_int, cLen_ref, cList_ref, stL_ref, gName, gSub, gTup, gCons, gNil, rdSeq, List.getElem?_cons_zero, List.getElem?_cons_succ, List.set_cons_zero, List.set_cons_succ, List.cons_append, List.nil_append, Option.some.injEq, exists_eq_left', V.bl.injEq, V.int.injEq, V.ref.injEq, atI_0, atI_1, atI_2, setI_1, setI_2, Bool.not_true, Bool.not_false, Bool.false_eq_true, if_false, if_true, wipe]; exact h)); (try dsimp only [gName, tNext, List.set_cons_zero, List.set_cons_succ]))
      refine ⟨l, _, hp', by omega, by decide, by decide, fun u H5 u0 u1 hp5 k5 => ?_⟩
      simp only [tTest, tOp, tUn, tVar, tC, tCB, tCons, tNil, tAnd, tOr, tNot, tB, tTup, tLst, tIf, tAndV, tOrV, tNotV, tSl, tPart, tNoPart, tCall, iIx_ref, oGt_int, oMod_int, oFdiv_int, oAdd_int, oAdd_str, oSub_int, oMul_int, oLt_int, oGe_int, oLe_int, oPow_int, uNeg_int, oEq_int, oEq_str, oEq_bl, oNe_int, oNe_str, oNe_bl, cInt_int, cInt_bl, cAbs_int, cLen_ref, cList_ref, stL_ref, gName, gSub, gTup, gCons, gNil, rdSeq, List.getElem?_cons_zero, List.getElem?_cons_succ, List.set_cons_zero, List.set_cons_succ, List.cons_append, List.nil_append, Option.some.injEq, exists_eq_left', V.bl.injEq, V.int.injEq, V.ref.injEq, atI_0, atI_1, atI_2, setI_1, setI_2, Bool.not_true, Bool.not_false, Bool.false_eq_true, if_false, if_true]
      refine ite_dec (fun hc => ?_) (fun hc => ?_)
      · exact hR .non H5 ⟨none, rfl, fun i z => by cases z⟩ (hp5.up (by omega)) k5
      · refine ⟨_, rfl, l, _, hp5, by omega, by decide, by decide, fun w H6 w0 w1 hp6 k6 => ?_⟩
        simp only [tTest, tOp, tUn, tVar, tC, tCB, tCons, tNil, tAnd, tOr, tNot, tB, tTup, tLst, tIf, tAndV, tOrV, tNotV, tSl, tPart, tNoPart, tCall, iIx_ref, oGt_int, oMod_int, oFdiv_int, oAdd_int, oAdd_str, oSub_int, oMul_int, oLt_int, oGe_int, oLe_int, oPow_int, uNeg_int, oEq_int, oEq_str, oEq_bl, oNe_int, oNe_str, oNe_bl, cInt_int, cInt_bl, cAbs_int, cLen_ref, cList_ref, stL_ref, gName, gSub, gTup, gCons, gNil, rdSeq, List.getElem?_cons_zero, List.getElem?_cons_succ, List.set_cons_zero, List.set_cons_succ, List.cons_append, List.nil_append, Option.some.injEq, exists_eq_left', V.bl.injEq, V.int.injEq, V.ref.injEq, atI_0, atI_1, atI_2, setI_1, setI_2, Bool.not_true, Bool.not_false, Bool.false_eq_true, if_false, if_true]
        exact hR _ _ ⟨some (w - 9), rfl, fun i z => by cases z; omega⟩ (hp6.up (by omega)) (k5.trans k6)
    obtain ⟨told, rfl, hts⟩ := opts_of hvs2
    rw [List.length_map] at hvl2
    simp only [tTest, tOp, tUn, tVar, tC, tCB, tCons, tNil, tAnd, tOr, tNot, tB, tTup, tLst, tIf, tAndV, tOrV, tNotV, tSl, tPart, tNoPart, tCall, iIx_ref, oGt_int, oMod_int, oFdiv_int, oAdd_int, oAdd_str, oSub_int, oMul_int, oLt_int, oGe_int, oLe_int, oPow_int, uNeg_int, oEq_int, oEq_str, oEq_bl, oNe_int, oNe_str, oNe_bl, cInt_int, cInt_bl, cAbs_int, cLen_ref, cList_ref, stL_ref, gName, gSub, gTup, gCons, gNil, rdSeq, List.getElem?_cons_zero, List.getElem?_cons_succ, List.set_cons_zero, List.set_cons_succ, List.cons_append, List.nil_append, Option.some.injEq, exists_eq_left', V.bl.injEq, V.int.injEq, V.ref.injEq, atI_0, atI_1, atI_2, setI_1, setI_2, Bool.not_true, Bool.not_false, Bool.false_eq_true, if_false, if_true]
    refine ⟨by show 2 ≤ sizeLine; decide, fun r hr => ?_⟩
    have hD2p : D2 ≠ p := hp3.fresh hD2
    have gr := Grow.new (o := .tup [.ref D2, .ref D]) hr
    refine k r D2 D told gains _ ((hp4.grow gr).up (by omega)) ((k1.trans (k2.trans (k3.trans k4))).trans gr.keep) upd_same (gr _ _ hd2) (gr _ _ (k4 _ _ hDp hd3)) hD2p hDp (hp4.fresh hr) (by omega) (by omega) (by omega) (by omega) hgs hts
  · exact h.elim
end HG

namespace HG
open PySem L2
/-- a pair of told values and gains stands at r -/
structure PairAt (H : Hp) (r t g : Addr) (told : List (Option Int)) (gains : List Int) : Prop where
  hr : H r = some (.tup [.ref t, .ref g])
  ht : H t = some (.lst (told.map oV))
  hg : H g = some (.lst (gains.map V.int))
theorem PairAt.grow {H H' : Hp} {r t g : Addr} {told : List (Option Int)} {gains : List Int} (h : PairAt H r t g told gains) (k : Grow H H') : PairAt H' r t g told gains := ⟨k _ _ h.hr, k _ _ h.ht, k _ _ h.hg⟩
def endsL (told : List (Option Int)) (gains : List Int) : List Nat := ((List.range gains.length).filter fun j => (told.getD (told.length - gains.length + j) none).isSome).map fun j => told.length - gains.length + j
theorem lastL_ends (told : List (Option Int)) (gains : List Int) : lastL told gains = (endsL told gains).map fun n => gains.getD (n % gains.length) 0 := by
  unfold lastL endsL
  rw [List.map_map]
  rfl
def sp_law_lasting (K : PySem.W.Frag) (A : Ad) : Sp := fun vs H Q _ => match vs with
  | [.ref r] => ∃ t g told gains, PairAt H r t g told gains ∧ 0 < gains.length ∧ gains.length ≤ told.length ∧ told.length ≤ 10000 ∧ ∀ l H', Grow H H' → H' l = some (.lst ((lastL told gains).map V.int)) → Q (.ref l) H'
  | _ => False
def t_law_lasting_2 (K : PySem.W.Frag) (A : Ad) : TS := (tRet (tLc (iSeq K (tVar 3)) (gName 4) tYes (tOp (rIx K) (tVar 2) (tOp oMod (tCB cInt (tCons (tVar 4) tNil)) (tCB (cLenE K) (tCons (tVar 2) tNil)))) [4]))
def t_law_lasting_1 (K : PySem.W.Frag) (A : Ad) : TS := (tSeq (tAsg (tLc (iRng2 (tCons (tOp oSub (tCB (cLenE K) (tCons (tVar 1) tNil)) (tCB (cLenE K) (tCons (tVar 2) tNil))) (tCons (tCB (cLenE K) (tCons (tVar 1) tNil)) tNil))) (gName 4) (tTest (tOp oIsNot (tOp (rIx K) (tVar 1) (tVar 4)) (tC .non))) (tVar 4) [4]) (gName 3)) (t_law_lasting_2 K A))
def t_law_lasting_0 (K : PySem.W.Frag) (A : Ad) : TS := (tSeq (tAsg (tVar 0) (gTup K 2 (gCons (gName 1) (gCons (gName 2) gNil)))) (t_law_lasting_1 K A))

theorem pure_law_lasting {K : PySem.W.Frag} {A : Ad} {vs : List V} {H : Hp} {Q : VK} {E : XK} (h : sp_law_lasting K A vs H Q E) : (t_law_lasting_0 K A) { nx := fun _ H' => Q .non H', rt := Q } (start ["_law_pair", "_law_told_here", "_law_gains", "_law_ends", "_law_n"] vs) H := by
  unfold sp_law_lasting at h
  split at h
  · rename_i r
    obtain ⟨t, g, told, gains, hP, hp, hpl, hs, k⟩ := h
    have hsz : sizeLine = 16777216 := rfl
    show (t_law_lasting_0 K A) _ [some (.ref r), none, none, none, none] H
    refine st_seq (st_asg ?_)
    (refine evE ?P120 (fun Q h => ?h120) ?_; (case h120 => (simp only [tTest, tOp, tUn, tVar, tC, tCB, tCons, tNil, tAnd, tOr, tNot, tB, tTup, tLst, tIf, tAndV, tOrV, tNotV, tSl, tPart, tNoPart, tCall, iIx_ref, oGt_int, oMod_int, oFdiv_int, oAdd_int, oAdd_str, oSub_int, oMul_int, oLt_int, oGe_int, oLe_int, oPow_int, uNeg_int, oEq_int, oEq_str, oEq_bl, oNe_int, oNe_str, oNe_bl, cInt_int, cInt_bl, cAbs_int, cLen_ref, cList_ref, stL_ref, gName, gSub, gTup, gCons, gNil, rdSeq, List.getElem?_cons_zero, List.getElem?_cons_succ, List.set_cons_zero, List.set_cons_succ, List.cons_append, List.nil_append, Option.some.injEq, exists_eq_left', V.bl.injEq, V.int.injEq, V.ref.injEq, atI_0, atI_1, atI_2, setI_1, setI_2, Bool.not_true, Bool.not_false, Bool.false_eq_true, if_false, if_true]; exact h)); (try dsimp only [gName, tNext, List.set_cons_zero, List.set_cons_succ]))
    refine ⟨r, _, rfl, SqT.of hP.hr, rfl, ?_⟩
    refine ⟨_, _, rfl, _, _, rfl, rfl, ?_⟩
    show t_law_lasting_1 K A _ [some (.ref r), some (.ref t), some (.ref g), none, none] H
    refine st_seq (st_asg (lc_ev ?_))
    unfold iRng2
    (refine evA ?P124 (fun Q h => ?h124) ?_; (case h124 => (simp only [tTest, tOp, tUn, tVar, tC, tCB, tCons, tNil, tAnd, tOr, tNot, tB, tTup, tLst, tIf, tAndV, tOrV, tNotV, tSl, tPart, tNoPart, tCall, iIx_ref, oGt_int, oMod_int, oFdiv_int, oAdd_int, oAdd_str, oSub_int, oMul_int, oLt_int, oGe_int, oLe_int, oPow_int, uNeg_int, oEq_int, oEq_str, oEq_bl, oNe_int, oNe_str, oNe_bl, cInt_int, cInt_bl, cAbs_int, cLen_ref, cList_ref, stL_ref, gName, gSub, gTup, gCons, gNil, rdSeq, List.getElem?_cons_zero, List.getElem?_cons_succ, List.set_cons_zero, List.set_cons_succ, List.cons_append, List.nil_append, Option.some.injEq, exists_eq_left', V.bl.injEq, V.int.injEq, V.ref.injEq, atI_0, atI_1, atI_2, setI_1, setI_2, Bool.not_true, Bool.not_false, Bool.false_eq_true, if_false, if_true]; exact h)))
    refine lenE (.l hP.ht) ?_
    rw [List.length_map]
    refine lenE (.l hP.hg) ?_
    rw [List.length_map]
    simp only [tTest, tOp, tUn, tVar, tC, tCB, tCons, tNil, tAnd, tOr, tNot, tB, tTup, tLst, tIf, tAndV, tOrV, tNotV, tSl, tPart, tNoPart, tCall, iIx_ref, oGt_int, oMod_int, oFdiv_int, oAdd_int, oAdd_str, oSub_int, oMul_int, oLt_int, oGe_int, oLe_int, oPow_int, uNeg_int, oEq_int, oEq_str, oEq_bl, oNe_int, oNe_str, oNe_bl, cInt_int, cInt_bl, cAbs_int, cLen_ref, cList_ref, stL_ref, gName, gSub, gTup, gCons, gNil, rdSeq, List.getElem?_cons_zero, List.getElem?_cons_succ, List.set_cons_zero, List.set_cons_succ, List.cons_append, List.nil_append, Option.some.injEq, exists_eq_left', V.bl.injEq, V.int.injEq, V.ref.injEq, atI_0, atI_1, atI_2, setI_1, setI_2, Bool.not_true, Bool.not_false, Bool.false_eq_true, if_false, if_true]
    refine lenE (.l hP.ht) ?_
    rw [List.length_map]
    refine ⟨_, _, rfl, ⟨by omega, by omega, by omega, by omega⟩, ?_⟩
    have en : ((told.length : Int) - ((told.length : Int) - (gains.length : Int))).toNat = gains.length := by omega
    rw [en]
    have ej : ∀ j : Nat, (told.length : Int) - (gains.length : Int) + (j : Int) = ((told.length - gains.length + j : Nat) : Int) := fun j => by omega
    refine lc_filter jok_rng (fun j => (told.getD (told.length - gains.length + j) none).isSome) (fun j => .int ((told.length - gains.length + j : Nat) : Int)) (by omega) (fun j hj H' g' R hR => ?_) (fun j hj hpj H' g' R hR => ?_) (fun D H1 g1 hD hd => ?_) (by exact fun x => rfl)
    · (refine evT ?P121 (fun Q h => ?h121) ?_; (case h121 => (simp only [tTest, tOp, tUn, tVar, tC, tCB, tCons, tNil, tAnd, tOr, tNot, tB, tTup, tLst, tIf, tAndV, tOrV, tNotV, tSl, tPart, tNoPart, tCall, iIx_ref, oGt_int, oMod_int, oFdiv_int, oAdd_int, oAdd_str, oSub_int, oMul_int, oLt_int, oGe_int, oLe_int, oPow_int, uNeg_int, oEq_int, oEq_str, oEq_bl, oNe_int, oNe_str, oNe_bl, cInt_int, cInt_bl, cAbs_int, cLen_ref, cList_ref, stL_ref, gName, gSub, gTup, gCons, gNil, rdSeq, List.getElem?_cons_zero, List.getElem?_cons_succ, List.set_cons_zero, List.set_cons_succ, List.cons_append, List.nil_append, Option.some.injEq, exists_eq_left', V.bl.injEq, V.int.injEq, V.ref.injEq, atI_0, atI_1, atI_2, setI_1, setI_2, Bool.not_true, Bool.not_false, Bool.false_eq_true, if_false, if_true, wipe]; exact h)); (try dsimp only [gName, tNext, List.set_cons_zero, List.set_cons_succ]))
      rw [ej]
      refine ixE (.l (g' _ _ hP.ht)) (atI_map (d := none) (by omega)) ?_
      simp only [tTest, tOp, tUn, tVar, tC, tCB, tCons, tNil, tAnd, tOr, tNot, tB, tTup, tLst, tIf, tAndV, tOrV, tNotV, tSl, tPart, tNoPart, tCall, iIx_ref, oGt_int, oMod_int, oFdiv_int, oAdd_int, oAdd_str, oSub_int, oMul_int, oLt_int, oGe_int, oLe_int, oPow_int, uNeg_int, oEq_int, oEq_str, oEq_bl, oNe_int, oNe_str, oNe_bl, cInt_int, cInt_bl, cAbs_int, cLen_ref, cList_ref, stL_ref, gName, gSub, gTup, gCons, gNil, rdSeq, List.getElem?_cons_zero, List.getElem?_cons_succ, List.set_cons_zero, List.set_cons_succ, List.cons_append, List.nil_append, Option.some.injEq, exists_eq_left', V.bl.injEq, V.int.injEq, V.ref.injEq, atI_0, atI_1, atI_2, setI_1, setI_2, Bool.not_true, Bool.not_false, Bool.false_eq_true, if_false, if_true, oIsNot_oV]
      exact hR _ .refl
    · (refine evE ?P122 (fun Q h => ?h122) ?_; (case h122 => (simp only [tTest, tOp, tUn, tVar, tC, tCB, tCons, tNil, tAnd, tOr, tNot, tB, tTup, tLst, tIf, tAndV, tOrV, tNotV, tSl, tPart, tNoPart, tCall, iIx_ref, oGt_int, oMod_int, oFdiv_int, oAdd_int, oAdd_str, oSub_int, oMul_int, oLt_int, oGe_int, oLe_int, oPow_int, uNeg_int, oEq_int, oEq_str, oEq_bl, oNe_int, oNe_str, oNe_bl, cInt_int, cInt_bl, cAbs_int, cLen_ref, cList_ref, stL_ref, gName, gSub, gTup, gCons, gNil, rdSeq, List.getElem?_cons_zero, List.getElem?_cons_succ, List.set_cons_zero, List.set_cons_succ, List.cons_append, List.nil_append, Option.some.injEq, exists_eq_left', V.bl.injEq, V.int.injEq, V.ref.injEq, atI_0, atI_1, atI_2, setI_1, setI_2, Bool.not_true, Bool.not_false, Bool.false_eq_true, if_false, if_true, wipe]; exact h)); (try dsimp only [gName, tNext, List.set_cons_zero, List.set_cons_succ]))
      rw [ej]
      exact hR _ .refl
    have hD1 : H1 D = some (.lst ((endsL told gains).map fun n : Nat => V.int n)) := by
      rw [hd]
      unfold resF endsL
      rw [List.map_map]
      rfl
    have hel : (endsL told gains).length ≤ gains.length := by
      have := lastL_len told gains
      rw [lastL_ends, List.length_map] at this
      exact this
    (try dsimp only [gName, tNext, List.set_cons_zero, List.set_cons_succ])
    refine st_ret (lc_ev ?_)
    unfold iSeq
    (refine evE ?P125 (fun Q h => ?h125) ?_; (case h125 => (simp only [tTest, tOp, tUn, tVar, tC, tCB, tCons, tNil, tAnd, tOr, tNot, tB, tTup, tLst, tIf, tAndV, tOrV, tNotV, tSl, tPart, tNoPart, tCall, iIx_ref, oGt_int, oMod_int, oFdiv_int, oAdd_int, oAdd_str, oSub_int, oMul_int, oLt_int, oGe_int, oLe_int, oPow_int, uNeg_int, oEq_int, oEq_str, oEq_bl, oNe_int, oNe_str, oNe_bl, cInt_int, cInt_bl, cAbs_int, cLen_ref, cList_ref, stL_ref, gName, gSub, gTup, gCons, gNil, rdSeq, List.getElem?_cons_zero, List.getElem?_cons_succ, List.set_cons_zero, List.set_cons_succ, List.cons_append, List.nil_append, Option.some.injEq, exists_eq_left', V.bl.injEq, V.int.injEq, V.ref.injEq, atI_0, atI_1, atI_2, setI_1, setI_2, Bool.not_true, Bool.not_false, Bool.false_eq_true, if_false, if_true]; exact h)))
    refine jok_sq (.l hD1) fun J hJ => ?_
    refine lc_map hJ (fun j => .int ((lastL told gains).getD j 0)) (by rw [List.length_map]; omega) (fun j hj H' g' R hR => ?_) (fun D2 H2 g2 hD2 hd2 => ?_) (by exact fun x => rfl)
    · rw [List.length_map] at hj
      have e1 : ((endsL told gains).map fun n : Nat => V.int n).getD j .non = .int (((endsL told gains).getD j 0 : Nat) : Int) := by
        rw [List.getD_eq_getElem?_getD, List.getElem?_map, List.getElem?_eq_getElem hj, List.getD_eq_getElem?_getD, List.getElem?_eq_getElem hj]
        rfl
      have e2 : (lastL told gains).getD j 0 = gains.getD ((endsL told gains).getD j 0 % gains.length) 0 := by
        rw [lastL_ends, List.getD_eq_getElem?_getD, List.getElem?_map, List.getElem?_eq_getElem hj, List.getD_eq_getElem?_getD (l := endsL told gains), List.getElem?_eq_getElem hj]
        rfl
      rw [e1]
      (refine evE ?P123 (fun Q h => ?h123) ?_; (case h123 => (simp only [tTest, tOp, tUn, tVar, tC, tCB, tCons, tNil, tAnd, tOr, tNot, tB, tTup, tLst, tIf, tAndV, tOrV, tNotV, tSl, tPart, tNoPart, tCall, iIx_ref, oGt_int, oMod_int, oFdiv_int, oAdd_int, oAdd_str, oSub_int, oMul_int, oLt_int, oGe_int, oLe_int, oPow_int, uNeg_int, oEq_int, oEq_str, oEq_bl, oNe_int, oNe_str, oNe_bl, cInt_int, cInt_bl, cAbs_int, cLen_ref, cList_ref, stL_ref, gName, gSub, gTup, gCons, gNil, rdSeq, List.getElem?_cons_zero, List.getElem?_cons_succ, List.set_cons_zero, List.set_cons_succ, List.cons_append, List.nil_append, Option.some.injEq, exists_eq_left', V.bl.injEq, V.int.injEq, V.ref.injEq, atI_0, atI_1, atI_2, setI_1, setI_2, Bool.not_true, Bool.not_false, Bool.false_eq_true, if_false, if_true, wipe]; exact h)); (try dsimp only [gName, tNext, List.set_cons_zero, List.set_cons_succ]))
      refine lenE (.l ((g1.trans g') _ _ hP.hg)) ?_
      rw [List.length_map]
      simp only [tTest, tOp, tUn, tVar, tC, tCB, tCons, tNil, tAnd, tOr, tNot, tB, tTup, tLst, tIf, tAndV, tOrV, tNotV, tSl, tPart, tNoPart, tCall, iIx_ref, oGt_int, oMod_int, oFdiv_int, oAdd_int, oAdd_str, oSub_int, oMul_int, oLt_int, oGe_int, oLe_int, oPow_int, uNeg_int, oEq_int, oEq_str, oEq_bl, oNe_int, oNe_str, oNe_bl, cInt_int, cInt_bl, cAbs_int, cLen_ref, cList_ref, stL_ref, gName, gSub, gTup, gCons, gNil, rdSeq, List.getElem?_cons_zero, List.getElem?_cons_succ, List.set_cons_zero, List.set_cons_succ, List.cons_append, List.nil_append, Option.some.injEq, exists_eq_left', V.bl.injEq, V.int.injEq, V.ref.injEq, atI_0, atI_1, atI_2, setI_1, setI_2, Bool.not_true, Bool.not_false, Bool.false_eq_true, if_false, if_true]
      refine ⟨by omega, ?_⟩
      have hm : (endsL told gains).getD j 0 % gains.length < gains.length := Nat.mod_lt _ hp
      refine ixE (.l ((g1.trans g') _ _ hP.hg)) (by rw [← Int.natCast_emod]; exact atI_map (d := 0) hm) ?_
      rw [← e2]
      exact hR _ .refl
    refine k D2 H2 (g1.trans g2) ?_
    have e3 : ((endsL told gains).map fun n : Nat => V.int n).length = (lastL told gains).length := by rw [lastL_ends, List.length_map, List.length_map]
    rw [hd2, e3, map_list (lastL told gains) 0]
  · exact h.elim
end HG

namespace HG
open PySem L2
section
variable {told told' : List (Option Int)} {gains gains' : List Int} {f : Nat → Option Int}
/-- k periods on -/
theorem Gr.steps (h : Gr told gains f) {n : Nat} (hn : told.length - gains.length ≤ n) (k : Nat) : f (n + k * gains.length) = (f n).map (· + (k : Int) * gains.getD (n % gains.length) 0) := by
  induction k with
  | zero =>
    rw [Nat.zero_mul, Nat.add_zero]
    cases f n with
    | none => rfl
    | some v =>
      show some v = some (v + (0 : Int) * _)
      rw [Int.zero_mul, Int.add_zero]
  | succ k ih =>
    have e : n + (k + 1) * gains.length = n + k * gains.length + gains.length := by rw [Nat.add_mul, Nat.one_mul, Nat.add_assoc]
    rw [e, h.step (by omega), ih, Nat.add_mul_mod_self_right]
    cases f n with
    | none => rfl
    | some v =>
      show some (v + (k : Int) * _ + _) = some (v + ((k + 1 : Nat) : Int) * _)
      rw [Int.natCast_add, Int.natCast_one, Int.add_mul, Int.one_mul, Int.add_assoc]
theorem lastL_iff (h : Gr told gains f) {x : Int} : x ∈ lastL told gains ↔ ∃ n v, told.length - gains.length ≤ n ∧ f n = some v ∧ f (n + gains.length) = some (v + x) := by
  have hp := h.pos
  have hl := h.le
  constructor
  · intro hx
    unfold lastL at hx
    obtain ⟨j, hj, rfl⟩ := List.mem_map.mp hx
    obtain ⟨hj1, hj2⟩ := List.mem_filter.mp hj
    rw [List.mem_range] at hj1
    have e := h.lo (told.length - gains.length + j) (by omega)
    cases ev : told.getD (told.length - gains.length + j) none with
    | none => rw [ev] at hj2; cases hj2
    | some v =>
      rw [ev] at e
      refine ⟨told.length - gains.length + j, v, by omega, e, ?_⟩
      rw [h.step (by omega), e]
      rfl
  · rintro ⟨n, v, hn, hv, hx⟩
    have hst := h.step hn
    rw [hv] at hst
    have ex : x = gains.getD (n % gains.length) 0 := by
      rw [hst] at hx
      have := Option.some.inj hx
      have z : v + gains.getD (n % gains.length) 0 = v + x := this
      omega
    generalize hL : told.length = L at *
    generalize hP : gains.length = p at *
    obtain ⟨d, hd⟩ : ∃ d, n = (L - p) + d := ⟨n - (L - p), by omega⟩
    have hdm := Nat.div_add_mod d p
    have hm := Nat.mod_lt d hp
    have en : n = (L - p + d % p) + (d / p) * p := by rw [Nat.mul_comm] at hdm; omega
    have hs := h.steps (n := L - p + d % p) (by rw [hL, hP]; omega) (d / p)
    rw [hP, ← en, hv] at hs
    have hsome : (f (L - p + d % p)).isSome = true := by
      cases e : f (L - p + d % p) with
      | none => rw [e] at hs; cases hs
      | some _ => rfl
    unfold lastL
    rw [hL, hP]
    refine List.mem_map.mpr ⟨d % p, List.mem_filter.mpr ⟨List.mem_range.mpr hm, ?_⟩, ?_⟩
    · rw [← h.lo _ (by omega)]
      exact hsome
    · rw [ex]
      congr 1
      rw [en, Nat.add_mul_mod_self_right]
/-- the gains that last, of two tellings of one growth -/
theorem lastL_scale (h : Gr told gains f) (h' : Gr told' gains' f) {q : Nat} (hq : gains.length = q * gains'.length) : (∀ x, x ∈ lastL told' gains' → (q : Int) * x ∈ lastL told gains) ∧ ∀ y, y ∈ lastL told gains → ∃ x, x ∈ lastL told' gains' ∧ y = (q : Int) * x := by
  constructor
  · intro x hx
    obtain ⟨n, v, hn, hv, hx⟩ := (lastL_iff h').mp hx
    rw [lastL_iff h]
    have ex : gains'.getD (n % gains'.length) 0 = x := by
      have hst := h'.step hn
      rw [hv, hx] at hst
      have z : v + x = v + gains'.getD (n % gains'.length) 0 := Option.some.inj hst
      omega
    have s1 := h'.steps hn told.length
    have s2 := h'.steps hn (told.length + q)
    rw [hv, ex] at s1 s2
    have hp' := h'.pos
    refine ⟨n + told.length * gains'.length, _, ?_, s1, ?_⟩
    · have := Nat.le_mul_of_pos_right told.length hp'
      omega
    · rw [hq]
      have e : n + told.length * gains'.length + q * gains'.length = n + (told.length + q) * gains'.length := by rw [Nat.add_mul, Nat.add_assoc]
      rw [e, s2]
      show some (v + ((told.length + q : Nat) : Int) * x) = some (v + (told.length : Int) * x + (q : Int) * x)
      rw [Int.natCast_add, Int.add_mul, Int.add_assoc]
  · intro y hy
    obtain ⟨n, v, hn, hv, hy⟩ := (lastL_iff h).mp hy
    have ey : gains.getD (n % gains.length) 0 = y := by
      have hst := h.step hn
      rw [hv, hy] at hst
      have z : v + y = v + gains.getD (n % gains.length) 0 := Option.some.inj hst
      omega
    have s1 := h.steps hn told'.length
    have s2 := h.steps hn (told'.length + 1)
    rw [hv, ey] at s1 s2
    have hp := h.pos
    have hb : told'.length - gains'.length ≤ n + told'.length * gains.length := by
      have := Nat.le_mul_of_pos_right told'.length hp
      omega
    have e2 : n + (told'.length + 1) * gains.length = n + told'.length * gains.length + gains.length := by rw [Nat.add_mul, Nat.one_mul, Nat.add_assoc]
    rw [e2] at s2
    generalize n + told'.length * gains.length = N at *
    have s3 := h'.step hb
    have s4 := h'.steps hb q
    rw [s1] at s3 s4
    rw [← hq, s2] at s4
    refine ⟨gains'.getD (N % gains'.length) 0, (lastL_iff h').mpr ⟨N, _, hb, s1, s3⟩, ?_⟩
    have z : v + ((told'.length + 1 : Nat) : Int) * y = v + (told'.length : Int) * y + (q : Int) * gains'.getD (N % gains'.length) 0 := Option.some.inj s4
    rw [Int.natCast_add, Int.natCast_one, Int.add_mul, Int.one_mul] at z
    omega
end

end HG

namespace HG
open PySem L2
section
variable {told told' : List (Option Int)} {gains gains' : List Int} {f : Nat → Option Int}
theorem endL_iff : endL told gains = true ↔ ∃ x, x ∈ lastL told gains ∧ 0 < x := by
  unfold endL
  rw [List.any_map, List.any_eq_true]
  constructor
  · rintro ⟨x, hx, h⟩
    exact ⟨x, hx, of_decide_eq_true h⟩
  · rintro ⟨x, hx, h⟩
    exact ⟨x, hx, decide_eq_true h⟩
theorem endL_eq (h : Gr told gains f) (h' : Gr told' gains' f) {q : Nat} (hq : gains.length = q * gains'.length) : endL told gains = endL told' gains' := by
  have q0 : 0 < q := by
    have := h.pos
    cases q with
    | zero => rw [Nat.zero_mul] at hq; omega
    | succ q => omega
  obtain ⟨s1, s2⟩ := lastL_scale h h' hq
  rw [Bool.eq_iff_iff, endL_iff, endL_iff]
  constructor
  · rintro ⟨y, hy, hy0⟩
    obtain ⟨x, hx, rfl⟩ := s2 y hy
    refine ⟨x, hx, ?_⟩
    by_cases z : 0 < x
    · exact z
    · have := Int.mul_nonpos_of_nonneg_of_nonpos (a := (q : Int)) (b := x) (by omega) (by omega)
      omega
  · rintro ⟨x, hx, hx0⟩
    exact ⟨_, s1 x hx, Int.mul_pos (by omega) hx0⟩
theorem lastL_nil (h : Gr told gains f) (h' : Gr told' gains' f) {q : Nat} (hq : gains.length = q * gains'.length) : lastL told gains = [] ↔ lastL told' gains' = [] := by
  obtain ⟨s1, s2⟩ := lastL_scale h h' hq
  rw [List.eq_nil_iff_forall_not_mem, List.eq_nil_iff_forall_not_mem]
  constructor
  · intro z x hx
    exact z _ (s1 x hx)
  · intro z y hy
    obtain ⟨x, hx, _⟩ := s2 y hy
    exact z x hx
theorem nums_iff {v : Int} : v ∈ nums told ↔ ∃ i, i < told.length ∧ told.getD i none = some v := by
  unfold nums
  rw [List.mem_filterMap]
  constructor
  · rintro ⟨o, ho, rfl⟩
    obtain ⟨i, hi, e⟩ := List.getElem_of_mem ho
    exact ⟨i, hi, by rw [List.getD_eq_getElem?_getD, List.getElem?_eq_getElem hi, e]; rfl⟩
  · rintro ⟨i, hi, e⟩
    exact ⟨some v, by rw [← e]; exact getD_mem hi, rfl⟩
/-- without an end above, every value is at most a told one -/
theorem below_told (h : Gr told gains f) (he : endL told gains = false) : ∀ i v, f i = some v → ∃ w, w ∈ nums told ∧ v ≤ w := by
  intro i
  induction i using Nat.strongRecOn with
  | _ i ih =>
    intro v hv
    by_cases hi : i < told.length
    · exact ⟨v, nums_iff.mpr ⟨i, hi, by rw [← h.lo i hi]; exact hv⟩, Int.le_refl _⟩
    · have hp := h.pos
      have hl := h.le
      have hr := h.hi i (by omega)
      rw [hv] at hr
      cases e : f (i - gains.length) with
      | none => rw [e] at hr; cases hr
      | some u =>
        rw [e] at hr
        have z : v = u + gains.getD (i % gains.length) 0 := Option.some.inj hr
        obtain ⟨w, hw, hle⟩ := ih (i - gains.length) (by omega) u e
        refine ⟨w, hw, ?_⟩
        have hm : gains.getD (i % gains.length) 0 ∈ lastL told gains := (lastL_iff h).mpr ⟨i - gains.length, u, by omega, e, by
          have : i - gains.length + gains.length = i := by omega
          rw [this, hv, z]⟩
        have hn : ¬ 0 < gains.getD (i % gains.length) 0 := fun hh => by
          have := endL_iff.mpr ⟨_, hm, hh⟩
          rw [he] at this
          cases this
        omega
theorem nums_two (h : Gr told gains f) (h' : Gr told' gains' f) (he' : endL told' gains' = false) : ∀ v, v ∈ nums told → ∃ w, w ∈ nums told' ∧ v ≤ w := by
  intro v hv
  obtain ⟨i, hi, e⟩ := nums_iff.mp hv
  exact below_told h' he' i v (by rw [h.lo i hi]; exact e)
theorem nums_max (h : Gr told gains f) (h' : Gr told' gains' f) (he : endL told gains = false) (he' : endL told' gains' = false) {m m' : Int} (hm : m ∈ nums told) (hx : ∀ y, y ∈ nums told → y ≤ m) (hm' : m' ∈ nums told') (hx' : ∀ y, y ∈ nums told' → y ≤ m') : m = m' := by
  obtain ⟨w, hw, hl⟩ := nums_two h h' he' m hm
  obtain ⟨w', hw', hl'⟩ := nums_two h' h he m' hm'
  have := hx' w hw
  have := hx w' hw'
  omega
theorem nums_nil (h : Gr told gains f) (h' : Gr told' gains' f) (he : endL told gains = false) (he' : endL told' gains' = false) : nums told = [] ↔ nums told' = [] := by
  rw [List.eq_nil_iff_forall_not_mem, List.eq_nil_iff_forall_not_mem]
  constructor
  · intro z v hv
    obtain ⟨w, hw, _⟩ := nums_two h' h he v hv
    exact z w hw
  · intro z v hv
    obtain ⟨w, hw, _⟩ := nums_two h h' he' v hv
    exact z w hw
end

end HG

namespace HG
open PySem L2
/-- a slope in lowest terms -/
theorem slope_law {best' p' q : Int} (hp : 0 < p') : let g := (Int.gcd best' p' : Int)
    1 ≤ p' / g ∧ best' / g * (q * p') = q * best' * (p' / g) ∧ ∀ k : Int, 2 ≤ k → ¬ ((best' / g) % k = 0 ∧ (p' / g) % k = 0) := by
  intro g
  have hg : 0 < g := gcd_pos (p := best') hp
  have e1 : g * (best' / g) = best' := Int.mul_ediv_cancel' (Int.gcd_dvd_left _ _)
  have e2 : g * (p' / g) = p' := Int.mul_ediv_cancel' (Int.gcd_dvd_right _ _)
  have hc : Int.gcd (best' / g) (p' / g) = 1 := by
    have z := Int.gcd_mul_left (m := g) (n := best' / g) (k := p' / g)
    rw [e1, e2] at z
    have hz : g.natAbs = Int.gcd best' p' := Int.natAbs_natCast _
    rw [hz] at z
    have h0 : 0 < Int.gcd best' p' := by omega
    exact Nat.eq_of_mul_eq_mul_left h0 (by rw [← z, Nat.mul_one])
  generalize best' / g = b at *
  generalize p' / g = c at *
  refine ⟨?_, ?_, ?_⟩
  · by_cases z : 1 ≤ c
    · exact z
    · have := Int.mul_nonpos_of_nonneg_of_nonpos (Int.le_of_lt hg) (by omega : c ≤ 0)
      omega
  · rw [← e1, ← e2]
    ac_rfl
  · rintro k hk ⟨h1, h2⟩
    have d1 : k ∣ b := Int.dvd_of_emod_eq_zero h1
    have d2 : k ∣ c := Int.dvd_of_emod_eq_zero h2
    have d3 : k ∣ (Int.gcd b c : Int) := Int.dvd_coe_gcd d1 d2
    rw [hc] at d3
    have := Int.le_of_dvd (by decide) d3
    omega

end HG

namespace HG
open PySem L2
theorem repr_bo {K : PySem.W.Frag} {H : Hp} {r : Addr} {b : Bool} {o : Option Int} {Q : VK} (h : H r = some (.lst [.bl b, oV o])) (ho : ∀ i, o = some i → Bn 1900 i) (k : Q (.str (PyData.shown (.list [.bool b, oD o]))) H) : cRepr K [.ref r] H Q := by
  have e : dataF 8 H (.ref r) = some (.list [.bool b, oD o]) := by
    simp only [dataF, h]
    cases o <;> rfl
  simp only [cRepr, e]
  have hl : PyData.leavesShort 1901 (oD o) = true ∧ PyData.showable (oD o) = true ∧ PyData.weight (oD o) ≤ 1900 ∧ PyData.depth (oD o) = 0 := by
    cases o with
    | none => exact ⟨rfl, rfl, Nat.zero_le _, rfl⟩
    | some i => exact ⟨decide_eq_true (shown_int_len (m := 1899) (ho i rfl)), showable_int (ho i rfl), weight_int (ho i rfl), rfl⟩
  obtain ⟨h1, h2, h3, h4⟩ := hl
  refine ⟨?_, ?_, ?_, k⟩
  · show (true && (PyData.showable (oD o) && true)) = true
    rw [h2]; rfl
  · show max 0 (max (PyData.depth (oD o)) 0) + 1 ≤ 60
    rw [h4]; decide
  · have z := PyData.shown_le 1901 (by decide) (.list [.bool b, oD o]) (by
      show (true && (PyData.leavesShort 1901 (oD o) && true)) = true
      rw [h1]; rfl)
    have w : PyData.weight (.list [.bool b, oD o]) ≤ 1902 := by
      show 0 + 1 + (PyData.weight (oD o) + 1 + 0) ≤ 1902
      omega
    have e : (1901 + 2) * PyData.weight (.list [.bool b, oD o]) ≤ (1901 + 2) * 1902 := Nat.mul_le_mul_left _ w
    have : sizeLine = 16777216 := rfl
    omega
theorem endL_filter {told : List (Option Int)} {gains : List Int} : (!((lastL told gains).filter fun x => decide (0 < x)).isEmpty) = endL told gains := by
  rw [Bool.eq_iff_iff, endL_iff, Bool.not_eq_true', List.isEmpty_eq_false_iff]
  constructor
  · intro z
    obtain ⟨x, hx⟩ := List.exists_mem_of_ne_nil _ z
    obtain ⟨h1, h2⟩ := List.mem_filter.mp hx
    exact ⟨x, h1, of_decide_eq_true h2⟩
  · rintro ⟨x, h1, h2⟩
    exact List.ne_nil_of_mem (List.mem_filter.mpr ⟨h1, decide_eq_true h2⟩)
def sp_law_right (K : PySem.W.Frag) (A : Ad) : Sp := fun vs H Q _ => match vs with
  | [.ref r] => ∃ t g told gains, PairAt H r t g told gains ∧ 0 < gains.length ∧ gains.length ≤ 60 ∧ gains.length ≤ told.length ∧ told.length ≤ 4000 ∧ (∀ x ∈ gains, Bn 900 x) ∧ (∀ x, x ∈ nums told → Bn 900 x) ∧ ∀ H', Grow H H' → Q (.bl true) H'
  | _ => False
def t_law_right_5 (K : PySem.W.Frag) (A : Ad) : TS := (tRet (tC (.bl false)))
def t_law_right_7 (K : PySem.W.Frag) (A : Ad) : TS := (tRet (tOp oIs (tProp A.c_Growth (sp_Growth_slope K A) [] E0 (tVar 1)) (tC .non)))
def t_law_right_10 (K : PySem.W.Frag) (A : Ad) : TS := (tRet (tC (.bl false)))
def t_law_right_11 (K : PySem.W.Frag) (A : Ad) : TS := (tRet (tOp (oEq K) (tLc (iRng2 (tCons (tC (.int 2)) (tCons (tOp oAdd (tOp (rIx K) (tVar 8) (tC (.int 1))) (tC (.int 1))) tNil))) (gName 11) (tAnd (tTest (tOp (oEq K) (tOp oMod (tCB cInt (tCons (tOp (rIx K) (tVar 8) (tC (.int 0))) tNil)) (tVar 11)) (tC (.int 0)))) (tTest (tOp (oEq K) (tOp oMod (tCB cInt (tCons (tOp (rIx K) (tVar 8) (tC (.int 1))) tNil)) (tVar 11)) (tC (.int 0))))) (tVar 11) [11]) (tLst tNil)))
def t_law_right_9 (K : PySem.W.Frag) (A : Ad) : TS := (tSeq (tIfS (tOr (tNot (tB (tCB (cIsi K) (tCons (tVar 8) (tCons (tC (.ty "tuple")) tNil))))) (tOr (tTest (tOp (oNe K) (tCB (cLenE K) (tCons (tVar 8) tNil)) (tC (.int 2)))) (tOr (tTest (tOp oLt (tOp (rIx K) (tVar 8) (tC (.int 1))) (tC (.int 1)))) (tTest (tOp (oNe K) (tOp oMul (tOp (rIx K) (tVar 8) (tC (.int 0))) (tVar 3)) (tOp oMul (tVar 7) (tOp (rIx K) (tVar 8) (tC (.int 1))))))))) (t_law_right_10 K A) tNext) (t_law_right_11 K A))
def t_law_right_8 (K : PySem.W.Frag) (A : Ad) : TS := (tSeq (tAsg (tTup (tCons (tCB (cMax K) (tCons (tLc (iSeq K (tVar 2)) (gName 9) tYes (tCB cInt (tCons (tVar 9) tNil)) [9]) tNil)) (tCons (tProp A.c_Growth (sp_Growth_slope K A) [] E0 (tVar 1)) tNil))) (gTup K 2 (gCons (gName 7) (gCons (gName 8) gNil)))) (t_law_right_9 K A))
def t_law_right_6 (K : PySem.W.Frag) (A : Ad) : TS := (tSeq (tIfS (tTest (tOp (oEq K) (tVar 2) (tLst tNil))) (t_law_right_7 K A) tNext) (t_law_right_8 K A))
def t_law_right_4 (K : PySem.W.Frag) (A : Ad) : TS := (tSeq (tIfS (tTest (tOp (oNe K) (tCB (cRepr K) (tCons (tLst (tCons (tProp A.c_Growth (sp_Growth_is_endless K A) [] E0 (tVar 1)) (tCons (tProp A.c_Growth (sp_Growth_greatest K A) [] E0 (tVar 1)) tNil))) tNil)) (tCB (cRepr K) (tCons (tLst (tCons (tVar 4) (tCons (tVar 6) tNil))) tNil)))) (t_law_right_5 K A) tNext) (t_law_right_6 K A))
def t_law_right_3 (K : PySem.W.Frag) (A : Ad) : TS := (tSeq (tAsg (tIf (tOr (tB (tVar 4)) (tTest (tOp (oEq K) (tVar 5) (tLst tNil)))) (tC .non) (tCB (cMax K) (tCons (tLc (iSeq K (tVar 5)) (gName 10) tYes (tCB cInt (tCons (tVar 10) tNil)) [10]) tNil))) (gName 6)) (t_law_right_4 K A))
def t_law_right_2 (K : PySem.W.Frag) (A : Ad) : TS := (tSeq (tAsg (tLc (iSeq K (tOp (rIx K) (tVar 0) (tC (.int 0)))) (gName 10) (tTest (tOp oIsNot (tVar 10) (tC .non))) (tVar 10) [10]) (gName 5)) (t_law_right_3 K A))
def t_law_right_1 (K : PySem.W.Frag) (A : Ad) : TS := (tSeq (tAsg (tOp (oNe K) (tLc (iSeq K (tVar 2)) (gName 9) (tTest (tOp oGt (tVar 9) (tC (.int 0)))) (tVar 9) [9]) (tLst tNil)) (gName 4)) (t_law_right_2 K A))
def t_law_right_0 (K : PySem.W.Frag) (A : Ad) : TS := (tSeq (tPar3 1 2 3 (tCons (tMake A.c_Growth (sp_Growth_init K A) [] E0 (tCons (tOp (rIx K) (tVar 0) (tC (.int 0))) (tCons (tOp (rIx K) (tVar 0) (tC (.int 1))) tNil))) (tCons (tCall (sp_law_lasting K A) [] E0 (tCons (tVar 0) tNil)) (tCons (tCB (cLenE K) (tCons (tOp (rIx K) (tVar 0) (tC (.int 1))) tNil)) tNil)))) (t_law_right_1 K A))

theorem pure_law_right {K : PySem.W.Frag} {A : Ad} {vs : List V} {H : Hp} {Q : VK} {E : XK} (F : KF K A) (h : sp_law_right K A vs H Q E) : (t_law_right_0 K A) { nx := fun _ H' => Q .non H', rt := Q } (start ["_law_pair", "_law_growth", "_law_lasting_here", "_law_period", "_law_is_endless", "_law_numbers", "_law_due", "_law_best", "_law_told_here", "_law_gain", "_law_value", "_law_part"] vs) H := by
  unfold sp_law_right at h
  split at h
  · rename_i r
    obtain ⟨t, g, told, gains, hP, hp, hp60, hpl, hs, bg, bt, k⟩ := h
    have hsz : sizeLine = 16777216 := rfl
    show (t_law_right_0 K A) _ [some (.ref r), none, none, none, none, none, none, none, none, none, none, none] H
    refine st_seq ?_
    unfold tPar3
    (refine evA ?P126 (fun Q h => ?h126) ?_; (case h126 => (simp only [tTest, tOp, tUn, tVar, tC, tCB, tCons, tNil, tAnd, tOr, tNot, tB, tTup, tLst, tIf, tAndV, tOrV, tNotV, tSl, tPart, tNoPart, tCall, iIx_ref, oGt_int, oMod_int, oFdiv_int, oAdd_int, oAdd_str, oSub_int, oMul_int, oLt_int, oGe_int, oLe_int, oPow_int, uNeg_int, oEq_int, oEq_str, oEq_bl, oNe_int, oNe_str, oNe_bl, cInt_int, cInt_bl, cAbs_int, cLen_ref, cList_ref, stL_ref, gName, gSub, gTup, gCons, gNil, rdSeq, List.getElem?_cons_zero, List.getElem?_cons_succ, List.set_cons_zero, List.set_cons_succ, List.cons_append, List.nil_append, Option.some.injEq, exists_eq_left', V.bl.injEq, V.int.injEq, V.ref.injEq, atI_0, atI_1, atI_2, setI_1, setI_2, Bool.not_true, Bool.not_false, Bool.false_eq_true, if_false, if_true, tMake_eq]; exact h)); (try dsimp only [gName, tNext, List.set_cons_zero, List.set_cons_succ]))
    refine ixE (.t hP.hr) atI_0 ?_
    refine ixE (.t hP.hr) atI_1 ?_
    refine mkG (.l hP.ht) (.l hP.hg) hp hp60 hpl (by omega) (fun x hx => (bg x hx).up (by decide)) (Nat.le_trans (nfT_len _ _) hs) fun c H1 g1 hc => ?_
    refine ⟨t, g, told, gains, hP.grow g1, hp, hpl, by omega, fun l H2 g2 hl => ?_⟩
    have hP2 := (hP.grow g1).grow g2
    refine ixE (.t hP2.hr) atI_1 ?_
    refine lenE (.l hP2.hg) ?_
    rw [List.length_map]
    refine ⟨_, _, _, rfl, ?_⟩
    (try dsimp only [gName, tNext, List.set_cons_zero, List.set_cons_succ])
    have hll := lastL_len told gains
    have g12 := g1.trans g2
    have hc2 := hc.grow g2
    -- is_endless
    refine st_seq (st_asg ?_)
    (refine evE ?P140 (fun Q h => ?h140) ?_; (case h140 => (simp only [tTest, tOp, tUn, tVar, tC, tCB, tCons, tNil, tAnd, tOr, tNot, tB, tTup, tLst, tIf, tAndV, tOrV, tNotV, tSl, tPart, tNoPart, tCall, iIx_ref, oGt_int, oMod_int, oFdiv_int, oAdd_int, oAdd_str, oSub_int, oMul_int, oLt_int, oGe_int, oLe_int, oPow_int, uNeg_int, oEq_int, oEq_str, oEq_bl, oNe_int, oNe_str, oNe_bl, cInt_int, cInt_bl, cAbs_int, cLen_ref, cList_ref, stL_ref, gName, gSub, gTup, gCons, gNil, rdSeq, List.getElem?_cons_zero, List.getElem?_cons_succ, List.set_cons_zero, List.set_cons_succ, List.cons_append, List.nil_append, Option.some.injEq, exists_eq_left', V.bl.injEq, V.int.injEq, V.ref.injEq, atI_0, atI_1, atI_2, setI_1, setI_2, Bool.not_true, Bool.not_false, Bool.false_eq_true, if_false, if_true]; exact h)))
    refine lc_ev ?_
    unfold iSeq
    (refine evE ?P141 (fun Q h => ?h141) ?_; (case h141 => (simp only [tTest, tOp, tUn, tVar, tC, tCB, tCons, tNil, tAnd, tOr, tNot, tB, tTup, tLst, tIf, tAndV, tOrV, tNotV, tSl, tPart, tNoPart, tCall, iIx_ref, oGt_int, oMod_int, oFdiv_int, oAdd_int, oAdd_str, oSub_int, oMul_int, oLt_int, oGe_int, oLe_int, oPow_int, uNeg_int, oEq_int, oEq_str, oEq_bl, oNe_int, oNe_str, oNe_bl, cInt_int, cInt_bl, cAbs_int, cLen_ref, cList_ref, stL_ref, gName, gSub, gTup, gCons, gNil, rdSeq, List.getElem?_cons_zero, List.getElem?_cons_succ, List.set_cons_zero, List.set_cons_succ, List.cons_append, List.nil_append, Option.some.injEq, exists_eq_left', V.bl.injEq, V.int.injEq, V.ref.injEq, atI_0, atI_1, atI_2, setI_1, setI_2, Bool.not_true, Bool.not_false, Bool.false_eq_true, if_false, if_true]; exact h)))
    refine jok_sq (.l hl) fun J hJ => ?_
    refine lc_filter hJ (fun j => decide (0 < (lastL told gains).getD j 0)) (fun j => .int ((lastL told gains).getD j 0)) (by rw [List.length_map]; omega) (fun j hj H' g' R hR => ?_) (fun j hj hpj H' g' R hR => ?_) (fun D H3 g3 hD hd => ?_) (by exact fun x => rfl)
    · rw [List.length_map] at hj
      rw [getD_map_int hj]
      (refine evT ?P127 (fun Q h => ?h127) ?_; (case h127 => (simp only [tTest, tOp, tUn, tVar, tC, tCB, tCons, tNil, tAnd, tOr, tNot, tB, tTup, tLst, tIf, tAndV, tOrV, tNotV, tSl, tPart, tNoPart, tCall, iIx_ref, oGt_int, oMod_int, oFdiv_int, oAdd_int, oAdd_str, oSub_int, oMul_int, oLt_int, oGe_int, oLe_int, oPow_int, uNeg_int, oEq_int, oEq_str, oEq_bl, oNe_int, oNe_str, oNe_bl, cInt_int, cInt_bl, cAbs_int, cLen_ref, cList_ref, stL_ref, gName, gSub, gTup, gCons, gNil, rdSeq, List.getElem?_cons_zero, List.getElem?_cons_succ, List.set_cons_zero, List.set_cons_succ, List.cons_append, List.nil_append, Option.some.injEq, exists_eq_left', V.bl.injEq, V.int.injEq, V.ref.injEq, atI_0, atI_1, atI_2, setI_1, setI_2, Bool.not_true, Bool.not_false, Bool.false_eq_true, if_false, if_true, wipe]; exact h)); (try dsimp only [gName, tNext, List.set_cons_zero, List.set_cons_succ]))
      exact hR _ .refl
    · rw [List.length_map] at hj
      rw [getD_map_int hj]
      (refine evE ?P128 (fun Q h => ?h128) ?_; (case h128 => (simp only [tTest, tOp, tUn, tVar, tC, tCB, tCons, tNil, tAnd, tOr, tNot, tB, tTup, tLst, tIf, tAndV, tOrV, tNotV, tSl, tPart, tNoPart, tCall, iIx_ref, oGt_int, oMod_int, oFdiv_int, oAdd_int, oAdd_str, oSub_int, oMul_int, oLt_int, oGe_int, oLe_int, oPow_int, uNeg_int, oEq_int, oEq_str, oEq_bl, oNe_int, oNe_str, oNe_bl, cInt_int, cInt_bl, cAbs_int, cLen_ref, cList_ref, stL_ref, gName, gSub, gTup, gCons, gNil, rdSeq, List.getElem?_cons_zero, List.getElem?_cons_succ, List.set_cons_zero, List.set_cons_succ, List.cons_append, List.nil_append, Option.some.injEq, exists_eq_left', V.bl.injEq, V.int.injEq, V.ref.injEq, atI_0, atI_1, atI_2, setI_1, setI_2, Bool.not_true, Bool.not_false, Bool.false_eq_true, if_false, if_true, wipe]; exact h)); (try dsimp only [gName, tNext, List.set_cons_zero, List.set_cons_succ]))
      exact hR _ .refl
    rw [List.length_map, resF_list (lastL told gains) 0 (fun x => decide (0 < x)) V.int] at hd
    refine ⟨by show 0 ≤ sizeLine; decide, fun e he => ?_⟩
    have g4 := Grow.new (o := .lst []) he
    refine ne_nil (g4 _ _ hd) upd_same ?_
    rw [endL_filter]
    (try dsimp only [gName, tNext, List.set_cons_zero, List.set_cons_succ])
    have G4 := g12.trans (g3.trans g4)
    have hP4 := hP2.grow (g3.trans g4)
    have hc4 := hc2.grow (g3.trans g4)
    have hl4 := (g3.trans g4) _ _ hl
    generalize upd H3 e (.lst []) = H4 at *
    clear hd he hD hJ g4 g3
    -- numbers
    refine st_seq (st_asg (lc_ev ?_))
    unfold iSeq
    (refine evE ?P142 (fun Q h => ?h142) ?_; (case h142 => (simp only [tTest, tOp, tUn, tVar, tC, tCB, tCons, tNil, tAnd, tOr, tNot, tB, tTup, tLst, tIf, tAndV, tOrV, tNotV, tSl, tPart, tNoPart, tCall, iIx_ref, oGt_int, oMod_int, oFdiv_int, oAdd_int, oAdd_str, oSub_int, oMul_int, oLt_int, oGe_int, oLe_int, oPow_int, uNeg_int, oEq_int, oEq_str, oEq_bl, oNe_int, oNe_str, oNe_bl, cInt_int, cInt_bl, cAbs_int, cLen_ref, cList_ref, stL_ref, gName, gSub, gTup, gCons, gNil, rdSeq, List.getElem?_cons_zero, List.getElem?_cons_succ, List.set_cons_zero, List.set_cons_succ, List.cons_append, List.nil_append, Option.some.injEq, exists_eq_left', V.bl.injEq, V.int.injEq, V.ref.injEq, atI_0, atI_1, atI_2, setI_1, setI_2, Bool.not_true, Bool.not_false, Bool.false_eq_true, if_false, if_true]; exact h)))
    refine ixE (.t hP4.hr) atI_0 ?_
    refine jok_sq (.l hP4.ht) fun J hJ => ?_
    refine lc_filter hJ (fun j => (told.getD j none).isSome) (fun j => oV (told.getD j none)) (by rw [List.length_map]; omega) (fun j hj H' g' R hR => ?_) (fun j hj hpj H' g' R hR => ?_) (fun D2 H5 g5 hD hd => ?_) (by exact fun x => rfl)
    · rw [List.length_map] at hj
      rw [getD_map_oV hj]
      (refine evT ?P129 (fun Q h => ?h129) ?_; (case h129 => (simp only [tTest, tOp, tUn, tVar, tC, tCB, tCons, tNil, tAnd, tOr, tNot, tB, tTup, tLst, tIf, tAndV, tOrV, tNotV, tSl, tPart, tNoPart, tCall, iIx_ref, oGt_int, oMod_int, oFdiv_int, oAdd_int, oAdd_str, oSub_int, oMul_int, oLt_int, oGe_int, oLe_int, oPow_int, uNeg_int, oEq_int, oEq_str, oEq_bl, oNe_int, oNe_str, oNe_bl, cInt_int, cInt_bl, cAbs_int, cLen_ref, cList_ref, stL_ref, gName, gSub, gTup, gCons, gNil, rdSeq, List.getElem?_cons_zero, List.getElem?_cons_succ, List.set_cons_zero, List.set_cons_succ, List.cons_append, List.nil_append, Option.some.injEq, exists_eq_left', V.bl.injEq, V.int.injEq, V.ref.injEq, atI_0, atI_1, atI_2, setI_1, setI_2, Bool.not_true, Bool.not_false, Bool.false_eq_true, if_false, if_true, wipe, oIsNot_oV]; exact h)); (try dsimp only [gName, tNext, List.set_cons_zero, List.set_cons_succ]))
      exact hR _ .refl
    · rw [List.length_map] at hj
      rw [getD_map_oV hj]
      (refine evE ?P130 (fun Q h => ?h130) ?_; (case h130 => (simp only [tTest, tOp, tUn, tVar, tC, tCB, tCons, tNil, tAnd, tOr, tNot, tB, tTup, tLst, tIf, tAndV, tOrV, tNotV, tSl, tPart, tNoPart, tCall, iIx_ref, oGt_int, oMod_int, oFdiv_int, oAdd_int, oAdd_str, oSub_int, oMul_int, oLt_int, oGe_int, oLe_int, oPow_int, uNeg_int, oEq_int, oEq_str, oEq_bl, oNe_int, oNe_str, oNe_bl, cInt_int, cInt_bl, cAbs_int, cLen_ref, cList_ref, stL_ref, gName, gSub, gTup, gCons, gNil, rdSeq, List.getElem?_cons_zero, List.getElem?_cons_succ, List.set_cons_zero, List.set_cons_succ, List.cons_append, List.nil_append, Option.some.injEq, exists_eq_left', V.bl.injEq, V.int.injEq, V.ref.injEq, atI_0, atI_1, atI_2, setI_1, setI_2, Bool.not_true, Bool.not_false, Bool.false_eq_true, if_false, if_true, wipe]; exact h)); (try dsimp only [gName, tNext, List.set_cons_zero, List.set_cons_succ]))
      exact hR _ .refl
    have hn : H5 D2 = some (.lst ((nums told).map V.int)) := by rw [hd, List.length_map, resF_list told none (·.isSome) oV, nums_map]
    (try dsimp only [gName, tNext, List.set_cons_zero, List.set_cons_succ])
    have G5 := G4.trans g5
    have hP5 := hP4.grow g5
    have hc5 := hc4.grow g5
    have hl5 := g5 _ _ hl4
    clear hd hD hJ
    obtain ⟨nf1, ⟨q, hq⟩, nf3, nf4⟩ := nf_spec (gr_gv hp hpl)
    have G0 := gr_gv hp hpl
    rw [Nat.mul_comm] at hq
    have eend := endL_eq G0 nf4 hq
    have hnl := nfT_len told gains
    have rest : ∀ (due : Option Int) (H6 : Hp), Grow H5 H6 → ((endL told gains = true ∨ nums told = []) → due = none) → (endL told gains = false → nums told ≠ [] → ∃ m, due = some m ∧ m ∈ nums told ∧ ∀ y, y ∈ nums told → y ≤ m) →
        t_law_right_4 K A { nx := fun x H' => Q .non H', rt := Q } [some (.ref r), some (.ref c), some (.ref l), some (.int gains.length), some (.bl (endL told gains)), some (.ref D2), some (oV due), none, none, none, none, none] H6 := by
      intro due H6 g6 du1 du2
      have hc6 := hc5.grow g6
      have bdue : ∀ i, due = some i → Bn 1900 i := by
        intro i hi
        by_cases hh : endL told gains = true ∨ nums told = []
        · rw [du1 hh] at hi
          cases hi
        · have h1 : endL told gains = false := by
            cases e : endL told gains with
            | false => rfl
            | true => exact absurd (.inl e) hh
          obtain ⟨m, e1, e2, _⟩ := du2 h1 (fun z => hh (.inr z))
          rw [e1] at hi
          cases hi
          exact (bt _ e2).up (by decide)
      refine st_seq (st_if ?_)
      (refine evT ?P131 (fun Q h => ?h131) ?_; (case h131 => (simp only [tTest, tOp, tUn, tVar, tC, tCB, tCons, tNil, tAnd, tOr, tNot, tB, tTup, tLst, tIf, tAndV, tOrV, tNotV, tSl, tPart, tNoPart, tCall, iIx_ref, oGt_int, oMod_int, oFdiv_int, oAdd_int, oAdd_str, oSub_int, oMul_int, oLt_int, oGe_int, oLe_int, oPow_int, uNeg_int, oEq_int, oEq_str, oEq_bl, oNe_int, oNe_str, oNe_bl, cInt_int, cInt_bl, cAbs_int, cLen_ref, cList_ref, stL_ref, gName, gSub, gTup, gCons, gNil, rdSeq, List.getElem?_cons_zero, List.getElem?_cons_succ, List.set_cons_zero, List.set_cons_succ, List.cons_append, List.nil_append, Option.some.injEq, exists_eq_left', V.bl.injEq, V.int.injEq, V.ref.injEq, atI_0, atI_1, atI_2, setI_1, setI_2, Bool.not_true, Bool.not_false, Bool.false_eq_true, if_false, if_true, tProp_eq]; exact h)); (try dsimp only [gName, tNext, List.set_cons_zero, List.set_cons_succ]))
      refine prG hc6 ⟨nfT told gains, nfG told gains, hc6, nf4.pos, nf4.le, by omega, fun H7 g7 => ?_⟩
      have hc7 := hc6.grow g7
      have rest2 : ∀ H8, Grow H7 H8 → t_law_right_6 K A { nx := fun x H' => Q .non H', rt := Q } [some (.ref r), some (.ref c), some (.ref l), some (.int gains.length), some (.bl (endL told gains)), some (.ref D2), some (oV due), none, none, none, none, none] H8 := by
        intro H8 g8
        have hc8 := hc7.grow g8
        have hl8 := (g6.trans (g7.trans g8)) _ _ hl5
        have G8 := G5.trans (g6.trans (g7.trans g8))
        have q0 : 0 < q := by
          cases q with
          | zero => rw [Nat.zero_mul] at hq; omega
          | succ q => omega
        obtain ⟨sc1, sc2⟩ := lastL_scale G0 nf4 hq
        have bl' : ∀ x ∈ lastL (nfT told gains) (nfG told gains), Bn 1000 x := by
          intro x hx
          have := (bg _ (lastL_mem hp (sc1 x hx))).up (by decide : 900 ≤ 1000)
          refine this.le ?_
          rw [Int.natAbs_mul, Int.natAbs_natCast]
          exact Nat.le_mul_of_pos_left _ q0
        refine st_seq (st_if ?_)
        (refine evT ?P132 (fun Q h => ?h132) ?_; (case h132 => (simp only [tTest, tOp, tUn, tVar, tC, tCB, tCons, tNil, tAnd, tOr, tNot, tB, tTup, tLst, tIf, tAndV, tOrV, tNotV, tSl, tPart, tNoPart, tCall, iIx_ref, oGt_int, oMod_int, oFdiv_int, oAdd_int, oAdd_str, oSub_int, oMul_int, oLt_int, oGe_int, oLe_int, oPow_int, uNeg_int, oEq_int, oEq_str, oEq_bl, oNe_int, oNe_str, oNe_bl, cInt_int, cInt_bl, cAbs_int, cLen_ref, cList_ref, stL_ref, gName, gSub, gTup, gCons, gNil, rdSeq, List.getElem?_cons_zero, List.getElem?_cons_succ, List.set_cons_zero, List.set_cons_succ, List.cons_append, List.nil_append, Option.some.injEq, exists_eq_left', V.bl.injEq, V.int.injEq, V.ref.injEq, atI_0, atI_1, atI_2, setI_1, setI_2, Bool.not_true, Bool.not_false, Bool.false_eq_true, if_false, if_true]; exact h)); (try dsimp only [gName, tNext, List.set_cons_zero, List.set_cons_succ]))
        refine ⟨by show 0 ≤ sizeLine; decide, fun e he => ?_⟩
        have g9 := Grow.new (o := .lst []) he
        refine eq_nil (g9 _ _ hl8) upd_same ⟨_, rfl, ?_⟩
        have hc9 := hc8.grow g9
        by_cases hem : lastL told gains = []
        · have hem' := (lastL_nil G0 nf4 hq).mp hem
          rw [hem]
          (refine if_yes ?_; (try dsimp only [gName, tNext, List.set_cons_zero, List.set_cons_succ]))
          refine st_ret ?_
          (refine evE ?P133 (fun Q h => ?h133) ?_; (case h133 => (simp only [tTest, tOp, tUn, tVar, tC, tCB, tCons, tNil, tAnd, tOr, tNot, tB, tTup, tLst, tIf, tAndV, tOrV, tNotV, tSl, tPart, tNoPart, tCall, iIx_ref, oGt_int, oMod_int, oFdiv_int, oAdd_int, oAdd_str, oSub_int, oMul_int, oLt_int, oGe_int, oLe_int, oPow_int, uNeg_int, oEq_int, oEq_str, oEq_bl, oNe_int, oNe_str, oNe_bl, cInt_int, cInt_bl, cAbs_int, cLen_ref, cList_ref, stL_ref, gName, gSub, gTup, gCons, gNil, rdSeq, List.getElem?_cons_zero, List.getElem?_cons_succ, List.set_cons_zero, List.set_cons_succ, List.cons_append, List.nil_append, Option.some.injEq, exists_eq_left', V.bl.injEq, V.int.injEq, V.ref.injEq, atI_0, atI_1, atI_2, setI_1, setI_2, Bool.not_true, Bool.not_false, Bool.false_eq_true, if_false, if_true, tProp_eq]; exact h)); (try dsimp only [gName, tNext, List.set_cons_zero, List.set_cons_succ]))
          refine prG hc9 ⟨_, _, hc9, nf4.pos, nf4.le, by omega, bl', fun _ H10 g10 => ?_, fun best hb => ?_⟩
          · simp only [tTest, tOp, tUn, tVar, tC, tCB, tCons, tNil, tAnd, tOr, tNot, tB, tTup, tLst, tIf, tAndV, tOrV, tNotV, tSl, tPart, tNoPart, tCall, iIx_ref, oGt_int, oMod_int, oFdiv_int, oAdd_int, oAdd_str, oSub_int, oMul_int, oLt_int, oGe_int, oLe_int, oPow_int, uNeg_int, oEq_int, oEq_str, oEq_bl, oNe_int, oNe_str, oNe_bl, cInt_int, cInt_bl, cAbs_int, cLen_ref, cList_ref, stL_ref, gName, gSub, gTup, gCons, gNil, rdSeq, List.getElem?_cons_zero, List.getElem?_cons_succ, List.set_cons_zero, List.set_cons_succ, List.cons_append, List.nil_append, Option.some.injEq, exists_eq_left', V.bl.injEq, V.int.injEq, V.ref.injEq, atI_0, atI_1, atI_2, setI_1, setI_2, Bool.not_true, Bool.not_false, Bool.false_eq_true, if_false, if_true, oIs]
            exact k _ (G8.trans (g9.trans g10))
          · rw [hem'] at hb
            exact (List.not_mem_nil hb).elim
        · have he2 : (lastL told gains).isEmpty = false := by rw [List.isEmpty_eq_false_iff]; exact hem
          rw [he2]
          (refine if_no ?_; (try dsimp only [gName, tNext, List.set_cons_zero, List.set_cons_succ]))
          refine st_seq (st_asg ?_)
          (refine evE ?P143 (fun Q h => ?h143) ?_; (case h143 => (simp only [tTest, tOp, tUn, tVar, tC, tCB, tCons, tNil, tAnd, tOr, tNot, tB, tTup, tLst, tIf, tAndV, tOrV, tNotV, tSl, tPart, tNoPart, tCall, iIx_ref, oGt_int, oMod_int, oFdiv_int, oAdd_int, oAdd_str, oSub_int, oMul_int, oLt_int, oGe_int, oLe_int, oPow_int, uNeg_int, oEq_int, oEq_str, oEq_bl, oNe_int, oNe_str, oNe_bl, cInt_int, cInt_bl, cAbs_int, cLen_ref, cList_ref, stL_ref, gName, gSub, gTup, gCons, gNil, rdSeq, List.getElem?_cons_zero, List.getElem?_cons_succ, List.set_cons_zero, List.set_cons_succ, List.cons_append, List.nil_append, Option.some.injEq, exists_eq_left', V.bl.injEq, V.int.injEq, V.ref.injEq, atI_0, atI_1, atI_2, setI_1, setI_2, Bool.not_true, Bool.not_false, Bool.false_eq_true, if_false, if_true, tProp_eq]; exact h)))
          refine lc_ev ?_
          unfold iSeq
          (refine evE ?P144 (fun Q h => ?h144) ?_; (case h144 => (simp only [tTest, tOp, tUn, tVar, tC, tCB, tCons, tNil, tAnd, tOr, tNot, tB, tTup, tLst, tIf, tAndV, tOrV, tNotV, tSl, tPart, tNoPart, tCall, iIx_ref, oGt_int, oMod_int, oFdiv_int, oAdd_int, oAdd_str, oSub_int, oMul_int, oLt_int, oGe_int, oLe_int, oPow_int, uNeg_int, oEq_int, oEq_str, oEq_bl, oNe_int, oNe_str, oNe_bl, cInt_int, cInt_bl, cAbs_int, cLen_ref, cList_ref, stL_ref, gName, gSub, gTup, gCons, gNil, rdSeq, List.getElem?_cons_zero, List.getElem?_cons_succ, List.set_cons_zero, List.set_cons_succ, List.cons_append, List.nil_append, Option.some.injEq, exists_eq_left', V.bl.injEq, V.int.injEq, V.ref.injEq, atI_0, atI_1, atI_2, setI_1, setI_2, Bool.not_true, Bool.not_false, Bool.false_eq_true, if_false, if_true]; exact h)))
          refine jok_sq (.l (g9 _ _ hl8)) fun J hJ => ?_
          refine lc_map hJ (fun j => .int ((lastL told gains).getD j 0)) (by rw [List.length_map]; omega) (fun j hj H' g' R hR => ?_) (fun D3 H10 g10 hD3 hd3 => ?_) (by exact fun x => rfl)
          · rw [List.length_map] at hj
            rw [getD_map_int hj]
            (refine evE ?P134 (fun Q h => ?h134) ?_; (case h134 => (simp only [tTest, tOp, tUn, tVar, tC, tCB, tCons, tNil, tAnd, tOr, tNot, tB, tTup, tLst, tIf, tAndV, tOrV, tNotV, tSl, tPart, tNoPart, tCall, iIx_ref, oGt_int, oMod_int, oFdiv_int, oAdd_int, oAdd_str, oSub_int, oMul_int, oLt_int, oGe_int, oLe_int, oPow_int, uNeg_int, oEq_int, oEq_str, oEq_bl, oNe_int, oNe_str, oNe_bl, cInt_int, cInt_bl, cAbs_int, cLen_ref, cList_ref, stL_ref, gName, gSub, gTup, gCons, gNil, rdSeq, List.getElem?_cons_zero, List.getElem?_cons_succ, List.set_cons_zero, List.set_cons_succ, List.cons_append, List.nil_append, Option.some.injEq, exists_eq_left', V.bl.injEq, V.int.injEq, V.ref.injEq, atI_0, atI_1, atI_2, setI_1, setI_2, Bool.not_true, Bool.not_false, Bool.false_eq_true, if_false, if_true, wipe]; exact h)); (try dsimp only [gName, tNext, List.set_cons_zero, List.set_cons_succ]))
            exact hR _ .refl
          refine ⟨lastL told gains, by rw [hd3, List.length_map, map_list (lastL told gains) 0], hem, fun best hb hbx => ?_⟩
          have hc10 := hc9.grow g10
          refine prG hc10 ⟨_, _, hc10, nf4.pos, nf4.le, by omega, bl', fun z => absurd ((lastL_nil G0 nf4 hq).mpr z) hem, fun best' hb' hbx' s H11 g11 hs => ?_⟩
          refine ⟨by show 2 ≤ sizeLine; decide, fun pt hpt => ?_⟩
          refine ⟨pt, _, rfl, SqT.of upd_same, rfl, ?_⟩
          refine ⟨_, _, rfl, ?_⟩
          refine ⟨_, _, rfl, ?_⟩
          refine ⟨rfl, ?_⟩
          (try dsimp only [gName, tNext, List.set_cons_zero, List.set_cons_succ])
          have g0 := Grow.new (o := .tup [.int best, .ref s]) hpt
          replace hs := g0 _ _ hs
          replace g11 := g11.trans g0
          generalize upd H11 pt (.tup [.int best, .ref s]) = H11 at *
          have hp' := nf4.pos
          have hp'60 : (nfG told gains).length ≤ 60 := by
            have := Nat.le_mul_of_pos_left (nfG told gains).length q0
            omega
          have ebest : best = (q : Int) * best' := by
            obtain ⟨x, hx, ex⟩ := sc2 best hb
            have h1 := hbx' x hx
            have h2 := hbx _ (sc1 best' hb')
            have h3 := Int.mul_le_mul_of_nonneg_left h1 (by omega : (0 : Int) ≤ (q : Int))
            omega
          have eper : (gains.length : Int) = (q : Int) * ((nfG told gains).length : Int) := by rw [hq, Int.natCast_mul]
          obtain ⟨w1, w2, w3⟩ := slope_law (best' := best') (p' := ((nfG told gains).length : Int)) (q := (q : Int)) (by omega)
          have bb' := bl' _ hb'
          have bu : Bn 1000 (best' / (Int.gcd best' ((nfG told gains).length : Int) : Int)) := bb'.div
          have bv : Bn 20 (((nfG told gains).length : Int) / (Int.gcd best' ((nfG told gains).length : Int) : Int)) := (bn_nat (m := 20) (by omega : (nfG told gains).length < 2 ^ 20)).div
          have bbest : Bn 900 best := bg _ (lastL_mem hp hb)
          have bper : Bn 20 (gains.length : Int) := bn_nat (by omega)
          have vle : ((nfG told gains).length : Int) / (Int.gcd best' ((nfG told gains).length : Int) : Int) ≤ 60 := by
            have := Int.ediv_le_self (a := ((nfG told gains).length : Int)) (Int.gcd best' ((nfG told gains).length : Int) : Int) (by omega)
            omega
          rw [← eper, ← ebest] at w2
          generalize best' / (Int.gcd best' ((nfG told gains).length : Int) : Int) = u at *
          generalize ((nfG told gains).length : Int) / (Int.gcd best' ((nfG told gains).length : Int) : Int) = v at *
          have kt : PySem.W.kitOne K (.type "tuple") (.type "tuple") = some true := kit_ty (by decide +kernel)
          refine st_seq (st_if ?_)
          (refine evT ?P135 (fun Q h => ?h135) ?_; (case h135 => (simp only [tTest, tOp, tUn, tVar, tC, tCB, tCons, tNil, tAnd, tOr, tNot, tB, tTup, tLst, tIf, tAndV, tOrV, tNotV, tSl, tPart, tNoPart, tCall, iIx_ref, oGt_int, oMod_int, oFdiv_int, oAdd_int, oAdd_str, oSub_int, oMul_int, oLt_int, oGe_int, oLe_int, oPow_int, uNeg_int, oEq_int, oEq_str, oEq_bl, oNe_int, oNe_str, oNe_bl, cInt_int, cInt_bl, cAbs_int, cLen_ref, cList_ref, stL_ref, gName, gSub, gTup, gCons, gNil, rdSeq, List.getElem?_cons_zero, List.getElem?_cons_succ, List.set_cons_zero, List.set_cons_succ, List.cons_append, List.nil_append, Option.some.injEq, exists_eq_left', V.bl.injEq, V.int.injEq, V.ref.injEq, atI_0, atI_1, atI_2, setI_1, setI_2, Bool.not_true, Bool.not_false, Bool.false_eq_true, if_false, if_true, cIsi, tyF, hs, kt, tyOk, true_and]; exact h)); (try dsimp only [gName, tNext, List.set_cons_zero, List.set_cons_succ]))
          refine lenE (.t hs) ?_
          simp only [tTest, tOp, tUn, tVar, tC, tCB, tCons, tNil, tAnd, tOr, tNot, tB, tTup, tLst, tIf, tAndV, tOrV, tNotV, tSl, tPart, tNoPart, tCall, iIx_ref, oGt_int, oMod_int, oFdiv_int, oAdd_int, oAdd_str, oSub_int, oMul_int, oLt_int, oGe_int, oLe_int, oPow_int, uNeg_int, oEq_int, oEq_str, oEq_bl, oNe_int, oNe_str, oNe_bl, cInt_int, cInt_bl, cAbs_int, cLen_ref, cList_ref, stL_ref, gName, gSub, gTup, gCons, gNil, rdSeq, List.getElem?_cons_zero, List.getElem?_cons_succ, List.set_cons_zero, List.set_cons_succ, List.cons_append, List.nil_append, Option.some.injEq, exists_eq_left', V.bl.injEq, V.int.injEq, V.ref.injEq, atI_0, atI_1, atI_2, setI_1, setI_2, Bool.not_true, Bool.not_false, Bool.false_eq_true, if_false, if_true, List.length_cons, List.length_nil]
          refine ixE (.t hs) atI_1 ?_
          simp only [tTest, tOp, tUn, tVar, tC, tCB, tCons, tNil, tAnd, tOr, tNot, tB, tTup, tLst, tIf, tAndV, tOrV, tNotV, tSl, tPart, tNoPart, tCall, iIx_ref, oGt_int, oMod_int, oFdiv_int, oAdd_int, oAdd_str, oSub_int, oMul_int, oLt_int, oGe_int, oLe_int, oPow_int, uNeg_int, oEq_int, oEq_str, oEq_bl, oNe_int, oNe_str, oNe_bl, cInt_int, cInt_bl, cAbs_int, cLen_ref, cList_ref, stL_ref, gName, gSub, gTup, gCons, gNil, rdSeq, List.getElem?_cons_zero, List.getElem?_cons_succ, List.set_cons_zero, List.set_cons_succ, List.cons_append, List.nil_append, Option.some.injEq, exists_eq_left', V.bl.injEq, V.int.injEq, V.ref.injEq, atI_0, atI_1, atI_2, setI_1, setI_2, Bool.not_true, Bool.not_false, Bool.false_eq_true, if_false, if_true]
          rw [decide_eq_false (by omega : ¬ v < 1)]
          refine if_no (ixE (.t hs) atI_0 ?_)
          simp only [tTest, tOp, tUn, tVar, tC, tCB, tCons, tNil, tAnd, tOr, tNot, tB, tTup, tLst, tIf, tAndV, tOrV, tNotV, tSl, tPart, tNoPart, tCall, iIx_ref, oGt_int, oMod_int, oFdiv_int, oAdd_int, oAdd_str, oSub_int, oMul_int, oLt_int, oGe_int, oLe_int, oPow_int, uNeg_int, oEq_int, oEq_str, oEq_bl, oNe_int, oNe_str, oNe_bl, cInt_int, cInt_bl, cAbs_int, cLen_ref, cList_ref, stL_ref, gName, gSub, gTup, gCons, gNil, rdSeq, List.getElem?_cons_zero, List.getElem?_cons_succ, List.set_cons_zero, List.set_cons_succ, List.cons_append, List.nil_append, Option.some.injEq, exists_eq_left', V.bl.injEq, V.int.injEq, V.ref.injEq, atI_0, atI_1, atI_2, setI_1, setI_2, Bool.not_true, Bool.not_false, Bool.false_eq_true, if_false, if_true]
          refine ⟨bu.mulok bper, ixE (.t hs) atI_1 ?_⟩
          simp only [tTest, tOp, tUn, tVar, tC, tCB, tCons, tNil, tAnd, tOr, tNot, tB, tTup, tLst, tIf, tAndV, tOrV, tNotV, tSl, tPart, tNoPart, tCall, iIx_ref, oGt_int, oMod_int, oFdiv_int, oAdd_int, oAdd_str, oSub_int, oMul_int, oLt_int, oGe_int, oLe_int, oPow_int, uNeg_int, oEq_int, oEq_str, oEq_bl, oNe_int, oNe_str, oNe_bl, cInt_int, cInt_bl, cAbs_int, cLen_ref, cList_ref, stL_ref, gName, gSub, gTup, gCons, gNil, rdSeq, List.getElem?_cons_zero, List.getElem?_cons_succ, List.set_cons_zero, List.set_cons_succ, List.cons_append, List.nil_append, Option.some.injEq, exists_eq_left', V.bl.injEq, V.int.injEq, V.ref.injEq, atI_0, atI_1, atI_2, setI_1, setI_2, Bool.not_true, Bool.not_false, Bool.false_eq_true, if_false, if_true]
          refine ⟨bbest.mulok bv, ?_⟩
          rw [decide_eq_true w2]
          (refine if_no ?_; (try dsimp only [gName, tNext, List.set_cons_zero, List.set_cons_succ]))
          refine st_ret ?_
          (refine evE ?P145 (fun Q h => ?h145) ?_; (case h145 => (simp only [tTest, tOp, tUn, tVar, tC, tCB, tCons, tNil, tAnd, tOr, tNot, tB, tTup, tLst, tIf, tAndV, tOrV, tNotV, tSl, tPart, tNoPart, tCall, iIx_ref, oGt_int, oMod_int, oFdiv_int, oAdd_int, oAdd_str, oSub_int, oMul_int, oLt_int, oGe_int, oLe_int, oPow_int, uNeg_int, oEq_int, oEq_str, oEq_bl, oNe_int, oNe_str, oNe_bl, cInt_int, cInt_bl, cAbs_int, cLen_ref, cList_ref, stL_ref, gName, gSub, gTup, gCons, gNil, rdSeq, List.getElem?_cons_zero, List.getElem?_cons_succ, List.set_cons_zero, List.set_cons_succ, List.cons_append, List.nil_append, Option.some.injEq, exists_eq_left', V.bl.injEq, V.int.injEq, V.ref.injEq, atI_0, atI_1, atI_2, setI_1, setI_2, Bool.not_true, Bool.not_false, Bool.false_eq_true, if_false, if_true]; exact h)))
          refine lc_ev ?_
          unfold iRng2
          (refine evA ?P146 (fun Q h => ?h146) ?_; (case h146 => (simp only [tTest, tOp, tUn, tVar, tC, tCB, tCons, tNil, tAnd, tOr, tNot, tB, tTup, tLst, tIf, tAndV, tOrV, tNotV, tSl, tPart, tNoPart, tCall, iIx_ref, oGt_int, oMod_int, oFdiv_int, oAdd_int, oAdd_str, oSub_int, oMul_int, oLt_int, oGe_int, oLe_int, oPow_int, uNeg_int, oEq_int, oEq_str, oEq_bl, oNe_int, oNe_str, oNe_bl, cInt_int, cInt_bl, cAbs_int, cLen_ref, cList_ref, stL_ref, gName, gSub, gTup, gCons, gNil, rdSeq, List.getElem?_cons_zero, List.getElem?_cons_succ, List.set_cons_zero, List.set_cons_succ, List.cons_append, List.nil_append, Option.some.injEq, exists_eq_left', V.bl.injEq, V.int.injEq, V.ref.injEq, atI_0, atI_1, atI_2, setI_1, setI_2, Bool.not_true, Bool.not_false, Bool.false_eq_true, if_false, if_true]; exact h)))
          refine ixE (.t hs) atI_1 ?_
          simp only [tTest, tOp, tUn, tVar, tC, tCB, tCons, tNil, tAnd, tOr, tNot, tB, tTup, tLst, tIf, tAndV, tOrV, tNotV, tSl, tPart, tNoPart, tCall, iIx_ref, oGt_int, oMod_int, oFdiv_int, oAdd_int, oAdd_str, oSub_int, oMul_int, oLt_int, oGe_int, oLe_int, oPow_int, uNeg_int, oEq_int, oEq_str, oEq_bl, oNe_int, oNe_str, oNe_bl, cInt_int, cInt_bl, cAbs_int, cLen_ref, cList_ref, stL_ref, gName, gSub, gTup, gCons, gNil, rdSeq, List.getElem?_cons_zero, List.getElem?_cons_succ, List.set_cons_zero, List.set_cons_succ, List.cons_append, List.nil_append, Option.some.injEq, exists_eq_left', V.bl.injEq, V.int.injEq, V.ref.injEq, atI_0, atI_1, atI_2, setI_1, setI_2, Bool.not_true, Bool.not_false, Bool.false_eq_true, if_false, if_true]
          refine ⟨_, _, rfl, ⟨by omega, by omega, by omega, by omega⟩, ?_⟩
          refine lc_filter jok_rng (fun _ => false) (fun _ => .non) (by omega) (fun j hj H' g' R hR => ?_) (fun j hj hpj => by cases hpj) (fun D4 H12 g12' hD4 hd4 => ?_) (by exact fun x => rfl)
          · have hs' := g' _ _ hs
            (refine evT ?P136 (fun Q h => ?h136) ?_; (case h136 => (simp only [tTest, tOp, tUn, tVar, tC, tCB, tCons, tNil, tAnd, tOr, tNot, tB, tTup, tLst, tIf, tAndV, tOrV, tNotV, tSl, tPart, tNoPart, tCall, iIx_ref, oGt_int, oMod_int, oFdiv_int, oAdd_int, oAdd_str, oSub_int, oMul_int, oLt_int, oGe_int, oLe_int, oPow_int, uNeg_int, oEq_int, oEq_str, oEq_bl, oNe_int, oNe_str, oNe_bl, cInt_int, cInt_bl, cAbs_int, cLen_ref, cList_ref, stL_ref, gName, gSub, gTup, gCons, gNil, rdSeq, List.getElem?_cons_zero, List.getElem?_cons_succ, List.set_cons_zero, List.set_cons_succ, List.cons_append, List.nil_append, Option.some.injEq, exists_eq_left', V.bl.injEq, V.int.injEq, V.ref.injEq, atI_0, atI_1, atI_2, setI_1, setI_2, Bool.not_true, Bool.not_false, Bool.false_eq_true, if_false, if_true, wipe]; exact h)); (try dsimp only [gName, tNext, List.set_cons_zero, List.set_cons_succ]))
            refine ixE (.t hs') atI_0 ?_
            simp only [tTest, tOp, tUn, tVar, tC, tCB, tCons, tNil, tAnd, tOr, tNot, tB, tTup, tLst, tIf, tAndV, tOrV, tNotV, tSl, tPart, tNoPart, tCall, iIx_ref, oGt_int, oMod_int, oFdiv_int, oAdd_int, oAdd_str, oSub_int, oMul_int, oLt_int, oGe_int, oLe_int, oPow_int, uNeg_int, oEq_int, oEq_str, oEq_bl, oNe_int, oNe_str, oNe_bl, cInt_int, cInt_bl, cAbs_int, cLen_ref, cList_ref, stL_ref, gName, gSub, gTup, gCons, gNil, rdSeq, List.getElem?_cons_zero, List.getElem?_cons_succ, List.set_cons_zero, List.set_cons_succ, List.cons_append, List.nil_append, Option.some.injEq, exists_eq_left', V.bl.injEq, V.int.injEq, V.ref.injEq, atI_0, atI_1, atI_2, setI_1, setI_2, Bool.not_true, Bool.not_false, Bool.false_eq_true, if_false, if_true]
            refine ⟨by omega, ?_⟩
            have w := w3 (2 + (j : Int)) (by omega)
            refine ite_dec (fun h1 => ?_) (fun h1 => hR _ .refl)
            refine ixE (.t hs') atI_1 ?_
            simp only [tTest, tOp, tUn, tVar, tC, tCB, tCons, tNil, tAnd, tOr, tNot, tB, tTup, tLst, tIf, tAndV, tOrV, tNotV, tSl, tPart, tNoPart, tCall, iIx_ref, oGt_int, oMod_int, oFdiv_int, oAdd_int, oAdd_str, oSub_int, oMul_int, oLt_int, oGe_int, oLe_int, oPow_int, uNeg_int, oEq_int, oEq_str, oEq_bl, oNe_int, oNe_str, oNe_bl, cInt_int, cInt_bl, cAbs_int, cLen_ref, cList_ref, stL_ref, gName, gSub, gTup, gCons, gNil, rdSeq, List.getElem?_cons_zero, List.getElem?_cons_succ, List.set_cons_zero, List.set_cons_succ, List.cons_append, List.nil_append, Option.some.injEq, exists_eq_left', V.bl.injEq, V.int.injEq, V.ref.injEq, atI_0, atI_1, atI_2, setI_1, setI_2, Bool.not_true, Bool.not_false, Bool.false_eq_true, if_false, if_true]
            refine ⟨by omega, ?_⟩
            rw [decide_eq_false (fun h2 => w ⟨h1, h2⟩)]
            exact hR _ .refl
          have hr0 : ∀ n, resF (fun _ => false) (fun _ => V.non) n = [] := fun n => by unfold resF; simp
          rw [hr0] at hd4
          refine ⟨by show 0 ≤ sizeLine; decide, fun e5 he5 => ?_⟩
          have g13 := Grow.new (o := .lst []) he5
          refine eq_nil (ns := []) (g13 _ _ hd4) upd_same ?_
          exact k _ (G8.trans ((g9.trans g10).trans (g11.trans (g12'.trans g13))))
      refine prG hc7 ⟨nfT told gains, nfG told gains, hc7, nf4.pos, nf4.le, by omega, fun hh H8 g8 => ?_, fun hh m H8 hm hmx g8 => ?_⟩
      · have ed : due = none := by
          refine du1 ?_
          cases he : endL told gains with
          | true => exact .inl rfl
          | false =>
            right
            rcases hh with hh | hh
            · exact (nums_nil G0 nf4 he (by rw [← eend]; exact he)).mpr hh
            · rw [← eend, he] at hh
              cases hh
        rw [← eend]
        refine ⟨by show 2 ≤ sizeLine; decide, fun x1 hx1 => ?_⟩
        have n1 := Grow.new (o := .lst [.bl (endL told gains), oV due]) hx1
        refine repr_bo (b := endL told gains) (o := due) (by rw [ed]; exact upd_same) bdue ?_
        refine ⟨by show 2 ≤ sizeLine; decide, fun x2 hx2 => ?_⟩
        refine repr_bo (b := endL told gains) (o := due) upd_same bdue ?_
        simp only [tTest, tOp, tUn, tVar, tC, tCB, tCons, tNil, tAnd, tOr, tNot, tB, tTup, tLst, tIf, tAndV, tOrV, tNotV, tSl, tPart, tNoPart, tCall, iIx_ref, oGt_int, oMod_int, oFdiv_int, oAdd_int, oAdd_str, oSub_int, oMul_int, oLt_int, oGe_int, oLe_int, oPow_int, uNeg_int, oEq_int, oEq_str, oEq_bl, oNe_int, oNe_str, oNe_bl, cInt_int, cInt_bl, cAbs_int, cLen_ref, cList_ref, stL_ref, gName, gSub, gTup, gCons, gNil, rdSeq, List.getElem?_cons_zero, List.getElem?_cons_succ, List.set_cons_zero, List.set_cons_succ, List.cons_append, List.nil_append, Option.some.injEq, exists_eq_left', V.bl.injEq, V.int.injEq, V.ref.injEq, atI_0, atI_1, atI_2, setI_1, setI_2, Bool.not_true, Bool.not_false, Bool.false_eq_true, if_false, if_true, decide_true]
        refine rest2 _ (g8.trans ?_)
        rw [ed] at n1 ⊢
        exact n1.trans (Grow.new hx2)
      · have ed : due = some m := by
          have he : endL told gains = false := by rw [eend]; exact hh
          have hne : nums told ≠ [] := fun z => by
            have := (nums_nil G0 nf4 he hh).mp z
            rw [this] at hm
            exact (List.not_mem_nil hm).elim
          obtain ⟨m2, e1, e2, e3⟩ := du2 he hne
          rw [e1, nums_max G0 nf4 he hh e2 e3 hm hmx]
        rw [← eend]
        refine ⟨by show 2 ≤ sizeLine; decide, fun x1 hx1 => ?_⟩
        have n1 := Grow.new (o := .lst [.bl (endL told gains), oV due]) hx1
        refine repr_bo (b := endL told gains) (o := due) (by rw [ed]; exact upd_same) bdue ?_
        refine ⟨by show 2 ≤ sizeLine; decide, fun x2 hx2 => ?_⟩
        refine repr_bo (b := endL told gains) (o := due) upd_same bdue ?_
        simp only [tTest, tOp, tUn, tVar, tC, tCB, tCons, tNil, tAnd, tOr, tNot, tB, tTup, tLst, tIf, tAndV, tOrV, tNotV, tSl, tPart, tNoPart, tCall, iIx_ref, oGt_int, oMod_int, oFdiv_int, oAdd_int, oAdd_str, oSub_int, oMul_int, oLt_int, oGe_int, oLe_int, oPow_int, uNeg_int, oEq_int, oEq_str, oEq_bl, oNe_int, oNe_str, oNe_bl, cInt_int, cInt_bl, cAbs_int, cLen_ref, cList_ref, stL_ref, gName, gSub, gTup, gCons, gNil, rdSeq, List.getElem?_cons_zero, List.getElem?_cons_succ, List.set_cons_zero, List.set_cons_succ, List.cons_append, List.nil_append, Option.some.injEq, exists_eq_left', V.bl.injEq, V.int.injEq, V.ref.injEq, atI_0, atI_1, atI_2, setI_1, setI_2, Bool.not_true, Bool.not_false, Bool.false_eq_true, if_false, if_true, decide_true]
        refine rest2 _ (g8.trans ?_)
        rw [ed] at n1 ⊢
        exact n1.trans (Grow.new hx2)
    refine st_seq (st_asg ?_)
    unfold tIf
    (refine evT ?P147 (fun Q h => ?h147) ?_; (case h147 => (simp only [tTest, tOp, tUn, tVar, tC, tCB, tCons, tNil, tAnd, tOr, tNot, tB, tTup, tLst, tIf, tAndV, tOrV, tNotV, tSl, tPart, tNoPart, tCall, iIx_ref, oGt_int, oMod_int, oFdiv_int, oAdd_int, oAdd_str, oSub_int, oMul_int, oLt_int, oGe_int, oLe_int, oPow_int, uNeg_int, oEq_int, oEq_str, oEq_bl, oNe_int, oNe_str, oNe_bl, cInt_int, cInt_bl, cAbs_int, cLen_ref, cList_ref, stL_ref, gName, gSub, gTup, gCons, gNil, rdSeq, List.getElem?_cons_zero, List.getElem?_cons_succ, List.set_cons_zero, List.set_cons_succ, List.cons_append, List.nil_append, Option.some.injEq, exists_eq_left', V.bl.injEq, V.int.injEq, V.ref.injEq, atI_0, atI_1, atI_2, setI_1, setI_2, Bool.not_true, Bool.not_false, Bool.false_eq_true, if_false, if_true]; exact h)))
    cases he : endL told gains with
    | true =>
      refine if_yes (if_yes ?_)
      (refine evE ?P137 (fun Q h => ?h137) ?_; (case h137 => (simp only [tTest, tOp, tUn, tVar, tC, tCB, tCons, tNil, tAnd, tOr, tNot, tB, tTup, tLst, tIf, tAndV, tOrV, tNotV, tSl, tPart, tNoPart, tCall, iIx_ref, oGt_int, oMod_int, oFdiv_int, oAdd_int, oAdd_str, oSub_int, oMul_int, oLt_int, oGe_int, oLe_int, oPow_int, uNeg_int, oEq_int, oEq_str, oEq_bl, oNe_int, oNe_str, oNe_bl, cInt_int, cInt_bl, cAbs_int, cLen_ref, cList_ref, stL_ref, gName, gSub, gTup, gCons, gNil, rdSeq, List.getElem?_cons_zero, List.getElem?_cons_succ, List.set_cons_zero, List.set_cons_succ, List.cons_append, List.nil_append, Option.some.injEq, exists_eq_left', V.bl.injEq, V.int.injEq, V.ref.injEq, atI_0, atI_1, atI_2, setI_1, setI_2, Bool.not_true, Bool.not_false, Bool.false_eq_true, if_false, if_true]; exact h)); (try dsimp only [gName, tNext, List.set_cons_zero, List.set_cons_succ]))
      rw [he] at rest
      exact rest none H5 .refl (fun _ => rfl) (fun z => by cases z)
    | false =>
      refine if_no ⟨by show 0 ≤ sizeLine; decide, fun e he1 => ?_⟩
      have g6 := Grow.new (o := .lst []) he1
      refine eq_nil (g6 _ _ hn) upd_same ⟨_, rfl, ?_⟩
      rw [he] at rest
      by_cases hem : nums told = []
      · rw [hem]
        (refine if_yes ?_; (try dsimp only [gName, tNext, List.set_cons_zero, List.set_cons_succ]))
        (refine evE ?P138 (fun Q h => ?h138) ?_; (case h138 => (simp only [tTest, tOp, tUn, tVar, tC, tCB, tCons, tNil, tAnd, tOr, tNot, tB, tTup, tLst, tIf, tAndV, tOrV, tNotV, tSl, tPart, tNoPart, tCall, iIx_ref, oGt_int, oMod_int, oFdiv_int, oAdd_int, oAdd_str, oSub_int, oMul_int, oLt_int, oGe_int, oLe_int, oPow_int, uNeg_int, oEq_int, oEq_str, oEq_bl, oNe_int, oNe_str, oNe_bl, cInt_int, cInt_bl, cAbs_int, cLen_ref, cList_ref, stL_ref, gName, gSub, gTup, gCons, gNil, rdSeq, List.getElem?_cons_zero, List.getElem?_cons_succ, List.set_cons_zero, List.set_cons_succ, List.cons_append, List.nil_append, Option.some.injEq, exists_eq_left', V.bl.injEq, V.int.injEq, V.ref.injEq, atI_0, atI_1, atI_2, setI_1, setI_2, Bool.not_true, Bool.not_false, Bool.false_eq_true, if_false, if_true]; exact h)); (try dsimp only [gName, tNext, List.set_cons_zero, List.set_cons_succ]))
        exact rest none _ g6 (fun _ => rfl) (fun _ z => absurd hem z)
      · have he2 : (nums told).isEmpty = false := by rw [List.isEmpty_eq_false_iff]; exact hem
        rw [he2]
        (refine if_no ?_; (try dsimp only [gName, tNext, List.set_cons_zero, List.set_cons_succ]))
        (refine evE ?P148 (fun Q h => ?h148) ?_; (case h148 => (simp only [tTest, tOp, tUn, tVar, tC, tCB, tCons, tNil, tAnd, tOr, tNot, tB, tTup, tLst, tIf, tAndV, tOrV, tNotV, tSl, tPart, tNoPart, tCall, iIx_ref, oGt_int, oMod_int, oFdiv_int, oAdd_int, oAdd_str, oSub_int, oMul_int, oLt_int, oGe_int, oLe_int, oPow_int, uNeg_int, oEq_int, oEq_str, oEq_bl, oNe_int, oNe_str, oNe_bl, cInt_int, cInt_bl, cAbs_int, cLen_ref, cList_ref, stL_ref, gName, gSub, gTup, gCons, gNil, rdSeq, List.getElem?_cons_zero, List.getElem?_cons_succ, List.set_cons_zero, List.set_cons_succ, List.cons_append, List.nil_append, Option.some.injEq, exists_eq_left', V.bl.injEq, V.int.injEq, V.ref.injEq, atI_0, atI_1, atI_2, setI_1, setI_2, Bool.not_true, Bool.not_false, Bool.false_eq_true, if_false, if_true]; exact h)))
        refine lc_ev ?_
        unfold iSeq
        (refine evE ?P149 (fun Q h => ?h149) ?_; (case h149 => (simp only [tTest, tOp, tUn, tVar, tC, tCB, tCons, tNil, tAnd, tOr, tNot, tB, tTup, tLst, tIf, tAndV, tOrV, tNotV, tSl, tPart, tNoPart, tCall, iIx_ref, oGt_int, oMod_int, oFdiv_int, oAdd_int, oAdd_str, oSub_int, oMul_int, oLt_int, oGe_int, oLe_int, oPow_int, uNeg_int, oEq_int, oEq_str, oEq_bl, oNe_int, oNe_str, oNe_bl, cInt_int, cInt_bl, cAbs_int, cLen_ref, cList_ref, stL_ref, gName, gSub, gTup, gCons, gNil, rdSeq, List.getElem?_cons_zero, List.getElem?_cons_succ, List.set_cons_zero, List.set_cons_succ, List.cons_append, List.nil_append, Option.some.injEq, exists_eq_left', V.bl.injEq, V.int.injEq, V.ref.injEq, atI_0, atI_1, atI_2, setI_1, setI_2, Bool.not_true, Bool.not_false, Bool.false_eq_true, if_false, if_true]; exact h)))
        have hnn := nums_len told
        refine jok_sq (.l (g6 _ _ hn)) fun J hJ => ?_
        refine lc_map hJ (fun j => .int ((nums told).getD j 0)) (by rw [List.length_map]; omega) (fun j hj H' g' R hR => ?_) (fun D3 H7 g7 hD3 hd3 => ?_) (by exact fun x => rfl)
        · rw [List.length_map] at hj
          rw [getD_map_int hj]
          (refine evE ?P139 (fun Q h => ?h139) ?_; (case h139 => (simp only [tTest, tOp, tUn, tVar, tC, tCB, tCons, tNil, tAnd, tOr, tNot, tB, tTup, tLst, tIf, tAndV, tOrV, tNotV, tSl, tPart, tNoPart, tCall, iIx_ref, oGt_int, oMod_int, oFdiv_int, oAdd_int, oAdd_str, oSub_int, oMul_int, oLt_int, oGe_int, oLe_int, oPow_int, uNeg_int, oEq_int, oEq_str, oEq_bl, oNe_int, oNe_str, oNe_bl, cInt_int, cInt_bl, cAbs_int, cLen_ref, cList_ref, stL_ref, gName, gSub, gTup, gCons, gNil, rdSeq, List.getElem?_cons_zero, List.getElem?_cons_succ, List.set_cons_zero, List.set_cons_succ, List.cons_append, List.nil_append, Option.some.injEq, exists_eq_left', V.bl.injEq, V.int.injEq, V.ref.injEq, atI_0, atI_1, atI_2, setI_1, setI_2, Bool.not_true, Bool.not_false, Bool.false_eq_true, if_false, if_true, wipe]; exact h)); (try dsimp only [gName, tNext, List.set_cons_zero, List.set_cons_succ]))
          exact hR _ .refl
        refine ⟨nums told, by rw [hd3, List.length_map, map_list (nums told) 0], hem, fun m hm hmx => ?_⟩
        exact rest (some m) H7 (g6.trans g7) (fun z => by rcases z with z | z; cases z; exact absurd z hem) (fun _ _ => ⟨m, rfl, hm, hmx⟩)
  · exact h.elim
end HG

namespace HG
open PySem L2
def sp_law (K : PySem.W.Frag) (A : Ad) : Sp := spLaw K
def t_law_6 (K : PySem.W.Frag) (A : Ad) : TS := (tRet (tC (.bl false)))
def t_law_8 (K : PySem.W.Frag) (A : Ad) : TS := (tRet (tC (.bl false)))
def t_law_7 (K : PySem.W.Frag) (A : Ad) : TS := (tIfS (tNot (tB (tCall (sp_law_right K A) [] E0 (tCons (tTup (tCons (tOp oAdd (tOp (rIx K) (tVar 3) (tC (.int 0))) (tOp oMul (tLst (tCons (tC .non) tNil)) (tCB (cLenE K) (tCons (tOp (rIx K) (tVar 3) (tC (.int 1))) tNil)))) (tCons (tOp (rIx K) (tVar 3) (tC (.int 1))) tNil))) tNil)))) (t_law_8 K A) tNext)
def t_law_5 (K : PySem.W.Frag) (A : Ad) : TS := (tSeq (tIfS (tOr (tNot (tB (tCall (sp_law_right K A) [] E0 (tCons (tVar 3) tNil)))) (tOr (tNot (tB (tCall (sp_law_right K A) [] E0 (tCons (tVar 4) tNil)))) (tNot (tB (tCall (sp_law_right K A) [] E0 (tCons (tVar 5) tNil)))))) (t_law_6 K A) tNext) (t_law_7 K A))
def t_law_4 (K : PySem.W.Frag) (A : Ad) : TS := (tSeq (tAsg (tTup (tCons (tLc (iSeq K (tOp (rIx K) (tVar 3) (tC (.int 0)))) (gName 7) tYes (tC .non) [7]) (tCons (tOp (rIx K) (tVar 3) (tC (.int 1))) tNil))) (gName 5)) (t_law_5 K A))
def t_law_3 (K : PySem.W.Frag) (A : Ad) : TS := (tSeq (tAsg (tTup (tCons (tLc (iSeq K (tOp (rIx K) (tVar 3) (tC (.int 0)))) (gName 7) tYes (tCall (sp_law_pick K A) [] E0 (tCons (tVar 1) (tCons (tLst (tCons (tC .non) (tCons (tVar 7) tNil))) tNil))) [7]) (tCons (tLc (iSeq K (tOp (rIx K) (tVar 3) (tC (.int 1)))) (gName 8) tYes (tCB (cMin K) (tCons (tCB cInt (tCons (tVar 8) tNil)) (tCons (tC (.int 0)) tNil))) [8]) tNil))) (gName 4)) (t_law_4 K A))
def t_law_2 (K : PySem.W.Frag) (A : Ad) : TS := (tSeq (tAsg (tCall (sp_law_told K A) [] E0 (tCons (tVar 1) tNil)) (gName 3)) (t_law_3 K A))
def t_law_11 (K : PySem.W.Frag) (A : Ad) : TS := (tRet (tC (.bl false)))
def t_law_13 (K : PySem.W.Frag) (A : Ad) : TS := (tRet (tOp (oEq K) (tVar 6) (tLst (tCons (tTup (tCons (tC (.int 0)) (tCons (tC (.int 1)) tNil))) (tCons (tTup (tCons (tUn uNeg (tC (.int 2))) (tCons (tC (.int 1)) tNil))) (tCons (tTup (tCons (tC (.int 3)) (tCons (tC (.int 2)) tNil))) tNil))))))
def t_law_12 (K : PySem.W.Frag) (A : Ad) : TS := (tSeq (tAsg (tLst (tCons (tProp A.c_Growth (sp_Growth_slope K A) [] E0 (tSMeth A.c_Growth (sp_Growth_constant K A) [] E0 (tC (.ref A.c_Growth)) (tCons (tC (.int 4)) tNil))) (tCons (tProp A.c_Growth (sp_Growth_slope K A) [] E0 (tSMeth A.c_Growth (sp_Growth_ramp K A) [.int 0] E0 (tC (.ref A.c_Growth)) (tCons (tUn uNeg (tC (.int 2))) tNil))) (tCons (tProp A.c_Growth (sp_Growth_slope K A) [] E0 (tMake A.c_Growth (sp_Growth_init K A) [] E0 (tCons (tLst (tCons (tC (.int 0)) (tCons (tC (.int 0)) (tCons (tC .non) (tCons (tC (.int 0)) tNil))))) (tCons (tLst (tCons (tC (.int 6)) (tCons (tC (.int 0)) (tCons (tC (.int 6)) (tCons (tC (.int 2)) tNil))))) tNil)))) tNil)))) (gName 6)) (t_law_13 K A))
def t_law_10 (K : PySem.W.Frag) (A : Ad) : TS := (tSeq (tIfS (tTest (tOp (oNe K) (tVar 6) (tLst (tCons (tC (.int 4)) (tCons (tC (.int 7)) (tCons (tC .non) (tCons (tC .non) tNil))))))) (t_law_11 K A) tNext) (t_law_12 K A))
def t_law_9 (K : PySem.W.Frag) (A : Ad) : TS := (tSeq (tAsg (tLst (tCons (tProp A.c_Growth (sp_Growth_greatest K A) [] E0 (tSMeth A.c_Growth (sp_Growth_constant K A) [] E0 (tC (.ref A.c_Growth)) (tCons (tC (.int 4)) tNil))) (tCons (tProp A.c_Growth (sp_Growth_greatest K A) [] E0 (tSMeth A.c_Growth (sp_Growth_ramp K A) [] E0 (tC (.ref A.c_Growth)) (tCons (tUn uNeg (tC (.int 2))) (tCons (tC (.int 7)) tNil)))) (tCons (tProp A.c_Growth (sp_Growth_greatest K A) [] E0 (tSMeth A.c_Growth (sp_Growth_ramp K A) [.int 0] E0 (tC (.ref A.c_Growth)) (tCons (tC (.int 1)) tNil))) (tCons (tProp A.c_Growth (sp_Growth_greatest K A) [] E0 (tSMeth A.c_Growth (sp_Growth_none K A) [] E0 (tC (.ref A.c_Growth)) tNil)) tNil))))) (gName 6)) (t_law_10 K A))
def t_law_1 (K : PySem.W.Frag) (A : Ad) : TS := (tSeq (tFor (iRng1 (tCons (tC (.int 20)) tNil)) (gName 2)
    (t_law_2 K A)) (t_law_9 K A))
def t_law_0 (K : PySem.W.Frag) (A : Ad) : TS := (tSeq (tAsg (tCall (sp_law_pen K A) [] E0 (tCons (tVar 0) tNil)) (gName 1)) (t_law_1 K A))

theorem list9 {α : Type} {l : List α} (h : l.length = 9) : ∃ a0 a1 a2 a3 a4 a5 a6 a7 a8, l = [a0, a1, a2, a3, a4, a5, a6, a7, a8] := by
  match l, h with
  | [a0, a1, a2, a3, a4, a5, a6, a7, a8], _ => exact ⟨_, _, _, _, _, _, _, _, _, rfl⟩
theorem bn_small {x : Int} {m : Nat} (h1 : -1000 ≤ x) (h2 : x ≤ 1000) (hm : 10 ≤ m) : Bn m x := Bn.up (m := 10) (by show x.natAbs < 2 ^ 10; omega) hm
theorem nums_of {told : List (Option Int)} {R : Int → Prop} (h : ∀ o ∈ told, ∀ i, o = some i → R i) : ∀ x, x ∈ nums told → R x := by
  intro x hx
  obtain ⟨i, hi, e⟩ := nums_iff.mp hx
  exact h _ (getD_mem (d := none) hi) x e
theorem keep_lst {K : PySem.W.Frag} {p a : Addr} {H1 : Hp} {xs : List V} (ha : H1 a = some (.lst xs)) (hap : a ≠ p) : (∀ H, Keep p H1 H → ∀ j, j < xs.length → (Itl K a).go j H) ∧ (∀ H, Keep p H1 H → ∀ j, j < xs.length → ∀ x H', (Itl K a).yld j H x H' → H' = H ∧ x = (fun j : Nat => xs.getD j .non) j) ∧ ∀ H, Keep p H1 H → (Itl K a).stop xs.length H := by
  refine ⟨fun H g j hj => ⟨xs, _, SqL.of (g _ _ hap ha), List.getElem?_eq_getElem hj⟩, fun H g j hj x H' y => ⟨y.1, ?_⟩, fun H g => ⟨xs, SqL.of (g _ _ hap ha), Nat.le_refl _⟩⟩
  have e := y.2 xs (SqL.of (g _ _ hap ha))
  show x = xs.getD j .non
  rw [List.getD_eq_getElem?_getD, e]
  rfl
theorem mul_rep {H : Hp} {l : Addr} {xs : List V} {k : Int} {Q : VK} (h : H l = some (.lst xs)) (h1 : -(2 ^ 63) ≤ k) (h2 : k < 2 ^ 63) (h3 : xs.length * k.toNat ≤ sizeLine) (q : ∀ p, H p = none → Q (.ref p) (upd H p (.lst (List.replicate k.toNat xs).flatten))) : oMul (.ref l) (.int k) H Q := by
  simp only [oMul, h]
  exact ⟨h1, h2, h3, q⟩
theorem rep_none (n : Nat) : (List.replicate n [V.non]).flatten = (List.replicate n (none : Option Int)).map oV := by
  induction n with
  | zero => rfl
  | succ n ih =>
    rw [List.replicate_succ, List.flatten_cons, ih, List.replicate_succ, List.map_cons]
    rfl
theorem ne_oVs {K : PySem.W.Frag} {H : Hp} {l q : Addr} {os ps : List (Option Int)} {Q : VK} (hl : H l = some (.lst (os.map oV))) (hq : H q = some (.lst (ps.map oV))) (h : Q (.bl (!PyData.eqv (.list (os.map oD)) (.list (ps.map oD)))) H) : oNe K (.ref l) (.ref q) H Q := by
  have e1 : dataF 8 H (.ref l) = some (.list (os.map oD)) := dataF_lst hl
  have e2 : dataF 8 H (.ref q) = some (.list (ps.map oD)) := dataF_lst hq
  simp only [oNe, e1, e2]
  exact ⟨(shaped_oVs os).1, (shaped_oVs ps).1, h⟩
/-- the tuples of pairs of ints -/
inductive Prs (H : Hp) : List V → List (Int × Int) → Prop where
  | nil : Prs H [] []
  | cons {t : Addr} {a b : Int} {xs : List V} {r : List (Int × Int)} (h : H t = some (.tup [.int a, .int b])) (q : Prs H xs r) : Prs H (.ref t :: xs) ((a, b) :: r)
theorem data_prs {n : Nat} {H : Hp} {xs : List V} {r : List (Int × Int)} (h : Prs H xs r) : dataL (dataF (n + 1) H) xs = some (r.map fun p => .tuple [.int p.1, .int p.2]) := by
  induction h with
  | nil => rfl
  | @cons t a b xs r h q ih =>
    have e : dataF (n + 1) H (.ref t) = some (.tuple [.int a, .int b]) := by
      simp only [dataF, h]
      cases n <;> rfl
    simp only [dataL, e, ih]
    rfl
theorem shape_prs (r : List (Int × Int)) : SeqAt.shaped (.list (r.map fun p => .tuple [.int p.1, .int p.2])) = true := by
  have h : PyData.canLayAll0 (r.map fun p => .tuple [.int p.1, .int p.2]) = true ∧ PyData.depthAll (r.map fun p => .tuple [.int p.1, .int p.2]) ≤ 1 := by
    induction r with
    | nil => exact ⟨rfl, Nat.zero_le _⟩
    | cons p r ih =>
      constructor
      · show (PyData.canLay0 (.tuple [.int p.1, .int p.2]) && PyData.canLayAll0 (r.map fun p => .tuple [.int p.1, .int p.2])) = true
        rw [ih.1]
        rfl
      · show max (PyData.depth (.tuple [.int p.1, .int p.2])) (PyData.depthAll (r.map fun p => .tuple [.int p.1, .int p.2])) ≤ 1
        exact Nat.max_le.mpr ⟨by show 0 + 1 ≤ 1; decide, ih.2⟩
  show (PyData.canLayAll0 (r.map fun p => .tuple [.int p.1, .int p.2]) && decide (PyData.depthAll (r.map fun p => .tuple [.int p.1, .int p.2]) + 1 ≤ 64)) = true
  rw [h.1, decide_eq_true (by omega)]
  rfl
theorem eq_pairs {K : PySem.W.Frag} {H : Hp} {l q : Addr} {xs ys : List V} {a b : List (Int × Int)} {Q : VK} (hl : H l = some (.lst xs)) (hq : H q = some (.lst ys)) (ha : Prs H xs a) (hb : Prs H ys b) (h : Q (.bl (PyData.eqv (.list (a.map fun p => .tuple [.int p.1, .int p.2])) (.list (b.map fun p => .tuple [.int p.1, .int p.2])))) H) : oEq K (.ref l) (.ref q) H Q := by
  have e1 : dataF 8 H (.ref l) = some (.list (a.map fun p => .tuple [.int p.1, .int p.2])) := by
    rw [dataF, hl]
    show (dataL (dataF 7 H) xs).map PyData.list = _
    rw [data_prs ha]
    rfl
  have e2 : dataF 8 H (.ref q) = some (.list (b.map fun p => .tuple [.int p.1, .int p.2])) := by
    rw [dataF, hq]
    show (dataL (dataF 7 H) ys).map PyData.list = _
    rw [data_prs hb]
    rfl
  simp only [oEq, e1, e2]
  exact ⟨shape_prs a, shape_prs b, h⟩
section
variable {K : PySem.W.Frag} {A : Ad} {H : Hp} {c : Addr} {told : List (Option Int)} {gains : List Int} {Q : VK}
theorem great_some {v : Int} (hc : GrAt K A H c told gains) (hp : 0 < gains.length) (hpl : gains.length ≤ told.length) (hs : told.length ≤ 100000) (he : endL told gains = false) (hn : nums told = [v]) (k : ∀ H', Grow H H' → Q (.int v) H') : PRf A.c_Growth (sp_Growth_greatest K A) [] E0 (.ref c) H Q := by
  refine prG hc ⟨_, _, hc, hp, hpl, hs, fun hh H2 g2 => ?_, fun hh m H2 hm hmx g2 => ?_⟩
  · rcases hh with hh | hh
    · rw [hn] at hh; cases hh
    · rw [he] at hh; cases hh
  · rw [hn, List.mem_singleton] at hm
    rw [hm]
    exact k H2 g2
theorem great_none (hc : GrAt K A H c told gains) (hp : 0 < gains.length) (hpl : gains.length ≤ told.length) (hs : told.length ≤ 100000) (he : nums told = [] ∨ endL told gains = true) (k : ∀ H', Grow H H' → Q .non H') : PRf A.c_Growth (sp_Growth_greatest K A) [] E0 (.ref c) H Q := by
  refine prG hc ⟨_, _, hc, hp, hpl, hs, fun hh H2 g2 => k H2 g2, fun hh m H2 hm hmx g2 => ?_⟩
  rcases he with he | he
  · rw [he] at hm; cases hm
  · rw [hh] at he; cases he
theorem slope_some {best a b : Int} (hc : GrAt K A H c told gains) (hp : 0 < gains.length) (hpl : gains.length ≤ told.length) (hs : told.length ≤ 100000) (bg : ∀ x ∈ lastL told gains, Bn 1000 x) (hb : best ∈ lastL told gains) (hx : ∀ y, y ∈ lastL told gains → y ≤ best) (ea : best / (Int.gcd best gains.length : Int) = a) (eb : (gains.length : Int) / (Int.gcd best gains.length : Int) = b)
    (k : ∀ t H', Grow H H' → H' t = some (.tup [.int a, .int b]) → Q (.ref t) H') : PRf A.c_Growth (sp_Growth_slope K A) [] E0 (.ref c) H Q := by
  refine prG hc ⟨_, _, hc, hp, hpl, hs, bg, fun hh => ?_, fun m hm hmx t H2 g2 ht => ?_⟩
  · rw [hh] at hb; cases hb
  · have e : m = best := Int.le_antisymm (hx m hm) (hmx best hb)
    rw [e, ea, eb] at ht
    exact k t H2 g2 ht
end
theorem pure_law {K : PySem.W.Frag} {A : Ad} {vs : List V} {H : Hp} {Q : VK} {E : XK} (F : KF K A) (h : sp_law K A vs H Q E) : (t_law_0 K A) { nx := fun _ H' => Q .non H', rt := Q } (start ["_law_script", "_law_pen_here", "_law_turn", "_law_pair", "_law_low", "_law_none", "_law_some_here", "_law_value", "_law_gain"] vs) H := by
  unfold sp_law spLaw at h
  split at h
  · rename_i sc
    obtain ⟨⟨ns, hs⟩, k⟩ := h
    have hsz : sizeLine = 16777216 := rfl
    show (t_law_0 K A) _ [some (.ref sc), none, none, none, none, none, none, none, none] H
    refine st_seq (st_asg ?_)
    (refine evE ?P150 (fun Q h => ?h150) ?_; (case h150 => (simp only [tTest, tOp, tUn, tVar, tC, tCB, tCons, tNil, tAnd, tOr, tNot, tB, tTup, tLst, tIf, tAndV, tOrV, tNotV, tSl, tPart, tNoPart, tCall, iIx_ref, oGt_int, oMod_int, oFdiv_int, oAdd_int, oAdd_str, oSub_int, oMul_int, oLt_int, oGe_int, oLe_int, oPow_int, uNeg_int, oEq_int, oEq_str, oEq_bl, oNe_int, oNe_str, oNe_bl, cInt_int, cInt_bl, cAbs_int, cLen_ref, cList_ref, stL_ref, gName, gSub, gTup, gCons, gNil, rdSeq, List.getElem?_cons_zero, List.getElem?_cons_succ, List.set_cons_zero, List.set_cons_succ, List.cons_append, List.nil_append, Option.some.injEq, exists_eq_left', V.bl.injEq, V.int.injEq, V.ref.injEq, atI_0, atI_1, atI_2, setI_1, setI_2, Bool.not_true, Bool.not_false, Bool.false_eq_true, if_false, if_true]; exact h)); (try dsimp only [gName, tNext, List.set_cons_zero, List.set_cons_succ]))
    refine ⟨ns, hs, fun p l H' hp g0 _ => ?_⟩
    (try dsimp only [gName, tNext, List.set_cons_zero, List.set_cons_succ])
    refine st_seq ?_
    unfold tFor iRng1
    (refine evA ?P151 (fun Q h => ?h151) ?_; (case h151 => (simp only [tTest, tOp, tUn, tVar, tC, tCB, tCons, tNil, tAnd, tOr, tNot, tB, tTup, tLst, tIf, tAndV, tOrV, tNotV, tSl, tPart, tNoPart, tCall, iIx_ref, oGt_int, oMod_int, oFdiv_int, oAdd_int, oAdd_str, oSub_int, oMul_int, oLt_int, oGe_int, oLe_int, oPow_int, uNeg_int, oEq_int, oEq_str, oEq_bl, oNe_int, oNe_str, oNe_bl, cInt_int, cInt_bl, cAbs_int, cLen_ref, cList_ref, stL_ref, gName, gSub, gTup, gCons, gNil, rdSeq, List.getElem?_cons_zero, List.getElem?_cons_succ, List.set_cons_zero, List.set_cons_succ, List.cons_append, List.nil_append, Option.some.injEq, exists_eq_left', V.bl.injEq, V.int.injEq, V.ref.injEq, atI_0, atI_1, atI_2, setI_1, setI_2, Bool.not_true, Bool.not_false, Bool.false_eq_true, if_false, if_true]; exact h)); (try dsimp only [gName, tNext, List.set_cons_zero, List.set_cons_succ]))
    refine ⟨20, rfl, by decide, by decide, ?_⟩
    refine ⟨fun i m σ H => i ≤ 20 ∧ m = 20 - i ∧ σ.length = 9 ∧ σ[1]? = some (some (.ref p)) ∧ PenL H p l (50 * i), ⟨20, by decide, rfl, rfl, rfl, hp⟩, ?_⟩
    clear hs hp g0 H'
    rintro i m σ H ⟨hi, hm, hl, h1, hp⟩
    obtain ⟨a0, a1, a2, a3, a4, a5, a6, a7, a8, rfl⟩ := list9 hl
    have e1 : a1 = some (.ref p) := Option.some.inj h1
    subst e1
    by_cases hi2 : i = 20
    · refine .inl ⟨by show 20 ≤ i; omega, ?_⟩
      refine st_seq (st_asg ?_)
      (refine evE ?P160 (fun Q h => ?h160) ?_; (case h160 => (simp only [tTest, tOp, tUn, tVar, tC, tCB, tCons, tNil, tAnd, tOr, tNot, tB, tTup, tLst, tIf, tAndV, tOrV, tNotV, tSl, tPart, tNoPart, tCall, iIx_ref, oGt_int, oMod_int, oFdiv_int, oAdd_int, oAdd_str, oSub_int, oMul_int, oLt_int, oGe_int, oLe_int, oPow_int, uNeg_int, oEq_int, oEq_str, oEq_bl, oNe_int, oNe_str, oNe_bl, cInt_int, cInt_bl, cAbs_int, cLen_ref, cList_ref, stL_ref, gName, gSub, gTup, gCons, gNil, rdSeq, List.getElem?_cons_zero, List.getElem?_cons_succ, List.set_cons_zero, List.set_cons_succ, List.cons_append, List.nil_append, Option.some.injEq, exists_eq_left', V.bl.injEq, V.int.injEq, V.ref.injEq, atI_0, atI_1, atI_2, setI_1, setI_2, Bool.not_true, Bool.not_false, Bool.false_eq_true, if_false, if_true, tProp_eq, tSMeth]; exact h)))
      refine ⟨trivial, fun x1 H1 g1 hx1 => ?_⟩
      rw [show nfT [some 4] [0] = [some 4] from by decide +kernel, show nfG [some 4] [0] = [0] from by decide +kernel] at hx1
      refine great_some (v := 4) hx1 (by decide) (by decide) (by decide) (by decide +kernel) (by decide +kernel) fun H2 g2 => ?_
      refine ⟨trivial, bn_small (by decide) (by decide) (by decide), fun x3 H3 g3 hx3 => ?_⟩
      rw [show nfT [some 7] [-2] = [some 7] from by decide +kernel, show nfG [some 7] [-2] = [-2] from by decide +kernel] at hx3
      refine great_some (v := 7) hx3 (by decide) (by decide) (by decide) (by decide +kernel) (by decide +kernel) fun H4 g4 => ?_
      refine ⟨trivial, bn_small (by decide) (by decide) (by decide), fun x5 H5 g5 hx5 => ?_⟩
      rw [show nfT [some 0] [1] = [some 0] from by decide +kernel, show nfG [some 0] [1] = [1] from by decide +kernel] at hx5
      refine great_none hx5 (by decide) (by decide) (by decide) (.inr (by decide +kernel)) fun H6 g6 => ?_
      refine ⟨trivial, fun x7 H7 g7 hx7 => ?_⟩
      rw [show nfT [none] [0] = [none] from by decide +kernel, show nfG [none] [0] = [0] from by decide +kernel] at hx7
      refine great_none hx7 (by decide) (by decide) (by decide) (.inl (by decide +kernel)) fun H8 g8 => ?_
      refine ⟨by show 4 ≤ sizeLine; decide, fun q1 hq1 => ?_⟩
      (try dsimp only [gName, tNext, List.set_cons_zero, List.set_cons_succ])
      refine st_seq (st_if ?_)
      (refine evT ?P152 (fun Q h => ?h152) ?_; (case h152 => (simp only [tTest, tOp, tUn, tVar, tC, tCB, tCons, tNil, tAnd, tOr, tNot, tB, tTup, tLst, tIf, tAndV, tOrV, tNotV, tSl, tPart, tNoPart, tCall, iIx_ref, oGt_int, oMod_int, oFdiv_int, oAdd_int, oAdd_str, oSub_int, oMul_int, oLt_int, oGe_int, oLe_int, oPow_int, uNeg_int, oEq_int, oEq_str, oEq_bl, oNe_int, oNe_str, oNe_bl, cInt_int, cInt_bl, cAbs_int, cLen_ref, cList_ref, stL_ref, gName, gSub, gTup, gCons, gNil, rdSeq, List.getElem?_cons_zero, List.getElem?_cons_succ, List.set_cons_zero, List.set_cons_succ, List.cons_append, List.nil_append, Option.some.injEq, exists_eq_left', V.bl.injEq, V.int.injEq, V.ref.injEq, atI_0, atI_1, atI_2, setI_1, setI_2, Bool.not_true, Bool.not_false, Bool.false_eq_true, if_false, if_true]; exact h)); (try dsimp only [gName, tNext, List.set_cons_zero, List.set_cons_succ]))
      refine ⟨by show 4 ≤ sizeLine; decide, fun q2 hq2 => ?_⟩
      refine ne_oVs (os := [some 4, some 7, none, none]) (ps := [some 4, some 7, none, none]) ((Grow.new hq2) _ _ upd_same) upd_same ⟨_, rfl, ?_⟩
      refine if_no ?_
      (try dsimp only [gName, tNext, List.set_cons_zero, List.set_cons_succ])
      refine st_seq (st_asg ?_)
      (refine evE ?P161 (fun Q h => ?h161) ?_; (case h161 => (simp only [tTest, tOp, tUn, tVar, tC, tCB, tCons, tNil, tAnd, tOr, tNot, tB, tTup, tLst, tIf, tAndV, tOrV, tNotV, tSl, tPart, tNoPart, tCall, iIx_ref, oGt_int, oMod_int, oFdiv_int, oAdd_int, oAdd_str, oSub_int, oMul_int, oLt_int, oGe_int, oLe_int, oPow_int, uNeg_int, oEq_int, oEq_str, oEq_bl, oNe_int, oNe_str, oNe_bl, cInt_int, cInt_bl, cAbs_int, cLen_ref, cList_ref, stL_ref, gName, gSub, gTup, gCons, gNil, rdSeq, List.getElem?_cons_zero, List.getElem?_cons_succ, List.set_cons_zero, List.set_cons_succ, List.cons_append, List.nil_append, Option.some.injEq, exists_eq_left', V.bl.injEq, V.int.injEq, V.ref.injEq, atI_0, atI_1, atI_2, setI_1, setI_2, Bool.not_true, Bool.not_false, Bool.false_eq_true, if_false, if_true, tProp_eq, tSMeth, tMake_eq]; exact h)))
      refine ⟨trivial, fun y1 K1 j1 hy1 => ?_⟩
      rw [show nfT [some 4] [0] = [some 4] from by decide +kernel, show nfG [some 4] [0] = [0] from by decide +kernel] at hy1
      refine slope_some (best := 0) (a := 0) (b := 1) hy1 (by decide) (by decide) (by decide) (by rw [show lastL [some 4] [0] = [0] from by decide +kernel]; intro x hx; rw [List.mem_singleton] at hx; rw [hx]; exact bn_small (by decide) (by decide) (by decide)) (by decide +kernel) (by rw [show lastL [some 4] [0] = [0] from by decide +kernel]; intro x hx; rw [List.mem_singleton] at hx; rw [hx]; decide) (by decide +kernel) (by decide +kernel) fun t1 K2 j2 ht1 => ?_
      refine ⟨trivial, bn_small (by decide) (by decide) (by decide), fun y3 K3 j3 hy3 => ?_⟩
      rw [show nfT [some 0] [-2] = [some 0] from by decide +kernel, show nfG [some 0] [-2] = [-2] from by decide +kernel] at hy3
      refine slope_some (best := -2) (a := -2) (b := 1) hy3 (by decide) (by decide) (by decide) (by rw [show lastL [some 0] [-2] = [-2] from by decide +kernel]; intro x hx; rw [List.mem_singleton] at hx; rw [hx]; exact bn_small (by decide) (by decide) (by decide)) (by decide +kernel) (by rw [show lastL [some 0] [-2] = [-2] from by decide +kernel]; intro x hx; rw [List.mem_singleton] at hx; rw [hx]; decide) (by decide +kernel) (by decide +kernel) fun t2 K4 j4 ht2 => ?_
      refine ⟨by show 4 ≤ sizeLine; decide, fun z1 hz1 => ?_⟩
      refine ⟨by show 4 ≤ sizeLine; decide, fun z2 hz2 => ?_⟩
      have j5 := Grow.new (o := .lst [.int 0, .int 0, .non, .int 0]) hz1
      have j6 := Grow.new (o := .lst [.int 6, .int 0, .int 6, .int 2]) hz2
      refine mkG (told := [some 0, some 0, none, some 0]) (gains := [6, 0, 6, 2]) (.l (j6 _ _ upd_same)) (.l upd_same) (by decide) (by decide) (by decide) (by decide) (fun x hx => ?_) (by decide +kernel) fun y7 K7 j7 hy7 => ?_
      · simp only [List.mem_cons, List.not_mem_nil, or_false] at hx
        exact bn_small (by omega) (by omega) (by decide)
      rw [show nfT [some 0, some 0, none, some 0] [6, 0, 6, 2] = [some 0, some 0, none, some 0] from by decide +kernel, show nfG [some 0, some 0, none, some 0] [6, 0, 6, 2] = [6, 0, 0, 2] from by decide +kernel] at hy7
      have el : lastL [some 0, some 0, none, some 0] [6, 0, 0, 2] = [6, 0, 2] := by decide +kernel
      refine slope_some (best := 6) (a := 3) (b := 2) hy7 (by decide) (by decide) (by decide) ?_ (by decide +kernel) ?_ (by decide +kernel) (by decide +kernel) fun t3 K8 j8 ht3 => ?_
      · rw [el]
        intro x hx
        simp only [List.mem_cons, List.not_mem_nil, or_false] at hx
        exact bn_small (by omega) (by omega) (by decide)
      · rw [el]
        intro x hx
        simp only [List.mem_cons, List.not_mem_nil, or_false] at hx
        omega
      have jj := (j5.trans j6).trans (j7.trans j8)
      have ht2' := jj _ _ ht2
      have ht1' := jj _ _ ((j3.trans j4) _ _ ht1)
      refine ⟨by show 3 ≤ sizeLine; decide, fun z3 hz3 => ?_⟩
      (try dsimp only [gName, tNext, List.set_cons_zero, List.set_cons_succ])
      refine st_ret ?_
      (refine evE ?P153 (fun Q h => ?h153) ?_; (case h153 => (simp only [tTest, tOp, tUn, tVar, tC, tCB, tCons, tNil, tAnd, tOr, tNot, tB, tTup, tLst, tIf, tAndV, tOrV, tNotV, tSl, tPart, tNoPart, tCall, iIx_ref, oGt_int, oMod_int, oFdiv_int, oAdd_int, oAdd_str, oSub_int, oMul_int, oLt_int, oGe_int, oLe_int, oPow_int, uNeg_int, oEq_int, oEq_str, oEq_bl, oNe_int, oNe_str, oNe_bl, cInt_int, cInt_bl, cAbs_int, cLen_ref, cList_ref, stL_ref, gName, gSub, gTup, gCons, gNil, rdSeq, List.getElem?_cons_zero, List.getElem?_cons_succ, List.set_cons_zero, List.set_cons_succ, List.cons_append, List.nil_append, Option.some.injEq, exists_eq_left', V.bl.injEq, V.int.injEq, V.ref.injEq, atI_0, atI_1, atI_2, setI_1, setI_2, Bool.not_true, Bool.not_false, Bool.false_eq_true, if_false, if_true]; exact h)); (try dsimp only [gName, tNext, List.set_cons_zero, List.set_cons_succ]))
      refine ⟨by show 2 ≤ sizeLine; decide, fun w1 hw1 => ⟨by show 2 ≤ sizeLine; decide, fun w2 hw2 => ⟨by show 2 ≤ sizeLine; decide, fun w3 hw3 => ⟨by show 3 ≤ sizeLine; decide, fun w4 hw4 => ?_⟩⟩⟩⟩
      have n0 := Grow.new (o := .lst [V.ref t1, V.ref t2, V.ref t3]) hz3
      have n1 := Grow.new (o := .tup [V.int 0, V.int 1]) hw1
      have n2 := Grow.new (o := .tup [V.int (-2), V.int 1]) hw2
      have n3 := Grow.new (o := .tup [V.int 3, V.int 2]) hw3
      have n4 := Grow.new (o := .lst [V.ref w1, V.ref w2, V.ref w3]) hw4
      have m4 := n1.trans (n2.trans (n3.trans n4))
      refine eq_pairs (a := [(0, 1), (-2, 1), (3, 2)]) (b := [(0, 1), (-2, 1), (3, 2)]) (m4 _ _ upd_same) upd_same (.cons (n0.trans m4 _ _ ht1') (.cons (n0.trans m4 _ _ ht2') (.cons (n0.trans m4 _ _ ht3) .nil)))
        (.cons (n2.trans (n3.trans n4) _ _ upd_same) (.cons (n3.trans n4 _ _ upd_same) (.cons (n4 _ _ upd_same) .nil))) ?_
      exact k _
    · refine .inr ⟨by show i < 20; omega, fun σ' H' => σ'.length = 9 ∧ σ'[1]? = some (some (.ref p)) ∧ PenL H' p l (50 * (i + 1)), fun σ' H' q => ⟨20 - (i + 1), by omega, by omega, rfl, q⟩, ?_⟩
      rintro x H' ⟨rfl, rfl⟩
      (try dsimp only [gName, tNext, List.set_cons_zero, List.set_cons_succ])
      refine st_seq (st_asg ?_)
      (refine evE ?P154 (fun Q h => ?h154) ?_; (case h154 => (simp only [tTest, tOp, tUn, tVar, tC, tCB, tCons, tNil, tAnd, tOr, tNot, tB, tTup, tLst, tIf, tAndV, tOrV, tNotV, tSl, tPart, tNoPart, tCall, iIx_ref, oGt_int, oMod_int, oFdiv_int, oAdd_int, oAdd_str, oSub_int, oMul_int, oLt_int, oGe_int, oLe_int, oPow_int, uNeg_int, oEq_int, oEq_str, oEq_bl, oNe_int, oNe_str, oNe_bl, cInt_int, cInt_bl, cAbs_int, cLen_ref, cList_ref, stL_ref, gName, gSub, gTup, gCons, gNil, rdSeq, List.getElem?_cons_zero, List.getElem?_cons_succ, List.set_cons_zero, List.set_cons_succ, List.cons_append, List.nil_append, Option.some.injEq, exists_eq_left', V.bl.injEq, V.int.injEq, V.ref.injEq, atI_0, atI_1, atI_2, setI_1, setI_2, Bool.not_true, Bool.not_false, Bool.false_eq_true, if_false, if_true]; exact h)); (try dsimp only [gName, tNext, List.set_cons_zero, List.set_cons_succ]))
      refine ⟨l, _, hp, by omega, fun r t g told gains H1 hp1 k1 hr ht hg htp hgp hrp c1 c2 c3 c4 hgs hts => ?_⟩
      (try dsimp only [gName, tNext, List.set_cons_zero, List.set_cons_succ])
      -- low
      refine st_seq (st_asg ?_)
      (refine evE ?P162 (fun Q h => ?h162) ?_; (case h162 => (simp only [tTest, tOp, tUn, tVar, tC, tCB, tCons, tNil, tAnd, tOr, tNot, tB, tTup, tLst, tIf, tAndV, tOrV, tNotV, tSl, tPart, tNoPart, tCall, iIx_ref, oGt_int, oMod_int, oFdiv_int, oAdd_int, oAdd_str, oSub_int, oMul_int, oLt_int, oGe_int, oLe_int, oPow_int, uNeg_int, oEq_int, oEq_str, oEq_bl, oNe_int, oNe_str, oNe_bl, cInt_int, cInt_bl, cAbs_int, cLen_ref, cList_ref, stL_ref, gName, gSub, gTup, gCons, gNil, rdSeq, List.getElem?_cons_zero, List.getElem?_cons_succ, List.set_cons_zero, List.set_cons_succ, List.cons_append, List.nil_append, Option.some.injEq, exists_eq_left', V.bl.injEq, V.int.injEq, V.ref.injEq, atI_0, atI_1, atI_2, setI_1, setI_2, Bool.not_true, Bool.not_false, Bool.false_eq_true, if_false, if_true]; exact h)))
      refine lc_ev ?_
      unfold iSeq
      (refine evE ?P163 (fun Q h => ?h163) ?_; (case h163 => (simp only [tTest, tOp, tUn, tVar, tC, tCB, tCons, tNil, tAnd, tOr, tNot, tB, tTup, tLst, tIf, tAndV, tOrV, tNotV, tSl, tPart, tNoPart, tCall, iIx_ref, oGt_int, oMod_int, oFdiv_int, oAdd_int, oAdd_str, oSub_int, oMul_int, oLt_int, oGe_int, oLe_int, oPow_int, uNeg_int, oEq_int, oEq_str, oEq_bl, oNe_int, oNe_str, oNe_bl, cInt_int, cInt_bl, cAbs_int, cLen_ref, cList_ref, stL_ref, gName, gSub, gTup, gCons, gNil, rdSeq, List.getElem?_cons_zero, List.getElem?_cons_succ, List.set_cons_zero, List.set_cons_succ, List.cons_append, List.nil_append, Option.some.injEq, exists_eq_left', V.bl.injEq, V.int.injEq, V.ref.injEq, atI_0, atI_1, atI_2, setI_1, setI_2, Bool.not_true, Bool.not_false, Bool.false_eq_true, if_false, if_true]; exact h)))
      refine ixE (.t hr) atI_0 ?_
      obtain ⟨z1, z2, z3⟩ := keep_lst (K := K) ht htp
      refine ⟨t, rfl, .inl ⟨⟨_, SqL.of ht⟩, ?_⟩⟩
      rw [List.length_map] at z1 z2 z3
      refine lc_pen (fun v => ∃ x : Option Int, v = oV x ∧ ∀ i, x = some i → -9 ≤ i ∧ i ≤ 30) 1 hp1 z1 z2 z3 (by omega) (fun j hj H' hp' k' R hR => ?_) (fun D H2 vs hvl hvs hp2 k2 hD hd => ?_) (by exact fun x => rfl)
      · rw [getD_map_oV hj]
        (refine evE ?P155 (fun Q h => ?h155) ?_; (case h155 => (simp only [tTest, tOp, tUn, tVar, tC, tCB, tCons, tNil, tAnd, tOr, tNot, tB, tTup, tLst, tIf, tAndV, tOrV, tNotV, tSl, tPart, tNoPart, tCall, iIx_ref, oGt_int, oMod_int, oFdiv_int, oAdd_int, oAdd_str, oSub_int, oMul_int, oLt_int, oGe_int, oLe_int, oPow_int, uNeg_int, oEq_int, oEq_str, oEq_bl, oNe_int, oNe_str, oNe_bl, cInt_int, cInt_bl, cAbs_int, cLen_ref, cList_ref, stL_ref, gName, gSub, gTup, gCons, gNil, rdSeq, List.getElem?_cons_zero, List.getElem?_cons_succ, List.set_cons_zero, List.set_cons_succ, List.cons_append, List.nil_append, Option.some.injEq, exists_eq_left', V.bl.injEq, V.int.injEq, V.ref.injEq, atI_0, atI_1, atI_2, setI_1, setI_2, Bool.not_true, Bool.not_false, Bool.false_eq_true, if_false, if_true, wipe]; exact h)); (try dsimp only [gName, tNext, List.set_cons_zero, List.set_cons_succ]))
        refine ⟨by show 2 ≤ sizeLine; decide, fun u hu => ?_⟩
        have gu := Grow.new (o := .lst [.non, oV (told.getD j none)]) hu
        refine ⟨l, _, _, hp'.grow gu, by omega, upd_same, hp'.fresh hu, by simp, by simp, fun x H3 hx hp3 k3 => ?_⟩
        refine hR x H3 ?_ (hp3.up (by omega)) (gu.keep.trans k3)
        simp only [List.mem_cons, List.not_mem_nil, or_false] at hx
        rcases hx with rfl | rfl
        · exact ⟨none, rfl, fun i z => by cases z⟩
        · exact ⟨_, rfl, hts _ (getD_mem hj)⟩
      obtain ⟨low, rfl, hlow⟩ := opts_of hvs
      rw [List.length_map] at hvl
      have hDp := hp1.fresh hD
      have P2 : PairAt H2 r t g told gains := ⟨k2 _ _ hrp hr, k2 _ _ htp ht, k2 _ _ hgp hg⟩
      clear hr ht hg hD
      refine lc_ev ?_
      (refine evE ?P164 (fun Q h => ?h164) ?_; (case h164 => (simp only [tTest, tOp, tUn, tVar, tC, tCB, tCons, tNil, tAnd, tOr, tNot, tB, tTup, tLst, tIf, tAndV, tOrV, tNotV, tSl, tPart, tNoPart, tCall, iIx_ref, oGt_int, oMod_int, oFdiv_int, oAdd_int, oAdd_str, oSub_int, oMul_int, oLt_int, oGe_int, oLe_int, oPow_int, uNeg_int, oEq_int, oEq_str, oEq_bl, oNe_int, oNe_str, oNe_bl, cInt_int, cInt_bl, cAbs_int, cLen_ref, cList_ref, stL_ref, gName, gSub, gTup, gCons, gNil, rdSeq, List.getElem?_cons_zero, List.getElem?_cons_succ, List.set_cons_zero, List.set_cons_succ, List.cons_append, List.nil_append, Option.some.injEq, exists_eq_left', V.bl.injEq, V.int.injEq, V.ref.injEq, atI_0, atI_1, atI_2, setI_1, setI_2, Bool.not_true, Bool.not_false, Bool.false_eq_true, if_false, if_true]; exact h)))
      refine ixE (.t P2.hr) atI_1 ?_
      refine jok_sq (.l P2.hg) fun J hJ => ?_
      refine lc_map hJ (fun j => .int (if 0 < gains.getD j 0 then 0 else gains.getD j 0)) (by rw [List.length_map]; omega) (fun j hj H' g' R hR => ?_) (fun D2 H3 g3 hD2 hd2 => ?_) (by exact fun x => rfl)
      · rw [List.length_map] at hj
        rw [getD_map_int hj]
        (refine evE ?P156 (fun Q h => ?h156) ?_; (case h156 => (simp only [tTest, tOp, tUn, tVar, tC, tCB, tCons, tNil, tAnd, tOr, tNot, tB, tTup, tLst, tIf, tAndV, tOrV, tNotV, tSl, tPart, tNoPart, tCall, iIx_ref, oGt_int, oMod_int, oFdiv_int, oAdd_int, oAdd_str, oSub_int, oMul_int, oLt_int, oGe_int, oLe_int, oPow_int, uNeg_int, oEq_int, oEq_str, oEq_bl, oNe_int, oNe_str, oNe_bl, cInt_int, cInt_bl, cAbs_int, cLen_ref, cList_ref, stL_ref, gName, gSub, gTup, gCons, gNil, rdSeq, List.getElem?_cons_zero, List.getElem?_cons_succ, List.set_cons_zero, List.set_cons_succ, List.cons_append, List.nil_append, Option.some.injEq, exists_eq_left', V.bl.injEq, V.int.injEq, V.ref.injEq, atI_0, atI_1, atI_2, setI_1, setI_2, Bool.not_true, Bool.not_false, Bool.false_eq_true, if_false, if_true, wipe, cMin]; exact h)); (try dsimp only [gName, tNext, List.set_cons_zero, List.set_cons_succ]))
        exact hR _ .refl
      rw [List.length_map] at hd2
      have hlowg : H3 D2 = some (.lst ((gains.map fun x => if 0 < x then 0 else x).map V.int)) := by
        rw [hd2, List.map_map, ← map_list gains 0 (V.int ∘ fun x => if 0 < x then 0 else x)]
        rfl
      have P3 := P2.grow g3
      have hd3 := g3 _ _ hd
      have hp3 := hp2.grow g3
      clear hd2 hd hJ
      refine ⟨by show 2 ≤ sizeLine; decide, fun lo hlo => ?_⟩
      have g4 := Grow.new (o := .tup [.ref D, .ref D2]) hlo
      have hlo4 : (upd H3 lo (.tup [.ref D, .ref D2])) lo = some (.tup [.ref D, .ref D2]) := upd_same
      generalize upd H3 lo (.tup [.ref D, .ref D2]) = H4 at *
      have P4 := P3.grow g4
      have hp4 := hp3.grow g4
      have L4 : PairAt H4 lo D D2 low (gains.map fun x => if 0 < x then 0 else x) := ⟨hlo4, g4 _ _ hd3, g4 _ _ hlowg⟩
      (try dsimp only [gName, tNext, List.set_cons_zero, List.set_cons_succ])
      have bgs : ∀ x ∈ gains, Bn 900 x := fun x hx => bn_small (by have := hgs x hx; omega) (by have := hgs x hx; omega) (by decide)
      have bts : ∀ x, x ∈ nums told → Bn 900 x := nums_of (R := Bn 900) fun o ho i e => bn_small (by have := hts o ho i e; omega) (by have := hts o ho i e; omega) (by decide)
      have bls : ∀ x, x ∈ nums low → Bn 900 x := nums_of (R := Bn 900) fun o ho i e => bn_small (by have := hlow o ho i e; omega) (by have := hlow o ho i e; omega) (by decide)
      refine st_seq (st_asg ?_)
      (refine evE ?P165 (fun Q h => ?h165) ?_; (case h165 => (simp only [tTest, tOp, tUn, tVar, tC, tCB, tCons, tNil, tAnd, tOr, tNot, tB, tTup, tLst, tIf, tAndV, tOrV, tNotV, tSl, tPart, tNoPart, tCall, iIx_ref, oGt_int, oMod_int, oFdiv_int, oAdd_int, oAdd_str, oSub_int, oMul_int, oLt_int, oGe_int, oLe_int, oPow_int, uNeg_int, oEq_int, oEq_str, oEq_bl, oNe_int, oNe_str, oNe_bl, cInt_int, cInt_bl, cAbs_int, cLen_ref, cList_ref, stL_ref, gName, gSub, gTup, gCons, gNil, rdSeq, List.getElem?_cons_zero, List.getElem?_cons_succ, List.set_cons_zero, List.set_cons_succ, List.cons_append, List.nil_append, Option.some.injEq, exists_eq_left', V.bl.injEq, V.int.injEq, V.ref.injEq, atI_0, atI_1, atI_2, setI_1, setI_2, Bool.not_true, Bool.not_false, Bool.false_eq_true, if_false, if_true]; exact h)))
      refine lc_ev ?_
      unfold iSeq
      (refine evE ?P166 (fun Q h => ?h166) ?_; (case h166 => (simp only [tTest, tOp, tUn, tVar, tC, tCB, tCons, tNil, tAnd, tOr, tNot, tB, tTup, tLst, tIf, tAndV, tOrV, tNotV, tSl, tPart, tNoPart, tCall, iIx_ref, oGt_int, oMod_int, oFdiv_int, oAdd_int, oAdd_str, oSub_int, oMul_int, oLt_int, oGe_int, oLe_int, oPow_int, uNeg_int, oEq_int, oEq_str, oEq_bl, oNe_int, oNe_str, oNe_bl, cInt_int, cInt_bl, cAbs_int, cLen_ref, cList_ref, stL_ref, gName, gSub, gTup, gCons, gNil, rdSeq, List.getElem?_cons_zero, List.getElem?_cons_succ, List.set_cons_zero, List.set_cons_succ, List.cons_append, List.nil_append, Option.some.injEq, exists_eq_left', V.bl.injEq, V.int.injEq, V.ref.injEq, atI_0, atI_1, atI_2, setI_1, setI_2, Bool.not_true, Bool.not_false, Bool.false_eq_true, if_false, if_true]; exact h)))
      refine ixE (.t P4.hr) atI_0 ?_
      refine jok_sq (.l P4.ht) fun J hJ => ?_
      refine lc_map hJ (fun j => .non) (by rw [List.length_map]; omega) (fun j hj H' g' R hR => ?_) (fun D3 H5 g5 hD3 hd3 => ?_) (by exact fun x => rfl)
      · (refine evE ?P157 (fun Q h => ?h157) ?_; (case h157 => (simp only [tTest, tOp, tUn, tVar, tC, tCB, tCons, tNil, tAnd, tOr, tNot, tB, tTup, tLst, tIf, tAndV, tOrV, tNotV, tSl, tPart, tNoPart, tCall, iIx_ref, oGt_int, oMod_int, oFdiv_int, oAdd_int, oAdd_str, oSub_int, oMul_int, oLt_int, oGe_int, oLe_int, oPow_int, uNeg_int, oEq_int, oEq_str, oEq_bl, oNe_int, oNe_str, oNe_bl, cInt_int, cInt_bl, cAbs_int, cLen_ref, cList_ref, stL_ref, gName, gSub, gTup, gCons, gNil, rdSeq, List.getElem?_cons_zero, List.getElem?_cons_succ, List.set_cons_zero, List.set_cons_succ, List.cons_append, List.nil_append, Option.some.injEq, exists_eq_left', V.bl.injEq, V.int.injEq, V.ref.injEq, atI_0, atI_1, atI_2, setI_1, setI_2, Bool.not_true, Bool.not_false, Bool.false_eq_true, if_false, if_true, wipe]; exact h)); (try dsimp only [gName, tNext, List.set_cons_zero, List.set_cons_succ]))
        exact hR _ .refl
      rw [List.length_map] at hd3
      have hn5 : H5 D3 = some (.lst ((List.replicate told.length (none : Option Int)).map oV)) := by
        rw [hd3, List.map_replicate, List.map_const', List.length_range]
        rfl
      have P5 := P4.grow g5
      refine ixE (.t P5.hr) atI_1 ?_
      refine ⟨by show 2 ≤ sizeLine; decide, fun no hno => ?_⟩
      have g6 := Grow.new (o := .tup [.ref D3, .ref g]) hno
      have hno6 : (upd H5 no (.tup [.ref D3, .ref g])) no = some (.tup [.ref D3, .ref g]) := upd_same
      generalize upd H5 no (.tup [.ref D3, .ref g]) = H6 at *
      have g56 := g5.trans g6
      have P6 := P5.grow g6
      have L6 := L4.grow g56
      have hp6 := hp4.grow g56
      have N6 : PairAt H6 no D3 g (List.replicate told.length none) gains := ⟨hno6, g6 _ _ hn5, P6.hg⟩
      have bns : ∀ x, x ∈ nums (List.replicate told.length (none : Option Int)) → Bn 900 x := nums_of (R := Bn 900) fun o ho i e => by
        rw [List.eq_of_mem_replicate ho] at e
        cases e
      clear hJ hd3 hn5 hno6 hD3
      (try dsimp only [gName, tNext, List.set_cons_zero, List.set_cons_succ])
      refine st_seq (st_if ?_)
      (refine evT ?P158 (fun Q h => ?h158) ?_; (case h158 => (simp only [tTest, tOp, tUn, tVar, tC, tCB, tCons, tNil, tAnd, tOr, tNot, tB, tTup, tLst, tIf, tAndV, tOrV, tNotV, tSl, tPart, tNoPart, tCall, iIx_ref, oGt_int, oMod_int, oFdiv_int, oAdd_int, oAdd_str, oSub_int, oMul_int, oLt_int, oGe_int, oLe_int, oPow_int, uNeg_int, oEq_int, oEq_str, oEq_bl, oNe_int, oNe_str, oNe_bl, cInt_int, cInt_bl, cAbs_int, cLen_ref, cList_ref, stL_ref, gName, gSub, gTup, gCons, gNil, rdSeq, List.getElem?_cons_zero, List.getElem?_cons_succ, List.set_cons_zero, List.set_cons_succ, List.cons_append, List.nil_append, Option.some.injEq, exists_eq_left', V.bl.injEq, V.int.injEq, V.ref.injEq, atI_0, atI_1, atI_2, setI_1, setI_2, Bool.not_true, Bool.not_false, Bool.false_eq_true, if_false, if_true]; exact h)); (try dsimp only [gName, tNext, List.set_cons_zero, List.set_cons_succ]))
      refine ⟨t, g, told, gains, P6, c1, by omega, c3, by omega, bgs, bts, fun H7 g7 => ?_⟩
      simp only [tTest, tOp, tUn, tVar, tC, tCB, tCons, tNil, tAnd, tOr, tNot, tB, tTup, tLst, tIf, tAndV, tOrV, tNotV, tSl, tPart, tNoPart, tCall, iIx_ref, oGt_int, oMod_int, oFdiv_int, oAdd_int, oAdd_str, oSub_int, oMul_int, oLt_int, oGe_int, oLe_int, oPow_int, uNeg_int, oEq_int, oEq_str, oEq_bl, oNe_int, oNe_str, oNe_bl, cInt_int, cInt_bl, cAbs_int, cLen_ref, cList_ref, stL_ref, gName, gSub, gTup, gCons, gNil, rdSeq, List.getElem?_cons_zero, List.getElem?_cons_succ, List.set_cons_zero, List.set_cons_succ, List.cons_append, List.nil_append, Option.some.injEq, exists_eq_left', V.bl.injEq, V.int.injEq, V.ref.injEq, atI_0, atI_1, atI_2, setI_1, setI_2, Bool.not_true, Bool.not_false, Bool.false_eq_true, if_false, if_true]
      refine ⟨D, D2, low, _, L6.grow g7, by rw [List.length_map]; omega, by rw [List.length_map]; omega, by rw [List.length_map]; omega, by omega, ?_, bls, fun H8 g8 => ?_⟩
      · intro x hx
        obtain ⟨y, hy, rfl⟩ := List.mem_map.mp hx
        have := hgs y hy
        exact bn_small (by split <;> omega) (by split <;> omega) (by decide)
      simp only [tTest, tOp, tUn, tVar, tC, tCB, tCons, tNil, tAnd, tOr, tNot, tB, tTup, tLst, tIf, tAndV, tOrV, tNotV, tSl, tPart, tNoPart, tCall, iIx_ref, oGt_int, oMod_int, oFdiv_int, oAdd_int, oAdd_str, oSub_int, oMul_int, oLt_int, oGe_int, oLe_int, oPow_int, uNeg_int, oEq_int, oEq_str, oEq_bl, oNe_int, oNe_str, oNe_bl, cInt_int, cInt_bl, cAbs_int, cLen_ref, cList_ref, stL_ref, gName, gSub, gTup, gCons, gNil, rdSeq, List.getElem?_cons_zero, List.getElem?_cons_succ, List.set_cons_zero, List.set_cons_succ, List.cons_append, List.nil_append, Option.some.injEq, exists_eq_left', V.bl.injEq, V.int.injEq, V.ref.injEq, atI_0, atI_1, atI_2, setI_1, setI_2, Bool.not_true, Bool.not_false, Bool.false_eq_true, if_false, if_true]
      have N8 := (N6.grow g7).grow g8
      refine ⟨D3, g, _, gains, N8, c1, by omega, by rw [List.length_replicate]; omega, by rw [List.length_replicate]; omega, bgs, bns, fun H9 g9 => ?_⟩
      simp only [tTest, tOp, tUn, tVar, tC, tCB, tCons, tNil, tAnd, tOr, tNot, tB, tTup, tLst, tIf, tAndV, tOrV, tNotV, tSl, tPart, tNoPart, tCall, iIx_ref, oGt_int, oMod_int, oFdiv_int, oAdd_int, oAdd_str, oSub_int, oMul_int, oLt_int, oGe_int, oLe_int, oPow_int, uNeg_int, oEq_int, oEq_str, oEq_bl, oNe_int, oNe_str, oNe_bl, cInt_int, cInt_bl, cAbs_int, cLen_ref, cList_ref, stL_ref, gName, gSub, gTup, gCons, gNil, rdSeq, List.getElem?_cons_zero, List.getElem?_cons_succ, List.set_cons_zero, List.set_cons_succ, List.cons_append, List.nil_append, Option.some.injEq, exists_eq_left', V.bl.injEq, V.int.injEq, V.ref.injEq, atI_0, atI_1, atI_2, setI_1, setI_2, Bool.not_true, Bool.not_false, Bool.false_eq_true, if_false, if_true]
      have g69 := (g7.trans g8).trans g9
      have P9 := P6.grow g69
      have hp9 := hp6.grow g69
      -- longer by Nones
      refine st_if ?_
      (refine evT ?P159 (fun Q h => ?h159) ?_; (case h159 => (simp only [tTest, tOp, tUn, tVar, tC, tCB, tCons, tNil, tAnd, tOr, tNot, tB, tTup, tLst, tIf, tAndV, tOrV, tNotV, tSl, tPart, tNoPart, tCall, iIx_ref, oGt_int, oMod_int, oFdiv_int, oAdd_int, oAdd_str, oSub_int, oMul_int, oLt_int, oGe_int, oLe_int, oPow_int, uNeg_int, oEq_int, oEq_str, oEq_bl, oNe_int, oNe_str, oNe_bl, cInt_int, cInt_bl, cAbs_int, cLen_ref, cList_ref, stL_ref, gName, gSub, gTup, gCons, gNil, rdSeq, List.getElem?_cons_zero, List.getElem?_cons_succ, List.set_cons_zero, List.set_cons_succ, List.cons_append, List.nil_append, Option.some.injEq, exists_eq_left', V.bl.injEq, V.int.injEq, V.ref.injEq, atI_0, atI_1, atI_2, setI_1, setI_2, Bool.not_true, Bool.not_false, Bool.false_eq_true, if_false, if_true]; exact h)); (try dsimp only [gName, tNext, List.set_cons_zero, List.set_cons_succ]))
      refine ixE (.t P9.hr) atI_0 ?_
      refine ⟨by show 1 ≤ sizeLine; decide, fun n1 hn1 => ?_⟩
      have g10 := Grow.new (o := .lst [V.non]) hn1
      have hn10 : (upd H9 n1 (.lst [V.non])) n1 = some (.lst [V.non]) := upd_same
      generalize upd H9 n1 (.lst [V.non]) = H10 at *
      have P10 := P9.grow g10
      refine ixE (.t P10.hr) atI_1 ?_
      refine lenE (.l P10.hg) ?_
      rw [List.length_map]
      refine mul_rep hn10 (by omega) (by omega) (by rw [List.length_singleton]; omega) fun n2 hn2 => ?_
      rw [Int.toNat_natCast, rep_none]
      have g11 := Grow.new (o := .lst ((List.replicate gains.length (none : Option Int)).map oV)) hn2
      have hn11 : (upd H10 n2 (.lst ((List.replicate gains.length (none : Option Int)).map oV))) n2 = some (.lst ((List.replicate gains.length (none : Option Int)).map oV)) := upd_same
      generalize upd H10 n2 (.lst ((List.replicate gains.length (none : Option Int)).map oV)) = H11 at *
      have P11 := P10.grow g11
      rw [oAdd_lst P11.ht hn11]
      refine ⟨by rw [List.length_map, List.length_map, List.length_replicate]; omega, fun n3 hn3 => ?_⟩
      rw [← List.map_append]
      have g12 := Grow.new (o := .lst ((told ++ List.replicate gains.length (none : Option Int)).map oV)) hn3
      have hn12 : (upd H11 n3 (.lst ((told ++ List.replicate gains.length (none : Option Int)).map oV))) n3 = some (.lst ((told ++ List.replicate gains.length (none : Option Int)).map oV)) := upd_same
      generalize upd H11 n3 (.lst ((told ++ List.replicate gains.length (none : Option Int)).map oV)) = H12 at *
      have P12 := P11.grow g12
      refine ixE (.t P12.hr) atI_1 ?_
      refine ⟨by show 2 ≤ sizeLine; decide, fun n4 hn4 => ?_⟩
      have g13 := Grow.new (o := .tup [.ref n3, .ref g]) hn4
      have P13 : PairAt (upd H12 n4 (.tup [.ref n3, .ref g])) n4 n3 g (told ++ List.replicate gains.length none) gains := ⟨upd_same, g13 _ _ hn12, g13 _ _ P12.hg⟩
      refine ⟨n3, g, _, gains, P13, c1, by omega, by rw [List.length_append]; omega, by rw [List.length_append, List.length_replicate]; omega, bgs, ?_, fun H14 g14 => ?_⟩
      · refine nums_of (R := Bn 900) fun o ho i e => ?_
        rcases List.mem_append.mp ho with ho | ho
        · exact bn_small (by have := hts o ho i e; omega) (by have := hts o ho i e; omega) (by decide)
        · rw [List.eq_of_mem_replicate ho] at e
          cases e
      simp only [tTest, tOp, tUn, tVar, tC, tCB, tCons, tNil, tAnd, tOr, tNot, tB, tTup, tLst, tIf, tAndV, tOrV, tNotV, tSl, tPart, tNoPart, tCall, iIx_ref, oGt_int, oMod_int, oFdiv_int, oAdd_int, oAdd_str, oSub_int, oMul_int, oLt_int, oGe_int, oLe_int, oPow_int, uNeg_int, oEq_int, oEq_str, oEq_bl, oNe_int, oNe_str, oNe_bl, cInt_int, cInt_bl, cAbs_int, cLen_ref, cList_ref, stL_ref, gName, gSub, gTup, gCons, gNil, rdSeq, List.getElem?_cons_zero, List.getElem?_cons_succ, List.set_cons_zero, List.set_cons_succ, List.cons_append, List.nil_append, Option.some.injEq, exists_eq_left', V.bl.injEq, V.int.injEq, V.ref.injEq, atI_0, atI_1, atI_2, setI_1, setI_2, Bool.not_true, Bool.not_false, Bool.false_eq_true, if_false, if_true]
      have gg := ((g10.trans g11).trans (g12.trans g13)).trans g14
      exact ⟨rfl, trivial, (hp9.grow gg).up (by omega)⟩
  · exact h.elim
end HG

namespace HG
open PySem L2
def top (i : Nat) : Stmt := PySem.Challenge.pw_headgap_k11_greatest_and_slope.main.body.getD i (.Pass ⟨0, 0, 0, 0⟩)
abbrev s_is_integer : Stmt := (top 8)
theorem sc_is_integer : FnScope ["value"] ["value"] (defScope s_is_integer) := ⟨rfl, rfl, rfl, by decide +kernel, rfl, by decide +kernel, by decide +kernel⟩
abbrev s_is_value : Stmt := (top 16)
theorem sc_is_value : FnScope ["value"] ["value"] (defScope s_is_value) := ⟨rfl, rfl, rfl, by decide +kernel, rfl, by decide +kernel, by decide +kernel⟩
abbrev s_is_list : Stmt := (top 17)
theorem sc_is_list : FnScope ["value", "least"] ["value", "least"] (defScope s_is_list) := ⟨rfl, rfl, rfl, by decide +kernel, rfl, by decide +kernel, by decide +kernel⟩
abbrev s_added : Stmt := (top 18)
theorem sc_added : FnScope ["value", "number"] ["value", "number"] (defScope s_added) := ⟨rfl, rfl, rfl, by decide +kernel, rfl, by decide +kernel, by decide +kernel⟩
abbrev s_value_at : Stmt := (top 19)
theorem sc_value_at : FnScope ["told", "gains", "n", "turns"] ["told", "gains", "n"] (defScope s_value_at) := ⟨rfl, rfl, rfl, by decide +kernel, rfl, by decide +kernel, by decide +kernel⟩
abbrev s_step_between : Stmt := (top 20)
theorem sc_step_between : FnScope ["low", "high"] ["low", "high"] (defScope s_step_between) := ⟨rfl, rfl, rfl, by decide +kernel, rfl, by decide +kernel, by decide +kernel⟩
abbrev s_gains_of : Stmt := (top 21)
theorem sc_gains_of : FnScope ["row", "origin", "period", "steps", "at", "rest"] ["row", "origin", "period"] (defScope s_gains_of) := ⟨rfl, rfl, rfl, by decide +kernel, rfl, by decide +kernel, by decide +kernel⟩
abbrev s_least_gains : Stmt := (top 22)
theorem sc_least_gains : FnScope ["row", "origin", "period", "least", "gains"] ["row", "origin", "period"] (defScope s_least_gains) := ⟨rfl, rfl, rfl, by decide +kernel, rfl, by decide +kernel, by decide +kernel⟩
abbrev s_trimmed : Stmt := (top 23)
theorem sc_trimmed : FnScope ["told", "gains", "many", "period"] ["told", "gains"] (defScope s_trimmed) := ⟨rfl, rfl, rfl, by decide +kernel, rfl, by decide +kernel, by decide +kernel⟩
abbrev s_normal_form : Stmt := (top 24)
theorem sc_normal_form : FnScope ["told", "gains", "origin", "period", "row", "least", "at"] ["told", "gains"] (defScope s_normal_form) := ⟨rfl, rfl, rfl, by decide +kernel, rfl, by decide +kernel, by decide +kernel⟩
abbrev s_shared_multiple : Stmt := (top 25)
theorem sc_shared_multiple : FnScope ["one", "other", "low", "high"] ["one", "other"] (defScope s_shared_multiple) := ⟨rfl, rfl, rfl, by decide +kernel, rfl, by decide +kernel, by decide +kernel⟩
abbrev s_need_integer : Stmt := (top 35)
theorem sc_need_integer : FnScope ["number"] ["number"] (defScope s_need_integer) := ⟨rfl, rfl, rfl, by decide +kernel, rfl, by decide +kernel, by decide +kernel⟩
abbrev s_Growth_init : Stmt := (inClass (top 37) 0)
theorem sc_Growth_init : FnScope ["self", "told", "gains", "gain", "value"] ["self", "told", "gains"] (defScope s_Growth_init) := ⟨rfl, rfl, rfl, by decide +kernel, rfl, by decide +kernel, by decide +kernel⟩
abbrev s_Growth_constant : Stmt := (inClass (top 37) 1)
theorem sc_Growth_constant : FnScope ["k"] ["k"] (defScope s_Growth_constant) := ⟨rfl, rfl, rfl, by decide +kernel, rfl, by decide +kernel, by decide +kernel⟩
abbrev s_Growth_ramp : Stmt := (inClass (top 37) 2)
theorem sc_Growth_ramp : FnScope ["gain", "begin"] ["gain", "begin"] (defScope s_Growth_ramp) := ⟨rfl, rfl, rfl, by decide +kernel, rfl, by decide +kernel, by decide +kernel⟩
abbrev s_Growth_none : Stmt := (inClass (top 37) 3)
theorem sc_Growth_none : FnScope [] [] (defScope s_Growth_none) := ⟨rfl, rfl, rfl, by decide +kernel, rfl, by decide +kernel, by decide +kernel⟩
abbrev s_Growth_period : Stmt := (inClass (top 37) 7)
theorem sc_Growth_period : FnScope ["self"] ["self"] (defScope s_Growth_period) := ⟨rfl, rfl, rfl, by decide +kernel, rfl, by decide +kernel, by decide +kernel⟩
abbrev s_Growth_lasting : Stmt := (inClass (top 37) 8)
theorem sc_Growth_lasting : FnScope ["self", "origin", "n"] ["self"] (defScope s_Growth_lasting) := ⟨rfl, rfl, rfl, by decide +kernel, rfl, by decide +kernel, by decide +kernel⟩
abbrev s_Growth_is_endless : Stmt := (inClass (top 37) 9)
theorem sc_Growth_is_endless : FnScope ["self", "gain"] ["self"] (defScope s_Growth_is_endless) := ⟨rfl, rfl, rfl, by decide +kernel, rfl, by decide +kernel, by decide +kernel⟩
abbrev s_Growth_greatest : Stmt := (inClass (top 37) 10)
theorem sc_Growth_greatest : FnScope ["self", "numbers", "value"] ["self"] (defScope s_Growth_greatest) := ⟨rfl, rfl, rfl, by decide +kernel, rfl, by decide +kernel, by decide +kernel⟩
abbrev s_Growth_slope : Stmt := (inClass (top 37) 11)
theorem sc_Growth_slope : FnScope ["self", "best", "shared", "gain"] ["self"] (defScope s_Growth_slope) := ⟨rfl, rfl, rfl, by decide +kernel, rfl, by decide +kernel, by decide +kernel⟩
abbrev s_law_pen : Stmt := (top 47)
theorem sc_law_pen : FnScope ["_law_script"] ["_law_script"] (defScope s_law_pen) := ⟨rfl, rfl, rfl, by decide +kernel, rfl, by decide +kernel, by decide +kernel⟩
abbrev s_law_draw : Stmt := (top 48)
theorem sc_law_draw : FnScope ["_law_pen_here", "_law_many", "_law_digit", "_law_turn", "_law_cell", "_law_great", "_law_blend"] ["_law_pen_here", "_law_many"] (defScope s_law_draw) := ⟨rfl, rfl, rfl, by decide +kernel, rfl, by decide +kernel, by decide +kernel⟩
abbrev s_law_pick : Stmt := (top 49)
theorem sc_law_pick : FnScope ["_law_pen_here", "_law_some_here"] ["_law_pen_here", "_law_some_here"] (defScope s_law_pick) := ⟨rfl, rfl, rfl, by decide +kernel, rfl, by decide +kernel, by decide +kernel⟩
abbrev s_law_told : Stmt := (top 50)
theorem sc_law_told : FnScope ["_law_pen_here", "_law_gains", "_law_many", "_law_turn"] ["_law_pen_here"] (defScope s_law_told) := ⟨rfl, rfl, rfl, by decide +kernel, rfl, by decide +kernel, by decide +kernel⟩
abbrev s_law_lasting : Stmt := (top 53)
theorem sc_law_lasting : FnScope ["_law_pair", "_law_told_here", "_law_gains", "_law_ends", "_law_n"] ["_law_pair"] (defScope s_law_lasting) := ⟨rfl, rfl, rfl, by decide +kernel, rfl, by decide +kernel, by decide +kernel⟩
abbrev s_law_right : Stmt := (top 54)
theorem sc_law_right : FnScope ["_law_pair", "_law_growth", "_law_lasting_here", "_law_period", "_law_is_endless", "_law_numbers", "_law_due", "_law_best", "_law_told_here", "_law_gain", "_law_value", "_law_part"] ["_law_pair"] (defScope s_law_right) := ⟨rfl, rfl, rfl, by decide +kernel, rfl, by decide +kernel, by decide +kernel⟩
abbrev s_law : Stmt := (top 55)
theorem sc_law : FnScope ["_law_script", "_law_pen_here", "_law_turn", "_law_pair", "_law_low", "_law_none", "_law_some_here", "_law_value", "_law_gain"] ["_law_script"] (defScope s_law) := ⟨rfl, rfl, rfl, by decide +kernel, rfl, by decide +kernel, by decide +kernel⟩

structure Txt (K : PySem.W.Frag) (mg : Str → Option Value) (A : Ad) : Prop where
  kf : KF K A
  b_abs : mg "abs" = none
  b_all : mg "all" = none
  b_any : mg "any" = none
  b_bool : mg "bool" = none
  b_int : mg "int" = none
  b_isinstance : mg "isinstance" = none
  b_len : mg "len" = none
  b_list : mg "list" = none
  b_max : mg "max" = none
  b_min : mg "min" = none
  b_range : mg "range" = none
  b_repr : mg "repr" = none
  b_tuple : mg "tuple" = none
  g_Growth : mg "Growth" = some (.ref A.c_Growth)
  M_Growth : Mk K A.c_Growth A.f_Growth_init
  cl_Growth : Cls K A.c_Growth
  g_is_integer : mg "is_integer" = some (.ref A.f_is_integer)
  F_is_integer : Fun K "is_integer" "is_integer" s_is_integer A.f_is_integer A.d_is_integer
  B_is_integer : Binds K A.d_is_integer ["value"] []
  g_is_value : mg "is_value" = some (.ref A.f_is_value)
  F_is_value : Fun K "is_value" "is_value" s_is_value A.f_is_value A.d_is_value
  B_is_value : Binds K A.d_is_value ["value"] []
  g_is_list : mg "is_list" = some (.ref A.f_is_list)
  F_is_list : Fun K "is_list" "is_list" s_is_list A.f_is_list A.d_is_list
  B_is_list : Binds K A.d_is_list ["value", "least"] []
  g_added : mg "added" = some (.ref A.f_added)
  F_added : Fun K "added" "added" s_added A.f_added A.d_added
  B_added : Binds K A.d_added ["value", "number"] []
  g_value_at : mg "value_at" = some (.ref A.f_value_at)
  F_value_at : Fun K "value_at" "value_at" s_value_at A.f_value_at A.d_value_at
  B_value_at : Binds K A.d_value_at ["told", "gains", "n"] []
  g_step_between : mg "step_between" = some (.ref A.f_step_between)
  F_step_between : Fun K "step_between" "step_between" s_step_between A.f_step_between A.d_step_between
  B_step_between : Binds K A.d_step_between ["low", "high"] []
  g_gains_of : mg "gains_of" = some (.ref A.f_gains_of)
  F_gains_of : Fun K "gains_of" "gains_of" s_gains_of A.f_gains_of A.d_gains_of
  B_gains_of : Binds K A.d_gains_of ["row", "origin", "period"] []
  g_least_gains : mg "least_gains" = some (.ref A.f_least_gains)
  F_least_gains : Fun K "least_gains" "least_gains" s_least_gains A.f_least_gains A.d_least_gains
  B_least_gains : Binds K A.d_least_gains ["row", "origin", "period"] []
  g_trimmed : mg "trimmed" = some (.ref A.f_trimmed)
  F_trimmed : Fun K "trimmed" "trimmed" s_trimmed A.f_trimmed A.d_trimmed
  B_trimmed : Binds K A.d_trimmed ["told", "gains"] []
  g_normal_form : mg "normal_form" = some (.ref A.f_normal_form)
  F_normal_form : Fun K "normal_form" "normal_form" s_normal_form A.f_normal_form A.d_normal_form
  B_normal_form : Binds K A.d_normal_form ["told", "gains"] []
  g_shared_multiple : mg "shared_multiple" = some (.ref A.f_shared_multiple)
  F_shared_multiple : Fun K "shared_multiple" "shared_multiple" s_shared_multiple A.f_shared_multiple A.d_shared_multiple
  B_shared_multiple : Binds K A.d_shared_multiple ["one", "other"] []
  g_need_integer : mg "need_integer" = some (.ref A.f_need_integer)
  F_need_integer : Fun K "need_integer" "need_integer" s_need_integer A.f_need_integer A.d_need_integer
  B_need_integer : Binds K A.d_need_integer ["number"] []
  F_Growth_init : FunD K "__init__" "Growth.__init__" (defArgs s_Growth_init) (defBody s_Growth_init) (defScope s_Growth_init) [.ref A.dt_Growth_init_0] [] A.f_Growth_init A.d_Growth_init
  B_Growth_init : Binds K A.d_Growth_init ["self", "told", "gains"] []
  F_Growth_constant : Fun K "constant" "Growth.constant" s_Growth_constant A.f_Growth_constant A.d_Growth_constant
  B_Growth_constant : Binds K A.d_Growth_constant ["k"] []
  F_Growth_ramp : FunD K "ramp" "Growth.ramp" (defArgs s_Growth_ramp) (defBody s_Growth_ramp) (defScope s_Growth_ramp) [.int 0] [] A.f_Growth_ramp A.d_Growth_ramp
  B_Growth_ramp : Binds K A.d_Growth_ramp ["gain", "begin"] []
  F_Growth_none : Fun K "none" "Growth.none" s_Growth_none A.f_Growth_none A.d_Growth_none
  B_Growth_none : Binds K A.d_Growth_none [] []
  F_Growth_period : Fun K "period" "Growth.period" s_Growth_period A.f_Growth_period A.d_Growth_period
  B_Growth_period : Binds K A.d_Growth_period ["self"] []
  F_Growth_lasting : Fun K "lasting" "Growth.lasting" s_Growth_lasting A.f_Growth_lasting A.d_Growth_lasting
  B_Growth_lasting : Binds K A.d_Growth_lasting ["self"] []
  F_Growth_is_endless : Fun K "is_endless" "Growth.is_endless" s_Growth_is_endless A.f_Growth_is_endless A.d_Growth_is_endless
  B_Growth_is_endless : Binds K A.d_Growth_is_endless ["self"] []
  F_Growth_greatest : Fun K "greatest" "Growth.greatest" s_Growth_greatest A.f_Growth_greatest A.d_Growth_greatest
  B_Growth_greatest : Binds K A.d_Growth_greatest ["self"] []
  F_Growth_slope : Fun K "slope" "Growth.slope" s_Growth_slope A.f_Growth_slope A.d_Growth_slope
  B_Growth_slope : Binds K A.d_Growth_slope ["self"] []
  g_law_pen : mg "_law_pen" = some (.ref A.f_law_pen)
  F_law_pen : Fun K "_law_pen" "_law_pen" s_law_pen A.f_law_pen A.d_law_pen
  B_law_pen : Binds K A.d_law_pen ["_law_script"] []
  g_law_draw : mg "_law_draw" = some (.ref A.f_law_draw)
  F_law_draw : Fun K "_law_draw" "_law_draw" s_law_draw A.f_law_draw A.d_law_draw
  B_law_draw : Binds K A.d_law_draw ["_law_pen_here", "_law_many"] []
  g_law_pick : mg "_law_pick" = some (.ref A.f_law_pick)
  F_law_pick : Fun K "_law_pick" "_law_pick" s_law_pick A.f_law_pick A.d_law_pick
  B_law_pick : Binds K A.d_law_pick ["_law_pen_here", "_law_some_here"] []
  g_law_told : mg "_law_told" = some (.ref A.f_law_told)
  F_law_told : Fun K "_law_told" "_law_told" s_law_told A.f_law_told A.d_law_told
  B_law_told : Binds K A.d_law_told ["_law_pen_here"] []
  g_law_lasting : mg "_law_lasting" = some (.ref A.f_law_lasting)
  F_law_lasting : Fun K "_law_lasting" "_law_lasting" s_law_lasting A.f_law_lasting A.d_law_lasting
  B_law_lasting : Binds K A.d_law_lasting ["_law_pair"] []
  g_law_right : mg "_law_right" = some (.ref A.f_law_right)
  F_law_right : Fun K "_law_right" "_law_right" s_law_right A.f_law_right A.d_law_right
  B_law_right : Binds K A.d_law_right ["_law_pair"] []
  F_law : Fun K "law" "law" s_law A.f_law A.d_law
  p_Growth_period : PropOf K A.c_Growth "period" A.p_Growth_period A.f_Growth_period
  p_Growth_lasting : PropOf K A.c_Growth "lasting" A.p_Growth_lasting A.f_Growth_lasting
  p_Growth_is_endless : PropOf K A.c_Growth "is_endless" A.p_Growth_is_endless A.f_Growth_is_endless
  p_Growth_greatest : PropOf K A.c_Growth "greatest" A.p_Growth_greatest A.f_Growth_greatest
  p_Growth_slope : PropOf K A.c_Growth "slope" A.p_Growth_slope A.f_Growth_slope
  s_Growth_constant : SMet K A.c_Growth "constant" A.m_Growth_constant A.f_Growth_constant
  s_Growth_ramp : SMet K A.c_Growth "ramp" A.m_Growth_ramp A.f_Growth_ramp
  s_Growth_none : SMet K A.c_Growth "none" A.m_Growth_none A.f_Growth_none
  gi_MOST_GAINS : ∃ t, mg "MOST_GAINS" = some (.int 60 t)
  gi_MOST_TOLD : ∃ t, mg "MOST_TOLD" = some (.int 4000 t)
  D1_Growth : ∃ ds, Vals [.ref A.dt_Growth_init_0] ds ∧ Binds K A.d_Growth_init ["self", "told", "gains"] ds
  D1_Growth_ramp : ∃ ds, Vals [.int 0] ds ∧ Binds K A.d_Growth_ramp ["gain", "begin"] ds

theorem ok_is_integer {P : Program} {w : World} {K : PySem.W.Frag} {mg : Str → Option Value} {base : Heap} {A : Ad} (T : Txt K mg A) :
    FnG P w K mg base CX0 1 A.f_is_integer A.d_is_integer ["value"] (sp_is_integer K A) := by
  refine okG T.F_is_integer sc_is_integer (fun vs H Q E h => ?_) (fun cdv A' outer s H vs Q E hr hG h => ⟨(t_is_integer_0 K A), ?_, pure_is_integer h⟩)
  · unfold sp_is_integer at h
    try unfold spPenL at h
    try unfold spDrawL at h
    try unfold spPickL at h
    try unfold spLaw at h
    split at h <;> first | rfl | exact h.elim
  · exact (pss_one (ps_ret (pe_and (pe_callB call_isiU (by rfl) T.b_isinstance (by decide +kernel) (pa_cons (pv 0) (pa_cons (pe_bltn rfl T.b_int (by decide +kernel) rfl) pa_nil))) (pe_one (pe_not (pe_callB call_isiU (by rfl) T.b_isinstance (by decide +kernel) (pa_cons (pv 0) (pa_cons (pe_bltn rfl T.b_bool (by decide +kernel) rfl) pa_nil))))))))
theorem ok_is_value {P : Program} {w : World} {K : PySem.W.Frag} {mg : Str → Option Value} {base : Heap} {A : Ad} (T : Txt K mg A)
    (G_is_integer : FnG P w K mg base CX0 1 A.f_is_integer A.d_is_integer ["value"] (sp_is_integer K A)) :
    FnG P w K mg base CX0 3 A.f_is_value A.d_is_value ["value"] (sp_is_value K A) := by
  refine okG T.F_is_value sc_is_value (fun vs H Q E h => ?_) (fun cdv A' outer s H vs Q E hr hG h => ⟨(t_is_value_0 K A), ?_, pure_is_value h⟩)
  · unfold sp_is_value at h
    try unfold spPenL at h
    try unfold spDrawL at h
    try unfold spPickL at h
    try unfold spLaw at h
    split at h <;> first | rfl | exact h.elim
  · exact (pss_one (ps_ret (pe_or (pe_cmpR op_isU (pv 0) pe_non (nomark _)) (pe_one (pe_callG G_is_integer (hr.mono (by decide)) hG rfl T.g_is_integer T.F_is_integer.kp T.B_is_integer .nil pass0 (pa_cons (pv 0) pa_nil))))))
theorem ok_is_list {P : Program} {w : World} {K : PySem.W.Frag} {mg : Str → Option Value} {base : Heap} {A : Ad} (T : Txt K mg A) :
    FnG P w K mg base CX0 1 A.f_is_list A.d_is_list ["value", "least"] (sp_is_list K A) := by
  refine okG T.F_is_list sc_is_list (fun vs H Q E h => ?_) (fun cdv A' outer s H vs Q E hr hG h => ⟨(t_is_list_0 K A), ?_, pure_is_list h⟩)
  · unfold sp_is_list at h
    try unfold spPenL at h
    try unfold spDrawL at h
    try unfold spPickL at h
    try unfold spLaw at h
    split at h <;> first | rfl | exact h.elim
  · exact (pss_one (ps_ret (pe_and (pe_callB call_isiT (by rfl) T.b_isinstance (by decide +kernel) (pa_cons (pv 0) (pa_cons (pe_tup (pa_cons (pe_bltn rfl T.b_list (by decide +kernel) rfl) (pa_cons (pe_bltn rfl T.b_tuple (by decide +kernel) rfl) pa_nil))) pa_nil))) (pe_one (pe_cmpR op_geU (pe_callB call_lenE (by rfl) T.b_len PySem.boot_len (pa_cons (pv 0) pa_nil)) (pv 1) (nomark _))))))
theorem ok_added {P : Program} {w : World} {K : PySem.W.Frag} {mg : Str → Option Value} {base : Heap} {A : Ad} (T : Txt K mg A) :
    FnG P w K mg base CX0 1 A.f_added A.d_added ["value", "number"] (sp_added K A) := by
  refine okG T.F_added sc_added (fun vs H Q E h => ?_) (fun cdv A' outer s H vs Q E hr hG h => ⟨(t_added_0 K A), ?_, pure_added h⟩)
  · unfold sp_added at h
    try unfold spPenL at h
    try unfold spDrawL at h
    try unfold spPickL at h
    try unfold spLaw at h
    split at h <;> first | rfl | exact h.elim
  · exact (pss_one (ps_ret (pe_ifExp (pt_cmpR op_isU (pv 0) pe_non (nomark _)) pe_non (pe_op op_addU (pv 0) (pv 1)))))
theorem ok_value_at {P : Program} {w : World} {K : PySem.W.Frag} {mg : Str → Option Value} {base : Heap} {A : Ad} (T : Txt K mg A)
    (G_added : FnG P w K mg base CX0 1 A.f_added A.d_added ["value", "number"] (sp_added K A)) :
    FnG P w K mg base CX0 3 A.f_value_at A.d_value_at ["told", "gains", "n"] (sp_value_at K A) := by
  refine okG T.F_value_at sc_value_at (fun vs H Q E h => ?_) (fun cdv A' outer s H vs Q E hr hG h => ⟨(t_value_at_0 K A), ?_, pure_value_at h⟩)
  · unfold sp_value_at at h
    try unfold spPenL at h
    try unfold spDrawL at h
    try unfold spPickL at h
    try unfold spLaw at h
    split at h <;> first | rfl | exact h.elim
  · exact (pss_cons (ps_if (pt_cmpR op_ltU (pv 2) (pe_callB call_lenE (by rfl) T.b_len PySem.boot_len (pa_cons (pv 0) pa_nil)) (nomark _)) (pss_one (ps_ret (pe_ix ix_seq (pv 0) (pv 2) (fun _ _ => rfl)))) pss_nil)
    (pss_cons (ps_set (i := 3) sc_value_at.nd rfl (Or.inl rfl) (pe_op op_addU (pe_op op_fdivU (pe_op op_subU (pv 2) (pe_callB call_lenE (by rfl) T.b_len PySem.boot_len (pa_cons (pv 0) pa_nil))) (pe_callB call_lenE (by rfl) T.b_len PySem.boot_len (pa_cons (pv 1) pa_nil))) pe_int))
    (pss_one (ps_ret (pe_callG G_added (hr.mono (by decide)) hG rfl T.g_added T.F_added.kp T.B_added .nil pass0 (pa_cons (pe_ix ix_seq (pv 0) (pe_op op_subU (pv 2) (pe_op op_mulU (pv 3) (pe_callB call_lenE (by rfl) T.b_len PySem.boot_len (pa_cons (pv 1) pa_nil)))) (fun _ _ => rfl)) (pa_cons (pe_op op_mulU (pv 3) (pe_ix ix_seq (pv 1) (pe_op op_modU (pv 2) (pe_callB call_lenE (by rfl) T.b_len PySem.boot_len (pa_cons (pv 1) pa_nil))) (fun _ _ => rfl))) pa_nil)))))))
theorem ok_step_between {P : Program} {w : World} {K : PySem.W.Frag} {mg : Str → Option Value} {base : Heap} {A : Ad} (T : Txt K mg A) :
    FnG P w K mg base CX0 1 A.f_step_between A.d_step_between ["low", "high"] (sp_step_between K A) := by
  refine okG T.F_step_between sc_step_between (fun vs H Q E h => ?_) (fun cdv A' outer s H vs Q E hr hG h => ⟨(t_step_between_0 K A), ?_, pure_step_between h⟩)
  · unfold sp_step_between at h
    try unfold spPenL at h
    try unfold spDrawL at h
    try unfold spPickL at h
    try unfold spLaw at h
    split at h <;> first | rfl | exact h.elim
  · exact (pss_cons (ps_if (PW.pt (pw_or (pt_cmpR op_isU (pv 0) pe_non (nomark _)) (pw_or1 (pt_cmpR op_isU (pv 1) pe_non (nomark _))))) (pss_one (ps_ret (pe_ifExp (pt_cmpR (op_eqU hr.units) (pv 0) (pv 1) (nomark _)) pe_int pe_non))) pss_nil)
    (pss_one (ps_ret (pe_op op_subU (pv 1) (pv 0)))))
theorem ok_gains_of {P : Program} {w : World} {K : PySem.W.Frag} {mg : Str → Option Value} {base : Heap} {A : Ad} (T : Txt K mg A)
    (G_step_between : FnG P w K mg base CX0 1 A.f_step_between A.d_step_between ["low", "high"] (sp_step_between K A)) :
    FnG P w K mg base CX0 3 A.f_gains_of A.d_gains_of ["row", "origin", "period"] (sp_gains_of K A) := by
  refine okG T.F_gains_of sc_gains_of (fun vs H Q E h => ?_) (fun cdv A' outer s H vs Q E hr hG h => ⟨(t_gains_of_0 K A), ?_, pure_gains_of h⟩)
  · unfold sp_gains_of at h
    try unfold spPenL at h
    try unfold spDrawL at h
    try unfold spPickL at h
    try unfold spLaw at h
    split at h <;> first | rfl | exact h.elim
  · exact (pss_cons (ps_set (i := 3) sc_gains_of.nd rfl (Or.inr rfl) (pe_lc (own := [("at", 4)]) (g := (gName 4)) (tt := tYes) (by rfl) sc_gains_of.nd (pi_range1 rfl T.b_range (pa_cons (pe_op op_subU (pe_callB call_lenE (by rfl) T.b_len PySem.boot_len (pa_cons (pv 0) pa_nil)) (pv 2)) pa_nil)) (blkOk_by (own := [("at", 4)]) (N := ["row", "origin", "period", "steps", "at", "rest"]) (sc := defScope s_gains_of) (by decide +kernel)) (fun _ _ _ _ _ => (pg_name (i := 4) sc_gains_of.nd rfl (Or.inl rfl))) (fun _ _ _ _ _ => pts_nil) (fun _ _ _ _ _ => (pe_callG G_step_between (hr.mono (by decide)) hG rfl T.g_step_between T.F_step_between.kp T.B_step_between .nil pass0 (pa_cons (pe_ix ix_seq (pv 0) (pv 4) (fun _ _ => rfl)) (pa_cons (pe_ix ix_seq (pv 0) (pe_op op_addU (pv 4) (pv 2)) (fun _ _ => rfl)) pa_nil))))))
    (pss_cons (ps_if (PW.pt (pw_or (pt_cmpR (op_inU hr.units65) pe_non (pv 3) rfl) (pw_or1 (pt_not (pt_val (pe_callB (call_allU rfl) (by rfl) T.b_all (by decide +kernel) (pa_cons (pe_lc (own := [("at", 4)]) (g := (gName 4)) (tt := tYes) (by rfl) sc_gains_of.nd (pi_range1 rfl T.b_range (pa_cons (pe_callB call_lenE (by rfl) T.b_len PySem.boot_len (pa_cons (pv 3) pa_nil)) pa_nil)) (blkOk_by (own := [("at", 4)]) (N := ["row", "origin", "period", "steps", "at", "rest"]) (sc := defScope s_gains_of) (by decide +kernel)) (fun _ _ _ _ _ => (pg_name (i := 4) sc_gains_of.nd rfl (Or.inl rfl))) (fun _ _ _ _ _ => pts_nil) (fun _ _ _ _ _ => (pe_cmpR (op_eqU hr.units) (pe_ix ix_seq (pv 3) (pv 4) (fun _ _ => rfl)) (pe_ix ix_seq (pv 3) (pe_op op_modU (pv 4) (pv 2)) (fun _ _ => rfl)) (nomark _)))) pa_nil))))))) (pss_one (ps_ret pe_non)) pss_nil)
    (pss_one (ps_ret (pe_callTy call_tupE (by rfl) T.b_tuple (by decide +kernel) (pa_cons (pe_lc (own := [("rest", 5)]) (g := (gName 5)) (tt := tYes) (by rfl) sc_gains_of.nd (pi_range1 rfl T.b_range (pa_cons (pv 2) pa_nil)) (blkOk_by (own := [("rest", 5)]) (N := ["row", "origin", "period", "steps", "at", "rest"]) (sc := defScope s_gains_of) (by decide +kernel)) (fun _ _ _ _ _ => (pg_name (i := 5) sc_gains_of.nd rfl (Or.inl rfl))) (fun _ _ _ _ _ => pts_nil) (fun _ _ _ _ _ => (pe_ix ix_seq (pv 3) (pe_op op_modU (pe_op op_subU (pv 5) (pv 1)) (pv 2)) (fun _ _ => rfl)))) pa_nil))))))
theorem ok_least_gains {P : Program} {w : World} {K : PySem.W.Frag} {mg : Str → Option Value} {base : Heap} {A : Ad} (T : Txt K mg A)
    (G_gains_of : FnG P w K mg base CX0 3 A.f_gains_of A.d_gains_of ["row", "origin", "period"] (sp_gains_of K A)) :
    FnG P w K mg base CX0 5 A.f_least_gains A.d_least_gains ["row", "origin", "period"] (sp_least_gains K A) := by
  refine okG T.F_least_gains sc_least_gains (fun vs H Q E h => ?_) (fun cdv A' outer s H vs Q E hr hG h => ⟨(t_least_gains_0 K A), ?_, pure_least_gains h⟩)
  · unfold sp_least_gains at h
    try unfold spPenL at h
    try unfold spDrawL at h
    try unfold spPickL at h
    try unfold spLaw at h
    split at h <;> first | rfl | exact h.elim
  · exact (pss_cons (ps_for never0 rfl (pi_range2 rfl T.b_range (pa_cons pe_int (pa_cons (pv 2) pa_nil))) (pg_name (i := 3) sc_least_gains.nd rfl (Or.inl rfl))
    (pss_cons (ps_set (i := 4) sc_least_gains.nd rfl (Or.inl rfl) (pe_ifExp (pt_cmpR (op_eqU hr.units) (pe_op op_modU (pv 2) (pv 3)) pe_int (nomark _)) (pe_callG G_gains_of (hr.mono (by decide)) hG rfl T.g_gains_of T.F_gains_of.kp T.B_gains_of .nil pass0 (pa_cons (pv 0) (pa_cons (pv 1) (pa_cons (pv 3) pa_nil)))) pe_non))
    (pss_one (ps_if (pt_cmpR op_isNotU (pv 4) pe_non (nomark _)) (pss_one (ps_ret (pv 4))) pss_nil))))
    (pss_one (ps_ret (pe_callG G_gains_of (hr.mono (by decide)) hG rfl T.g_gains_of T.F_gains_of.kp T.B_gains_of .nil pass0 (pa_cons (pv 0) (pa_cons (pv 1) (pa_cons (pv 2) pa_nil)))))))
theorem ok_trimmed {P : Program} {w : World} {K : PySem.W.Frag} {mg : Str → Option Value} {base : Heap} {A : Ad} (T : Txt K mg A)
    (G_added : FnG P w K mg base CX0 1 A.f_added A.d_added ["value", "number"] (sp_added K A)) :
    FnG P w K mg base CX0 3 A.f_trimmed A.d_trimmed ["told", "gains"] (sp_trimmed K A) := by
  refine okG T.F_trimmed sc_trimmed (fun vs H Q E h => ?_) (fun cdv A' outer s H vs Q E hr hG h => ⟨(t_trimmed_0 K A), ?_, pure_trimmed h⟩)
  · unfold sp_trimmed at h
    try unfold spPenL at h
    try unfold spDrawL at h
    try unfold spPickL at h
    try unfold spLaw at h
    split at h <;> first | rfl | exact h.elim
  · exact (pss_cons (ps_par (i := 2) (j := 3) rfl sc_trimmed.nd rfl rfl (by decide) rfl rfl (pa_cons (pe_callB call_lenE (by rfl) T.b_len PySem.boot_len (pa_cons (pv 0) pa_nil)) (pa_cons (pe_callB call_lenE (by rfl) T.b_len PySem.boot_len (pa_cons (pv 1) pa_nil)) pa_nil)) rfl)
    (pss_cons (ps_while never0 (PW.pt (pw_and (pt_cmpR op_gtU (pv 2) (pv 3) (nomark _)) (pw_and1 (pt_cmpR (op_eqU hr.units) (pe_ix ix_seq (pv 0) (pe_op op_subU (pv 2) pe_int) (fun _ _ => rfl)) (pe_callG G_added (hr.mono (by decide)) hG rfl T.g_added T.F_added.kp T.B_added .nil pass0 (pa_cons (pe_ix ix_seq (pv 0) (pe_op op_subU (pe_op op_subU (pv 2) pe_int) (pv 3)) (fun _ _ => rfl)) (pa_cons (pe_ix ix_seq (pv 1) (pe_op op_modU (pe_op op_subU (pv 2) pe_int) (pv 3)) (fun _ _ => rfl)) pa_nil))) (nomark _))))) (pss_one (ps_set (i := 2) sc_trimmed.nd rfl (Or.inl rfl) (pe_op op_subU (pv 2) pe_int))))
    (pss_one (ps_ret (pe_slice sl_tupA (pv 0) po_none (po_some (pv 2)))))))
theorem ok_normal_form {P : Program} {w : World} {K : PySem.W.Frag} {mg : Str → Option Value} {base : Heap} {A : Ad} (T : Txt K mg A)
    (G_value_at : FnG P w K mg base CX0 3 A.f_value_at A.d_value_at ["told", "gains", "n"] (sp_value_at K A))
    (G_least_gains : FnG P w K mg base CX0 5 A.f_least_gains A.d_least_gains ["row", "origin", "period"] (sp_least_gains K A))
    (G_trimmed : FnG P w K mg base CX0 3 A.f_trimmed A.d_trimmed ["told", "gains"] (sp_trimmed K A)) :
    FnG P w K mg base CX0 7 A.f_normal_form A.d_normal_form ["told", "gains"] (sp_normal_form K A) := by
  refine okG T.F_normal_form sc_normal_form (fun vs H Q E h => ?_) (fun cdv A' outer s H vs Q E hr hG h => ⟨(t_normal_form_0 K A), ?_, pure_normal_form h⟩)
  · unfold sp_normal_form at h
    try unfold spPenL at h
    try unfold spDrawL at h
    try unfold spPickL at h
    try unfold spLaw at h
    split at h <;> first | rfl | exact h.elim
  · exact (pss_cons (ps_asg (pe_tup (pa_cons (pe_callB call_lenE (by rfl) T.b_len PySem.boot_len (pa_cons (pv 0) pa_nil)) (pa_cons (pe_callB call_lenE (by rfl) T.b_len PySem.boot_len (pa_cons (pv 1) pa_nil)) pa_nil))) (pg_tup rfl (pgs_cons (pg_name (i := 2) sc_normal_form.nd rfl (Or.inr rfl)) (pgs_cons (pg_name (i := 3) sc_normal_form.nd rfl (Or.inl rfl)) pgs_nil))))
    (pss_cons (ps_setLc (i := 4) (own := [("at", 6)]) (g := (gName 6)) (tt := tYes) (by rfl) sc_normal_form.nd rfl rfl (sw_true rfl rfl rfl (by decide +kernel)) (pi_range1 rfl T.b_range (pa_cons (pe_op op_mulU pe_int (pv 3)) pa_nil)) (blkOk_by (own := [("at", 6)]) (N := ["told", "gains", "origin", "period", "row", "least", "at"]) (sc := defScope s_normal_form) (by decide +kernel)) (fun _ _ _ _ _ => (pg_name (i := 6) sc_normal_form.nd rfl (Or.inl rfl))) (fun _ _ _ _ _ => pts_nil) (fun _ _ _ _ _ => (pe_callG G_value_at (hr.mono (by decide)) hG rfl T.g_value_at T.F_value_at.kp T.B_value_at .nil pass0 (pa_cons (pv 0) (pa_cons (pv 1) (pa_cons (pe_op op_addU (pv 2) (pv 6)) pa_nil))))))
    (pss_cons (ps_set (i := 5) sc_normal_form.nd rfl (Or.inl rfl) (pe_callG G_least_gains (hr.mono (by decide)) hG rfl T.g_least_gains T.F_least_gains.kp T.B_least_gains .nil pass0 (pa_cons (pv 4) (pa_cons (pv 2) (pa_cons (pv 3) pa_nil)))))
    (pss_one (ps_ret (pe_tup (pa_cons (pe_callG G_trimmed (hr.mono (by decide)) hG rfl T.g_trimmed T.F_trimmed.kp T.B_trimmed .nil pass0 (pa_cons (pv 0) (pa_cons (pv 5) pa_nil))) (pa_cons (pv 5) pa_nil))))))))
theorem ok_shared_multiple {P : Program} {w : World} {K : PySem.W.Frag} {mg : Str → Option Value} {base : Heap} {A : Ad} (T : Txt K mg A) :
    FnG P w K mg base CX0 1 A.f_shared_multiple A.d_shared_multiple ["one", "other"] (sp_shared_multiple K A) := by
  refine okG T.F_shared_multiple sc_shared_multiple (fun vs H Q E h => ?_) (fun cdv A' outer s H vs Q E hr hG h => ⟨(t_shared_multiple_0 K A), ?_, pure_shared_multiple h⟩)
  · unfold sp_shared_multiple at h
    try unfold spPenL at h
    try unfold spDrawL at h
    try unfold spPickL at h
    try unfold spLaw at h
    split at h <;> first | rfl | exact h.elim
  · exact (pss_cons (ps_par (i := 2) (j := 3) rfl sc_shared_multiple.nd rfl rfl (by decide) rfl rfl (pa_cons (pv 0) (pa_cons (pv 1) pa_nil)) rfl)
    (pss_cons (ps_while never0 (pt_cmpR op_gtU (pv 2) pe_int (nomark _)) (pss_one (ps_par (i := 2) (j := 3) rfl sc_shared_multiple.nd rfl rfl (by decide) rfl rfl (pa_cons (pe_op op_modU (pv 3) (pv 2)) (pa_cons (pv 2) pa_nil)) rfl)))
    (pss_one (ps_ret (pe_op op_mulU (pe_op op_fdivU (pv 0) (pv 3)) (pv 1))))))
theorem ok_need_integer {P : Program} {w : World} {K : PySem.W.Frag} {mg : Str → Option Value} {base : Heap} {A : Ad} (T : Txt K mg A)
    (G_is_integer : FnG P w K mg base CX0 1 A.f_is_integer A.d_is_integer ["value"] (sp_is_integer K A)) :
    FnG P w K mg base CX0 3 A.f_need_integer A.d_need_integer ["number"] (sp_need_integer K A) := by
  refine okG T.F_need_integer sc_need_integer (fun vs H Q E h => ?_) (fun cdv A' outer s H vs Q E hr hG h => ⟨(t_need_integer_0 K A), ?_, pure_need_integer h⟩)
  · unfold sp_need_integer at h
    try unfold spPenL at h
    try unfold spDrawL at h
    try unfold spPickL at h
    try unfold spLaw at h
    split at h <;> first | rfl | exact h.elim
  · exact (pss_one (ps_if (pt_not (pt_val (pe_callG G_is_integer (hr.mono (by decide)) hG rfl T.g_is_integer T.F_is_integer.kp T.B_is_integer .nil pass0 (pa_cons (pv 0) pa_nil)))) (pss_one ps_never) pss_nil))
theorem ok_Growth_init {P : Program} {w : World} {K : PySem.W.Frag} {mg : Str → Option Value} {base : Heap} {A : Ad} (T : Txt K mg A)
    (G_is_integer : FnG P w K mg base CX0 1 A.f_is_integer A.d_is_integer ["value"] (sp_is_integer K A))
    (G_is_value : FnG P w K mg base CX0 3 A.f_is_value A.d_is_value ["value"] (sp_is_value K A))
    (G_is_list : FnG P w K mg base CX0 1 A.f_is_list A.d_is_list ["value", "least"] (sp_is_list K A))
    (G_normal_form : FnG P w K mg base CX0 7 A.f_normal_form A.d_normal_form ["told", "gains"] (sp_normal_form K A)) :
    FnG P w K mg base CX0 9 A.f_Growth_init A.d_Growth_init ["self", "told", "gains"] (sp_Growth_init K A) := by
  obtain ⟨ti_MOST_GAINS, gi_MOST_GAINS⟩ := T.gi_MOST_GAINS
  obtain ⟨ti_MOST_TOLD, gi_MOST_TOLD⟩ := T.gi_MOST_TOLD
  refine okDG T.F_Growth_init sc_Growth_init (fun vs H Q E h => ?_) (fun cdv A' outer s H vs Q E hr hG h => ⟨(t_Growth_init_0 K A), ?_, pure_Growth_init T.kf h⟩)
  · unfold sp_Growth_init at h
    try unfold spPenL at h
    try unfold spDrawL at h
    try unfold spPickL at h
    try unfold spLaw at h
    split at h <;> first | rfl | exact h.elim
  · exact (pss_cons (ps_if (PW.pt (pw_or (pt_not (pt_val (pe_callG G_is_list (hr.mono (by decide)) hG rfl T.g_is_list T.F_is_list.kp T.B_is_list .nil pass0 (pa_cons (pv 2) (pa_cons pe_int pa_nil))))) (pw_or (pt_cmpR op_gtU (pe_callB call_lenE (by rfl) T.b_len PySem.boot_len (pa_cons (pv 2) pa_nil)) (pe_glob rfl gi_MOST_GAINS ⟨_, rfl⟩) (nomark _)) (pw_or1 (pt_not (pt_val (pe_callB (call_allU rfl) (by rfl) T.b_all (by decide +kernel) (pa_cons (pe_lc (own := [("gain", 3)]) (g := (gName 3)) (tt := tYes) (by rfl) sc_Growth_init.nd (pi_seq (pv 2)) (blkOk_by (own := [("gain", 3)]) (N := ["self", "told", "gains", "gain", "value"]) (sc := defScope s_Growth_init) (by decide +kernel)) (fun _ _ _ _ _ => (pg_name (i := 3) sc_Growth_init.nd rfl (Or.inl rfl))) (fun _ _ _ _ _ => pts_nil) (fun _ _ _ _ _ => (pe_callG G_is_integer (hr.mono (by decide)) hG rfl T.g_is_integer T.F_is_integer.kp T.B_is_integer .nil pass0 (pa_cons (pv 3) pa_nil)))) pa_nil)))))))) (pss_one ps_never) pss_nil)
    (pss_cons (ps_if (PW.pt (pw_or (pt_not (pt_val (pe_callG G_is_list (hr.mono (by decide)) hG rfl T.g_is_list T.F_is_list.kp T.B_is_list .nil pass0 (pa_cons (pv 1) (pa_cons (pe_callB call_lenE (by rfl) T.b_len PySem.boot_len (pa_cons (pv 2) pa_nil)) pa_nil))))) (pw_or1 (pt_not (pt_val (pe_callB (call_allU rfl) (by rfl) T.b_all (by decide +kernel) (pa_cons (pe_lc (own := [("value", 4)]) (g := (gName 4)) (tt := tYes) (by rfl) sc_Growth_init.nd (pi_seq (pv 1)) (blkOk_by (own := [("value", 4)]) (N := ["self", "told", "gains", "gain", "value"]) (sc := defScope s_Growth_init) (by decide +kernel)) (fun _ _ _ _ _ => (pg_name (i := 4) sc_Growth_init.nd rfl (Or.inl rfl))) (fun _ _ _ _ _ => pts_nil) (fun _ _ _ _ _ => (pe_callG G_is_value (hr.mono (by decide)) hG rfl T.g_is_value T.F_is_value.kp T.B_is_value .nil pass0 (pa_cons (pv 4) pa_nil)))) pa_nil))))))) (pss_one ps_never) pss_nil)
    (pss_cons (ps_asg (pe_callG G_normal_form (hr.mono (by decide)) hG rfl T.g_normal_form T.F_normal_form.kp T.B_normal_form .nil pass0 (pa_cons (pe_callTy call_tupE (by rfl) T.b_tuple (by decide +kernel) (pa_cons (pv 1) pa_nil)) (pa_cons (pe_callTy call_tupE (by rfl) T.b_tuple (by decide +kernel) (pa_cons (pv 2) pa_nil)) pa_nil))) (pg_tup rfl (pgs_cons (pg_fld (pv 0)) (pgs_cons (pg_fld (pv 0)) pgs_nil))))
    (pss_one (ps_if (pt_cmpR op_gtU (pe_callB call_lenE (by rfl) T.b_len PySem.boot_len (pa_cons (pe_fld (pv 0) rfl) pa_nil)) (pe_glob rfl gi_MOST_TOLD ⟨_, rfl⟩) (nomark _)) (pss_one ps_never) pss_nil)))))
theorem ok_Growth_constant {P : Program} {w : World} {K : PySem.W.Frag} {mg : Str → Option Value} {base : Heap} {A : Ad} (T : Txt K mg A)
    (G_need_integer : FnG P w K mg base CX0 3 A.f_need_integer A.d_need_integer ["number"] (sp_need_integer K A))
    (G_Growth_init : FnG P w K mg base CX0 9 A.f_Growth_init A.d_Growth_init ["self", "told", "gains"] (sp_Growth_init K A)) :
    FnG P w K mg base CX0 11 A.f_Growth_constant A.d_Growth_constant ["k"] (sp_Growth_constant K A) := by
  obtain ⟨ds1_Growth, v1_Growth, b1_Growth⟩ := T.D1_Growth
  refine okG T.F_Growth_constant sc_Growth_constant (fun vs H Q E h => ?_) (fun cdv A' outer s H vs Q E hr hG h => ⟨(t_Growth_constant_0 K A), ?_, pure_Growth_constant T.kf h⟩)
  · unfold sp_Growth_constant at h
    try unfold spPenL at h
    try unfold spDrawL at h
    try unfold spPickL at h
    try unfold spLaw at h
    split at h <;> first | rfl | exact h.elim
  · exact (pss_cons (ps_expr (pe_callG G_need_integer (hr.mono (by decide)) hG rfl T.g_need_integer T.F_need_integer.kp T.B_need_integer .nil pass0 (pa_cons (pv 0) pa_nil)))
    (pss_one (ps_ret (pe_makeG T.M_Growth G_Growth_init (hr.mono (by decide)) hG rfl T.g_Growth b1_Growth v1_Growth pass0 (pa_cons (pe_lst (pa_cons (pv 0) pa_nil)) pa_nil)))))
theorem ok_Growth_ramp {P : Program} {w : World} {K : PySem.W.Frag} {mg : Str → Option Value} {base : Heap} {A : Ad} (T : Txt K mg A)
    (G_need_integer : FnG P w K mg base CX0 3 A.f_need_integer A.d_need_integer ["number"] (sp_need_integer K A))
    (G_Growth_init : FnG P w K mg base CX0 9 A.f_Growth_init A.d_Growth_init ["self", "told", "gains"] (sp_Growth_init K A)) :
    FnG P w K mg base CX0 11 A.f_Growth_ramp A.d_Growth_ramp ["gain", "begin"] (sp_Growth_ramp K A) := by
  refine okDG T.F_Growth_ramp sc_Growth_ramp (fun vs H Q E h => ?_) (fun cdv A' outer s H vs Q E hr hG h => ⟨(t_Growth_ramp_0 K A), ?_, pure_Growth_ramp T.kf h⟩)
  · unfold sp_Growth_ramp at h
    try unfold spPenL at h
    try unfold spDrawL at h
    try unfold spPickL at h
    try unfold spLaw at h
    split at h <;> first | rfl | exact h.elim
  · exact (pss_cons (ps_expr (pe_callG G_need_integer (hr.mono (by decide)) hG rfl T.g_need_integer T.F_need_integer.kp T.B_need_integer .nil pass0 (pa_cons (pv 0) pa_nil)))
    (pss_cons (ps_expr (pe_callG G_need_integer (hr.mono (by decide)) hG rfl T.g_need_integer T.F_need_integer.kp T.B_need_integer .nil pass0 (pa_cons (pv 1) pa_nil)))
    (pss_one (ps_ret (pe_makeG T.M_Growth G_Growth_init (hr.mono (by decide)) hG rfl T.g_Growth T.B_Growth_init .nil pass0 (pa_cons (pe_lst (pa_cons (pv 1) pa_nil)) (pa_cons (pe_lst (pa_cons (pv 0) pa_nil)) pa_nil)))))))
theorem ok_Growth_none {P : Program} {w : World} {K : PySem.W.Frag} {mg : Str → Option Value} {base : Heap} {A : Ad} (T : Txt K mg A)
    (G_Growth_init : FnG P w K mg base CX0 9 A.f_Growth_init A.d_Growth_init ["self", "told", "gains"] (sp_Growth_init K A)) :
    FnG P w K mg base CX0 11 A.f_Growth_none A.d_Growth_none [] (sp_Growth_none K A) := by
  obtain ⟨ds1_Growth, v1_Growth, b1_Growth⟩ := T.D1_Growth
  refine okG T.F_Growth_none sc_Growth_none (fun vs H Q E h => ?_) (fun cdv A' outer s H vs Q E hr hG h => ⟨(t_Growth_none_0 K A), ?_, pure_Growth_none T.kf h⟩)
  · unfold sp_Growth_none at h
    try unfold spPenL at h
    try unfold spDrawL at h
    try unfold spPickL at h
    try unfold spLaw at h
    split at h <;> first | rfl | exact h.elim
  · exact (pss_one (ps_ret (pe_makeG T.M_Growth G_Growth_init (hr.mono (by decide)) hG rfl T.g_Growth b1_Growth v1_Growth pass0 (pa_cons (pe_lst (pa_cons pe_non pa_nil)) pa_nil))))
theorem ok_Growth_period {P : Program} {w : World} {K : PySem.W.Frag} {mg : Str → Option Value} {base : Heap} {A : Ad} (T : Txt K mg A) :
    FnG P w K mg base CX0 1 A.f_Growth_period A.d_Growth_period ["self"] (sp_Growth_period K A) := by
  refine okG T.F_Growth_period sc_Growth_period (fun vs H Q E h => ?_) (fun cdv A' outer s H vs Q E hr hG h => ⟨(t_Growth_period_0 K A), ?_, pure_Growth_period T.kf h⟩)
  · unfold sp_Growth_period at h
    try unfold spPenL at h
    try unfold spDrawL at h
    try unfold spPickL at h
    try unfold spLaw at h
    split at h <;> first | rfl | exact h.elim
  · exact (pss_one (ps_ret (pe_callB call_lenE (by rfl) T.b_len PySem.boot_len (pa_cons (pe_fld (pv 0) rfl) pa_nil))))
theorem ok_Growth_lasting {P : Program} {w : World} {K : PySem.W.Frag} {mg : Str → Option Value} {base : Heap} {A : Ad} (T : Txt K mg A)
    (G_Growth_period : FnG P w K mg base CX0 1 A.f_Growth_period A.d_Growth_period ["self"] (sp_Growth_period K A)) :
    FnG P w K mg base CX0 3 A.f_Growth_lasting A.d_Growth_lasting ["self"] (sp_Growth_lasting K A) := by
  refine okG T.F_Growth_lasting sc_Growth_lasting (fun vs H Q E h => ?_) (fun cdv A' outer s H vs Q E hr hG h => ⟨(t_Growth_lasting_0 K A), ?_, pure_Growth_lasting T.kf h⟩)
  · unfold sp_Growth_lasting at h
    try unfold spPenL at h
    try unfold spDrawL at h
    try unfold spPickL at h
    try unfold spLaw at h
    split at h <;> first | rfl | exact h.elim
  · exact (pss_cons (ps_set (i := 1) sc_Growth_lasting.nd rfl (Or.inl rfl) (pe_op op_subU (pe_callB call_lenE (by rfl) T.b_len PySem.boot_len (pa_cons (pe_fld (pv 0) rfl) pa_nil)) (pe_propG (g' := 0) (pv 0) T.cl_Growth T.p_Growth_period G_Growth_period (hr.mono (by decide)) hG T.B_Growth_period pass0 rfl)))
    (pss_one (ps_ret (pe_lc (own := [("n", 2)]) (g := (gName 2)) (tt := (tTest (tOp oIsNot (tOp (rIx K) (tFld K (tVar 0) "told") (tVar 2)) (tC .non)))) (by rfl) sc_Growth_lasting.nd (pi_range2 rfl T.b_range (pa_cons (pv 1) (pa_cons (pe_callB call_lenE (by rfl) T.b_len PySem.boot_len (pa_cons (pe_fld (pv 0) rfl) pa_nil)) pa_nil))) (blkOk_by (own := [("n", 2)]) (N := ["self", "origin", "n"]) (sc := defScope s_Growth_lasting) (by decide +kernel)) (fun _ _ _ _ _ => (pg_name (i := 2) sc_Growth_lasting.nd rfl (Or.inl rfl))) (fun _ _ _ _ _ => (pts_one (pt_cmpR op_isNotU (pe_ix ix_seq (pe_fld (pv 0) rfl) (pv 2) (fun _ _ => rfl)) pe_non (nomark _)))) (fun _ _ _ _ _ => (pe_ix ix_seq (pe_fld (pv 0) rfl) (pe_op op_modU (pv 2) (pe_propG (g' := 0) (pv 0) T.cl_Growth T.p_Growth_period G_Growth_period (hr.mono (by decide)) hG T.B_Growth_period pass0 rfl)) (fun _ _ => rfl)))))))
theorem ok_Growth_is_endless {P : Program} {w : World} {K : PySem.W.Frag} {mg : Str → Option Value} {base : Heap} {A : Ad} (T : Txt K mg A)
    (G_Growth_lasting : FnG P w K mg base CX0 3 A.f_Growth_lasting A.d_Growth_lasting ["self"] (sp_Growth_lasting K A)) :
    FnG P w K mg base CX0 5 A.f_Growth_is_endless A.d_Growth_is_endless ["self"] (sp_Growth_is_endless K A) := by
  refine okG T.F_Growth_is_endless sc_Growth_is_endless (fun vs H Q E h => ?_) (fun cdv A' outer s H vs Q E hr hG h => ⟨(t_Growth_is_endless_0 K A), ?_, pure_Growth_is_endless T.kf h⟩)
  · unfold sp_Growth_is_endless at h
    try unfold spPenL at h
    try unfold spDrawL at h
    try unfold spPickL at h
    try unfold spLaw at h
    split at h <;> first | rfl | exact h.elim
  · exact (pss_one (ps_ret (pe_callB (call_anyU rfl) (by rfl) T.b_any (by decide +kernel) (pa_cons (pe_lc (own := [("gain", 1)]) (g := (gName 1)) (tt := tYes) (by rfl) sc_Growth_is_endless.nd (pi_seq (pe_propG (g' := 0) (pv 0) T.cl_Growth T.p_Growth_lasting G_Growth_lasting (hr.mono (by decide)) hG T.B_Growth_lasting pass0 rfl)) (blkOk_by (own := [("gain", 1)]) (N := ["self", "gain"]) (sc := defScope s_Growth_is_endless) (by decide +kernel)) (fun _ _ _ _ _ => (pg_name (i := 1) sc_Growth_is_endless.nd rfl (Or.inl rfl))) (fun _ _ _ _ _ => pts_nil) (fun _ _ _ _ _ => (pe_cmpR op_gtU (pv 1) pe_int (nomark _)))) pa_nil))))
theorem ok_Growth_greatest {P : Program} {w : World} {K : PySem.W.Frag} {mg : Str → Option Value} {base : Heap} {A : Ad} (T : Txt K mg A)
    (G_Growth_is_endless : FnG P w K mg base CX0 5 A.f_Growth_is_endless A.d_Growth_is_endless ["self"] (sp_Growth_is_endless K A)) :
    FnG P w K mg base CX0 7 A.f_Growth_greatest A.d_Growth_greatest ["self"] (sp_Growth_greatest K A) := by
  refine okG T.F_Growth_greatest sc_Growth_greatest (fun vs H Q E h => ?_) (fun cdv A' outer s H vs Q E hr hG h => ⟨(t_Growth_greatest_0 K A), ?_, pure_Growth_greatest T.kf h⟩)
  · unfold sp_Growth_greatest at h
    try unfold spPenL at h
    try unfold spDrawL at h
    try unfold spPickL at h
    try unfold spLaw at h
    split at h <;> first | rfl | exact h.elim
  · exact (pss_cons (ps_setLc (i := 1) (own := [("value", 2)]) (g := (gName 2)) (tt := (tTest (tOp oIsNot (tVar 2) (tC .non)))) (by rfl) sc_Growth_greatest.nd rfl rfl (sw_true rfl rfl rfl (by decide +kernel)) (pi_seq (pe_fld (pv 0) rfl)) (blkOk_by (own := [("value", 2)]) (N := ["self", "numbers", "value"]) (sc := defScope s_Growth_greatest) (by decide +kernel)) (fun _ _ _ _ _ => (pg_name (i := 2) sc_Growth_greatest.nd rfl (Or.inl rfl))) (fun _ _ _ _ _ => (pts_one (pt_cmpR op_isNotU (pv 2) pe_non (nomark _)))) (fun _ _ _ _ _ => (pv 2)))
    (pss_cons (ps_if (PW.pt (pw_or (pt_cmpR (op_eqU hr.units) (pv 1) (pe_lst pa_nil) (nomark _)) (pw_or1 (pt_val (pe_propG (g' := 0) (pv 0) T.cl_Growth T.p_Growth_is_endless G_Growth_is_endless (hr.mono (by decide)) hG T.B_Growth_is_endless pass0 rfl))))) (pss_one (ps_ret pe_non)) pss_nil)
    (pss_one (ps_ret (pe_callB (call_maxU rfl) (by rfl) T.b_max (by decide +kernel) (pa_cons (pe_lc (own := [("value", 2)]) (g := (gName 2)) (tt := tYes) (by rfl) sc_Growth_greatest.nd (pi_seq (pv 1)) (blkOk_by (own := [("value", 2)]) (N := ["self", "numbers", "value"]) (sc := defScope s_Growth_greatest) (by decide +kernel)) (fun _ _ _ _ _ => (pg_name (i := 2) sc_Growth_greatest.nd rfl (Or.inl rfl))) (fun _ _ _ _ _ => pts_nil) (fun _ _ _ _ _ => (pe_callTy call_intU (by rfl) T.b_int (by decide +kernel) (pa_cons (pv 2) pa_nil)))) pa_nil))))))
theorem ok_Growth_slope {P : Program} {w : World} {K : PySem.W.Frag} {mg : Str → Option Value} {base : Heap} {A : Ad} (T : Txt K mg A)
    (G_shared_multiple : FnG P w K mg base CX0 1 A.f_shared_multiple A.d_shared_multiple ["one", "other"] (sp_shared_multiple K A))
    (G_Growth_period : FnG P w K mg base CX0 1 A.f_Growth_period A.d_Growth_period ["self"] (sp_Growth_period K A))
    (G_Growth_lasting : FnG P w K mg base CX0 3 A.f_Growth_lasting A.d_Growth_lasting ["self"] (sp_Growth_lasting K A)) :
    FnG P w K mg base CX0 5 A.f_Growth_slope A.d_Growth_slope ["self"] (sp_Growth_slope K A) := by
  refine okG T.F_Growth_slope sc_Growth_slope (fun vs H Q E h => ?_) (fun cdv A' outer s H vs Q E hr hG h => ⟨(t_Growth_slope_0 K A), ?_, pure_Growth_slope T.kf h⟩)
  · unfold sp_Growth_slope at h
    try unfold spPenL at h
    try unfold spDrawL at h
    try unfold spPickL at h
    try unfold spLaw at h
    split at h <;> first | rfl | exact h.elim
  · exact (pss_cons (ps_if (pt_cmpR (op_eqU hr.units) (pe_propG (g' := 0) (pv 0) T.cl_Growth T.p_Growth_lasting G_Growth_lasting (hr.mono (by decide)) hG T.B_Growth_lasting pass0 rfl) (pe_lst pa_nil) (nomark _)) (pss_one (ps_ret pe_non)) pss_nil)
    (pss_cons (ps_set (i := 1) sc_Growth_slope.nd rfl (Or.inl rfl) (pe_callB (call_maxU rfl) (by rfl) T.b_max (by decide +kernel) (pa_cons (pe_lc (own := [("gain", 3)]) (g := (gName 3)) (tt := tYes) (by rfl) sc_Growth_slope.nd (pi_seq (pe_propG (g' := 0) (pv 0) T.cl_Growth T.p_Growth_lasting G_Growth_lasting (hr.mono (by decide)) hG T.B_Growth_lasting pass0 rfl)) (blkOk_by (own := [("gain", 3)]) (N := ["self", "best", "shared", "gain"]) (sc := defScope s_Growth_slope) (by decide +kernel)) (fun _ _ _ _ _ => (pg_name (i := 3) sc_Growth_slope.nd rfl (Or.inl rfl))) (fun _ _ _ _ _ => pts_nil) (fun _ _ _ _ _ => (pe_callTy call_intU (by rfl) T.b_int (by decide +kernel) (pa_cons (pv 3) pa_nil)))) pa_nil)))
    (pss_cons (ps_set (i := 2) sc_Growth_slope.nd rfl (Or.inl rfl) (pe_ifExp (pt_cmpR (op_neU hr.units) (pv 1) pe_int (nomark _)) (pe_op op_fdivU (pe_op op_mulU (pe_callB call_absU (by rfl) T.b_abs (by decide +kernel) (pa_cons (pv 1) pa_nil)) (pe_propG (g' := 0) (pv 0) T.cl_Growth T.p_Growth_period G_Growth_period (hr.mono (by decide)) hG T.B_Growth_period pass0 rfl)) (pe_callG G_shared_multiple (hr.mono (by decide)) hG rfl T.g_shared_multiple T.F_shared_multiple.kp T.B_shared_multiple .nil pass0 (pa_cons (pe_callB call_absU (by rfl) T.b_abs (by decide +kernel) (pa_cons (pv 1) pa_nil)) (pa_cons (pe_propG (g' := 0) (pv 0) T.cl_Growth T.p_Growth_period G_Growth_period (hr.mono (by decide)) hG T.B_Growth_period pass0 rfl) pa_nil)))) (pe_propG (g' := 0) (pv 0) T.cl_Growth T.p_Growth_period G_Growth_period (hr.mono (by decide)) hG T.B_Growth_period pass0 rfl)))
    (pss_one (ps_ret (pe_tup (pa_cons (pe_op op_fdivU (pv 1) (pv 2)) (pa_cons (pe_op op_fdivU (pe_propG (g' := 0) (pv 0) T.cl_Growth T.p_Growth_period G_Growth_period (hr.mono (by decide)) hG T.B_Growth_period pass0 rfl) (pv 2)) pa_nil))))))))
theorem ok_law_pen {P : Program} {w : World} {K : PySem.W.Frag} {mg : Str → Option Value} {base : Heap} {A : Ad} (T : Txt K mg A) :
    FnG P w K mg base CX0 1 A.f_law_pen A.d_law_pen ["_law_script"] (sp_law_pen K A) := by
  refine okG T.F_law_pen sc_law_pen (fun vs H Q E h => ?_) (fun cdv A' outer s H vs Q E hr hG h => ⟨(t_law_pen_0 K A), ?_, pure_law_pen h⟩)
  · unfold sp_law_pen at h
    try unfold spPenL at h
    try unfold spDrawL at h
    try unfold spPickL at h
    try unfold spLaw at h
    split at h <;> first | rfl | exact h.elim
  · exact (pss_one (ps_ret (pe_lst (pa_cons (pe_callTy call_listU (by rfl) T.b_list (by decide +kernel) (pa_cons (pe_slice sl_list (pv 0) po_none (po_some pe_int)) pa_nil)) (pa_cons pe_int (pa_cons pe_int pa_nil))))))
theorem ok_law_draw {P : Program} {w : World} {K : PySem.W.Frag} {mg : Str → Option Value} {base : Heap} {A : Ad} (T : Txt K mg A) :
    FnG P w K mg base CX0 1 A.f_law_draw A.d_law_draw ["_law_pen_here", "_law_many"] (sp_law_draw K A) := by
  refine okG T.F_law_draw sc_law_draw (fun vs H Q E h => ?_) (fun cdv A' outer s H vs Q E hr hG h => ⟨(t_law_draw_0 K A), ?_, pure_law_draw h⟩)
  · unfold sp_law_draw at h
    try unfold spPenL at h
    try unfold spDrawL at h
    try unfold spPickL at h
    try unfold spLaw at h
    split at h <;> first | rfl | exact h.elim
  · exact (pss_cons (ps_if (pt_cmpR op_gtU (pe_ix ix_U (pv 0) pe_int (fun _ _ => rfl)) pe_int (nomark _)) (pss_cons (ps_set (i := 2) sc_law_draw.nd rfl (Or.inl rfl) (pe_op op_modU (pe_callTy call_intU (by rfl) T.b_int (by decide +kernel) (pa_cons (pe_ix ix_U (pv 0) pe_int (fun _ _ => rfl)) pa_nil)) (pv 1)))
    (pss_cons (ps_asg (pe_op op_fdivU (pe_callTy call_intU (by rfl) T.b_int (by decide +kernel) (pa_cons (pe_ix ix_U (pv 0) pe_int (fun _ _ => rfl)) pa_nil)) (pv 1)) (pg_sub (pv 0) pe_int set_U))
    (pss_one (ps_ret (pv 2))))) pss_nil)
    (pss_cons (ps_set (i := 3) sc_law_draw.nd rfl (Or.inl rfl) (pe_ix ix_U (pv 0) pe_int (fun _ _ => rfl)))
    (pss_cons (ps_asg (pe_op op_addU (pv 3) pe_int) (pg_sub (pv 0) pe_int set_U))
    (pss_cons (ps_set (i := 4) sc_law_draw.nd rfl (Or.inl rfl) (pe_op op_addU (pe_op op_mulU pe_int (pv 3)) pe_int))
    (pss_cons (ps_if (pt_cmpR (op_neU hr.units) (pe_ix ix_U (pv 0) pe_int (fun _ _ => rfl)) (pe_lst pa_nil) (nomark _)) (pss_one (ps_set (i := 4) sc_law_draw.nd rfl (Or.inl rfl) (pe_ix ix_U (pe_ix ix_U (pv 0) pe_int (fun _ _ => rfl)) (pe_op op_modU (pe_callTy call_intU (by rfl) T.b_int (by decide +kernel) (pa_cons (pv 3) pa_nil)) (pe_callB call_lenU (by rfl) T.b_len PySem.boot_len (pa_cons (pe_ix ix_U (pv 0) pe_int (fun _ _ => rfl)) pa_nil))) (fun _ _ => rfl)))) pss_nil)
    (pss_cons (ps_if (PW.pt (pw_and (pt_cmpR op_ltU (pv 3) (pe_callB call_lenU (by rfl) T.b_len PySem.boot_len (pa_cons (pe_ix ix_U (pv 0) pe_int (fun _ _ => rfl)) pa_nil)) (nomark _)) (pw_and1 (pt_cmpR op_geU (pe_callB call_absU (by rfl) T.b_abs (by decide +kernel) (pa_cons (pv 4) pa_nil)) (pe_op op_powU pe_int pe_int) (nomark _))))) (pss_cons (ps_set (i := 5) sc_law_draw.nd rfl (Or.inl rfl) (pe_op op_addU (pe_op op_mulU pe_int (pe_op op_subU (pe_callB call_absU (by rfl) T.b_abs (by decide +kernel) (pa_cons (pv 4) pa_nil)) (pe_op op_powU pe_int pe_int))) (pe_callTy call_intU (by rfl) T.b_int (by decide +kernel) (pa_cons (pe_cmpR op_ltU (pv 4) pe_int (nomark _)) pa_nil))))
    (pss_cons (ps_asg (pe_op op_fdivU (pe_callTy call_intU (by rfl) T.b_int (by decide +kernel) (pa_cons (pv 5) pa_nil)) (pv 1)) (pg_sub (pv 0) pe_int set_U))
    (pss_one (ps_ret (pe_op op_modU (pe_callTy call_intU (by rfl) T.b_int (by decide +kernel) (pa_cons (pv 5) pa_nil)) (pv 1)))))) pss_nil)
    (pss_cons (ps_set (i := 6) sc_law_draw.nd rfl (Or.inl rfl) (pe_op op_modU (pe_callTy call_intU (by rfl) T.b_int (by decide +kernel) (pa_cons (pe_op op_powU (pe_op op_addU (pe_op op_addU (pe_op op_modU (pe_callTy call_intU (by rfl) T.b_int (by decide +kernel) (pa_cons (pv 4) pa_nil)) pe_int) (pe_op op_mulU pe_int (pv 3))) pe_int) pe_int) pa_nil)) pe_int))
    (pss_cons (ps_set (i := 6) sc_law_draw.nd rfl (Or.inl rfl) (pe_op op_modU (pe_callTy call_intU (by rfl) T.b_int (by decide +kernel) (pa_cons (pe_op op_powU (pe_op op_addU (pe_op op_addU (pe_op op_mulU (pv 6) (pe_op op_addU (pe_op op_mulU pe_int (pv 3)) pe_int)) (pe_op op_mulU (pe_op op_mulU pe_int (pv 3)) (pv 3))) pe_int) pe_int) pa_nil)) pe_int))
    (pss_one (ps_ret (pe_op op_modU (pe_callTy call_intU (by rfl) T.b_int (by decide +kernel) (pa_cons (pe_op op_fdivU (pv 6) pe_int) pa_nil)) (pv 1))))))))))))
theorem ok_law_pick {P : Program} {w : World} {K : PySem.W.Frag} {mg : Str → Option Value} {base : Heap} {A : Ad} (T : Txt K mg A)
    (G_law_draw : FnG P w K mg base CX0 1 A.f_law_draw A.d_law_draw ["_law_pen_here", "_law_many"] (sp_law_draw K A)) :
    FnG P w K mg base CX0 3 A.f_law_pick A.d_law_pick ["_law_pen_here", "_law_some_here"] (sp_law_pick K A) := by
  refine okG T.F_law_pick sc_law_pick (fun vs H Q E h => ?_) (fun cdv A' outer s H vs Q E hr hG h => ⟨(t_law_pick_0 K A), ?_, pure_law_pick h⟩)
  · unfold sp_law_pick at h
    try unfold spPenL at h
    try unfold spDrawL at h
    try unfold spPickL at h
    try unfold spLaw at h
    split at h <;> first | rfl | exact h.elim
  · exact (pss_one (ps_ret (pe_ix ix_U (pv 1) (pe_callG G_law_draw (hr.mono (by decide)) hG rfl T.g_law_draw T.F_law_draw.kp T.B_law_draw .nil pass0 (pa_cons (pv 0) (pa_cons (pe_callB call_lenU (by rfl) T.b_len PySem.boot_len (pa_cons (pv 1) pa_nil)) pa_nil))) (fun _ _ => rfl))))
theorem ok_law_told {P : Program} {w : World} {K : PySem.W.Frag} {mg : Str → Option Value} {base : Heap} {A : Ad} (T : Txt K mg A)
    (G_law_draw : FnG P w K mg base CX0 1 A.f_law_draw A.d_law_draw ["_law_pen_here", "_law_many"] (sp_law_draw K A)) :
    FnG P w K mg base CX0 3 A.f_law_told A.d_law_told ["_law_pen_here"] (sp_law_told K A) := by
  refine okG T.F_law_told sc_law_told (fun vs H Q E h => ?_) (fun cdv A' outer s H vs Q E hr hG h => ⟨(t_law_told_0 K A), ?_, pure_law_told h⟩)
  · unfold sp_law_told at h
    try unfold spPenL at h
    try unfold spDrawL at h
    try unfold spPickL at h
    try unfold spLaw at h
    split at h <;> first | rfl | exact h.elim
  · exact (pss_cons (ps_setLc (i := 1) (own := [("_law_turn", 3)]) (g := (gName 3)) (tt := tYes) (by rfl) sc_law_told.nd rfl rfl (sw_true rfl rfl rfl (by decide +kernel)) (pi_range1 rfl T.b_range (pa_cons (pe_op op_addU pe_int (pe_callG G_law_draw (hr.mono (by decide)) hG rfl T.g_law_draw T.F_law_draw.kp T.B_law_draw .nil pass0 (pa_cons (pv 0) (pa_cons pe_int pa_nil)))) pa_nil)) (blkOk_by (own := [("_law_turn", 3)]) (N := ["_law_pen_here", "_law_gains", "_law_many", "_law_turn"]) (sc := defScope s_law_told) (by decide +kernel)) (fun _ _ _ _ _ => (pg_name (i := 3) sc_law_told.nd rfl (Or.inl rfl))) (fun _ _ _ _ _ => pts_nil) (fun _ _ _ _ _ => (pe_op op_subU (pe_callG G_law_draw (hr.mono (by decide)) hG rfl T.g_law_draw T.F_law_draw.kp T.B_law_draw .nil pass0 (pa_cons (pv 0) (pa_cons pe_int pa_nil))) pe_int)))
    (pss_cons (ps_set (i := 2) sc_law_told.nd rfl (Or.inl rfl) (pe_op op_addU (pe_callB call_lenE (by rfl) T.b_len PySem.boot_len (pa_cons (pv 1) pa_nil)) (pe_callG G_law_draw (hr.mono (by decide)) hG rfl T.g_law_draw T.F_law_draw.kp T.B_law_draw .nil pass0 (pa_cons (pv 0) (pa_cons pe_int pa_nil)))))
    (pss_one (ps_ret (pe_tup (pa_cons (pe_lc (own := [("_law_turn", 3)]) (g := (gName 3)) (tt := tYes) (by rfl) sc_law_told.nd (pi_range1 rfl T.b_range (pa_cons (pv 2) pa_nil)) (blkOk_by (own := [("_law_turn", 3)]) (N := ["_law_pen_here", "_law_gains", "_law_many", "_law_turn"]) (sc := defScope s_law_told) (by decide +kernel)) (fun _ _ _ _ _ => (pg_name (i := 3) sc_law_told.nd rfl (Or.inl rfl))) (fun _ _ _ _ _ => pts_nil) (fun _ _ _ _ _ => (pe_ifExp (pt_cmpR (op_eqU hr.units) (pe_callG G_law_draw (hr.mono (by decide)) hG rfl T.g_law_draw T.F_law_draw.kp T.B_law_draw .nil pass0 (pa_cons (pv 0) (pa_cons pe_int pa_nil))) pe_int (nomark _)) pe_non (pe_op op_subU (pe_callG G_law_draw (hr.mono (by decide)) hG rfl T.g_law_draw T.F_law_draw.kp T.B_law_draw .nil pass0 (pa_cons (pv 0) (pa_cons pe_int pa_nil))) pe_int)))) (pa_cons (pv 1) pa_nil)))))))
theorem ok_law_lasting {P : Program} {w : World} {K : PySem.W.Frag} {mg : Str → Option Value} {base : Heap} {A : Ad} (T : Txt K mg A) :
    FnG P w K mg base CX0 1 A.f_law_lasting A.d_law_lasting ["_law_pair"] (sp_law_lasting K A) := by
  refine okG T.F_law_lasting sc_law_lasting (fun vs H Q E h => ?_) (fun cdv A' outer s H vs Q E hr hG h => ⟨(t_law_lasting_0 K A), ?_, pure_law_lasting h⟩)
  · unfold sp_law_lasting at h
    try unfold spPenL at h
    try unfold spDrawL at h
    try unfold spPickL at h
    try unfold spLaw at h
    split at h <;> first | rfl | exact h.elim
  · exact (pss_cons (ps_asg (pv 0) (pg_tup rfl (pgs_cons (pg_name (i := 1) sc_law_lasting.nd rfl (Or.inr rfl)) (pgs_cons (pg_name (i := 2) sc_law_lasting.nd rfl (Or.inr rfl)) pgs_nil))))
    (pss_cons (ps_setLc (i := 3) (own := [("_law_n", 4)]) (g := (gName 4)) (tt := (tTest (tOp oIsNot (tOp (rIx K) (tVar 1) (tVar 4)) (tC .non)))) (by rfl) sc_law_lasting.nd rfl rfl (sw_true rfl rfl rfl (by decide +kernel)) (pi_range2 rfl T.b_range (pa_cons (pe_op op_subU (pe_callB call_lenE (by rfl) T.b_len PySem.boot_len (pa_cons (pv 1) pa_nil)) (pe_callB call_lenE (by rfl) T.b_len PySem.boot_len (pa_cons (pv 2) pa_nil))) (pa_cons (pe_callB call_lenE (by rfl) T.b_len PySem.boot_len (pa_cons (pv 1) pa_nil)) pa_nil))) (blkOk_by (own := [("_law_n", 4)]) (N := ["_law_pair", "_law_told_here", "_law_gains", "_law_ends", "_law_n"]) (sc := defScope s_law_lasting) (by decide +kernel)) (fun _ _ _ _ _ => (pg_name (i := 4) sc_law_lasting.nd rfl (Or.inl rfl))) (fun _ _ _ _ _ => (pts_one (pt_cmpR op_isNotU (pe_ix ix_seq (pv 1) (pv 4) (fun _ _ => rfl)) pe_non (nomark _)))) (fun _ _ _ _ _ => (pv 4)))
    (pss_one (ps_ret (pe_lc (own := [("_law_n", 4)]) (g := (gName 4)) (tt := tYes) (by rfl) sc_law_lasting.nd (pi_seq (pv 3)) (blkOk_by (own := [("_law_n", 4)]) (N := ["_law_pair", "_law_told_here", "_law_gains", "_law_ends", "_law_n"]) (sc := defScope s_law_lasting) (by decide +kernel)) (fun _ _ _ _ _ => (pg_name (i := 4) sc_law_lasting.nd rfl (Or.inl rfl))) (fun _ _ _ _ _ => pts_nil) (fun _ _ _ _ _ => (pe_ix ix_seq (pv 2) (pe_op op_modU (pe_callTy call_intU (by rfl) T.b_int (by decide +kernel) (pa_cons (pv 4) pa_nil)) (pe_callB call_lenE (by rfl) T.b_len PySem.boot_len (pa_cons (pv 2) pa_nil))) (fun _ _ => rfl))))))))
theorem ok_law_right {P : Program} {w : World} {K : PySem.W.Frag} {mg : Str → Option Value} {base : Heap} {A : Ad} (T : Txt K mg A)
    (G_Growth_init : FnG P w K mg base CX0 9 A.f_Growth_init A.d_Growth_init ["self", "told", "gains"] (sp_Growth_init K A))
    (G_Growth_is_endless : FnG P w K mg base CX0 5 A.f_Growth_is_endless A.d_Growth_is_endless ["self"] (sp_Growth_is_endless K A))
    (G_Growth_greatest : FnG P w K mg base CX0 7 A.f_Growth_greatest A.d_Growth_greatest ["self"] (sp_Growth_greatest K A))
    (G_Growth_slope : FnG P w K mg base CX0 5 A.f_Growth_slope A.d_Growth_slope ["self"] (sp_Growth_slope K A))
    (G_law_lasting : FnG P w K mg base CX0 1 A.f_law_lasting A.d_law_lasting ["_law_pair"] (sp_law_lasting K A)) :
    FnG P w K mg base CX0 11 A.f_law_right A.d_law_right ["_law_pair"] (sp_law_right K A) := by
  refine okG T.F_law_right sc_law_right (fun vs H Q E h => ?_) (fun cdv A' outer s H vs Q E hr hG h => ⟨(t_law_right_0 K A), ?_, pure_law_right T.kf h⟩)
  · unfold sp_law_right at h
    try unfold spPenL at h
    try unfold spDrawL at h
    try unfold spPickL at h
    try unfold spLaw at h
    split at h <;> first | rfl | exact h.elim
  · exact (pss_cons (ps_par3 (i := 1) (j := 2) (l := 3) rfl sc_law_right.nd rfl rfl rfl (by decide) (by decide) (by decide) rfl rfl rfl (pa_cons (pe_makeG T.M_Growth G_Growth_init (hr.mono (by decide)) hG rfl T.g_Growth T.B_Growth_init .nil pass0 (pa_cons (pe_ix ix_seq (pv 0) pe_int (fun _ _ => rfl)) (pa_cons (pe_ix ix_seq (pv 0) pe_int (fun _ _ => rfl)) pa_nil))) (pa_cons (pe_callG G_law_lasting (hr.mono (by decide)) hG rfl T.g_law_lasting T.F_law_lasting.kp T.B_law_lasting .nil pass0 (pa_cons (pv 0) pa_nil)) (pa_cons (pe_callB call_lenE (by rfl) T.b_len PySem.boot_len (pa_cons (pe_ix ix_seq (pv 0) pe_int (fun _ _ => rfl)) pa_nil)) pa_nil))) rfl)
    (pss_cons (ps_set (i := 4) sc_law_right.nd rfl (Or.inl rfl) (pe_cmpR (op_neU hr.units) (pe_lc (own := [("_law_gain", 9)]) (g := (gName 9)) (tt := (tTest (tOp oGt (tVar 9) (tC (.int 0))))) (by rfl) sc_law_right.nd (pi_seq (pv 2)) (blkOk_by (own := [("_law_gain", 9)]) (N := ["_law_pair", "_law_growth", "_law_lasting_here", "_law_period", "_law_is_endless", "_law_numbers", "_law_due", "_law_best", "_law_told_here", "_law_gain", "_law_value", "_law_part"]) (sc := defScope s_law_right) (by decide +kernel)) (fun _ _ _ _ _ => (pg_name (i := 9) sc_law_right.nd rfl (Or.inl rfl))) (fun _ _ _ _ _ => (pts_one (pt_cmpR op_gtU (pv 9) pe_int (nomark _)))) (fun _ _ _ _ _ => (pv 9))) (pe_lst pa_nil) (nomark _)))
    (pss_cons (ps_setLc (i := 5) (own := [("_law_value", 10)]) (g := (gName 10)) (tt := (tTest (tOp oIsNot (tVar 10) (tC .non)))) (by rfl) sc_law_right.nd rfl rfl (sw_true rfl rfl rfl (by decide +kernel)) (pi_seq (pe_ix ix_seq (pv 0) pe_int (fun _ _ => rfl))) (blkOk_by (own := [("_law_value", 10)]) (N := ["_law_pair", "_law_growth", "_law_lasting_here", "_law_period", "_law_is_endless", "_law_numbers", "_law_due", "_law_best", "_law_told_here", "_law_gain", "_law_value", "_law_part"]) (sc := defScope s_law_right) (by decide +kernel)) (fun _ _ _ _ _ => (pg_name (i := 10) sc_law_right.nd rfl (Or.inl rfl))) (fun _ _ _ _ _ => (pts_one (pt_cmpR op_isNotU (pv 10) pe_non (nomark _)))) (fun _ _ _ _ _ => (pv 10)))
    (pss_cons (ps_set (i := 6) sc_law_right.nd rfl (Or.inl rfl) (pe_ifExp (PW.pt (pw_or (pt_val (pv 4)) (pw_or1 (pt_cmpR (op_eqU hr.units) (pv 5) (pe_lst pa_nil) (nomark _))))) pe_non (pe_callB (call_maxU rfl) (by rfl) T.b_max (by decide +kernel) (pa_cons (pe_lc (own := [("_law_value", 10)]) (g := (gName 10)) (tt := tYes) (by rfl) sc_law_right.nd (pi_seq (pv 5)) (blkOk_by (own := [("_law_value", 10)]) (N := ["_law_pair", "_law_growth", "_law_lasting_here", "_law_period", "_law_is_endless", "_law_numbers", "_law_due", "_law_best", "_law_told_here", "_law_gain", "_law_value", "_law_part"]) (sc := defScope s_law_right) (by decide +kernel)) (fun _ _ _ _ _ => (pg_name (i := 10) sc_law_right.nd rfl (Or.inl rfl))) (fun _ _ _ _ _ => pts_nil) (fun _ _ _ _ _ => (pe_callTy call_intU (by rfl) T.b_int (by decide +kernel) (pa_cons (pv 10) pa_nil)))) pa_nil))))
    (pss_cons (ps_if (pt_cmpR (op_neU hr.units) (pe_callB (call_reprU hG hr.units) (by rfl) T.b_repr (by decide +kernel) (pa_cons (pe_lst (pa_cons (pe_propG (g' := 0) (pv 1) T.cl_Growth T.p_Growth_is_endless G_Growth_is_endless (hr.mono (by decide)) hG T.B_Growth_is_endless pass0 rfl) (pa_cons (pe_propG (g' := 0) (pv 1) T.cl_Growth T.p_Growth_greatest G_Growth_greatest (hr.mono (by decide)) hG T.B_Growth_greatest pass0 rfl) pa_nil))) pa_nil)) (pe_callB (call_reprU hG hr.units) (by rfl) T.b_repr (by decide +kernel) (pa_cons (pe_lst (pa_cons (pv 4) (pa_cons (pv 6) pa_nil))) pa_nil)) (nomark _)) (pss_one (ps_ret pe_bl)) pss_nil)
    (pss_cons (ps_if (pt_cmpR (op_eqU hr.units) (pv 2) (pe_lst pa_nil) (nomark _)) (pss_one (ps_ret (pe_cmpR op_isU (pe_propG (g' := 0) (pv 1) T.cl_Growth T.p_Growth_slope G_Growth_slope (hr.mono (by decide)) hG T.B_Growth_slope pass0 rfl) pe_non (nomark _)))) pss_nil)
    (pss_cons (ps_asg (pe_tup (pa_cons (pe_callB (call_maxU rfl) (by rfl) T.b_max (by decide +kernel) (pa_cons (pe_lc (own := [("_law_gain", 9)]) (g := (gName 9)) (tt := tYes) (by rfl) sc_law_right.nd (pi_seq (pv 2)) (blkOk_by (own := [("_law_gain", 9)]) (N := ["_law_pair", "_law_growth", "_law_lasting_here", "_law_period", "_law_is_endless", "_law_numbers", "_law_due", "_law_best", "_law_told_here", "_law_gain", "_law_value", "_law_part"]) (sc := defScope s_law_right) (by decide +kernel)) (fun _ _ _ _ _ => (pg_name (i := 9) sc_law_right.nd rfl (Or.inl rfl))) (fun _ _ _ _ _ => pts_nil) (fun _ _ _ _ _ => (pe_callTy call_intU (by rfl) T.b_int (by decide +kernel) (pa_cons (pv 9) pa_nil)))) pa_nil)) (pa_cons (pe_propG (g' := 0) (pv 1) T.cl_Growth T.p_Growth_slope G_Growth_slope (hr.mono (by decide)) hG T.B_Growth_slope pass0 rfl) pa_nil))) (pg_tup rfl (pgs_cons (pg_name (i := 7) sc_law_right.nd rfl (Or.inl rfl)) (pgs_cons (pg_name (i := 8) sc_law_right.nd rfl (Or.inr rfl)) pgs_nil))))
    (pss_cons (ps_if (PW.pt (pw_or (pt_not (pt_val (pe_callB call_isiU (by rfl) T.b_isinstance (by decide +kernel) (pa_cons (pv 8) (pa_cons (pe_bltn rfl T.b_tuple (by decide +kernel) rfl) pa_nil))))) (pw_or (pt_cmpR (op_neU hr.units) (pe_callB call_lenE (by rfl) T.b_len PySem.boot_len (pa_cons (pv 8) pa_nil)) pe_int (nomark _)) (pw_or (pt_cmpR op_ltU (pe_ix ix_seq (pv 8) pe_int (fun _ _ => rfl)) pe_int (nomark _)) (pw_or1 (pt_cmpR (op_neU hr.units) (pe_op op_mulU (pe_ix ix_seq (pv 8) pe_int (fun _ _ => rfl)) (pv 3)) (pe_op op_mulU (pv 7) (pe_ix ix_seq (pv 8) pe_int (fun _ _ => rfl))) (nomark _))))))) (pss_one (ps_ret pe_bl)) pss_nil)
    (pss_one (ps_ret (pe_cmpR (op_eqU hr.units) (pe_lc (own := [("_law_part", 11)]) (g := (gName 11)) (tt := (tAnd (tTest (tOp (oEq K) (tOp oMod (tCB cInt (tCons (tOp (rIx K) (tVar 8) (tC (.int 0))) tNil)) (tVar 11)) (tC (.int 0)))) (tTest (tOp (oEq K) (tOp oMod (tCB cInt (tCons (tOp (rIx K) (tVar 8) (tC (.int 1))) tNil)) (tVar 11)) (tC (.int 0)))))) (by rfl) sc_law_right.nd (pi_range2 rfl T.b_range (pa_cons pe_int (pa_cons (pe_op op_addU (pe_ix ix_seq (pv 8) pe_int (fun _ _ => rfl)) pe_int) pa_nil))) (blkOk_by (own := [("_law_part", 11)]) (N := ["_law_pair", "_law_growth", "_law_lasting_here", "_law_period", "_law_is_endless", "_law_numbers", "_law_due", "_law_best", "_law_told_here", "_law_gain", "_law_value", "_law_part"]) (sc := defScope s_law_right) (by decide +kernel)) (fun _ _ _ _ _ => (pg_name (i := 11) sc_law_right.nd rfl (Or.inl rfl))) (fun _ _ _ _ _ => (pts_one (PW.pt (pw_and (pt_cmpR (op_eqU hr.units) (pe_op op_modU (pe_callTy call_intU (by rfl) T.b_int (by decide +kernel) (pa_cons (pe_ix ix_seq (pv 8) pe_int (fun _ _ => rfl)) pa_nil)) (pv 11)) pe_int (nomark _)) (pw_and1 (pt_cmpR (op_eqU hr.units) (pe_op op_modU (pe_callTy call_intU (by rfl) T.b_int (by decide +kernel) (pa_cons (pe_ix ix_seq (pv 8) pe_int (fun _ _ => rfl)) pa_nil)) (pv 11)) pe_int (nomark _))))))) (fun _ _ _ _ _ => (pv 11))) (pe_lst pa_nil) (nomark _))))))))))))
theorem ok_law {P : Program} {w : World} {K : PySem.W.Frag} {mg : Str → Option Value} {base : Heap} {A : Ad} (T : Txt K mg A)
    (G_Growth_init : FnG P w K mg base CX0 9 A.f_Growth_init A.d_Growth_init ["self", "told", "gains"] (sp_Growth_init K A))
    (G_Growth_constant : FnG P w K mg base CX0 11 A.f_Growth_constant A.d_Growth_constant ["k"] (sp_Growth_constant K A))
    (G_Growth_ramp : FnG P w K mg base CX0 11 A.f_Growth_ramp A.d_Growth_ramp ["gain", "begin"] (sp_Growth_ramp K A))
    (G_Growth_none : FnG P w K mg base CX0 11 A.f_Growth_none A.d_Growth_none [] (sp_Growth_none K A))
    (G_Growth_greatest : FnG P w K mg base CX0 7 A.f_Growth_greatest A.d_Growth_greatest ["self"] (sp_Growth_greatest K A))
    (G_Growth_slope : FnG P w K mg base CX0 5 A.f_Growth_slope A.d_Growth_slope ["self"] (sp_Growth_slope K A))
    (G_law_pen : FnG P w K mg base CX0 1 A.f_law_pen A.d_law_pen ["_law_script"] (sp_law_pen K A))
    (G_law_pick : FnG P w K mg base CX0 3 A.f_law_pick A.d_law_pick ["_law_pen_here", "_law_some_here"] (sp_law_pick K A))
    (G_law_told : FnG P w K mg base CX0 3 A.f_law_told A.d_law_told ["_law_pen_here"] (sp_law_told K A))
    (G_law_right : FnG P w K mg base CX0 11 A.f_law_right A.d_law_right ["_law_pair"] (sp_law_right K A)) :
    FnG P w K mg base CX0 13 A.f_law A.d_law ["_law_script"] (sp_law K A) := by
  obtain ⟨ds1_Growth_ramp, v1_Growth_ramp, b1_Growth_ramp⟩ := T.D1_Growth_ramp
  refine okG T.F_law sc_law (fun vs H Q E h => ?_) (fun cdv A' outer s H vs Q E hr hG h => ⟨(t_law_0 K A), ?_, pure_law T.kf h⟩)
  · unfold sp_law at h
    try unfold spPenL at h
    try unfold spDrawL at h
    try unfold spPickL at h
    try unfold spLaw at h
    split at h <;> first | rfl | exact h.elim
  · exact (pss_cons (ps_set (i := 1) sc_law.nd rfl (Or.inr rfl) (pe_callG G_law_pen (hr.mono (by decide)) hG rfl T.g_law_pen T.F_law_pen.kp T.B_law_pen .nil pass0 (pa_cons (pv 0) pa_nil)))
    (pss_cons (ps_for never0 rfl (pi_range1 rfl T.b_range (pa_cons pe_int pa_nil)) (pg_name (i := 2) sc_law.nd rfl (Or.inl rfl))
    (pss_cons (ps_set (i := 3) sc_law.nd rfl (Or.inl rfl) (pe_callG G_law_told (hr.mono (by decide)) hG rfl T.g_law_told T.F_law_told.kp T.B_law_told .nil pass0 (pa_cons (pv 1) pa_nil)))
    (pss_cons (ps_set (i := 4) sc_law.nd rfl (Or.inl rfl) (pe_tup (pa_cons (pe_lc (own := [("_law_value", 7)]) (g := (gName 7)) (tt := tYes) (by rfl) sc_law.nd (pi_seq (pe_ix ix_seq (pv 3) pe_int (fun _ _ => rfl))) (blkOk_by (own := [("_law_value", 7)]) (N := ["_law_script", "_law_pen_here", "_law_turn", "_law_pair", "_law_low", "_law_none", "_law_some_here", "_law_value", "_law_gain"]) (sc := defScope s_law) (by decide +kernel)) (fun _ _ _ _ _ => (pg_name (i := 7) sc_law.nd rfl (Or.inl rfl))) (fun _ _ _ _ _ => pts_nil) (fun _ _ _ _ _ => (pe_callG G_law_pick (hr.mono (by decide)) hG rfl T.g_law_pick T.F_law_pick.kp T.B_law_pick .nil pass0 (pa_cons (pv 1) (pa_cons (pe_lst (pa_cons pe_non (pa_cons (pv 7) pa_nil))) pa_nil))))) (pa_cons (pe_lc (own := [("_law_gain", 8)]) (g := (gName 8)) (tt := tYes) (by rfl) sc_law.nd (pi_seq (pe_ix ix_seq (pv 3) pe_int (fun _ _ => rfl))) (blkOk_by (own := [("_law_gain", 8)]) (N := ["_law_script", "_law_pen_here", "_law_turn", "_law_pair", "_law_low", "_law_none", "_law_some_here", "_law_value", "_law_gain"]) (sc := defScope s_law) (by decide +kernel)) (fun _ _ _ _ _ => (pg_name (i := 8) sc_law.nd rfl (Or.inl rfl))) (fun _ _ _ _ _ => pts_nil) (fun _ _ _ _ _ => (pe_callB (call_minU rfl) (by rfl) T.b_min (by decide +kernel) (pa_cons (pe_callTy call_intU (by rfl) T.b_int (by decide +kernel) (pa_cons (pv 8) pa_nil)) (pa_cons pe_int pa_nil))))) pa_nil))))
    (pss_cons (ps_set (i := 5) sc_law.nd rfl (Or.inl rfl) (pe_tup (pa_cons (pe_lc (own := [("_law_value", 7)]) (g := (gName 7)) (tt := tYes) (by rfl) sc_law.nd (pi_seq (pe_ix ix_seq (pv 3) pe_int (fun _ _ => rfl))) (blkOk_by (own := [("_law_value", 7)]) (N := ["_law_script", "_law_pen_here", "_law_turn", "_law_pair", "_law_low", "_law_none", "_law_some_here", "_law_value", "_law_gain"]) (sc := defScope s_law) (by decide +kernel)) (fun _ _ _ _ _ => (pg_name (i := 7) sc_law.nd rfl (Or.inl rfl))) (fun _ _ _ _ _ => pts_nil) (fun _ _ _ _ _ => pe_non)) (pa_cons (pe_ix ix_seq (pv 3) pe_int (fun _ _ => rfl)) pa_nil))))
    (pss_cons (ps_if (PW.pt (pw_or (pt_not (pt_val (pe_callG G_law_right (hr.mono (by decide)) hG rfl T.g_law_right T.F_law_right.kp T.B_law_right .nil pass0 (pa_cons (pv 3) pa_nil)))) (pw_or (pt_not (pt_val (pe_callG G_law_right (hr.mono (by decide)) hG rfl T.g_law_right T.F_law_right.kp T.B_law_right .nil pass0 (pa_cons (pv 4) pa_nil)))) (pw_or1 (pt_not (pt_val (pe_callG G_law_right (hr.mono (by decide)) hG rfl T.g_law_right T.F_law_right.kp T.B_law_right .nil pass0 (pa_cons (pv 5) pa_nil)))))))) (pss_one (ps_ret pe_bl)) pss_nil)
    (pss_one (ps_if (pt_not (pt_val (pe_callG G_law_right (hr.mono (by decide)) hG rfl T.g_law_right T.F_law_right.kp T.B_law_right .nil pass0 (pa_cons (pe_tup (pa_cons (pe_op op_addU (pe_ix ix_seq (pv 3) pe_int (fun _ _ => rfl)) (pe_op op_mulU (pe_lst (pa_cons pe_non pa_nil)) (pe_callB call_lenE (by rfl) T.b_len PySem.boot_len (pa_cons (pe_ix ix_seq (pv 3) pe_int (fun _ _ => rfl)) pa_nil)))) (pa_cons (pe_ix ix_seq (pv 3) pe_int (fun _ _ => rfl)) pa_nil))) pa_nil)))) (pss_one (ps_ret pe_bl)) pss_nil)))))))
    (pss_cons (ps_set (i := 6) sc_law.nd rfl (Or.inl rfl) (pe_lst (pa_cons (pe_propG (g' := 0) (pe_smethG (pe_glob rfl T.g_Growth rfl) T.s_Growth_constant G_Growth_constant (hr.mono (by decide)) hG T.B_Growth_constant .nil pass0 (pa_cons pe_int pa_nil)) T.cl_Growth T.p_Growth_greatest G_Growth_greatest (hr.mono (by decide)) hG T.B_Growth_greatest pass0 rfl) (pa_cons (pe_propG (g' := 0) (pe_smethG (pe_glob rfl T.g_Growth rfl) T.s_Growth_ramp G_Growth_ramp (hr.mono (by decide)) hG T.B_Growth_ramp .nil pass0 (pa_cons (pe_un un_negU pe_int) (pa_cons pe_int pa_nil))) T.cl_Growth T.p_Growth_greatest G_Growth_greatest (hr.mono (by decide)) hG T.B_Growth_greatest pass0 rfl) (pa_cons (pe_propG (g' := 0) (pe_smethG (pe_glob rfl T.g_Growth rfl) T.s_Growth_ramp G_Growth_ramp (hr.mono (by decide)) hG b1_Growth_ramp v1_Growth_ramp pass0 (pa_cons pe_int pa_nil)) T.cl_Growth T.p_Growth_greatest G_Growth_greatest (hr.mono (by decide)) hG T.B_Growth_greatest pass0 rfl) (pa_cons (pe_propG (g' := 0) (pe_smethG0 (pe_glob rfl T.g_Growth rfl) T.s_Growth_none G_Growth_none (hr.mono (by decide)) hG T.B_Growth_none .nil pass0) T.cl_Growth T.p_Growth_greatest G_Growth_greatest (hr.mono (by decide)) hG T.B_Growth_greatest pass0 rfl) pa_nil))))))
    (pss_cons (ps_if (pt_cmpR (op_neU hr.units) (pv 6) (pe_lst (pa_cons pe_int (pa_cons pe_int (pa_cons pe_non (pa_cons pe_non pa_nil))))) (nomark _)) (pss_one (ps_ret pe_bl)) pss_nil)
    (pss_cons (ps_set (i := 6) sc_law.nd rfl (Or.inl rfl) (pe_lst (pa_cons (pe_propG (g' := 0) (pe_smethG (pe_glob rfl T.g_Growth rfl) T.s_Growth_constant G_Growth_constant (hr.mono (by decide)) hG T.B_Growth_constant .nil pass0 (pa_cons pe_int pa_nil)) T.cl_Growth T.p_Growth_slope G_Growth_slope (hr.mono (by decide)) hG T.B_Growth_slope pass0 rfl) (pa_cons (pe_propG (g' := 0) (pe_smethG (pe_glob rfl T.g_Growth rfl) T.s_Growth_ramp G_Growth_ramp (hr.mono (by decide)) hG b1_Growth_ramp v1_Growth_ramp pass0 (pa_cons (pe_un un_negU pe_int) pa_nil)) T.cl_Growth T.p_Growth_slope G_Growth_slope (hr.mono (by decide)) hG T.B_Growth_slope pass0 rfl) (pa_cons (pe_propG (g' := 0) (pe_makeG T.M_Growth G_Growth_init (hr.mono (by decide)) hG rfl T.g_Growth T.B_Growth_init .nil pass0 (pa_cons (pe_lst (pa_cons pe_int (pa_cons pe_int (pa_cons pe_non (pa_cons pe_int pa_nil))))) (pa_cons (pe_lst (pa_cons pe_int (pa_cons pe_int (pa_cons pe_int (pa_cons pe_int pa_nil))))) pa_nil))) T.cl_Growth T.p_Growth_slope G_Growth_slope (hr.mono (by decide)) hG T.B_Growth_slope pass0 rfl) pa_nil)))))
    (pss_one (ps_ret (pe_cmpR (op_eqU hr.units) (pv 6) (pe_lst (pa_cons (pe_tup (pa_cons pe_int (pa_cons pe_int pa_nil))) (pa_cons (pe_tup (pa_cons (pe_un un_negU pe_int) (pa_cons pe_int pa_nil))) (pa_cons (pe_tup (pa_cons pe_int (pa_cons pe_int pa_nil))) pa_nil)))) (nomark _)))))))))

theorem ok_all {P : Program} {w : World} {K : PySem.W.Frag} {mg : Str → Option Value} {base : Heap} {A : Ad} (T : Txt K mg A) : FnG P w K mg base CX0 13 A.f_law A.d_law ["_law_script"] (sp_law K A) := by
  have G_is_integer : FnG P w K mg base CX0 1 A.f_is_integer A.d_is_integer ["value"] (sp_is_integer K A) := ok_is_integer T
  have G_is_value : FnG P w K mg base CX0 3 A.f_is_value A.d_is_value ["value"] (sp_is_value K A) := ok_is_value T G_is_integer
  have G_is_list : FnG P w K mg base CX0 1 A.f_is_list A.d_is_list ["value", "least"] (sp_is_list K A) := ok_is_list T
  have G_added : FnG P w K mg base CX0 1 A.f_added A.d_added ["value", "number"] (sp_added K A) := ok_added T
  have G_value_at : FnG P w K mg base CX0 3 A.f_value_at A.d_value_at ["told", "gains", "n"] (sp_value_at K A) := ok_value_at T G_added
  have G_step_between : FnG P w K mg base CX0 1 A.f_step_between A.d_step_between ["low", "high"] (sp_step_between K A) := ok_step_between T
  have G_gains_of : FnG P w K mg base CX0 3 A.f_gains_of A.d_gains_of ["row", "origin", "period"] (sp_gains_of K A) := ok_gains_of T G_step_between
  have G_least_gains : FnG P w K mg base CX0 5 A.f_least_gains A.d_least_gains ["row", "origin", "period"] (sp_least_gains K A) := ok_least_gains T G_gains_of
  have G_trimmed : FnG P w K mg base CX0 3 A.f_trimmed A.d_trimmed ["told", "gains"] (sp_trimmed K A) := ok_trimmed T G_added
  have G_normal_form : FnG P w K mg base CX0 7 A.f_normal_form A.d_normal_form ["told", "gains"] (sp_normal_form K A) := ok_normal_form T G_value_at G_least_gains G_trimmed
  have G_shared_multiple : FnG P w K mg base CX0 1 A.f_shared_multiple A.d_shared_multiple ["one", "other"] (sp_shared_multiple K A) := ok_shared_multiple T
  have G_need_integer : FnG P w K mg base CX0 3 A.f_need_integer A.d_need_integer ["number"] (sp_need_integer K A) := ok_need_integer T G_is_integer
  have G_Growth_init : FnG P w K mg base CX0 9 A.f_Growth_init A.d_Growth_init ["self", "told", "gains"] (sp_Growth_init K A) := ok_Growth_init T G_is_integer G_is_value G_is_list G_normal_form
  have G_Growth_constant : FnG P w K mg base CX0 11 A.f_Growth_constant A.d_Growth_constant ["k"] (sp_Growth_constant K A) := ok_Growth_constant T G_need_integer G_Growth_init
  have G_Growth_ramp : FnG P w K mg base CX0 11 A.f_Growth_ramp A.d_Growth_ramp ["gain", "begin"] (sp_Growth_ramp K A) := ok_Growth_ramp T G_need_integer G_Growth_init
  have G_Growth_none : FnG P w K mg base CX0 11 A.f_Growth_none A.d_Growth_none [] (sp_Growth_none K A) := ok_Growth_none T G_Growth_init
  have G_Growth_period : FnG P w K mg base CX0 1 A.f_Growth_period A.d_Growth_period ["self"] (sp_Growth_period K A) := ok_Growth_period T
  have G_Growth_lasting : FnG P w K mg base CX0 3 A.f_Growth_lasting A.d_Growth_lasting ["self"] (sp_Growth_lasting K A) := ok_Growth_lasting T G_Growth_period
  have G_Growth_is_endless : FnG P w K mg base CX0 5 A.f_Growth_is_endless A.d_Growth_is_endless ["self"] (sp_Growth_is_endless K A) := ok_Growth_is_endless T G_Growth_lasting
  have G_Growth_greatest : FnG P w K mg base CX0 7 A.f_Growth_greatest A.d_Growth_greatest ["self"] (sp_Growth_greatest K A) := ok_Growth_greatest T G_Growth_is_endless
  have G_Growth_slope : FnG P w K mg base CX0 5 A.f_Growth_slope A.d_Growth_slope ["self"] (sp_Growth_slope K A) := ok_Growth_slope T G_shared_multiple G_Growth_period G_Growth_lasting
  have G_law_pen : FnG P w K mg base CX0 1 A.f_law_pen A.d_law_pen ["_law_script"] (sp_law_pen K A) := ok_law_pen T
  have G_law_draw : FnG P w K mg base CX0 1 A.f_law_draw A.d_law_draw ["_law_pen_here", "_law_many"] (sp_law_draw K A) := ok_law_draw T
  have G_law_pick : FnG P w K mg base CX0 3 A.f_law_pick A.d_law_pick ["_law_pen_here", "_law_some_here"] (sp_law_pick K A) := ok_law_pick T G_law_draw
  have G_law_told : FnG P w K mg base CX0 3 A.f_law_told A.d_law_told ["_law_pen_here"] (sp_law_told K A) := ok_law_told T G_law_draw
  have G_law_lasting : FnG P w K mg base CX0 1 A.f_law_lasting A.d_law_lasting ["_law_pair"] (sp_law_lasting K A) := ok_law_lasting T
  have G_law_right : FnG P w K mg base CX0 11 A.f_law_right A.d_law_right ["_law_pair"] (sp_law_right K A) := ok_law_right T G_Growth_init G_Growth_is_endless G_Growth_greatest G_Growth_slope G_law_lasting
  have G_law : FnG P w K mg base CX0 13 A.f_law A.d_law ["_law_script"] (sp_law K A) := ok_law T G_Growth_init G_Growth_constant G_Growth_ramp G_Growth_none G_Growth_greatest G_Growth_slope G_law_pen G_law_pick G_law_told G_law_right
  exact G_law

end HG

namespace HG
open PySem L2
theorem all_mk {l : PySem.W.OpenLaw} {w : World} {K : PySem.W.Frag} {h : Heap} {mg : Str → Option Value} {fa : Addr} {c_Growth p_Growth_period p_Growth_lasting p_Growth_is_endless p_Growth_greatest p_Growth_slope m_Growth_constant m_Growth_ramp m_Growth_none dt_Growth_init_0 f_is_integer f_is_value f_is_list f_added f_value_at f_step_between f_gains_of f_least_gains f_trimmed f_normal_form f_shared_multiple f_need_integer f_Growth_init f_Growth_constant f_Growth_ramp f_Growth_none f_Growth_period f_Growth_lasting f_Growth_is_endless f_Growth_greatest f_Growth_slope f_law_pen f_law_draw f_law_pick f_law_told f_law_lasting f_law_right f_law : Addr} (X : K.In h) (G : h.Ns mainGlobals mg) (hfa : mg "law" = some (.ref fa))
    {od_is_integer an_is_integer od_is_value an_is_value od_is_list an_is_list od_added an_added od_value_at an_value_at od_step_between an_step_between od_gains_of an_gains_of od_least_gains an_least_gains od_trimmed an_trimmed od_normal_form an_normal_form od_shared_multiple an_shared_multiple od_need_integer an_need_integer od_Growth_init an_Growth_init od_Growth_constant an_Growth_constant od_Growth_ramp an_Growth_ramp od_Growth_none an_Growth_none od_Growth_period an_Growth_period od_Growth_lasting an_Growth_lasting od_Growth_is_endless an_Growth_is_endless od_Growth_greatest an_Growth_greatest od_Growth_slope an_Growth_slope od_law_pen an_law_pen od_law_draw an_law_draw od_law_pick an_law_pick od_law_told an_law_told od_law_lasting an_law_lasting od_law_right an_law_right od_law an_law : Option Addr} {sl_is_integer sl_is_value sl_is_list sl_added sl_value_at sl_step_between sl_gains_of sl_least_gains sl_trimmed sl_normal_form sl_shared_multiple sl_need_integer sl_Growth_init sl_Growth_constant sl_Growth_ramp sl_Growth_none sl_Growth_period sl_Growth_lasting sl_Growth_is_endless sl_Growth_greatest sl_Growth_slope sl_law_pen sl_law_draw sl_law_pick sl_law_told sl_law_lasting sl_law_right sl_law : Array (Option Value)} {oc_is_integer kV_is_integer dc_is_integer pm_is_integer cd_is_integer ct_is_integer oc_is_value kV_is_value dc_is_value pm_is_value cd_is_value ct_is_value oc_is_list kV_is_list dc_is_list pm_is_list cd_is_list ct_is_list oc_added kV_added dc_added pm_added cd_added ct_added oc_value_at kV_value_at dc_value_at pm_value_at cd_value_at ct_value_at oc_step_between kV_step_between dc_step_between pm_step_between cd_step_between ct_step_between oc_gains_of kV_gains_of dc_gains_of pm_gains_of cd_gains_of ct_gains_of oc_least_gains kV_least_gains dc_least_gains pm_least_gains cd_least_gains ct_least_gains oc_trimmed kV_trimmed dc_trimmed pm_trimmed cd_trimmed ct_trimmed oc_normal_form kV_normal_form dc_normal_form pm_normal_form cd_normal_form ct_normal_form oc_shared_multiple kV_shared_multiple dc_shared_multiple pm_shared_multiple cd_shared_multiple ct_shared_multiple oc_need_integer kV_need_integer dc_need_integer pm_need_integer cd_need_integer ct_need_integer oc_Growth_init kV_Growth_init dc_Growth_init pm_Growth_init cd_Growth_init ct_Growth_init oc_Growth_constant kV_Growth_constant dc_Growth_constant pm_Growth_constant cd_Growth_constant ct_Growth_constant oc_Growth_ramp kV_Growth_ramp dc_Growth_ramp pm_Growth_ramp cd_Growth_ramp ct_Growth_ramp oc_Growth_none kV_Growth_none dc_Growth_none pm_Growth_none cd_Growth_none ct_Growth_none oc_Growth_period kV_Growth_period dc_Growth_period pm_Growth_period cd_Growth_period ct_Growth_period oc_Growth_lasting kV_Growth_lasting dc_Growth_lasting pm_Growth_lasting cd_Growth_lasting ct_Growth_lasting oc_Growth_is_endless kV_Growth_is_endless dc_Growth_is_endless pm_Growth_is_endless cd_Growth_is_endless ct_Growth_is_endless oc_Growth_greatest kV_Growth_greatest dc_Growth_greatest pm_Growth_greatest cd_Growth_greatest ct_Growth_greatest oc_Growth_slope kV_Growth_slope dc_Growth_slope pm_Growth_slope cd_Growth_slope ct_Growth_slope oc_law_pen kV_law_pen dc_law_pen pm_law_pen cd_law_pen ct_law_pen oc_law_draw kV_law_draw dc_law_draw pm_law_draw cd_law_draw ct_law_draw oc_law_pick kV_law_pick dc_law_pick pm_law_pick cd_law_pick ct_law_pick oc_law_told kV_law_told dc_law_told pm_law_told cd_law_told ct_law_told oc_law_lasting kV_law_lasting dc_law_lasting pm_law_lasting cd_law_lasting ct_law_lasting oc_law_right kV_law_right dc_law_right pm_law_right cd_law_right ct_law_right oc_law kV_law dc_law pm_law cd_law ct_law : Value} {T_Growth_init : Addr} {oT_Growth_init : Value} {dT_Growth_init : Option Addr} {nT_Growth_init : Nat} {sT_Growth_init : Array (Option Value)} {rest_Growth_constant : List Value} {T_Growth_ramp : Addr} {oT_Growth_ramp : Value} {dT_Growth_ramp : Option Addr} {nT_Growth_ramp : Nat} {sT_Growth_ramp : Array (Option Value)} {tk0_Growth_ramp : Tok} {rest_Growth_ramp : List Value} {rest_Growth_none : List Value} {rest_Growth_period : List Value} {rest_Growth_lasting : List Value} {rest_Growth_is_endless : List Value} {rest_Growth_greatest : List Value} {rest_Growth_slope : List Value} {oD_Growth_init_0 : Value} {dD_Growth_init_0 : Option Addr} {nD_Growth_init_0 : Nat} {sD_Growth_init_0 : Array (Option Value)} {tD0_Growth_init_0 : Tok} {tgi_MOST_GAINS : Tok} {tgi_MOST_TOLD : Tok}
    (aC_Growth : PySem.W.nsIn K mainGlobals "Growth" = some (some (.ref c_Growth)))
    (a_is_integer : PySem.W.nsIn K mainGlobals "is_integer" = some (some (.ref f_is_integer)))
    (l_is_integer : K.lookup f_is_integer = some ⟨oc_is_integer, od_is_integer, .func (PySem.W.fnOf "is_integer" "is_integer" (defArgs s_is_integer) (defBody s_is_integer) (defScope s_is_integer) .none kV_is_integer dc_is_integer pm_is_integer an_is_integer cd_is_integer ct_is_integer), sl_is_integer⟩)
    (c_is_integer : PySem.W.codeIn K cd_is_integer "is_integer" = true)
    (k_is_integer : PySem.W.keepIn K (.ref f_is_integer) = true)
    (a_is_value : PySem.W.nsIn K mainGlobals "is_value" = some (some (.ref f_is_value)))
    (l_is_value : K.lookup f_is_value = some ⟨oc_is_value, od_is_value, .func (PySem.W.fnOf "is_value" "is_value" (defArgs s_is_value) (defBody s_is_value) (defScope s_is_value) .none kV_is_value dc_is_value pm_is_value an_is_value cd_is_value ct_is_value), sl_is_value⟩)
    (c_is_value : PySem.W.codeIn K cd_is_value "is_value" = true)
    (k_is_value : PySem.W.keepIn K (.ref f_is_value) = true)
    (a_is_list : PySem.W.nsIn K mainGlobals "is_list" = some (some (.ref f_is_list)))
    (l_is_list : K.lookup f_is_list = some ⟨oc_is_list, od_is_list, .func (PySem.W.fnOf "is_list" "is_list" (defArgs s_is_list) (defBody s_is_list) (defScope s_is_list) .none kV_is_list dc_is_list pm_is_list an_is_list cd_is_list ct_is_list), sl_is_list⟩)
    (c_is_list : PySem.W.codeIn K cd_is_list "is_list" = true)
    (k_is_list : PySem.W.keepIn K (.ref f_is_list) = true)
    (a_added : PySem.W.nsIn K mainGlobals "added" = some (some (.ref f_added)))
    (l_added : K.lookup f_added = some ⟨oc_added, od_added, .func (PySem.W.fnOf "added" "added" (defArgs s_added) (defBody s_added) (defScope s_added) .none kV_added dc_added pm_added an_added cd_added ct_added), sl_added⟩)
    (c_added : PySem.W.codeIn K cd_added "added" = true)
    (k_added : PySem.W.keepIn K (.ref f_added) = true)
    (a_value_at : PySem.W.nsIn K mainGlobals "value_at" = some (some (.ref f_value_at)))
    (l_value_at : K.lookup f_value_at = some ⟨oc_value_at, od_value_at, .func (PySem.W.fnOf "value_at" "value_at" (defArgs s_value_at) (defBody s_value_at) (defScope s_value_at) .none kV_value_at dc_value_at pm_value_at an_value_at cd_value_at ct_value_at), sl_value_at⟩)
    (c_value_at : PySem.W.codeIn K cd_value_at "value_at" = true)
    (k_value_at : PySem.W.keepIn K (.ref f_value_at) = true)
    (a_step_between : PySem.W.nsIn K mainGlobals "step_between" = some (some (.ref f_step_between)))
    (l_step_between : K.lookup f_step_between = some ⟨oc_step_between, od_step_between, .func (PySem.W.fnOf "step_between" "step_between" (defArgs s_step_between) (defBody s_step_between) (defScope s_step_between) .none kV_step_between dc_step_between pm_step_between an_step_between cd_step_between ct_step_between), sl_step_between⟩)
    (c_step_between : PySem.W.codeIn K cd_step_between "step_between" = true)
    (k_step_between : PySem.W.keepIn K (.ref f_step_between) = true)
    (a_gains_of : PySem.W.nsIn K mainGlobals "gains_of" = some (some (.ref f_gains_of)))
    (l_gains_of : K.lookup f_gains_of = some ⟨oc_gains_of, od_gains_of, .func (PySem.W.fnOf "gains_of" "gains_of" (defArgs s_gains_of) (defBody s_gains_of) (defScope s_gains_of) .none kV_gains_of dc_gains_of pm_gains_of an_gains_of cd_gains_of ct_gains_of), sl_gains_of⟩)
    (c_gains_of : PySem.W.codeIn K cd_gains_of "gains_of" = true)
    (k_gains_of : PySem.W.keepIn K (.ref f_gains_of) = true)
    (a_least_gains : PySem.W.nsIn K mainGlobals "least_gains" = some (some (.ref f_least_gains)))
    (l_least_gains : K.lookup f_least_gains = some ⟨oc_least_gains, od_least_gains, .func (PySem.W.fnOf "least_gains" "least_gains" (defArgs s_least_gains) (defBody s_least_gains) (defScope s_least_gains) .none kV_least_gains dc_least_gains pm_least_gains an_least_gains cd_least_gains ct_least_gains), sl_least_gains⟩)
    (c_least_gains : PySem.W.codeIn K cd_least_gains "least_gains" = true)
    (k_least_gains : PySem.W.keepIn K (.ref f_least_gains) = true)
    (a_trimmed : PySem.W.nsIn K mainGlobals "trimmed" = some (some (.ref f_trimmed)))
    (l_trimmed : K.lookup f_trimmed = some ⟨oc_trimmed, od_trimmed, .func (PySem.W.fnOf "trimmed" "trimmed" (defArgs s_trimmed) (defBody s_trimmed) (defScope s_trimmed) .none kV_trimmed dc_trimmed pm_trimmed an_trimmed cd_trimmed ct_trimmed), sl_trimmed⟩)
    (c_trimmed : PySem.W.codeIn K cd_trimmed "trimmed" = true)
    (k_trimmed : PySem.W.keepIn K (.ref f_trimmed) = true)
    (a_normal_form : PySem.W.nsIn K mainGlobals "normal_form" = some (some (.ref f_normal_form)))
    (l_normal_form : K.lookup f_normal_form = some ⟨oc_normal_form, od_normal_form, .func (PySem.W.fnOf "normal_form" "normal_form" (defArgs s_normal_form) (defBody s_normal_form) (defScope s_normal_form) .none kV_normal_form dc_normal_form pm_normal_form an_normal_form cd_normal_form ct_normal_form), sl_normal_form⟩)
    (c_normal_form : PySem.W.codeIn K cd_normal_form "normal_form" = true)
    (k_normal_form : PySem.W.keepIn K (.ref f_normal_form) = true)
    (a_shared_multiple : PySem.W.nsIn K mainGlobals "shared_multiple" = some (some (.ref f_shared_multiple)))
    (l_shared_multiple : K.lookup f_shared_multiple = some ⟨oc_shared_multiple, od_shared_multiple, .func (PySem.W.fnOf "shared_multiple" "shared_multiple" (defArgs s_shared_multiple) (defBody s_shared_multiple) (defScope s_shared_multiple) .none kV_shared_multiple dc_shared_multiple pm_shared_multiple an_shared_multiple cd_shared_multiple ct_shared_multiple), sl_shared_multiple⟩)
    (c_shared_multiple : PySem.W.codeIn K cd_shared_multiple "shared_multiple" = true)
    (k_shared_multiple : PySem.W.keepIn K (.ref f_shared_multiple) = true)
    (a_need_integer : PySem.W.nsIn K mainGlobals "need_integer" = some (some (.ref f_need_integer)))
    (l_need_integer : K.lookup f_need_integer = some ⟨oc_need_integer, od_need_integer, .func (PySem.W.fnOf "need_integer" "need_integer" (defArgs s_need_integer) (defBody s_need_integer) (defScope s_need_integer) .none kV_need_integer dc_need_integer pm_need_integer an_need_integer cd_need_integer ct_need_integer), sl_need_integer⟩)
    (c_need_integer : PySem.W.codeIn K cd_need_integer "need_integer" = true)
    (k_need_integer : PySem.W.keepIn K (.ref f_need_integer) = true)
    (a_Growth_init : PySem.W.findIn K (.ref c_Growth) "__init__" = some (some (.ref f_Growth_init)))
    (i_Growth_init : PySem.W.isFn K (.ref f_Growth_init) = true)
    (l_Growth_init : K.lookup f_Growth_init = some ⟨oc_Growth_init, od_Growth_init, .func (PySem.W.fnOf "__init__" "Growth.__init__" (defArgs s_Growth_init) (defBody s_Growth_init) (defScope s_Growth_init) (.ref T_Growth_init) kV_Growth_init dc_Growth_init pm_Growth_init an_Growth_init cd_Growth_init ct_Growth_init), sl_Growth_init⟩)
    (lT_Growth_init : K.lookup T_Growth_init = some ⟨oT_Growth_init, dT_Growth_init, .seq #[.ref dt_Growth_init_0] nT_Growth_init, sT_Growth_init⟩)
    (ldt_Growth_init_0 : K.lookup dt_Growth_init_0 = some ⟨oD_Growth_init_0, dD_Growth_init_0, .seq #[.int 0 tD0_Growth_init_0] nD_Growth_init_0, sD_Growth_init_0⟩)
    (rf_oD_Growth_init_0 : oD_Growth_init_0 = .type "tuple")
    (c_Growth_init : PySem.W.codeIn K cd_Growth_init "Growth.__init__" = true)
    (k_Growth_init : PySem.W.keepIn K (.ref f_Growth_init) = true)
    (sr_Growth_constant : PySem.W.findCls K (.ref c_Growth) (.type "type") "constant" = some (.get (.builtin "staticmethod.__get__") (.ref m_Growth_constant) .none (.ref c_Growth)))
    (sR_Growth_constant : PySem.W.recIn K m_Growth_constant "staticmethod" = some (.ref f_Growth_constant :: rest_Growth_constant))
    (l_Growth_constant : K.lookup f_Growth_constant = some ⟨oc_Growth_constant, od_Growth_constant, .func (PySem.W.fnOf "constant" "Growth.constant" (defArgs s_Growth_constant) (defBody s_Growth_constant) (defScope s_Growth_constant) .none kV_Growth_constant dc_Growth_constant pm_Growth_constant an_Growth_constant cd_Growth_constant ct_Growth_constant), sl_Growth_constant⟩)
    (c_Growth_constant : PySem.W.codeIn K cd_Growth_constant "Growth.constant" = true)
    (k_Growth_constant : PySem.W.keepIn K (.ref f_Growth_constant) = true)
    (sr_Growth_ramp : PySem.W.findCls K (.ref c_Growth) (.type "type") "ramp" = some (.get (.builtin "staticmethod.__get__") (.ref m_Growth_ramp) .none (.ref c_Growth)))
    (sR_Growth_ramp : PySem.W.recIn K m_Growth_ramp "staticmethod" = some (.ref f_Growth_ramp :: rest_Growth_ramp))
    (l_Growth_ramp : K.lookup f_Growth_ramp = some ⟨oc_Growth_ramp, od_Growth_ramp, .func (PySem.W.fnOf "ramp" "Growth.ramp" (defArgs s_Growth_ramp) (defBody s_Growth_ramp) (defScope s_Growth_ramp) (.ref T_Growth_ramp) kV_Growth_ramp dc_Growth_ramp pm_Growth_ramp an_Growth_ramp cd_Growth_ramp ct_Growth_ramp), sl_Growth_ramp⟩)
    (lT_Growth_ramp : K.lookup T_Growth_ramp = some ⟨oT_Growth_ramp, dT_Growth_ramp, .seq #[.int 0 tk0_Growth_ramp] nT_Growth_ramp, sT_Growth_ramp⟩)
    (c_Growth_ramp : PySem.W.codeIn K cd_Growth_ramp "Growth.ramp" = true)
    (k_Growth_ramp : PySem.W.keepIn K (.ref f_Growth_ramp) = true)
    (sr_Growth_none : PySem.W.findCls K (.ref c_Growth) (.type "type") "none" = some (.get (.builtin "staticmethod.__get__") (.ref m_Growth_none) .none (.ref c_Growth)))
    (sR_Growth_none : PySem.W.recIn K m_Growth_none "staticmethod" = some (.ref f_Growth_none :: rest_Growth_none))
    (l_Growth_none : K.lookup f_Growth_none = some ⟨oc_Growth_none, od_Growth_none, .func (PySem.W.fnOf "none" "Growth.none" (defArgs s_Growth_none) (defBody s_Growth_none) (defScope s_Growth_none) .none kV_Growth_none dc_Growth_none pm_Growth_none an_Growth_none cd_Growth_none ct_Growth_none), sl_Growth_none⟩)
    (c_Growth_none : PySem.W.codeIn K cd_Growth_none "Growth.none" = true)
    (k_Growth_none : PySem.W.keepIn K (.ref f_Growth_none) = true)
    (a_Growth_period : PySem.W.findIn K (.ref c_Growth) "period" = some (some (.ref p_Growth_period)))
    (pG_Growth_period : PySem.W.specialIn K (.ref p_Growth_period) "__get__" = some (some (.builtin "property.__get__")))
    (pT_Growth_period : PySem.W.takesIn K (.ref p_Growth_period) = some true)
    (pR_Growth_period : PySem.W.recIn K p_Growth_period "property" = some (.ref f_Growth_period :: rest_Growth_period))
    (l_Growth_period : K.lookup f_Growth_period = some ⟨oc_Growth_period, od_Growth_period, .func (PySem.W.fnOf "period" "Growth.period" (defArgs s_Growth_period) (defBody s_Growth_period) (defScope s_Growth_period) .none kV_Growth_period dc_Growth_period pm_Growth_period an_Growth_period cd_Growth_period ct_Growth_period), sl_Growth_period⟩)
    (c_Growth_period : PySem.W.codeIn K cd_Growth_period "Growth.period" = true)
    (k_Growth_period : PySem.W.keepIn K (.ref f_Growth_period) = true)
    (a_Growth_lasting : PySem.W.findIn K (.ref c_Growth) "lasting" = some (some (.ref p_Growth_lasting)))
    (pG_Growth_lasting : PySem.W.specialIn K (.ref p_Growth_lasting) "__get__" = some (some (.builtin "property.__get__")))
    (pT_Growth_lasting : PySem.W.takesIn K (.ref p_Growth_lasting) = some true)
    (pR_Growth_lasting : PySem.W.recIn K p_Growth_lasting "property" = some (.ref f_Growth_lasting :: rest_Growth_lasting))
    (l_Growth_lasting : K.lookup f_Growth_lasting = some ⟨oc_Growth_lasting, od_Growth_lasting, .func (PySem.W.fnOf "lasting" "Growth.lasting" (defArgs s_Growth_lasting) (defBody s_Growth_lasting) (defScope s_Growth_lasting) .none kV_Growth_lasting dc_Growth_lasting pm_Growth_lasting an_Growth_lasting cd_Growth_lasting ct_Growth_lasting), sl_Growth_lasting⟩)
    (c_Growth_lasting : PySem.W.codeIn K cd_Growth_lasting "Growth.lasting" = true)
    (k_Growth_lasting : PySem.W.keepIn K (.ref f_Growth_lasting) = true)
    (a_Growth_is_endless : PySem.W.findIn K (.ref c_Growth) "is_endless" = some (some (.ref p_Growth_is_endless)))
    (pG_Growth_is_endless : PySem.W.specialIn K (.ref p_Growth_is_endless) "__get__" = some (some (.builtin "property.__get__")))
    (pT_Growth_is_endless : PySem.W.takesIn K (.ref p_Growth_is_endless) = some true)
    (pR_Growth_is_endless : PySem.W.recIn K p_Growth_is_endless "property" = some (.ref f_Growth_is_endless :: rest_Growth_is_endless))
    (l_Growth_is_endless : K.lookup f_Growth_is_endless = some ⟨oc_Growth_is_endless, od_Growth_is_endless, .func (PySem.W.fnOf "is_endless" "Growth.is_endless" (defArgs s_Growth_is_endless) (defBody s_Growth_is_endless) (defScope s_Growth_is_endless) .none kV_Growth_is_endless dc_Growth_is_endless pm_Growth_is_endless an_Growth_is_endless cd_Growth_is_endless ct_Growth_is_endless), sl_Growth_is_endless⟩)
    (c_Growth_is_endless : PySem.W.codeIn K cd_Growth_is_endless "Growth.is_endless" = true)
    (k_Growth_is_endless : PySem.W.keepIn K (.ref f_Growth_is_endless) = true)
    (a_Growth_greatest : PySem.W.findIn K (.ref c_Growth) "greatest" = some (some (.ref p_Growth_greatest)))
    (pG_Growth_greatest : PySem.W.specialIn K (.ref p_Growth_greatest) "__get__" = some (some (.builtin "property.__get__")))
    (pT_Growth_greatest : PySem.W.takesIn K (.ref p_Growth_greatest) = some true)
    (pR_Growth_greatest : PySem.W.recIn K p_Growth_greatest "property" = some (.ref f_Growth_greatest :: rest_Growth_greatest))
    (l_Growth_greatest : K.lookup f_Growth_greatest = some ⟨oc_Growth_greatest, od_Growth_greatest, .func (PySem.W.fnOf "greatest" "Growth.greatest" (defArgs s_Growth_greatest) (defBody s_Growth_greatest) (defScope s_Growth_greatest) .none kV_Growth_greatest dc_Growth_greatest pm_Growth_greatest an_Growth_greatest cd_Growth_greatest ct_Growth_greatest), sl_Growth_greatest⟩)
    (c_Growth_greatest : PySem.W.codeIn K cd_Growth_greatest "Growth.greatest" = true)
    (k_Growth_greatest : PySem.W.keepIn K (.ref f_Growth_greatest) = true)
    (a_Growth_slope : PySem.W.findIn K (.ref c_Growth) "slope" = some (some (.ref p_Growth_slope)))
    (pG_Growth_slope : PySem.W.specialIn K (.ref p_Growth_slope) "__get__" = some (some (.builtin "property.__get__")))
    (pT_Growth_slope : PySem.W.takesIn K (.ref p_Growth_slope) = some true)
    (pR_Growth_slope : PySem.W.recIn K p_Growth_slope "property" = some (.ref f_Growth_slope :: rest_Growth_slope))
    (l_Growth_slope : K.lookup f_Growth_slope = some ⟨oc_Growth_slope, od_Growth_slope, .func (PySem.W.fnOf "slope" "Growth.slope" (defArgs s_Growth_slope) (defBody s_Growth_slope) (defScope s_Growth_slope) .none kV_Growth_slope dc_Growth_slope pm_Growth_slope an_Growth_slope cd_Growth_slope ct_Growth_slope), sl_Growth_slope⟩)
    (c_Growth_slope : PySem.W.codeIn K cd_Growth_slope "Growth.slope" = true)
    (k_Growth_slope : PySem.W.keepIn K (.ref f_Growth_slope) = true)
    (a_law_pen : PySem.W.nsIn K mainGlobals "_law_pen" = some (some (.ref f_law_pen)))
    (l_law_pen : K.lookup f_law_pen = some ⟨oc_law_pen, od_law_pen, .func (PySem.W.fnOf "_law_pen" "_law_pen" (defArgs s_law_pen) (defBody s_law_pen) (defScope s_law_pen) .none kV_law_pen dc_law_pen pm_law_pen an_law_pen cd_law_pen ct_law_pen), sl_law_pen⟩)
    (c_law_pen : PySem.W.codeIn K cd_law_pen "_law_pen" = true)
    (k_law_pen : PySem.W.keepIn K (.ref f_law_pen) = true)
    (a_law_draw : PySem.W.nsIn K mainGlobals "_law_draw" = some (some (.ref f_law_draw)))
    (l_law_draw : K.lookup f_law_draw = some ⟨oc_law_draw, od_law_draw, .func (PySem.W.fnOf "_law_draw" "_law_draw" (defArgs s_law_draw) (defBody s_law_draw) (defScope s_law_draw) .none kV_law_draw dc_law_draw pm_law_draw an_law_draw cd_law_draw ct_law_draw), sl_law_draw⟩)
    (c_law_draw : PySem.W.codeIn K cd_law_draw "_law_draw" = true)
    (k_law_draw : PySem.W.keepIn K (.ref f_law_draw) = true)
    (a_law_pick : PySem.W.nsIn K mainGlobals "_law_pick" = some (some (.ref f_law_pick)))
    (l_law_pick : K.lookup f_law_pick = some ⟨oc_law_pick, od_law_pick, .func (PySem.W.fnOf "_law_pick" "_law_pick" (defArgs s_law_pick) (defBody s_law_pick) (defScope s_law_pick) .none kV_law_pick dc_law_pick pm_law_pick an_law_pick cd_law_pick ct_law_pick), sl_law_pick⟩)
    (c_law_pick : PySem.W.codeIn K cd_law_pick "_law_pick" = true)
    (k_law_pick : PySem.W.keepIn K (.ref f_law_pick) = true)
    (a_law_told : PySem.W.nsIn K mainGlobals "_law_told" = some (some (.ref f_law_told)))
    (l_law_told : K.lookup f_law_told = some ⟨oc_law_told, od_law_told, .func (PySem.W.fnOf "_law_told" "_law_told" (defArgs s_law_told) (defBody s_law_told) (defScope s_law_told) .none kV_law_told dc_law_told pm_law_told an_law_told cd_law_told ct_law_told), sl_law_told⟩)
    (c_law_told : PySem.W.codeIn K cd_law_told "_law_told" = true)
    (k_law_told : PySem.W.keepIn K (.ref f_law_told) = true)
    (a_law_lasting : PySem.W.nsIn K mainGlobals "_law_lasting" = some (some (.ref f_law_lasting)))
    (l_law_lasting : K.lookup f_law_lasting = some ⟨oc_law_lasting, od_law_lasting, .func (PySem.W.fnOf "_law_lasting" "_law_lasting" (defArgs s_law_lasting) (defBody s_law_lasting) (defScope s_law_lasting) .none kV_law_lasting dc_law_lasting pm_law_lasting an_law_lasting cd_law_lasting ct_law_lasting), sl_law_lasting⟩)
    (c_law_lasting : PySem.W.codeIn K cd_law_lasting "_law_lasting" = true)
    (k_law_lasting : PySem.W.keepIn K (.ref f_law_lasting) = true)
    (a_law_right : PySem.W.nsIn K mainGlobals "_law_right" = some (some (.ref f_law_right)))
    (l_law_right : K.lookup f_law_right = some ⟨oc_law_right, od_law_right, .func (PySem.W.fnOf "_law_right" "_law_right" (defArgs s_law_right) (defBody s_law_right) (defScope s_law_right) .none kV_law_right dc_law_right pm_law_right an_law_right cd_law_right ct_law_right), sl_law_right⟩)
    (c_law_right : PySem.W.codeIn K cd_law_right "_law_right" = true)
    (k_law_right : PySem.W.keepIn K (.ref f_law_right) = true)
    (a_law : PySem.W.nsIn K mainGlobals "law" = some (some (.ref f_law)))
    (l_law : K.lookup f_law = some ⟨oc_law, od_law, .func (PySem.W.fnOf "law" "law" (defArgs s_law) (defBody s_law) (defScope s_law) .none kV_law dc_law pm_law an_law cd_law ct_law), sl_law⟩)
    (c_law : PySem.W.codeIn K cd_law "law" = true)
    (k_law : PySem.W.keepIn K (.ref f_law) = true)
    (ai_MOST_GAINS : PySem.W.nsIn K mainGlobals "MOST_GAINS" = some (some (.int 60 tgi_MOST_GAINS)))
    (ai_MOST_TOLD : PySem.W.nsIn K mainGlobals "MOST_TOLD" = some (some (.int 4000 tgi_MOST_TOLD)))
    (rs_Growth : PySem.W.readsIn K c_Growth (.type "type") = true)
    (ga_Growth : PySem.W.specialIn K (.ref c_Growth) "__getattribute__" = some (some (.builtin "type.__getattribute__")))
    (pg_Growth : PySem.W.plainGet K c_Growth Str.empty = true)
    (hd_Growth : PySem.W.hasDictIn K c_Growth = true)
    (po_Growth : PySem.W.plainOver K c_Growth = true)
    (sa_Growth : PySem.W.findIn K (.ref c_Growth) "__setattr__" = some (some (.builtin "object.__setattr__")))
    (mk_Growth : PySem.W.makesIn K c_Growth = true)
    (kc_Growth : PySem.W.keepIn K (.ref c_Growth) = true)
    (na_told : PySem.W.findIn K (.ref c_Growth) "told" = some none)
    (na_gains : PySem.W.findIn K (.ref c_Growth) "gains" = some none)
    (zb_abs : PySem.W.nsIn K mainGlobals "abs" = some none)
    (zb_all : PySem.W.nsIn K mainGlobals "all" = some none)
    (zb_any : PySem.W.nsIn K mainGlobals "any" = some none)
    (zb_bool : PySem.W.nsIn K mainGlobals "bool" = some none)
    (zb_int : PySem.W.nsIn K mainGlobals "int" = some none)
    (zb_isinstance : PySem.W.nsIn K mainGlobals "isinstance" = some none)
    (zb_len : PySem.W.nsIn K mainGlobals "len" = some none)
    (zb_list : PySem.W.nsIn K mainGlobals "list" = some none)
    (zb_max : PySem.W.nsIn K mainGlobals "max" = some none)
    (zb_min : PySem.W.nsIn K mainGlobals "min" = some none)
    (zb_range : PySem.W.nsIn K mainGlobals "range" = some none)
    (zb_repr : PySem.W.nsIn K mainGlobals "repr" = some none)
    (zb_tuple : PySem.W.nsIn K mainGlobals "tuple" = some none)
    : ∃ fd : FuncData, (∀ (s : Shared) (v : Value), BindsTo s fd ⟨[v], []⟩ [("_law_script", v)]) ∧ ∀ base : Heap, K.In base → base.Ns mainGlobals mg → FnG l.prog w K mg base CX0 13 fa fd ["_law_script"] (spLaw K) := by
  have e := hfa.symm.trans (PySem.W.mg_of X G a_law)
  cases e
  have F_is_integer := fun_mk (st := s_is_integer) l_is_integer c_is_integer k_is_integer
  have B_is_integer := F_is_integer.binds (ps := ["value"]) fun _ _ _ _ _ _ us hl => match us, hl with | [_], _ => rfl
  have F_is_value := fun_mk (st := s_is_value) l_is_value c_is_value k_is_value
  have B_is_value := F_is_value.binds (ps := ["value"]) fun _ _ _ _ _ _ us hl => match us, hl with | [_], _ => rfl
  have F_is_list := fun_mk (st := s_is_list) l_is_list c_is_list k_is_list
  have B_is_list := F_is_list.binds (ps := ["value", "least"]) fun _ _ _ _ _ _ us hl => match us, hl with | [_, _], _ => rfl
  have F_added := fun_mk (st := s_added) l_added c_added k_added
  have B_added := F_added.binds (ps := ["value", "number"]) fun _ _ _ _ _ _ us hl => match us, hl with | [_, _], _ => rfl
  have F_value_at := fun_mk (st := s_value_at) l_value_at c_value_at k_value_at
  have B_value_at := F_value_at.binds (ps := ["told", "gains", "n"]) fun _ _ _ _ _ _ us hl => match us, hl with | [_, _, _], _ => rfl
  have F_step_between := fun_mk (st := s_step_between) l_step_between c_step_between k_step_between
  have B_step_between := F_step_between.binds (ps := ["low", "high"]) fun _ _ _ _ _ _ us hl => match us, hl with | [_, _], _ => rfl
  have F_gains_of := fun_mk (st := s_gains_of) l_gains_of c_gains_of k_gains_of
  have B_gains_of := F_gains_of.binds (ps := ["row", "origin", "period"]) fun _ _ _ _ _ _ us hl => match us, hl with | [_, _, _], _ => rfl
  have F_least_gains := fun_mk (st := s_least_gains) l_least_gains c_least_gains k_least_gains
  have B_least_gains := F_least_gains.binds (ps := ["row", "origin", "period"]) fun _ _ _ _ _ _ us hl => match us, hl with | [_, _, _], _ => rfl
  have F_trimmed := fun_mk (st := s_trimmed) l_trimmed c_trimmed k_trimmed
  have B_trimmed := F_trimmed.binds (ps := ["told", "gains"]) fun _ _ _ _ _ _ us hl => match us, hl with | [_, _], _ => rfl
  have F_normal_form := fun_mk (st := s_normal_form) l_normal_form c_normal_form k_normal_form
  have B_normal_form := F_normal_form.binds (ps := ["told", "gains"]) fun _ _ _ _ _ _ us hl => match us, hl with | [_, _], _ => rfl
  have F_shared_multiple := fun_mk (st := s_shared_multiple) l_shared_multiple c_shared_multiple k_shared_multiple
  have B_shared_multiple := F_shared_multiple.binds (ps := ["one", "other"]) fun _ _ _ _ _ _ us hl => match us, hl with | [_, _], _ => rfl
  have F_need_integer := fun_mk (st := s_need_integer) l_need_integer c_need_integer k_need_integer
  have B_need_integer := F_need_integer.binds (ps := ["number"]) fun _ _ _ _ _ _ us hl => match us, hl with | [_], _ => rfl
  have F_Growth_init := funD_mk (st := s_Growth_init) (dvs := [.ref dt_Growth_init_0]) (its := [.ref dt_Growth_init_0]) l_Growth_init lT_Growth_init (.cons rfl .nil) (by simp) c_Growth_init k_Growth_init
  have B_Growth_init : Binds K (PySem.W.fnOf "__init__" "Growth.__init__" (defArgs s_Growth_init) (defBody s_Growth_init) (defScope s_Growth_init) (.ref T_Growth_init) kV_Growth_init dc_Growth_init pm_Growth_init an_Growth_init cd_Growth_init ct_Growth_init) ["self", "told", "gains"] [] := by
    obtain ⟨ds, v, b⟩ := F_Growth_init.binds1 (ps := ["self", "told", "gains"]) 3 1 (by simp) rfl fun _ _ _ _ _ _ _ us its h1 h2 => match us, its, h1, h2 with | [_, _, _], [_], _, _ => ⟨_, rfl, rfl⟩
    cases v
    exact b
  have F_Growth_constant := fun_mk (st := s_Growth_constant) l_Growth_constant c_Growth_constant k_Growth_constant
  have B_Growth_constant := F_Growth_constant.binds (ps := ["k"]) fun _ _ _ _ _ _ us hl => match us, hl with | [_], _ => rfl
  have F_Growth_ramp := funD_mk (st := s_Growth_ramp) (dvs := [.int 0]) (its := [.int 0 tk0_Growth_ramp]) l_Growth_ramp lT_Growth_ramp (.cons ⟨_, rfl⟩ .nil) (by simp) c_Growth_ramp k_Growth_ramp
  have B_Growth_ramp : Binds K (PySem.W.fnOf "ramp" "Growth.ramp" (defArgs s_Growth_ramp) (defBody s_Growth_ramp) (defScope s_Growth_ramp) (.ref T_Growth_ramp) kV_Growth_ramp dc_Growth_ramp pm_Growth_ramp an_Growth_ramp cd_Growth_ramp ct_Growth_ramp) ["gain", "begin"] [] := by
    obtain ⟨ds, v, b⟩ := F_Growth_ramp.binds1 (ps := ["gain", "begin"]) 2 1 (by simp) rfl fun _ _ _ _ _ _ _ us its h1 h2 => match us, its, h1, h2 with | [_, _], [_], _, _ => ⟨_, rfl, rfl⟩
    cases v
    exact b
  have F_Growth_none := fun_mk (st := s_Growth_none) l_Growth_none c_Growth_none k_Growth_none
  have B_Growth_none := F_Growth_none.binds (ps := []) fun _ _ _ _ _ _ us hl => match us, hl with | [], _ => rfl
  have F_Growth_period := fun_mk (st := s_Growth_period) l_Growth_period c_Growth_period k_Growth_period
  have B_Growth_period := F_Growth_period.binds (ps := ["self"]) fun _ _ _ _ _ _ us hl => match us, hl with | [_], _ => rfl
  have F_Growth_lasting := fun_mk (st := s_Growth_lasting) l_Growth_lasting c_Growth_lasting k_Growth_lasting
  have B_Growth_lasting := F_Growth_lasting.binds (ps := ["self"]) fun _ _ _ _ _ _ us hl => match us, hl with | [_], _ => rfl
  have F_Growth_is_endless := fun_mk (st := s_Growth_is_endless) l_Growth_is_endless c_Growth_is_endless k_Growth_is_endless
  have B_Growth_is_endless := F_Growth_is_endless.binds (ps := ["self"]) fun _ _ _ _ _ _ us hl => match us, hl with | [_], _ => rfl
  have F_Growth_greatest := fun_mk (st := s_Growth_greatest) l_Growth_greatest c_Growth_greatest k_Growth_greatest
  have B_Growth_greatest := F_Growth_greatest.binds (ps := ["self"]) fun _ _ _ _ _ _ us hl => match us, hl with | [_], _ => rfl
  have F_Growth_slope := fun_mk (st := s_Growth_slope) l_Growth_slope c_Growth_slope k_Growth_slope
  have B_Growth_slope := F_Growth_slope.binds (ps := ["self"]) fun _ _ _ _ _ _ us hl => match us, hl with | [_], _ => rfl
  have F_law_pen := fun_mk (st := s_law_pen) l_law_pen c_law_pen k_law_pen
  have B_law_pen := F_law_pen.binds (ps := ["_law_script"]) fun _ _ _ _ _ _ us hl => match us, hl with | [_], _ => rfl
  have F_law_draw := fun_mk (st := s_law_draw) l_law_draw c_law_draw k_law_draw
  have B_law_draw := F_law_draw.binds (ps := ["_law_pen_here", "_law_many"]) fun _ _ _ _ _ _ us hl => match us, hl with | [_, _], _ => rfl
  have F_law_pick := fun_mk (st := s_law_pick) l_law_pick c_law_pick k_law_pick
  have B_law_pick := F_law_pick.binds (ps := ["_law_pen_here", "_law_some_here"]) fun _ _ _ _ _ _ us hl => match us, hl with | [_, _], _ => rfl
  have F_law_told := fun_mk (st := s_law_told) l_law_told c_law_told k_law_told
  have B_law_told := F_law_told.binds (ps := ["_law_pen_here"]) fun _ _ _ _ _ _ us hl => match us, hl with | [_], _ => rfl
  have F_law_lasting := fun_mk (st := s_law_lasting) l_law_lasting c_law_lasting k_law_lasting
  have B_law_lasting := F_law_lasting.binds (ps := ["_law_pair"]) fun _ _ _ _ _ _ us hl => match us, hl with | [_], _ => rfl
  have F_law_right := fun_mk (st := s_law_right) l_law_right c_law_right k_law_right
  have B_law_right := F_law_right.binds (ps := ["_law_pair"]) fun _ _ _ _ _ _ us hl => match us, hl with | [_], _ => rfl
  have F_law := fun_mk (st := s_law) l_law c_law k_law
  have cl_Growth : Cls K c_Growth := ⟨pg_Growth, hd_Growth, po_Growth, sa_Growth⟩
  let A : Ad := { c_Growth := c_Growth, p_Growth_period := p_Growth_period, p_Growth_lasting := p_Growth_lasting, p_Growth_is_endless := p_Growth_is_endless, p_Growth_greatest := p_Growth_greatest, p_Growth_slope := p_Growth_slope, m_Growth_constant := m_Growth_constant, m_Growth_ramp := m_Growth_ramp, m_Growth_none := m_Growth_none, dt_Growth_init_0 := dt_Growth_init_0, f_is_integer := f_is_integer, f_is_value := f_is_value, f_is_list := f_is_list, f_added := f_added, f_value_at := f_value_at, f_step_between := f_step_between, f_gains_of := f_gains_of, f_least_gains := f_least_gains, f_trimmed := f_trimmed, f_normal_form := f_normal_form, f_shared_multiple := f_shared_multiple, f_need_integer := f_need_integer, f_Growth_init := f_Growth_init, f_Growth_constant := f_Growth_constant, f_Growth_ramp := f_Growth_ramp, f_Growth_none := f_Growth_none, f_Growth_period := f_Growth_period, f_Growth_lasting := f_Growth_lasting, f_Growth_is_endless := f_Growth_is_endless, f_Growth_greatest := f_Growth_greatest, f_Growth_slope := f_Growth_slope, f_law_pen := f_law_pen, f_law_draw := f_law_draw, f_law_pick := f_law_pick, f_law_told := f_law_told, f_law_lasting := f_law_lasting, f_law_right := f_law_right, f_law := fa, d_is_integer := PySem.W.fnOf "is_integer" "is_integer" (defArgs s_is_integer) (defBody s_is_integer) (defScope s_is_integer) .none kV_is_integer dc_is_integer pm_is_integer an_is_integer cd_is_integer ct_is_integer, d_is_value := PySem.W.fnOf "is_value" "is_value" (defArgs s_is_value) (defBody s_is_value) (defScope s_is_value) .none kV_is_value dc_is_value pm_is_value an_is_value cd_is_value ct_is_value, d_is_list := PySem.W.fnOf "is_list" "is_list" (defArgs s_is_list) (defBody s_is_list) (defScope s_is_list) .none kV_is_list dc_is_list pm_is_list an_is_list cd_is_list ct_is_list, d_added := PySem.W.fnOf "added" "added" (defArgs s_added) (defBody s_added) (defScope s_added) .none kV_added dc_added pm_added an_added cd_added ct_added, d_value_at := PySem.W.fnOf "value_at" "value_at" (defArgs s_value_at) (defBody s_value_at) (defScope s_value_at) .none kV_value_at dc_value_at pm_value_at an_value_at cd_value_at ct_value_at, d_step_between := PySem.W.fnOf "step_between" "step_between" (defArgs s_step_between) (defBody s_step_between) (defScope s_step_between) .none kV_step_between dc_step_between pm_step_between an_step_between cd_step_between ct_step_between, d_gains_of := PySem.W.fnOf "gains_of" "gains_of" (defArgs s_gains_of) (defBody s_gains_of) (defScope s_gains_of) .none kV_gains_of dc_gains_of pm_gains_of an_gains_of cd_gains_of ct_gains_of, d_least_gains := PySem.W.fnOf "least_gains" "least_gains" (defArgs s_least_gains) (defBody s_least_gains) (defScope s_least_gains) .none kV_least_gains dc_least_gains pm_least_gains an_least_gains cd_least_gains ct_least_gains, d_trimmed := PySem.W.fnOf "trimmed" "trimmed" (defArgs s_trimmed) (defBody s_trimmed) (defScope s_trimmed) .none kV_trimmed dc_trimmed pm_trimmed an_trimmed cd_trimmed ct_trimmed, d_normal_form := PySem.W.fnOf "normal_form" "normal_form" (defArgs s_normal_form) (defBody s_normal_form) (defScope s_normal_form) .none kV_normal_form dc_normal_form pm_normal_form an_normal_form cd_normal_form ct_normal_form, d_shared_multiple := PySem.W.fnOf "shared_multiple" "shared_multiple" (defArgs s_shared_multiple) (defBody s_shared_multiple) (defScope s_shared_multiple) .none kV_shared_multiple dc_shared_multiple pm_shared_multiple an_shared_multiple cd_shared_multiple ct_shared_multiple, d_need_integer := PySem.W.fnOf "need_integer" "need_integer" (defArgs s_need_integer) (defBody s_need_integer) (defScope s_need_integer) .none kV_need_integer dc_need_integer pm_need_integer an_need_integer cd_need_integer ct_need_integer, d_Growth_init := PySem.W.fnOf "__init__" "Growth.__init__" (defArgs s_Growth_init) (defBody s_Growth_init) (defScope s_Growth_init) (.ref T_Growth_init) kV_Growth_init dc_Growth_init pm_Growth_init an_Growth_init cd_Growth_init ct_Growth_init, d_Growth_constant := PySem.W.fnOf "constant" "Growth.constant" (defArgs s_Growth_constant) (defBody s_Growth_constant) (defScope s_Growth_constant) .none kV_Growth_constant dc_Growth_constant pm_Growth_constant an_Growth_constant cd_Growth_constant ct_Growth_constant, d_Growth_ramp := PySem.W.fnOf "ramp" "Growth.ramp" (defArgs s_Growth_ramp) (defBody s_Growth_ramp) (defScope s_Growth_ramp) (.ref T_Growth_ramp) kV_Growth_ramp dc_Growth_ramp pm_Growth_ramp an_Growth_ramp cd_Growth_ramp ct_Growth_ramp, d_Growth_none := PySem.W.fnOf "none" "Growth.none" (defArgs s_Growth_none) (defBody s_Growth_none) (defScope s_Growth_none) .none kV_Growth_none dc_Growth_none pm_Growth_none an_Growth_none cd_Growth_none ct_Growth_none, d_Growth_period := PySem.W.fnOf "period" "Growth.period" (defArgs s_Growth_period) (defBody s_Growth_period) (defScope s_Growth_period) .none kV_Growth_period dc_Growth_period pm_Growth_period an_Growth_period cd_Growth_period ct_Growth_period, d_Growth_lasting := PySem.W.fnOf "lasting" "Growth.lasting" (defArgs s_Growth_lasting) (defBody s_Growth_lasting) (defScope s_Growth_lasting) .none kV_Growth_lasting dc_Growth_lasting pm_Growth_lasting an_Growth_lasting cd_Growth_lasting ct_Growth_lasting, d_Growth_is_endless := PySem.W.fnOf "is_endless" "Growth.is_endless" (defArgs s_Growth_is_endless) (defBody s_Growth_is_endless) (defScope s_Growth_is_endless) .none kV_Growth_is_endless dc_Growth_is_endless pm_Growth_is_endless an_Growth_is_endless cd_Growth_is_endless ct_Growth_is_endless, d_Growth_greatest := PySem.W.fnOf "greatest" "Growth.greatest" (defArgs s_Growth_greatest) (defBody s_Growth_greatest) (defScope s_Growth_greatest) .none kV_Growth_greatest dc_Growth_greatest pm_Growth_greatest an_Growth_greatest cd_Growth_greatest ct_Growth_greatest, d_Growth_slope := PySem.W.fnOf "slope" "Growth.slope" (defArgs s_Growth_slope) (defBody s_Growth_slope) (defScope s_Growth_slope) .none kV_Growth_slope dc_Growth_slope pm_Growth_slope an_Growth_slope cd_Growth_slope ct_Growth_slope, d_law_pen := PySem.W.fnOf "_law_pen" "_law_pen" (defArgs s_law_pen) (defBody s_law_pen) (defScope s_law_pen) .none kV_law_pen dc_law_pen pm_law_pen an_law_pen cd_law_pen ct_law_pen, d_law_draw := PySem.W.fnOf "_law_draw" "_law_draw" (defArgs s_law_draw) (defBody s_law_draw) (defScope s_law_draw) .none kV_law_draw dc_law_draw pm_law_draw an_law_draw cd_law_draw ct_law_draw, d_law_pick := PySem.W.fnOf "_law_pick" "_law_pick" (defArgs s_law_pick) (defBody s_law_pick) (defScope s_law_pick) .none kV_law_pick dc_law_pick pm_law_pick an_law_pick cd_law_pick ct_law_pick, d_law_told := PySem.W.fnOf "_law_told" "_law_told" (defArgs s_law_told) (defBody s_law_told) (defScope s_law_told) .none kV_law_told dc_law_told pm_law_told an_law_told cd_law_told ct_law_told, d_law_lasting := PySem.W.fnOf "_law_lasting" "_law_lasting" (defArgs s_law_lasting) (defBody s_law_lasting) (defScope s_law_lasting) .none kV_law_lasting dc_law_lasting pm_law_lasting an_law_lasting cd_law_lasting ct_law_lasting, d_law_right := PySem.W.fnOf "_law_right" "_law_right" (defArgs s_law_right) (defBody s_law_right) (defScope s_law_right) .none kV_law_right dc_law_right pm_law_right an_law_right cd_law_right ct_law_right, d_law := PySem.W.fnOf "law" "law" (defArgs s_law) (defBody s_law) (defScope s_law) .none kV_law dc_law pm_law an_law cd_law ct_law }
  have T : Txt K mg A := {
    kf := ⟨⟨pg_Growth, hd_Growth, po_Growth, sa_Growth⟩, na_told, na_gains, fun H => .k _ _ _ ldt_Growth_init_0 rf_oD_Growth_init_0 rfl (by show 1 ≤ sizeLine; decide) (.cons ⟨_, rfl⟩ .nil)⟩
    b_abs := PySem.W.mg_none_of X G zb_abs
    b_all := PySem.W.mg_none_of X G zb_all
    b_any := PySem.W.mg_none_of X G zb_any
    b_bool := PySem.W.mg_none_of X G zb_bool
    b_int := PySem.W.mg_none_of X G zb_int
    b_isinstance := PySem.W.mg_none_of X G zb_isinstance
    b_len := PySem.W.mg_none_of X G zb_len
    b_list := PySem.W.mg_none_of X G zb_list
    b_max := PySem.W.mg_none_of X G zb_max
    b_min := PySem.W.mg_none_of X G zb_min
    b_range := PySem.W.mg_none_of X G zb_range
    b_repr := PySem.W.mg_none_of X G zb_repr
    b_tuple := PySem.W.mg_none_of X G zb_tuple
    g_Growth := PySem.W.mg_of X G aC_Growth
    M_Growth := ⟨mk_Growth, a_Growth_init, i_Growth_init, kc_Growth⟩
    cl_Growth := cl_Growth
    g_is_integer := PySem.W.mg_of X G a_is_integer
    F_is_integer := F_is_integer
    B_is_integer := B_is_integer
    g_is_value := PySem.W.mg_of X G a_is_value
    F_is_value := F_is_value
    B_is_value := B_is_value
    g_is_list := PySem.W.mg_of X G a_is_list
    F_is_list := F_is_list
    B_is_list := B_is_list
    g_added := PySem.W.mg_of X G a_added
    F_added := F_added
    B_added := B_added
    g_value_at := PySem.W.mg_of X G a_value_at
    F_value_at := F_value_at
    B_value_at := B_value_at
    g_step_between := PySem.W.mg_of X G a_step_between
    F_step_between := F_step_between
    B_step_between := B_step_between
    g_gains_of := PySem.W.mg_of X G a_gains_of
    F_gains_of := F_gains_of
    B_gains_of := B_gains_of
    g_least_gains := PySem.W.mg_of X G a_least_gains
    F_least_gains := F_least_gains
    B_least_gains := B_least_gains
    g_trimmed := PySem.W.mg_of X G a_trimmed
    F_trimmed := F_trimmed
    B_trimmed := B_trimmed
    g_normal_form := PySem.W.mg_of X G a_normal_form
    F_normal_form := F_normal_form
    B_normal_form := B_normal_form
    g_shared_multiple := PySem.W.mg_of X G a_shared_multiple
    F_shared_multiple := F_shared_multiple
    B_shared_multiple := B_shared_multiple
    g_need_integer := PySem.W.mg_of X G a_need_integer
    F_need_integer := F_need_integer
    B_need_integer := B_need_integer
    F_Growth_init := F_Growth_init
    B_Growth_init := B_Growth_init
    F_Growth_constant := F_Growth_constant
    B_Growth_constant := B_Growth_constant
    F_Growth_ramp := F_Growth_ramp
    B_Growth_ramp := B_Growth_ramp
    F_Growth_none := F_Growth_none
    B_Growth_none := B_Growth_none
    F_Growth_period := F_Growth_period
    B_Growth_period := B_Growth_period
    F_Growth_lasting := F_Growth_lasting
    B_Growth_lasting := B_Growth_lasting
    F_Growth_is_endless := F_Growth_is_endless
    B_Growth_is_endless := B_Growth_is_endless
    F_Growth_greatest := F_Growth_greatest
    B_Growth_greatest := B_Growth_greatest
    F_Growth_slope := F_Growth_slope
    B_Growth_slope := B_Growth_slope
    g_law_pen := PySem.W.mg_of X G a_law_pen
    F_law_pen := F_law_pen
    B_law_pen := B_law_pen
    g_law_draw := PySem.W.mg_of X G a_law_draw
    F_law_draw := F_law_draw
    B_law_draw := B_law_draw
    g_law_pick := PySem.W.mg_of X G a_law_pick
    F_law_pick := F_law_pick
    B_law_pick := B_law_pick
    g_law_told := PySem.W.mg_of X G a_law_told
    F_law_told := F_law_told
    B_law_told := B_law_told
    g_law_lasting := PySem.W.mg_of X G a_law_lasting
    F_law_lasting := F_law_lasting
    B_law_lasting := B_law_lasting
    g_law_right := PySem.W.mg_of X G a_law_right
    F_law_right := F_law_right
    B_law_right := B_law_right
    F_law := F_law
    s_Growth_constant := ⟨⟨_, rs_Growth, sr_Growth_constant⟩, ga_Growth, ⟨_, sR_Growth_constant⟩, k_Growth_constant⟩
    s_Growth_ramp := ⟨⟨_, rs_Growth, sr_Growth_ramp⟩, ga_Growth, ⟨_, sR_Growth_ramp⟩, k_Growth_ramp⟩
    s_Growth_none := ⟨⟨_, rs_Growth, sr_Growth_none⟩, ga_Growth, ⟨_, sR_Growth_none⟩, k_Growth_none⟩
    gi_MOST_GAINS := ⟨_, PySem.W.mg_of X G ai_MOST_GAINS⟩
    gi_MOST_TOLD := ⟨_, PySem.W.mg_of X G ai_MOST_TOLD⟩
    D1_Growth := F_Growth_init.binds1 (ps := ["self", "told", "gains"]) 2 0 (by simp) rfl fun _ _ _ _ _ _ _ us its h1 h2 => match us, its, h1, h2 with | [_, _], [_], _, _ => ⟨_, rfl, rfl⟩
    D1_Growth_ramp := F_Growth_ramp.binds1 (ps := ["gain", "begin"]) 1 0 (by simp) rfl fun _ _ _ _ _ _ _ us its h1 h2 => match us, its, h1, h2 with | [_], [_], _, _ => ⟨_, rfl, rfl⟩
    p_Growth_period := ⟨a_Growth_period, pG_Growth_period, pT_Growth_period, _, pR_Growth_period⟩
    p_Growth_lasting := ⟨a_Growth_lasting, pG_Growth_lasting, pT_Growth_lasting, _, pR_Growth_lasting⟩
    p_Growth_is_endless := ⟨a_Growth_is_endless, pG_Growth_is_endless, pT_Growth_is_endless, _, pR_Growth_is_endless⟩
    p_Growth_greatest := ⟨a_Growth_greatest, pG_Growth_greatest, pT_Growth_greatest, _, pR_Growth_greatest⟩
    p_Growth_slope := ⟨a_Growth_slope, pG_Growth_slope, pT_Growth_slope, _, pR_Growth_slope⟩
  }
  exact ⟨_, fun s v => .of_eq rfl, fun base _ _ => ok_all T⟩

theorem walk {l : PySem.W.OpenLaw} {q : Program} {loose : List Str} {XP : (Str → Option Value) → Heap → Prop} {YP : World → Heap → Prop} {d : DefRec} {K : Params → PySem.W.Frag} (hn : l.most = some 63) (hdf : d.params.defaults = [])
    (hY : ∀ (w : World) (h : Heap), YP w h → (K w.params).In h)
    (F : ∀ (w : World) (mg : Str → Option Value) (fa : Addr) (h : Heap), (K w.params).In h → h.Ns mainGlobals mg → mg d.name = some (.ref fa) →
      ∃ fd : FuncData, (∀ (s : Shared) (u : Value), BindsTo s fd ⟨[u], []⟩ [("_law_script", u)]) ∧ ∀ base : Heap, (K w.params).In base → base.Ns mainGlobals mg → FnG l.prog w (K w.params) mg base CX0 13 fa fd ["_law_script"] (spLaw (K w.params))) :
    PySem.W.WalkO q loose XP YP l.row.toRowW d [] (fun f vs => PySem.call f vs) :=
  walkG (n := 63) (k := 13) (x := "_law_script") (CX := fun _ => CX0) (sp := fun w => spLaw (K w.params)) hn (by decide) hdf ⟨rfl, by decide, by decide⟩ hY F (fun w H a ns hl hS hH => ⟨⟨ns, hS⟩, fun _ => rfl⟩) fun _ _ _ _ _ z => z

end HG

open PySem PySem.W PyProof.Rows
set_option maxRecDepth 100000 in
set_option maxHeartbeats 0 in
theorem PySem.Challenge.cw_headgap_k11_greatest_and_slope_holds : PySem.Challenge.rw_headgap_k11_greatest_and_slope.Holds := by
  w_on; o_law; k_head; (case hw => w_witness2)
  k_fill
  refine HG.walk (l := PySem.Challenge.rw_headgap_k11_greatest_and_slope) rfl rfl (fun w h Y => PySem.W.kIn_of Y) ?F
  case F =>
    intro w mg fa h KX G hmg
    refine' HG.all_mk KX G hmg ?aC_Growth ?a_is_integer ?l_is_integer ?c_is_integer ?k_is_integer ?a_is_value ?l_is_value ?c_is_value ?k_is_value ?a_is_list ?l_is_list ?c_is_list ?k_is_list ?a_added ?l_added ?c_added ?k_added ?a_value_at ?l_value_at ?c_value_at ?k_value_at ?a_step_between ?l_step_between ?c_step_between ?k_step_between ?a_gains_of ?l_gains_of ?c_gains_of ?k_gains_of ?a_least_gains ?l_least_gains ?c_least_gains ?k_least_gains ?a_trimmed ?l_trimmed ?c_trimmed ?k_trimmed ?a_normal_form ?l_normal_form ?c_normal_form ?k_normal_form ?a_shared_multiple ?l_shared_multiple ?c_shared_multiple ?k_shared_multiple ?a_need_integer ?l_need_integer ?c_need_integer ?k_need_integer ?a_Growth_init ?i_Growth_init ?l_Growth_init ?lT_Growth_init ?ldt_Growth_init_0 ?rf_oD_Growth_init_0 ?c_Growth_init ?k_Growth_init ?sr_Growth_constant ?sR_Growth_constant ?l_Growth_constant ?c_Growth_constant ?k_Growth_constant ?sr_Growth_ramp ?sR_Growth_ramp ?l_Growth_ramp ?lT_Growth_ramp ?c_Growth_ramp ?k_Growth_ramp ?sr_Growth_none ?sR_Growth_none ?l_Growth_none ?c_Growth_none ?k_Growth_none ?a_Growth_period ?pG_Growth_period ?pT_Growth_period ?pR_Growth_period ?l_Growth_period ?c_Growth_period ?k_Growth_period ?a_Growth_lasting ?pG_Growth_lasting ?pT_Growth_lasting ?pR_Growth_lasting ?l_Growth_lasting ?c_Growth_lasting ?k_Growth_lasting ?a_Growth_is_endless ?pG_Growth_is_endless ?pT_Growth_is_endless ?pR_Growth_is_endless ?l_Growth_is_endless ?c_Growth_is_endless ?k_Growth_is_endless ?a_Growth_greatest ?pG_Growth_greatest ?pT_Growth_greatest ?pR_Growth_greatest ?l_Growth_greatest ?c_Growth_greatest ?k_Growth_greatest ?a_Growth_slope ?pG_Growth_slope ?pT_Growth_slope ?pR_Growth_slope ?l_Growth_slope ?c_Growth_slope ?k_Growth_slope ?a_law_pen ?l_law_pen ?c_law_pen ?k_law_pen ?a_law_draw ?l_law_draw ?c_law_draw ?k_law_draw ?a_law_pick ?l_law_pick ?c_law_pick ?k_law_pick ?a_law_told ?l_law_told ?c_law_told ?k_law_told ?a_law_lasting ?l_law_lasting ?c_law_lasting ?k_law_lasting ?a_law_right ?l_law_right ?c_law_right ?k_law_right ?a_law ?l_law ?c_law ?k_law ?ai_MOST_GAINS ?ai_MOST_TOLD ?rs_Growth ?ga_Growth ?pg_Growth ?hd_Growth ?po_Growth ?sa_Growth ?mk_Growth ?kc_Growth ?na_told ?na_gains ?zb_abs ?zb_all ?zb_any ?zb_bool ?zb_int ?zb_isinstance ?zb_len ?zb_list ?zb_max ?zb_min ?zb_range ?zb_repr ?zb_tuple
    (case aC_Growth => k_is)
    (case a_is_integer => k_is)
    (case l_is_integer => k_is)
    (case c_is_integer => k_is)
    (case k_is_integer => k_is)
    (case a_is_value => k_is)
    (case l_is_value => k_is)
    (case c_is_value => k_is)
    (case k_is_value => k_is)
    (case a_is_list => k_is)
    (case l_is_list => k_is)
    (case c_is_list => k_is)
    (case k_is_list => k_is)
    (case a_added => k_is)
    (case l_added => k_is)
    (case c_added => k_is)
    (case k_added => k_is)
    (case a_value_at => k_is)
    (case l_value_at => k_is)
    (case c_value_at => k_is)
    (case k_value_at => k_is)
    (case a_step_between => k_is)
    (case l_step_between => k_is)
    (case c_step_between => k_is)
    (case k_step_between => k_is)
    (case a_gains_of => k_is)
    (case l_gains_of => k_is)
    (case c_gains_of => k_is)
    (case k_gains_of => k_is)
    (case a_least_gains => k_is)
    (case l_least_gains => k_is)
    (case c_least_gains => k_is)
    (case k_least_gains => k_is)
    (case a_trimmed => k_is)
    (case l_trimmed => k_is)
    (case c_trimmed => k_is)
    (case k_trimmed => k_is)
    (case a_normal_form => k_is)
    (case l_normal_form => k_is)
    (case c_normal_form => k_is)
    (case k_normal_form => k_is)
    (case a_shared_multiple => k_is)
    (case l_shared_multiple => k_is)
    (case c_shared_multiple => k_is)
    (case k_shared_multiple => k_is)
    (case a_need_integer => k_is)
    (case l_need_integer => k_is)
    (case c_need_integer => k_is)
    (case k_need_integer => k_is)
    (case a_Growth_init => k_is)
    (case i_Growth_init => k_is)
    (case l_Growth_init => k_is)
    (case lT_Growth_init => k_is)
    (case ldt_Growth_init_0 => k_is)
    (case rf_oD_Growth_init_0 => rfl)
    (case c_Growth_init => k_is)
    (case k_Growth_init => k_is)
    (case sr_Growth_constant => k_is)
    (case sR_Growth_constant => k_is)
    (case l_Growth_constant => k_is)
    (case c_Growth_constant => k_is)
    (case k_Growth_constant => k_is)
    (case sr_Growth_ramp => k_is)
    (case sR_Growth_ramp => k_is)
    (case l_Growth_ramp => k_is)
    (case lT_Growth_ramp => k_is)
    (case c_Growth_ramp => k_is)
    (case k_Growth_ramp => k_is)
    (case sr_Growth_none => k_is)
    (case sR_Growth_none => k_is)
    (case l_Growth_none => k_is)
    (case c_Growth_none => k_is)
    (case k_Growth_none => k_is)
    (case a_Growth_period => k_is)
    (case pG_Growth_period => k_is)
    (case pT_Growth_period => k_is)
    (case pR_Growth_period => k_is)
    (case l_Growth_period => k_is)
    (case c_Growth_period => k_is)
    (case k_Growth_period => k_is)
    (case a_Growth_lasting => k_is)
    (case pG_Growth_lasting => k_is)
    (case pT_Growth_lasting => k_is)
    (case pR_Growth_lasting => k_is)
    (case l_Growth_lasting => k_is)
    (case c_Growth_lasting => k_is)
    (case k_Growth_lasting => k_is)
    (case a_Growth_is_endless => k_is)
    (case pG_Growth_is_endless => k_is)
    (case pT_Growth_is_endless => k_is)
    (case pR_Growth_is_endless => k_is)
    (case l_Growth_is_endless => k_is)
    (case c_Growth_is_endless => k_is)
    (case k_Growth_is_endless => k_is)
    (case a_Growth_greatest => k_is)
    (case pG_Growth_greatest => k_is)
    (case pT_Growth_greatest => k_is)
    (case pR_Growth_greatest => k_is)
    (case l_Growth_greatest => k_is)
    (case c_Growth_greatest => k_is)
    (case k_Growth_greatest => k_is)
    (case a_Growth_slope => k_is)
    (case pG_Growth_slope => k_is)
    (case pT_Growth_slope => k_is)
    (case pR_Growth_slope => k_is)
    (case l_Growth_slope => k_is)
    (case c_Growth_slope => k_is)
    (case k_Growth_slope => k_is)
    (case a_law_pen => k_is)
    (case l_law_pen => k_is)
    (case c_law_pen => k_is)
    (case k_law_pen => k_is)
    (case a_law_draw => k_is)
    (case l_law_draw => k_is)
    (case c_law_draw => k_is)
    (case k_law_draw => k_is)
    (case a_law_pick => k_is)
    (case l_law_pick => k_is)
    (case c_law_pick => k_is)
    (case k_law_pick => k_is)
    (case a_law_told => k_is)
    (case l_law_told => k_is)
    (case c_law_told => k_is)
    (case k_law_told => k_is)
    (case a_law_lasting => k_is)
    (case l_law_lasting => k_is)
    (case c_law_lasting => k_is)
    (case k_law_lasting => k_is)
    (case a_law_right => k_is)
    (case l_law_right => k_is)
    (case c_law_right => k_is)
    (case k_law_right => k_is)
    (case a_law => k_is)
    (case l_law => k_is)
    (case c_law => k_is)
    (case k_law => k_is)
    (case ai_MOST_GAINS => k_is)
    (case ai_MOST_TOLD => k_is)
    (case rs_Growth => k_is)
    (case ga_Growth => k_is)
    (case pg_Growth => k_is)
    (case hd_Growth => k_is)
    (case po_Growth => k_is)
    (case sa_Growth => k_is)
    (case mk_Growth => k_is)
    (case kc_Growth => k_is)
    (case na_told => k_is)
    (case na_gains => k_is)
    (case zb_abs => k_is)
    (case zb_all => k_is)
    (case zb_any => k_is)
    (case zb_bool => k_is)
    (case zb_int => k_is)
    (case zb_isinstance => k_is)
    (case zb_len => k_is)
    (case zb_list => k_is)
    (case zb_max => k_is)
    (case zb_min => k_is)
    (case zb_range => k_is)
    (case zb_repr => k_is)
    (case zb_tuple => k_is)


