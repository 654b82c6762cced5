import PyProof.Rows.All
import Wide.All
import OpenK.AllK
import Wide.FinOn
import HandS.ForMost
import HandS.ForExc
import HandS.Wide
import HandS.IsInst
import KE.KOpsOwn
import KE.KIsAll
import HandS.Property
import HandS.Defaults
import HandS.MakeKw
import HandS.Style
import PyProof.TwoTypes
import PyProof.InstNe
import HandS.EndBits
import PyProof.ReprRoads
import PyProof.ReprLen
import HandS.RaiseMore
import HandS.MakeKwOnly
import PySem.Challenge.RW_headgap_k31_rates_made_and_reckoned
set_option Elab.async false
set_option linter.all false
set_option maxRecDepth 100000
set_option maxHeartbeats 4000000
set_option exponentiation.threshold 3000
namespace HG
open PySem L2
section
variable {X : Cx}
theorem opImp {f : Value → Value → Sem Value} {r r' : R2} (h : OpR X f r) (hi : ∀ x y H Q, r' x y H Q → r x y H Q) : OpR X f r' :=
  fun pins s σ H x y v u Q I rx ry q => h pins s σ H x y v u Q I rx ry (hi x y H Q q)
theorem callImp {f : Value} {r r' : List V → Hp → VK → Prop} (h : CallR X f r) (hi : ∀ xs H Q, r' xs H Q → r xs H Q) : CallR X f r' :=
  fun pins s σ H xs us Q I rx q => h pins s σ H xs us Q I rx (hi xs H Q q)

/-! ### operators, by the kinds of the values -/
def oAdd : R2 := fun x y H Q => match x, y with
  | .int i, .int j => Q (.int (i + j)) H
  | .str a, .str b => a.length + b.length ≤ sizeLine ∧ Q (.str (a ++ b)) H
  | .ref l, .ref b => match H l, H b with
    | some (.lst xs), some (.lst zs) => xs.length + zs.length ≤ sizeLine ∧ ∀ p, H p = none → Q (.ref p) (upd H p (.lst (xs ++ zs)))
    | _, _ => False
  | _, _ => False
theorem op_addU : OpR X (binaryOp .Add) oAdd := opImp (op_add.or (op_add_str.or op_cat)) fun x y H Q h => by
  unfold oAdd at h
  split at h
  · exact .inl ⟨_, _, rfl, rfl, h⟩
  · exact .inr (.inl ⟨_, _, rfl, rfl, h.1, h.2⟩)
  · split at h
    · rename_i e1 e2
      exact .inr (.inr ⟨_, _, _, _, rfl, rfl, e1, e2, h.1, h.2⟩)
    · exact h.elim
  · exact h.elim
def oSub : R2 := fun x y H Q => match x, y with
  | .int i, .int j => Q (.int (i - j)) H
  | _, _ => False
theorem op_subU : OpR X (binaryOp .Sub) oSub := opImp op_sub fun x y H Q h => by
  unfold oSub at h
  split at h
  · exact ⟨_, _, rfl, rfl, h⟩
  · exact h.elim
def oMul : R2 := fun x y H Q => match x, y with
  | .int i, .int j => IntMulOk i j ∧ Q (.int (i * j)) H
  | .ref l, .int k => match H l with
    | some (.lst xs) => -(2 ^ 63) ≤ k ∧ k < 2 ^ 63 ∧ xs.length * k.toNat ≤ sizeLine ∧ ∀ p, H p = none → Q (.ref p) (upd H p (.lst (List.replicate k.toNat xs).flatten))
    | _ => False
  | _, _ => False
theorem op_mulOk : OpR X (binaryOp .Mult) (rI IntMulOk fun i j => .int (i * j)) := opI fun _ _ _ _ _ _ _ hc q => PyProof.Rows.mul_int q hc
theorem op_mulU : OpR X (binaryOp .Mult) oMul := opImp (op_mulOk.or op_rep) fun x y H Q h => by
  unfold oMul at h
  split at h
  · exact .inl ⟨_, _, rfl, rfl, h.1, h.2⟩
  · split at h
    · rename_i e
      exact .inr ⟨_, _, _, rfl, rfl, e, h.1, h.2.1, h.2.2.1, h.2.2.2⟩
    · exact h.elim
  · exact h.elim
def oFdiv : R2 := fun x y H Q => match x, y with
  | .int i, .int j => CDivW i j ∧ Q (.int (i / j)) H
  | _, _ => False
theorem op_fdivU : OpR X (binaryOp .FloorDiv) oFdiv := opImp op_fdivW fun x y H Q h => by
  unfold oFdiv at h
  split at h
  · exact ⟨_, _, rfl, rfl, h.1, h.2⟩
  · exact h.elim
def oMod : R2 := fun x y H Q => match x, y with
  | .int i, .int j => 0 < j ∧ Q (.int (i % j)) H
  | _, _ => False
theorem op_modU : OpR X (binaryOp .Mod) oMod := opImp op_mod fun x y H Q h => by
  unfold oMod at h
  split at h
  · exact ⟨_, _, rfl, rfl, h.1, h.2⟩
  · exact h.elim
def oPow : R2 := fun x y H Q => match x, y with
  | .int i, .int j => CPow i j ∧ Q (.int (i ^ j.toNat)) H
  | _, _ => False
theorem op_powU : OpR X (binaryOp .Pow) oPow := opImp op_pow fun x y H Q h => by
  unfold oPow at h
  split at h
  · exact ⟨_, _, rfl, rfl, h.1, h.2⟩
  · exact h.elim
def uNeg : V → Hp → VK → Prop := fun x H Q => match x with
  | .int i => Q (.int (-i)) H
  | _ => False
theorem un_negU : UnR X (unaryOp .USub) uNeg := fun pins s σ H x v Q I rx h => by
  refine un_neg pins s σ H x v Q I rx ?_
  unfold uNeg at h
  split at h
  · exact ⟨_, rfl, h⟩
  · exact h.elim
def oLt : R2 := fun x y H Q => match x, y with
  | .int i, .int j => Q (.bl (decide (i < j))) H
  | _, _ => False
theorem op_ltU : OpR X (compareOp .Lt) oLt := opImp op_lt fun x y H Q h => by
  unfold oLt at h
  split at h
  · exact ⟨_, _, rfl, rfl, h⟩
  · exact h.elim
def oLe : R2 := fun x y H Q => match x, y with
  | .int i, .int j => Q (.bl (decide (i ≤ j))) H
  | _, _ => False
theorem op_leU : OpR X (compareOp .LtE) oLe := opImp op_le fun x y H Q h => by
  unfold oLe at h
  split at h
  · exact ⟨_, _, rfl, rfl, h⟩
  · exact h.elim
def oGt : R2 := fun x y H Q => match x, y with
  | .int i, .int j => Q (.bl (decide (j < i))) H
  | _, _ => False
theorem op_gtU : OpR X (compareOp .Gt) oGt := opImp op_gt fun x y H Q h => by
  unfold oGt at h
  split at h
  · exact ⟨_, _, rfl, rfl, h⟩
  · exact h.elim
def oGe : R2 := fun x y H Q => match x, y with
  | .int i, .int j => Q (.bl (decide (j ≤ i))) H
  | _, _ => False
theorem op_geU : OpR X (compareOp .GtE) oGe := opImp op_ge fun x y H Q h => by
  unfold oGe at h
  split at h
  · exact ⟨_, _, rfl, rfl, h⟩
  · exact h.elim
/-! ### data, read off the abstract heap -/
def dataL (f : V → Option PyData) : List V → Option (List PyData)
  | [] => some []
  | x :: xs => match f x with
    | some d => match dataL f xs with
      | some ds => some (d :: ds)
      | none => none
    | none => none
def dataF : Nat → Hp → V → Option PyData
  | _, _, .non => some .none
  | _, _, .bl b => some (.bool b)
  | _, _, .int i => some (.int i)
  | _, _, .str x => some (.str x)
  | n + 1, H, .ref a => match H a with
    | some (.lst xs) => (dataL (dataF n H) xs).map .list
    | some (.tup xs) => (dataL (dataF n H) xs).map .tuple
    | _ => none
  | _, _, _ => none
theorem dpAll_of {K : PySem.W.Frag} {H : Hp} {f : V → Option PyData} (hf : ∀ x d, f x = some d → Dp K H x d) : ∀ {xs : List V} {ds : List PyData}, dataL f xs = some ds → DpAll K H xs ds
  | [], ds, h => by
    cases h
    exact .nil
  | x :: xs, ds, h => by
    simp only [dataL] at h
    split at h
    · rename_i d e
      split at h
      · rename_i ds' e'
        cases h
        exact .cons (hf x d e) (dpAll_of hf e')
      · cases h
    · cases h
theorem dp_of {K : PySem.W.Frag} {H : Hp} : ∀ {n : Nat} {x : V} {d : PyData}, dataF n H x = some d → Dp K H x d
  | n, .non, d, h => by
    have e : some PyData.none = some d := by rw [← h]; cases n <;> rfl
    cases e
    exact .non
  | n, .bl b, d, h => by
    have e : some (PyData.bool b) = some d := by rw [← h]; cases n <;> rfl
    cases e
    exact .bl b
  | n, .int i, d, h => by
    have e : some (PyData.int i) = some d := by rw [← h]; cases n <;> rfl
    cases e
    exact .int i
  | n, .str i, d, h => by
    have e : some (PyData.str i) = some d := by rw [← h]; cases n <;> rfl
    cases e
    exact .str i
  | n, .byt i, d, h => by cases n <;> cases h
  | n, .flt i, d, h => by cases n <;> cases h
  | n, .ty i, d, h => by cases n <;> cases h
  | 0, .ref a, d, h => by cases h
  | n + 1, .ref a, d, h => by
    simp only [dataF] at h
    split at h
    · rename_i xs e
      obtain ⟨ds, e1, rfl⟩ := Option.map_eq_some_iff.mp h
      exact .lst (SqL.of e) (dpAll_of (fun x d q => dp_of q) e1)
    · rename_i xs e
      obtain ⟨ds, e1, rfl⟩ := Option.map_eq_some_iff.mp h
      exact .tup (SqT.of e) (dpAll_of (fun x d q => dp_of q) e1)
    · cases h
def oEq (K : PySem.W.Frag) : R2 := fun x y H Q => match x, y with
  | .int i, .int j => Q (.bl (decide (i = j))) H
  | .str i, .str j => Q (.bl (decide (i = j))) H
  | .bl i, .bl j => Q (.bl (decide (i = j))) H
  | x, y => match dataF 8 H x, dataF 8 H y with
    | some d, some e => SeqAt.shaped d = true ∧ SeqAt.shaped e = true ∧ Q (.bl (PyData.eqv d e)) H
    | _, _ => False
theorem dec_V {α : Type} [DecidableEq α] {f : α → V} (inj : ∀ a b, f a = f b → a = b) (a b : α) : decide (f a = f b) = decide (a = b) := by
  by_cases h : a = b
  · subst h; simp
  · rw [decide_eq_false h, decide_eq_false fun q => h (inj a b q)]
theorem op_eqU (hu : X.A.units + 64 < cLine) : OpR X (compareOp .Eq) (oEq X.K) := opImp (op_eq.or (op_eqD hu)) fun x y H Q h => by
  unfold oEq at h
  split at h
  · exact .inl ⟨rfl, by rw [dec_V (f := V.int) (fun _ _ q => by injection q)]; exact h⟩
  · exact .inl ⟨rfl, by rw [dec_V (f := V.str) (fun _ _ q => by injection q)]; exact h⟩
  · exact .inl ⟨rfl, by rw [dec_V (f := V.bl) (fun _ _ q => by injection q)]; exact h⟩
  · split at h
    · rename_i e1 e2
      exact .inr ⟨_, _, dp_of e1, dp_of e2, h.1, h.2.1, h.2.2⟩
    · exact h.elim
def oNe (K : PySem.W.Frag) : R2 := fun x y H Q => match x, y with
  | .int i, .int j => Q (.bl (!decide (i = j))) H
  | .str i, .str j => Q (.bl (!decide (i = j))) H
  | .bl i, .bl j => Q (.bl (!decide (i = j))) H
  | x, y => match dataF 8 H x, dataF 8 H y with
    | some d, some e => SeqAt.shaped d = true ∧ SeqAt.shaped e = true ∧ Q (.bl (!PyData.eqv d e)) H
    | _, _ => False
theorem op_neU (hu : X.A.units + 64 < cLine) : OpR X (compareOp .NotEq) (oNe X.K) := opImp (op_ne.or (op_neD hu)) fun x y H Q h => by
  unfold oNe at h
  split at h
  · exact .inl ⟨rfl, by rw [dec_V (f := V.int) (fun _ _ q => by injection q)]; exact h⟩
  · exact .inl ⟨rfl, by rw [dec_V (f := V.str) (fun _ _ q => by injection q)]; exact h⟩
  · exact .inl ⟨rfl, by rw [dec_V (f := V.bl) (fun _ _ q => by injection q)]; exact h⟩
  · split at h
    · rename_i e1 e2
      exact .inr ⟨_, _, dp_of e1, dp_of e2, h.1, h.2.1, h.2.2⟩
    · exact h.elim

/-! ### sequences -/
/-- the items of the list or tuple at p -/
def rdSeq (K : PySem.W.Frag) (H : Hp) (p : Addr) (k : List V → Prop) : Prop := match H p with
  | some (.lst xs) => k xs
  | some (.tup xs) => k xs
  | _ => ∃ xs, (SqL K H p xs ∨ SqT K H p xs) ∧ k xs
theorem rdSeq_out {K : PySem.W.Frag} {H : Hp} {p : Addr} {k : List V → Prop} (h : rdSeq K H p k) : ∃ xs, (SqL K H p xs ∨ SqT K H p xs) ∧ k xs := by
  unfold rdSeq at h
  split at h
  · rename_i e; exact ⟨_, .inl (SqL.of e), h⟩
  · rename_i e; exact ⟨_, .inr (SqT.of e), h⟩
  · exact h
theorem rdSeq_of {K : PySem.W.Frag} {H : Hp} {p : Addr} {k : List V → Prop} {xs : List V} (h : SqL K H p xs) (hp : H p = none ∨ (∃ o u, H p = some (.frz o u)) ∨ H p = some (.lst xs)) (hk : k xs) : rdSeq K H p k := by
  unfold rdSeq
  rcases hp with e | ⟨o, u, e⟩ | e
  · rw [e]; exact ⟨xs, .inl h, hk⟩
  · rw [e]; exact ⟨xs, .inl h, hk⟩
  · rw [e]; exact hk
theorem rdSeq_lst {K : PySem.W.Frag} {H : Hp} {p : Addr} {k : List V → Prop} {xs : List V} (h : H p = some (.lst xs)) : rdSeq K H p k = k xs := by
  unfold rdSeq; rw [h]
theorem rdSeq_tup {K : PySem.W.Frag} {H : Hp} {p : Addr} {k : List V → Prop} {xs : List V} (h : H p = some (.tup xs)) : rdSeq K H p k = k xs := by
  unfold rdSeq; rw [h]
/-! ### built-in functions -/
def cLen (K : PySem.W.Frag) : List V → Hp → VK → Prop := fun xs H Q => match xs with
  | [.ref p] => rdSeq K H p fun ys => Q (.int ys.length) H
  | [.str z] => z.length ≤ sizeLine ∧ Q (.int z.length) H
  | _ => False
theorem call_lenU : CallR X (.builtin "len") (cLen X.K) := callImp (call_len_seq.or call_len_str) fun xs H Q h => by
  unfold cLen at h
  split at h
  · obtain ⟨ys, h1, h2⟩ := rdSeq_out h
    exact .inl ⟨_, ys, rfl, h1, h2⟩
  · exact .inr ⟨_, rfl, h.1, h.2⟩
  · exact h.elim
def cAbs : List V → Hp → VK → Prop := fun xs H Q => match xs with
  | [.int i] => Q (.int (if i < 0 then -i else i)) H
  | _ => False
theorem call_absU : CallR X (.builtin "abs") cAbs := callImp call_abs fun xs H Q h => by
  unfold cAbs at h
  split at h
  · exact ⟨_, rfl, h⟩
  · exact h.elim
def cInt : List V → Hp → VK → Prop := fun xs H Q => match xs with
  | [.int i] => Q (.int i) H
  | [.bl b] => Q (.int (if b then 1 else 0)) H
  | [.str a] => ∃ n, PySem.intText? a = some n ∧ a.length ≤ 640 ∧ Q (.int n) H
  | _ => False
theorem call_intU : CallR X (.type "int") cInt := callImp (call_int1.or call_int_str) fun xs H Q h => by
  unfold cInt at h
  split at h
  · exact .inl (.inl ⟨_, rfl, h⟩)
  · exact .inl (.inr ⟨_, rfl, h⟩)
  · obtain ⟨n, h1, h2, h3⟩ := h
    exact .inr ⟨_, n, rfl, h1, h2, h3⟩
  · exact h.elim
def cList (K : PySem.W.Frag) : List V → Hp → VK → Prop := fun xs H Q => match xs with
  | [.ref p] => rdSeq K H p fun ys => ∀ l, H l = none → Q (.ref l) (upd H l (.lst ys))
  | _ => False
theorem call_listU : CallR X (.type "list") (cList X.K) := callImp call_list_of fun xs H Q h => by
  unfold cList at h
  split at h
  · obtain ⟨ys, h1, h2⟩ := rdSeq_out h
    exact ⟨_, ys, rfl, h1, h2⟩
  · exact h.elim
def iIx (K : PySem.W.Frag) : R2 := fun x y H Q => match x, y with
  | .ref p, .int i => rdSeq K H p fun xs => match atI xs i with
    | some v => Q v H
    | none => False
  | .str z, .int i => z.length ≤ sizeLine ∧ match atI z.cps.toList i with
    | some c => Q (.str ⟨#[c]⟩) H
    | none => False
  | _, _ => False
theorem ix_U : IxR X (iIx X.K) := fun value slice pins s σ H x y v u Q I rx ry h hs => by
  refine ix_seq value slice pins s σ H x y v u Q I rx ry ?_ hs
  unfold iIx at h
  split at h
  · obtain ⟨xs, h1, h2⟩ := rdSeq_out h
    split at h2
    · rename_i e
      rcases h1 with h1 | h1
      · exact .inl ⟨_, xs, _, _, rfl, rfl, h1, e, h2⟩
      · exact .inr (.inl ⟨_, xs, _, _, rfl, rfl, h1, e, h2⟩)
    · exact h2.elim
  · obtain ⟨h1, h2⟩ := h
    split at h2
    · rename_i e
      exact .inr (.inr ⟨_, _, _, rfl, rfl, h1, e, h2⟩)
    · exact h2.elim
  · exact h.elim
def setI (xs : List V) (k : Int) (v : V) : Option (List V) := (ixN xs.length k).map fun j => xs.set j v
def stL : V → V → V → Hp → (Hp → Prop) → Prop := fun o i v H Q => match o, i with
  | .ref p, .int k => match H p with
    | some (.lst xs) => match setI xs k v with
      | some ys => Q (upd H p (.lst ys))
      | none => False
    | _ => False
  | _, _ => False
theorem set_U : PSet X stL := fun pins s σ H o i v ov iv u Q I ro ri rv h => by
  refine set_list pins s σ H o i v ov iv u Q I ro ri rv ?_
  unfold stL at h
  split at h
  · split at h
    · rename_i e
      split at h
      · rename_i e2
        unfold setI at e2
        obtain ⟨j, e3, e4⟩ := Option.map_eq_some_iff.mp e2
        subst e4
        exact ⟨_, _, _, _, rfl, rfl, e, e3, h⟩
      · exact h.elim
    · exact h.elim
  · exact h.elim
end
theorem atI_0 {x : V} {xs : List V} : atI (x :: xs) 0 = some x := by
  simp [atI, ixN]
theorem atI_1 {x y : V} {xs : List V} : atI (x :: y :: xs) 1 = some y := by
  have h : (1 : Int) < ((x :: y :: xs).length : Int) := by simp; omega
  simp only [atI, ixN]
  rw [if_pos (by decide), if_pos h]
  rfl
theorem atI_2 {x y z : V} {xs : List V} : atI (x :: y :: z :: xs) 2 = some z := by
  have h : (2 : Int) < ((x :: y :: z :: xs).length : Int) := by simp; omega
  simp only [atI, ixN]
  rw [if_pos (by decide), if_pos h]
  rfl
theorem setI_1 {x y v : V} {xs : List V} : setI (x :: y :: xs) 1 v = some (x :: v :: xs) := by
  have h : (1 : Int) < ((x :: y :: xs).length : Int) := by simp; omega
  simp only [setI, ixN]
  rw [if_pos (by decide), if_pos h]
  rfl
theorem setI_2 {x y z v : V} {xs : List V} : setI (x :: y :: z :: xs) 2 v = some (x :: y :: v :: xs) := by
  have h : (2 : Int) < ((x :: y :: z :: xs).length : Int) := by simp; omega
  simp only [setI, ixN]
  rw [if_pos (by decide), if_pos h]
  rfl
theorem atI_nat' {xs : List V} {i : Int} {v : V} (h0 : 0 ≤ i) (h : xs[i.toNat]? = some v) : atI xs i = some v := by
  have hl : i.toNat < xs.length := (List.getElem?_eq_some_iff.mp h).1
  simp only [atI, ixN]
  rw [if_pos h0, if_pos (by omega)]
  exact h
theorem ite_dec {c A B : Prop} [Decidable c] (h1 : c → A) (h2 : ¬ c → B) : if decide c = true then A else B := by
  by_cases h : c
  · rw [if_pos (decide_eq_true h)]; exact h1 h
  · rw [if_neg (by simp [h])]; exact h2 h
theorem ite_ndec {c A B : Prop} [Decidable c] (h1 : ¬ c → A) (h2 : c → B) : if (!decide c) = true then A else B := by
  by_cases h : c
  · rw [if_neg (by simp [h])]; exact h2 h
  · rw [if_pos (by simp [h])]; exact h1 h
theorem ite_b {b : Bool} {A B : Prop} (h1 : b = true → A) (h2 : b = false → B) : if b = true then A else B := by
  cases b with
  | true => rw [if_pos rfl]; exact h1 rfl
  | false => rw [if_neg (by decide)]; exact h2 rfl
end HG

namespace HG
open PySem L2
section
variable {σ : L2.St} {H : Hp} {D : Ends} {te tv : TE} {t u : TS} {c : TT} {g : TG} {Q : VK}
theorem evE (P : VK → Prop) (h : ∀ Q, P Q → te σ H Q) (hq : P Q) : te σ H Q := h Q hq
theorem evA {ta : TA} {Q : List V → Hp → Prop} (P : (List V → Hp → Prop) → Prop) (h : ∀ Q, P Q → ta σ H Q) (hq : P Q) : ta σ H Q := h Q hq
theorem evT {Q : Bool → Hp → Prop} (P : (Bool → Hp → Prop) → Prop) (h : ∀ Q, P Q → c σ H Q) (hq : P Q) : c σ H Q := h Q hq
theorem evG {v : V} {Q : L2.St → Hp → Prop} (P : (L2.St → Hp → Prop) → Prop) (h : ∀ Q, P Q → g v σ H Q) (hq : P Q) : g v σ H Q := h Q hq
theorem st_next (h : D.nx σ H) : tNext D σ H := h
theorem st_seq (h : t { D with nx := u D } σ H) : tSeq t u D σ H := h
theorem st_asg (h : te σ H fun x H1 => g x σ H1 D.nx) : tAsg te g D σ H := h
theorem st_if (h : c σ H fun b H1 => if b = true then t D σ H1 else u D σ H1) : tIfS c t u D σ H := h
theorem st_ret (h : te σ H D.rt) : tRet te D σ H := h
theorem st_drop (h : te σ H fun _ H1 => D.nx σ H1) : tDrop te D σ H := h
theorem st_par {i j : Nat} {ta : TA} (h : tPar i j ta D σ H) : tPar i j ta D σ H := h
end
end HG
namespace HG
open PySem L2
/-! ### lists of ints as data -/
theorem dpAll_ints {K : PySem.W.Frag} {H : Hp} : ∀ ns : List Int, DpAll K H (ns.map V.int) (ns.map PyData.int)
  | [] => .nil
  | n :: r => .cons (.int n) (dpAll_ints r)
theorem canLay_ints : ∀ ns : List Int, PyData.canLayAll0 (ns.map PyData.int) = true
  | [] => rfl
  | n :: r => by
    show (PyData.canLay0 (PyData.int n) && PyData.canLayAll0 (r.map PyData.int)) = true
    rw [canLay_ints r]; rfl
theorem depth_ints : ∀ ns : List Int, PyData.depthAll (ns.map PyData.int) = 0
  | [] => rfl
  | n :: r => by
    show max (PyData.depth (PyData.int n)) (PyData.depthAll (r.map PyData.int)) = 0
    rw [depth_ints r]; rfl
theorem shaped_ints (ns : List Int) : SeqAt.shaped (.list (ns.map PyData.int)) = true := by
  show (PyData.canLayAll0 (ns.map PyData.int) && decide (PyData.depthAll (ns.map PyData.int) + 1 ≤ 64)) = true
  rw [canLay_ints, depth_ints]; rfl
theorem eqv_nil (ns : List Int) : PyData.eqv (.list (ns.map PyData.int)) (.list []) = ns.isEmpty := by
  cases ns with
  | nil => rfl
  | cons a r => rfl
theorem dataL_ints {f : V → Option PyData} (hf : ∀ i, f (.int i) = some (.int i)) : ∀ ns : List Int, dataL f (ns.map V.int) = some (ns.map PyData.int)
  | [] => rfl
  | n :: r => by
    show (match f (.int n) with | some d => (match dataL f (r.map V.int) with | some ds => some (d :: ds) | none => none) | none => none) = _
    rw [hf, dataL_ints hf r]
    rfl
theorem dataF_int {n : Nat} {H : Hp} {i : Int} : dataF n H (.int i) = some (.int i) := by cases n <;> rfl
theorem dataF_ints {n : Nat} {H : Hp} {l : Addr} {ns : List Int} (h : H l = some (.lst (ns.map V.int))) : dataF (n + 1) H (.ref l) = some (.list (ns.map PyData.int)) := by
  simp only [dataF, h]
  rw [dataL_ints (fun i => dataF_int)]
  rfl
/-- a list of ints is unequal to the empty one -/
theorem ne_nil {K : PySem.W.Frag} {H : Hp} {l q : Addr} {ns : List Int} {Q : VK} (hl : H l = some (.lst (ns.map V.int))) (hq : H q = some (.lst [])) (h : Q (.bl (!ns.isEmpty)) H) : oNe K (.ref l) (.ref q) H Q := by
  have e1 : dataF 8 H (.ref l) = some (.list (ns.map PyData.int)) := dataF_ints hl
  have e2 : dataF 8 H (.ref q) = some (.list []) := dataF_ints (ns := []) hq
  simp only [oNe, e1, e2]
  exact ⟨shaped_ints ns, shaped_ints [], by rw [eqv_nil]; exact h⟩
def Keep (p : Addr) (H H' : Hp) : Prop := ∀ b o, b ≠ p → H b = some o → H' b = some o
theorem mod_range {x m : Int} (h : 0 < m) : 0 ≤ x % m ∧ x % m < m := ⟨Int.emod_nonneg _ (by omega), Int.emod_lt_of_pos _ h⟩
theorem log2_small {n : Int} (h : n.natAbs < 2 ^ 8999) : n.natAbs.log2 < 9000 := by
  by_cases h0 : n.natAbs = 0
  · rw [h0]; decide
  · exact Nat.lt_succ_of_lt ((Nat.log2_lt h0).mpr h)
end HG
namespace HG
open PySem L2
/-! ### the draw's arithmetic -/
theorem mulok_left {i j : Int} (h1 : -(2 ^ 64) < i) (h2 : i < 2 ^ 64) : IntMulOk i j := .of_left (intBits_le_64 h1 h2)
theorem draw_pow1 {x t a c : Int} (hx0 : 0 ≤ x) (hx : x < 2147483648) (ht0 : 0 ≤ t) (ht : t ≤ 1000000) (ha0 : 0 ≤ a) (ha : a ≤ 1000000) (hc0 : 0 ≤ c) (hc : c ≤ 1000000) : (x + a * t + c).natAbs < 2 ^ 64 := by
  have h : a * t ≤ 1000000 * 1000000 := Int.mul_le_mul ha ht ht0 (by decide)
  have h0 : 0 ≤ a * t := Int.mul_nonneg ha0 ht0
  omega
theorem draw_pow2 {x t a b c : Int} (hx0 : 0 ≤ x) (hx : x < 2147483648) (ht0 : 0 ≤ t) (ht : t ≤ 1000000) (ha0 : 0 ≤ a) (ha : a ≤ 1000000) (hb0 : 0 ≤ b) (hb : b ≤ 1000000) (hc0 : 0 ≤ c) (hc : c ≤ 1000000) :
    (x * (2 * t + a) + b * t * t + c).natAbs < 2 ^ 64 := by
  have h1 : x * (2 * t + a) ≤ 2147483648 * 3000000 := Int.mul_le_mul (by omega) (by omega) (by omega) (by decide)
  have h10 : 0 ≤ x * (2 * t + a) := Int.mul_nonneg hx0 (by omega)
  have h2 : b * t ≤ 1000000 * 1000000 := Int.mul_le_mul hb ht ht0 (by decide)
  have h20 : 0 ≤ b * t := Int.mul_nonneg hb0 ht0
  have h3 : b * t * t ≤ (1000000 * 1000000) * 1000000 := Int.mul_le_mul h2 ht ht0 (by decide)
  have h30 : 0 ≤ b * t * t := Int.mul_nonneg h20 ht0
  omega
theorem draw_bt {t b : Int} (ht0 : 0 ≤ t) (ht : t ≤ 1000000) (hb0 : 0 ≤ b) (hb : b ≤ 1000000) : IntMulOk (b * t) t := by
  have h2 : b * t ≤ 1000000 * 1000000 := Int.mul_le_mul hb ht ht0 (by decide)
  have h20 : 0 ≤ b * t := Int.mul_nonneg hb0 ht0
  exact mulok_left (by omega) (by omega)
end HG
namespace HG
open PySem L2
section
variable {K : PySem.W.Frag} {H : Hp} {Q : VK} {i j : Int} {a b : Str} {c d : Bool}
theorem oEq_int : oEq K (.int i) (.int j) H Q = Q (.bl (decide (i = j))) H := rfl
theorem oEq_str : oEq K (.str a) (.str b) H Q = Q (.bl (decide (a = b))) H := rfl
theorem oEq_bl : oEq K (.bl c) (.bl d) H Q = Q (.bl (decide (c = d))) H := rfl
theorem oNe_int : oNe K (.int i) (.int j) H Q = Q (.bl (!decide (i = j))) H := rfl
theorem oNe_str : oNe K (.str a) (.str b) H Q = Q (.bl (!decide (a = b))) H := rfl
theorem oNe_bl : oNe K (.bl c) (.bl d) H Q = Q (.bl (!decide (c = d))) H := rfl
end
end HG
namespace HG
open PySem L2
/-! ### the readings at values whose kinds are seen -/
section
variable {K : PySem.W.Frag} {H : Hp} {Q : VK} {i j : Int} {a b : Str} {c d : Bool} {p s : Addr} {v : V} {QH : Hp → Prop}
theorem oAdd_int : oAdd (.int i) (.int j) H Q = Q (.int (i + j)) H := rfl
theorem oAdd_str : oAdd (.str a) (.str b) H Q = (a.length + b.length ≤ sizeLine ∧ Q (.str (a ++ b)) H) := rfl
theorem oAdd_lst {xs zs : List V} (h1 : H p = some (.lst xs)) (h2 : H s = some (.lst zs)) : oAdd (.ref p) (.ref s) H Q = (xs.length + zs.length ≤ sizeLine ∧ ∀ p, H p = none → Q (.ref p) (upd H p (.lst (xs ++ zs)))) := by simp only [oAdd, h1, h2]
theorem oSub_int : oSub (.int i) (.int j) H Q = Q (.int (i - j)) H := rfl
theorem oMul_int : oMul (.int i) (.int j) H Q = (IntMulOk i j ∧ Q (.int (i * j)) H) := rfl
theorem oFdiv_int : oFdiv (.int i) (.int j) H Q = (CDivW i j ∧ Q (.int (i / j)) H) := rfl
theorem oMod_int : oMod (.int i) (.int j) H Q = (0 < j ∧ Q (.int (i % j)) H) := rfl
theorem oPow_int : oPow (.int i) (.int j) H Q = (CPow i j ∧ Q (.int (i ^ j.toNat)) H) := rfl
theorem uNeg_int : uNeg (.int i) H Q = Q (.int (-i)) H := rfl
theorem oLt_int : oLt (.int i) (.int j) H Q = Q (.bl (decide (i < j))) H := rfl
theorem oLe_int : oLe (.int i) (.int j) H Q = Q (.bl (decide (i ≤ j))) H := rfl
theorem oGt_int : oGt (.int i) (.int j) H Q = Q (.bl (decide (j < i))) H := rfl
theorem oGe_int : oGe (.int i) (.int j) H Q = Q (.bl (decide (j ≤ i))) H := rfl
theorem cLen_ref : cLen K [.ref p] H Q = rdSeq K H p fun ys => Q (.int ys.length) H := rfl
theorem cLen_str : cLen K [.str a] H Q = (a.length ≤ sizeLine ∧ Q (.int a.length) H) := rfl
theorem cAbs_int : cAbs [.int i] H Q = Q (.int (if i < 0 then -i else i)) H := rfl
theorem cInt_int : cInt [.int i] H Q = Q (.int i) H := rfl
theorem cInt_bl : cInt [.bl c] H Q = Q (.int (if c then 1 else 0)) H := rfl
theorem cInt_str : cInt [.str a] H Q = ∃ n, PySem.intText? a = some n ∧ a.length ≤ 640 ∧ Q (.int n) H := rfl
theorem cList_ref : cList K [.ref p] H Q = rdSeq K H p fun ys => ∀ l, H l = none → Q (.ref l) (upd H l (.lst ys)) := rfl
theorem iIx_ref : iIx K (.ref p) (.int i) H Q = rdSeq K H p fun xs => match atI xs i with
    | some v => Q v H
    | none => False := rfl
theorem iIx_str : iIx K (.str a) (.int i) H Q = (a.length ≤ sizeLine ∧ match atI a.cps.toList i with
    | some c => Q (.str ⟨#[c]⟩) H
    | none => False) := rfl
theorem stL_ref : stL (.ref p) (.int i) v H QH = (match H p with
    | some (.lst xs) => match setI xs i v with
      | some ys => QH (upd H p (.lst ys))
      | none => False
    | _ => False) := rfl
end
end HG
namespace HG
theorem if_yes {A B : Prop} (h : A) : if true = true then A else B := by rw [if_pos rfl]; exact h
theorem if_no {A B : Prop} (h : B) : if false = true then A else B := by rw [if_neg (by decide)]; exact h
end HG

namespace HG
open PySem L2
/-! ### kinds of values -/
/-- the type of a value, by the abstract heap -/
def tyF (H : Hp) : V → Option Value
  | .non => some (.type "NoneType")
  | .bl _ => some (.type "bool")
  | .int _ => some (.type "int")
  | .str _ => some (.type "str")
  | .ref a => match H a with
    | some (.lst _) => some (.type "list")
    | some (.tup _) => some (.type "tuple")
    | some (.dK _) => some (.type "dict")
    | some (.dT _) => some (.type "dict")
    | some (.ins C _ _) => some (.ref C)
    | _ => none
  | _ => none
/-- what isinstance asks of a class of the text -/
structure InsTy (K : PySem.W.Frag) (C : Addr) : Prop where
  cl : Cls K C
  ha : PySem.W.findIn K (.ref C) "__class__" = some (some (.builtin "object.__class__"))
  hn : PySem.W.specialIn K (.builtin "object.__class__") "__get__" = some (some (.builtin "getset_descriptor.__get__"))
  htk : PySem.W.takesIn K (.builtin "object.__class__") = some true
  hm : PySem.W.mroIn K C (.type "object") = some true
def tyOk (K : PySem.W.Frag) : Value → Prop
  | .ref C => InsTy K C
  | _ => True
theorem tyX_of {K : PySem.W.Frag} {H : Hp} {x : V} {t : Value} (h : tyF H x = some t) (ok : tyOk K t) : TyX K H x t := by
  cases x with
  | non => cases h; exact .base .non
  | bl b => cases h; exact .base (.bl b)
  | int i => cases h; exact .base (.int i)
  | str z => cases h; exact .base (.str z)
  | byt z => cases h
  | flt z => cases h
  | ty z => cases h
  | ref a =>
    simp only [tyF] at h
    split at h
    · rename_i e; cases h; exact .base (.lst e)
    · rename_i e; cases h; exact .base (.tup e)
    · rename_i e; cases h; exact .base (.dK e)
    · rename_i e; cases h; exact .base (.dT e)
    · rename_i e; cases h; exact .base (.ins e ok.cl ok.ha ok.hn ok.htk ok.hm)
    · cases h
/-- isinstance(x, c) -/
def cIsi (K : PySem.W.Frag) : List V → Hp → VK → Prop := fun xs H Q => match xs with
  | [x, .ty n] => match tyF H x with
    | some t => tyOk K t ∧ match PySem.W.kitOne K t (.type n) with
      | some b => Q (.bl b) H
      | none => False
    | none => False
  | [x, .ref C] => match tyF H x with
    | some t => tyOk K t ∧ match PySem.W.kitOne K t (.ref C) with
      | some b => Q (.bl b) H
      | none => False
    | none => False
  | _ => False
theorem call_isiU {X : Cx} : CallR X (.builtin "isinstance") (cIsi X.K) := callImp call_isi fun xs H Q h => by
  unfold cIsi at h
  split at h
  · split at h
    · rename_i e
      obtain ⟨h1, h2⟩ := h
      split at h2
      · rename_i e2
        exact ⟨_, _, _, _, _, rfl, .ty _, tyX_of e h1, e2, h2⟩
      · exact h2.elim
    · exact h.elim
  · split at h
    · rename_i e
      obtain ⟨h1, h2⟩ := h
      split at h2
      · rename_i e2
        exact ⟨_, _, _, _, _, rfl, .own _, tyX_of e h1, e2, h2⟩
      · exact h2.elim
    · exact h.elim
  · exact h.elim
theorem kit_tt {K : PySem.W.Frag} : PySem.W.kitOne K (.type "int") (.type "int") = some true := kit_ty (by decide +kernel)
theorem kit_ib {K : PySem.W.Frag} : PySem.W.kitOne K (.type "int") (.type "bool") = some false := kit_ty (by decide +kernel)
theorem kit_bi {K : PySem.W.Frag} : PySem.W.kitOne K (.type "bool") (.type "int") = some true := kit_ty (by decide +kernel)
theorem kit_bb {K : PySem.W.Frag} : PySem.W.kitOne K (.type "bool") (.type "bool") = some true := kit_ty (by decide +kernel)
theorem kit_ni {K : PySem.W.Frag} : PySem.W.kitOne K (.type "NoneType") (.type "int") = some false := kit_ty (by decide +kernel)
theorem kit_si {K : PySem.W.Frag} : PySem.W.kitOne K (.type "str") (.type "int") = some false := kit_ty (by decide +kernel)
theorem kit_li {K : PySem.W.Frag} : PySem.W.kitOne K (.type "list") (.type "int") = some false := kit_ty (by decide +kernel)
theorem kit_ui {K : PySem.W.Frag} : PySem.W.kitOne K (.type "tuple") (.type "int") = some false := kit_ty (by decide +kernel)
theorem kit_di {K : PySem.W.Frag} : PySem.W.kitOne K (.type "dict") (.type "int") = some false := kit_ty (by decide +kernel)
/-! ### operators of a class of the text -/
theorem cmpBack {X : Cx} {pins : List (Addr × Obj)} {σ : L2.St} {Q : VK} {u : Value} {s : Shared} (h : EP X pins σ Q u s) : PySem.W.CmpBack (EP X pins σ Q) u s := by
  obtain ⟨v, H', I, r, q⟩ := h
  cases u with
  | notImplemented =>
    cases v with
    | non => cases r
    | bl b => cases r
    | int i => obtain ⟨t, e⟩ := r; cases e
    | str i => obtain ⟨t, e⟩ := r; cases e
    | byt i => obtain ⟨t, e⟩ := r; cases e
    | flt i => obtain ⟨t, e⟩ := r; cases e
    | ref a => cases r
    | ty n => cases r
  | _ => exact ⟨v, H', I, r, q⟩
def isIns (C : Addr) (H : Hp) : V → Prop
  | .ref a => match H a with
    | some (.ins D _ _) => D = C
    | _ => False
  | _ => False
theorem isIns_out {C : Addr} {H : Hp} {x : V} (h : isIns C H x) : ∃ a dx fs, x = .ref a ∧ H a = some (.ins C dx fs) := by
  cases x with
  | ref a =>
    unfold isIns at h
    simp only at h
    split at h
    · rename_i e; subst h; exact ⟨a, _, _, rfl, e⟩
    · exact h.elim
  | _ => exact h.elim
/-- a def f of the text, called on values at X.A -/
structure Own (X : Cx) (k : Nat) (f : Addr) (sp : Sp) : Prop where
  run : ∀ {pins : List (Addr × Obj)} {σ : L2.St} {H : Hp} {s : Shared} {Q : VK} {us : List Value} {vs : List V}, Inv X pins σ H s → Vals vs us → sp vs H Q E0 → wpAny (model X.prog X.w) X.A (call (.ref f) us) (EP X pins σ Q) X.xe s
theorem own_of {X : Cx} {CX : CXT} {k : Nat} {f : Addr} {fd : FuncData} {ps : List Str} {sp : Sp} (F : FnOk X.prog X.w X.K X.mg X.base CX k f fd ps sp) (hr : Room k X.A) (hb : Binds X.K fd ps []) (hx : Passes CX X E0) : Own X k f sp :=
  ⟨fun {pins σ H s Q us vs} I r h => run_fn (dvs := []) (ds := []) (E := E0) F hr hb .nil hx I r (by rw [List.append_nil]; exact h)⟩
/-- x op y, x of the class at C, y of the same or an int -/
structure BinF (K : PySem.W.Frag) (C f : Addr) (op : Operator) : Prop where
  sf : PySem.W.selfFirst K C = true
  fn : PySem.W.findIn K (.ref C) (PySem.dunder op.info.2) = some (some (.ref f))
  isf : PySem.W.isFn K (.ref f) = true
  rc : ∃ rc, PySem.W.findIn K (.ref C) (dunderR op.info.2) = some rc ∧ (rc = none ∨ ∃ g : Addr, rc = some (.ref g))
  i1 : ∃ fo, PySem.W.findIn K (.type "int") (PySem.dunder op.info.2) = some fo
  i2 : ∃ ro, PySem.W.findIn K (.type "int") (dunderR op.info.2) = some ro
  sub : PySem.W.subIn K (.type "int") (.ref C) = some false
def rBinL (C : Addr) (sp : Sp) : R2 := fun x y H Q => isIns C H x ∧ (isIns C H y ∨ ∃ i, y = .int i) ∧ sp [x, y] H Q E0
theorem op_binL {X : Cx} {k : Nat} {C f : Addr} {op : Operator} {sp : Sp} (B : BinF X.K C f op) (O : Own X k f sp) : OpR X (binaryOp op) (rBinL C sp) := by
  intro pins s σ H x y v u Q I rx ry h
  obtain ⟨h1, h2, h3⟩ := h
  obtain ⟨a, dx, fs, rfl, ea⟩ := isIns_out h1
  cases rx
  obtain ⟨mA, J, _⟩ := ins_get I.hok ea
  obtain ⟨od, J, _⟩ := J.look
  obtain ⟨m, hF⟩ := I.fr
  rcases h2 with h2 | ⟨i, rfl⟩
  · obtain ⟨b, dy, gs, rfl, eb⟩ := isIns_out h2
    cases ry
    obtain ⟨mB, J', _⟩ := ins_get I.hok eb
    obtain ⟨od', J', _⟩ := J'.look
    exact PySem.W.binop_K hF I.ok.mod.kin J J'.type B.sf B.fn B.isf (thn (O.run (vs := [.ref a, .ref b]) I (.cons rfl (.cons rfl .nil)) h3) fun _ _ z => cmpBack z)
  · obtain ⟨t, rfl⟩ := ry
    obtain ⟨rc, hr, hp⟩ := B.rc
    obtain ⟨fo, h4⟩ := B.i1
    obtain ⟨ro, h5⟩ := B.i2
    exact PySem.W.ksp_binT hF I.ok.mod.kin J rfl B.sf B.fn B.isf hr hp h4 h5 B.sub (thn (O.run (vs := [.ref a, .int i]) I (.cons rfl (.cons ⟨_, rfl⟩ .nil)) h3) fun _ _ z => cmpBack z)
/-- x cmp y, x of the class at C -/
structure CmpF (K : PySem.W.Frag) (C f : Addr) (op : CmpOp) : Prop where
  fn : PySem.W.findIn K (.ref C) (cmpInfo op).2.1 = some (some (.ref f))
  isf : PySem.W.isFn K (.ref f) = true
def rCmp (K : PySem.W.Frag) (C : Addr) (sp : Sp) : R2 := fun x y H Q => isIns C H x ∧ (∃ t, tyF H y = some t ∧ tyOk K t ∧ PySem.W.notFirst K C t = true) ∧ sp [x, y] H Q E0
theorem op_cmp {X : Cx} {k : Nat} {C f : Addr} {op : CmpOp} {sp : Sp} (B : CmpF X.K C f op) (O : Own X k f sp) (hu : X.A.units < cLine) (hop : ∀ a b, compareOp op a b = richCompare op a b := by intros; rfl) : OpR X (compareOp op) (rCmp X.K C sp) := by
  intro pins s σ H x y v u Q I rx ry h
  obtain ⟨h1, ⟨t, h2, h4, h5⟩, h3⟩ := h
  obtain ⟨a, dx, fs, rfl, ea⟩ := isIns_out h1
  cases rx
  obtain ⟨mA, J, _⟩ := ins_get I.hok ea
  obtain ⟨od, J, _⟩ := J.look
  obtain ⟨m, hF⟩ := I.fr
  rw [hop]
  obtain ⟨P, Z, p, _⟩ := kit_of I ry (tyX_of h2 h4)
  exact PySem.W.cmp_K hu hF I.ok.mod.kin J (Z.ty _ _ I.kIn p) h5 B.fn B.isf (thn (O.run (vs := [.ref a, y]) I (.cons rfl (.cons ry .nil)) h3) fun _ _ z => cmpBack z)
end HG

namespace HG
open PySem L2
open PySem.W in
/-- n op y where an int declines: y's own reflected method -/
theorem refl_K {prog : Program} {w : World} {A : Around} {E : Value → Shared → Prop} {s : Shared} {K : Frag} {y C f g : Addr} {oy : Obj} {od : Option Obj} {op : Operator} {i : Int} {t : Tok} {Q : Value → Shared → Prop}
    (X : K.In s.heap) (I : InstAt s.heap y oy C od) (hc : selfFirst K C = true)
    (hs : findIn K (.ref C) (PySem.dunder op.info.2) = some (some (.ref f))) (hr : findIn K (.ref C) (dunderR op.info.2) = some (some (.ref g))) (hg : isFn K (.ref g) = true)
    (hsub : subIn K (.ref C) (.type "int") = some false)
    (hleft : Looks (model prog w) s.heap (fillsNumberSlot (.type "int") op.info.2) true)
    (hdec : ∀ Q : Option Value → Shared → Prop, Q none s → wpAny (model prog w) A (tryMethod (.int i t) (PySem.dunder op.info.2) (.ref y)) Q E s)
    (h : wpAny (model prog w) A (call (.ref g) [.ref y, .int i t]) (CmpBack Q) E s) : wpAny (model prog w) A (binaryOp op (.int i t) (.ref y)) Q E s := by
  obtain ⟨cd, rest, hcd, hm⟩ := ksp_first hc
  rcases hi : op.info with ⟨sym, nm'⟩
  rw [hi] at hs hr hleft hdec
  dsimp only at hs hr hleft hdec
  have one := ksp_try X I hr hg h
  have L1 : Looks (model prog w) s.heap (typeOf (.ref y)) (.ref C) := I.type
  have L3 : Looks (model prog w) s.heap (fillsNumberSlot (.ref C) nm') true := fills_K X hcd hm hs
  have L5 : Looks (model prog w) s.heap (isSubtype (.ref C) (.type "int")) false := looks_subIn X hsub
  have hne : (Value.type "int" == Value.ref C) = false := Bool.eq_false_iff.mpr fun q => by cases beq_iff_eq.mp q
  simp only [binaryOp, hi]
  refine wpAny_holding (wpAny_bind ?_)
  unfold binaryOp1
  refine wpAny_bind (wpAny_of_eq (a := Value.type "int") rfl (wpAny_bind (L1.here (wpAny_bind (hleft.here ?_)))))
  simp only [hne, Bool.false_eq_true, if_false]
  refine wpAny_bind (L3.here ?_)
  simp only [Bool.and_self, if_true]
  refine wpAny_bind (L5.here ?_)
  simp only [Bool.false_eq_true, if_false]
  refine wpAny_bind (wpAny_pure ?_)
  simp only [Bool.false_eq_true, if_false, Bool.not_false, Bool.and_self, if_true]
  refine wpAny_bind (hdec _ ?_)
  simp only
  refine wpAny_bind (wpAny_mono one (fun r s' hr' => ?_) fun _ _ e => e)
  obtain ⟨v, rfl, hq⟩ := hr'
  simp only
  exact wpAny_bind (wpAny_rule (wpAny_pure (wpAny_pure hq)))

/-! ### n + y, n - y -/
theorem asInt_ins {M : Model} {A : Around} {E : Value → Shared → Prop} {s : Shared} {y C : Addr} {dx : Addr} {Q : Option Int → Shared → Prop} (h : s.heap.get? y = some (PySem.W.instObj C dx)) (q : Q none s) : wpAny M A (asInt? (.ref y)) Q E s := by
  unfold asInt?
  exact wpAny_bind (wpAny_load h (wpAny_pure q))
theorem dec_add {prog : Program} {w : World} {A : Around} {E : Value → Shared → Prop} {s : Shared} {y C dx : Addr} {i : Int} {t : Tok} (h : s.heap.get? y = some (PySem.W.instObj C dx)) (Q : Option Value → Shared → Prop) (q : Q none s) :
    wpAny (model prog w) A (tryMethod (.int i t) (PySem.dunder "add") (.ref y)) Q E s := by
  refine wpAny_tryMethod_declines (T := "int") (id := "int.__add__") (hT := ?hT1) (h := ?hs1) (hc := ?hc1)
  case hT1 => exact typeIs_int s i t
  case hs1 => exact PySem.F.slot_int_add
  refine wpAny_call_entry (T := "int") (name := PySem.dunder "add") (b := Builtin.«int.__add__») (ha := ?ha) (hb := ?hb) (h := ?hs) (hT := ?hT) (hc := ?hc)
  case hs => exact PySem.F.slot_int_add
  case hb => exact PySem.F.entry_int_add
  case hT => exact typeIs_int s i t
  case ha => exact PySem.F.args_int_add_2 _ _
  case hc =>
    unfold Builtin.«int.__add__» Builtin.Int.intBinary
    refine wpAny_bind (wpAny_of_eq (a := (.int i t, [.ref y])) rfl ?_)
    refine wpAny_bind (wpAny_of_eq (a := i) rfl ?_)
    exact wpAny_bind (asInt_ins h (wpAny_bind (wpAny_rule (wpAny_pure ⟨_, rfl, rfl, q⟩))))
theorem dec_sub {prog : Program} {w : World} {A : Around} {E : Value → Shared → Prop} {s : Shared} {y C dx : Addr} {i : Int} {t : Tok} (h : s.heap.get? y = some (PySem.W.instObj C dx)) (Q : Option Value → Shared → Prop) (q : Q none s) :
    wpAny (model prog w) A (tryMethod (.int i t) (PySem.dunder "sub") (.ref y)) Q E s := by
  refine wpAny_tryMethod_declines (T := "int") (id := "int.__sub__") (hT := ?hT1) (h := ?hs1) (hc := ?hc1)
  case hT1 => exact typeIs_int s i t
  case hs1 => exact PySem.F.slot_int_sub
  refine wpAny_call_entry (T := "int") (name := PySem.dunder "sub") (b := Builtin.«int.__sub__») (ha := ?ha) (hb := ?hb) (h := ?hs) (hT := ?hT) (hc := ?hc)
  case hs => exact PySem.F.slot_int_sub
  case hb => exact PySem.F.entry_int_sub
  case hT => exact typeIs_int s i t
  case ha => exact PySem.F.args_int_sub_2 _ _
  case hc =>
    unfold Builtin.«int.__sub__» Builtin.Int.intBinary
    refine wpAny_bind (wpAny_of_eq (a := (.int i t, [.ref y])) rfl ?_)
    refine wpAny_bind (wpAny_of_eq (a := i) rfl ?_)
    exact wpAny_bind (asInt_ins h (wpAny_bind (wpAny_rule (wpAny_pure ⟨_, rfl, rfl, q⟩))))
structure ReflF (K : PySem.W.Frag) (C f g : Addr) (op : Operator) : Prop where
  sf : PySem.W.selfFirst K C = true
  fn : PySem.W.findIn K (.ref C) (PySem.dunder op.info.2) = some (some (.ref f))
  rn : PySem.W.findIn K (.ref C) (dunderR op.info.2) = some (some (.ref g))
  isf : PySem.W.isFn K (.ref g) = true
  sub : PySem.W.subIn K (.ref C) (.type "int") = some false
  fo : ∃ fo ro, PySem.W.findIn K (.type "int") (PySem.dunder op.info.2) = some fo ∧ PySem.W.findIn K (.type "int") (dunderR op.info.2) = some ro ∧ ((fo.isSome && !isSeqSlot fo) || (ro.isSome && !isSeqSlot ro)) = true
def rBinR (C : Addr) (sp : Sp) : R2 := fun x y H Q => (∃ i, x = .int i) ∧ isIns C H y ∧ sp [y, x] H Q E0
theorem op_binR {X : Cx} {k : Nat} {C f g : Addr} {op : Operator} {sp : Sp} (B : ReflF X.K C f g op) (O : Own X k g sp)
    (dec : ∀ (s : Shared) (y dx : Addr) (i : Int) (t : Tok), s.heap.get? y = some (PySem.W.instObj C dx) → ∀ Q : Option Value → Shared → Prop, Q none s → wpAny (model X.prog X.w) X.A (tryMethod (.int i t) (PySem.dunder op.info.2) (.ref y)) Q X.xe s) :
    OpR X (binaryOp op) (rBinR C sp) := by
  intro pins s σ H x y v u Q I rx ry h
  obtain ⟨⟨i, rfl⟩, h2, h3⟩ := h
  obtain ⟨b, dy, gs, rfl, eb⟩ := isIns_out h2
  obtain ⟨t, rfl⟩ := rx
  cases ry
  obtain ⟨mB, J, _⟩ := ins_get I.hok eb
  have hob := J.obj
  obtain ⟨od, J, _⟩ := J.look
  obtain ⟨fo, ro, f1, f2, f3⟩ := B.fo
  have hl := PySem.W.ksp_fillsT (M := model X.prog X.w) (h := s.heap) I.kIn f1 f2
  rw [f3] at hl
  exact refl_K I.kIn J B.sf B.fn B.rn B.isf B.sub hl (dec s b dy i t hob) (thn (O.run (vs := [.ref b, .int i]) I (.cons rfl (.cons ⟨_, rfl⟩ .nil)) h3) fun _ _ z => cmpBack z)

open PySem.W in
/-- x op y of one class, the first try -/
theorem bin1_K {prog : Program} {w : World} {A : Around} {E : Value → Shared → Prop} {s : Shared} {K : Frag} {x C f : Addr} {ox : Obj} {od : Option Obj} {nm : String} {b : Value} {Q : Option Value → Shared → Prop} (X : K.In s.heap) (I : InstAt s.heap x ox C od)
    (hb : Looks (model prog w) s.heap (typeOf b) (.ref C)) (hc : selfFirst K C = true) (hs : findIn K (.ref C) (PySem.dunder nm) = some (some (.ref f))) (hf : isFn K (.ref f) = true)
    (h : wpAny (model prog w) A (call (.ref f) [.ref x, b]) (CmpBack fun v s' => Q (some v) s') E s) : wpAny (model prog w) A (binaryOp1 nm (.ref x) b) Q E s := by
  obtain ⟨cd, rest, hcd, hm⟩ := ksp_first hc
  unfold binaryOp1
  refine wpAny_bind (I.type.here (wpAny_bind (hb.here (wpAny_bind ((fills_K X hcd hm hs).here ?_)))))
  simp only [beq_self_eq_true, if_true]
  refine wpAny_bind (wpAny_pure ?_)
  simp only [Bool.and_false, Bool.false_eq_true, if_false, Bool.false_and]
  refine wpAny_bind (wpAny_pure ?_)
  simp only [Bool.false_eq_true, if_false]
  refine wpAny_bind (m := tryMethod (.ref x) _ b) ?_
  unfold tryMethod
  refine wpAny_bind (special_fn X I hs (beq_iff_eq.mp hf) (wpAny_mono h (fun v s' hv => ?_) fun _ _ e => e))
  cases v <;> first | exact hv.elim | exact wpAny_pure (wpAny_pure hv)
structure InpF (K : PySem.W.Frag) (C f : Addr) (op : Operator) : Prop where
  sf : PySem.W.selfFirst K C = true
  fn : PySem.W.findIn K (.ref C) (PySem.dunder op.info.2) = some (some (.ref f))
  isf : PySem.W.isFn K (.ref f) = true
  no : ∀ (M : Model) (h : Heap), K.In h → PySem.W.Looks M h (fillsInplaceSlot (.ref C) op.info.2 (op == .Add)) false
def rInp (C : Addr) (sp : Sp) : R2 := fun x y H Q => isIns C H x ∧ isIns C H y ∧ sp [x, y] H Q E0
theorem op_inp {X : Cx} {k : Nat} {C f : Addr} {op : Operator} {sp : Sp} (B : InpF X.K C f op) (O : Own X k f sp) : OpR X (inplaceOp op) (rInp C sp) := by
  intro pins s σ H x y v u Q I rx ry h
  obtain ⟨h1, h2, h3⟩ := h
  obtain ⟨a, dx, fs, rfl, ea⟩ := isIns_out h1
  cases rx
  obtain ⟨mA, J, _⟩ := ins_get I.hok ea
  obtain ⟨od, J, _⟩ := J.look
  obtain ⟨b, dy, gs, rfl, eb⟩ := isIns_out h2
  cases ry
  obtain ⟨mB, J', _⟩ := ins_get I.hok eb
  obtain ⟨od', J', _⟩ := J'.look
  unfold inplaceOp
  refine wpAny_holding (wpAny_bind (J.type.here ?_))
  refine wpAny_bind ((B.no _ _ I.kIn).here ?_)
  simp only [Bool.false_eq_true, if_false]
  refine wpAny_bind (bin1_K I.kIn J J'.type B.sf B.fn B.isf (thn (O.run (vs := [.ref a, .ref b]) I (.cons rfl (.cons rfl .nil)) h3) fun v s' z => ?_))
  obtain ⟨v', H', I', r', q'⟩ := z
  have z := cmpBack (X := X) (pins := pins) (σ := σ) (Q := Q) ⟨v', H', I', r', q'⟩
  cases v <;> first | exact z.elim | exact wpAny_pure ⟨v', H', I', r', q'⟩
theorem pip_of {X : Cx} {op : Operator} {r : R2} (h : OpR X (inplaceOp op) r) : PIp X op r := h
theorem ns_some {K : PySem.W.Frag} {h : Heap} {N : Addr} {mg : Str → Option Value} {n : Str} {v : Value} (X : K.In h) (G : h.Ns N mg) (e : PySem.W.nsIn K N n = some (some v)) : mg n = some v := by
  obtain ⟨o, es, ep, ho, hd, _, hf⟩ := G
  unfold PySem.W.nsIn at e
  split at e
  · rename_i c d es' n' sl q
    have z := X _ _ q
    rw [ho] at z
    cases z
    cases hd
    split at e
    · rename_i en he
      cases e
      rw [← hf]
      unfold nsFind findBy
      rw [← Array.find?_toList, he]
      rfl
    · split at e <;> cases e
  · cases e
/-! ### x != y by the text's == -/
structure NeF (K : PySem.W.Frag) (C f : Addr) : Prop where
  cls : ∃ nm q N bs hdct sn sub ab col dd k0 k1 k2 k3 k5 newId, K.lookup C = some (excClassObj nm q C N bs [.type "object"] hdct sn sub ab col dd k0 k1 k2 k3 k5 newId) ∧ PySem.W.nsOkIn K N = true ∧ PySem.W.nsIn K N "__eq__" = some (some (.ref f)) ∧ PySem.W.nsIn K N "__ne__" = some none
  fn : ∃ of, K.lookup f = some of ∧ of.cls = .type "function"
/-- a def of the text, called one builtin deeper -/
structure Own1 (X : Cx) (k : Nat) (f : Addr) (sp : Sp) : Prop where
  run : ∀ {pins : List (Addr × Obj)} {σ : L2.St} {H : Hp} {s : Shared} {Q : VK} {us : List Value} {vs : List V}, Inv X pins σ H s → Vals vs us → sp vs H Q E0 → wpAny (model X.prog X.w) X.A.in1 (call (.ref f) us) (EP X pins σ Q) X.xe s
theorem own1_of {X : Cx} {CX : CXT} {k : Nat} {f : Addr} {fd : FuncData} {ps : List Str} {sp : Sp} (F : FnOk X.prog X.w X.K X.mg X.base CX k f fd ps sp) (hr : Room (k + 1) X.A) (hb : Binds X.K fd ps []) (hx : Passes CX X E0) : Own1 X k f sp := by
  refine ⟨fun {pins σ H s Q us vs} I r h => ?_⟩
  have hl : us.length = ps.length := by rw [← r.length]; exact F.len _ _ _ _ h
  have hb' := hb s us I.kIn (by rw [List.append_nil]; exact hl)
  rw [List.append_nil] at hb'
  refine wpAny_call (codeAny_mono (F.run X.A.in1 X.stack s H ⟨us, []⟩ us vs Q E0 hr.in1 I.env0.in1 hb' r h) fun r s' hq => ?_)
  cases r with
  | error e => exact hx pins σ H s e s' I hq
  | ok fl =>
    cases fl with
    | ret u => exact I.after hq
    | next => exact False.elim hq
    | brk => exact False.elim hq
    | cont => exact False.elim hq
def rNeO (C : Addr) (sp : Sp) : R2 := fun x y H Q => isIns C H x ∧ isIns C H y ∧ sp [x, y] H (fun v H' => match v with | .bl b => Q (.bl (!b)) H' | _ => False) E0
theorem op_neO {X : Cx} {k : Nat} {C f : Addr} {sp : Sp} (B : NeF X.K C f) (O : Own1 X k f sp) (hu : X.A.units + 1 < cLine) : OpR X (compareOp .NotEq) (rNeO C sp) := by
  intro pins s σ H x y v u Q I rx ry h
  obtain ⟨h1, h2, h3⟩ := h
  obtain ⟨a, dx, fs, rfl, ea⟩ := isIns_out h1
  cases rx
  obtain ⟨b, dy, gs, rfl, eb⟩ := isIns_out h2
  cases ry
  obtain ⟨mA, J, _⟩ := ins_get I.hok ea
  obtain ⟨mB, J', _⟩ := ins_get I.hok eb
  obtain ⟨nm, q, N, bs, hdct, sn, sub, ab, col, dd, k0, k1, k2, k3, k5, newId, hC, hN, hE, hNe⟩ := B.cls
  obtain ⟨of, hf, hfc⟩ := B.fn
  have kin := I.kIn
  have run := O.run (vs := [.ref a, .ref b]) (us := [.ref a, .ref b]) I (.cons rfl (.cons rfl .nil)) h3
  have hns : s.heap.Ns N (s.heap.nsMap N) := .of_isNs (PySem.W.isNs_of_in kin hN)
  have heq : s.heap.nsMap N "__eq__" = some (.ref f) := ns_some kin hns hE
  have hne : s.heap.nsMap N "__ne__" = none := PySem.W.nsMap_none_of_in kin hN hNe
  obtain ⟨hp, g, d, tk, os⟩ := s
  have Y : hp.OwnEqNoNe a C f "object" [.type "object"] :=
    ⟨_, of, nm, q, N, bs, hdct, sn, sub, ab, col, dd, k0, k1, k2, k3, k5, newId, _, _, J.obj, rfl, kin _ _ hC, hns, heq, kin _ _ hf, hfc, F.cmp_object.mro, F.cmp_object.eq.lookup, hne⟩
  refine compareOp_ne_ownEq F.cmp_object Y J'.obj rfl hu (thn run fun v s' z => ?_)
  obtain ⟨v', H', I', r', q'⟩ := z
  cases v' with
  | bl c =>
    cases r'
    exact ⟨c, rfl, .bl (!c), H', I', rfl, q'⟩
  | _ => exact q'.elim
end HG

/-! Defs of the text, called where no repr is under way (GA): what the hand layer says of a def (FnOk), with this one premise more. -/
namespace HG
open PySem L2 PyProof.Rows
abbrev GA (A : Around) : Prop := A.guards = some []
structure FnG (P : Program) (w : World) (K : PySem.W.Frag) (mg : Str → Option Value) (base : Heap) (CX : CXT) (k : Nat) (f : Addr) (fd : FuncData) (ps : List Str) (sp : Sp) : Prop where
  len : ∀ vs H Q E, sp vs H Q E → vs.length = ps.length
  run : ∀ (A : Around) (outer : List Env) (s : Shared) (H : Hp) (args : Args) (us : List Value) (vs : List V) (Q : VK) (E : XK), Room k A → GA A → Env0 P w K mg base A outer s H → BindsTo s fd args (ps.zip us) → Vals vs us → sp vs H Q E →
    codeAny (model P w) A (.call (.ref f) args) (CR CX outer P w H s Q E) s
section
variable {P : Program} {w : World} {K : PySem.W.Frag} {mg : Str → Option Value} {base : Heap} {CX : CXT} {j k : Nat} {f : Addr} {fd : FuncData} {ps : List Str} {sp : Sp}
theorem FnG.up (F : FnG P w K mg base CX j f fd ps sp) (h : j ≤ k) : FnG P w K mg base CX k f fd ps sp := ⟨F.len, fun A outer s H args us vs Q E hr => F.run A outer s H args us vs Q E (hr.mono h)⟩
theorem ga_deeper {A : Around} {env : Env} (h : GA A) : GA (A.deeper env) := h
theorem ga_in1 {A : Around} (h : GA A) : GA A.in1 := h
theorem ga_make {A : Around} (C : Addr) (us : List Value) (kw : List (Str × Value)) (h : GA A) : GA (A.under (.builtin "type.__call__" ⟨.ref C :: us, kw⟩)) := by
  have e : (Code.builtin "type.__call__" ⟨.ref C :: us, kw⟩).isGuard = false := by
    show guardIds.contains "type.__call__" = false
    decide +kernel
  have g : (A.under (.builtin "type.__call__" ⟨.ref C :: us, kw⟩)).guards = pushGuards (Code.builtin "type.__call__" ⟨.ref C :: us, kw⟩).guards A.guards := rfl
  unfold GA
  rw [g]
  unfold Code.guards
  rw [e, show A.guards = some [] from h]
  rfl
/-- a def by its body -/
theorem fnG_of {name qual : Str} {params : Arguments} {body : List Stmt} {scope : Scope} {dV kV doc pm cdv ct oc : Value} {an od : Option Addr} {osl : Array (Option Value)} {N : List Str}
    (lk : K.lookup f = some ⟨oc, od, .func (PySem.W.fnOf name qual params body scope dV kV doc pm an cdv ct), osl⟩) (hcd : PySem.W.codeIn K cdv qual = true) (S : FnScope N ps scope) (len : ∀ vs H Q E, sp vs H Q E → vs.length = ps.length)
    (hbody : ∀ (A : Around) (outer : List Env) (s : Shared) (H : Hp) (vs : List V) (Q : VK) (E : XK), Room k (A.deeper (envOfC qual scope s.heap.objs.size f cdv)) → GA (A.deeper (envOfC qual scope s.heap.objs.size f cdv)) → sp vs H Q E →
      ∃ t, PSs (cxOf CX P w K mg base N qual scope f cdv A outer s H E) body t ∧ t { nx := fun _ H' => Q .non H', rt := Q } (L2.start N vs) H) :
    FnG P w K mg base CX (k + 1) f (PySem.W.fnOf name qual params body scope dV kV doc pm an cdv ct) ps sp := by
  refine ⟨len, fun A outer s H args us vs Q E hr hG e0 hb r hsp => ?_⟩
  have F : FnOk P w K mg base CX (k + 1) f (PySem.W.fnOf name qual params body scope dV kV doc pm an cdv ct) ps sp → codeAny (model P w) A (.call (.ref f) args) (CR CX outer P w H s Q E) s := fun F => F.run A outer s H args us vs Q E hr e0 hb r hsp
  have KX : K.In s.heap := e0.mod.kin.keeps fun b o e => (e0.bs b o e).1
  have lim : s.heap.NoLimit := e0.mod.nolimit.keeps fun b o e => (e0.bs b o e).1
  refine codeAny_call_function hr.depth (KX _ _ lk) rfl S.co S.gen rfl (PySem.W.codeRec_of KX hcd) (hb _ _ _ _ ?_)
  refine wpAny_newFunctionEnv_cells S.kind (fun y hy => ?_) fun env he s1 x => ?_
  · rcases S.par y.1 (List.of_mem_zip hy).1 with q | q
    · exact .inl q
    · exact .inr ⟨q, PySem.W.cellsFrom_some _ _ _ (.inl q)⟩
  · subst he
    refine ⟨lim.keeps x.toInCall.keep, codeAny_func ?_⟩
    obtain ⟨t, ht, hq⟩ := hbody A outer s H vs Q E (hr.deeper _) (ga_deeper hG) hsp
    have I := inv_start (CX := CX) (E := E) S hr.hd e0 (len _ _ _ _ hsp) r x
    refine wpAny_mono (ht.run [] s1 (L2.start N vs) H _ I hq) (fun fl s' hs => ?_) fun e s' hs => hs
    cases fl with
    | ret u =>
      obtain ⟨v, σ', H', J, rv, q⟩ := hs
      exact ⟨v, H', J.os, J.bare, J.base, J.hok, rv, q⟩
    | next =>
      obtain ⟨σ', H', J, q⟩ := hs
      exact ⟨.non, H', J.os, J.bare, J.base, J.hok, rfl, q⟩
    | brk => exact hs.elim fun _ z => z.elim fun _ z => z.2.elim
    | cont => exact hs.elim fun _ z => z.elim fun _ z => z.2.elim
theorem okG {x qual : Str} {st : Stmt} {N : List Str} (F : Fun K x qual st f fd) (S : FnScope N ps (defScope st)) (len : ∀ vs H Q E, sp vs H Q E → vs.length = ps.length)
    (hbody : ∀ (cdv : Value) (A : Around) (outer : List Env) (s : Shared) (H : Hp) (vs : List V) (Q : VK) (E : XK), Room k (A.deeper (envOfC qual (defScope st) s.heap.objs.size f cdv)) → GA (A.deeper (envOfC qual (defScope st) s.heap.objs.size f cdv)) → sp vs H Q E →
      ∃ t, PSs (cxOf CX P w K mg base N qual (defScope st) f cdv A outer s H E) (defBody st) t ∧ t { nx := fun _ H' => Q .non H', rt := Q } (L2.start N vs) H) : FnG P w K mg base CX (k + 1) f fd ps sp := by
  obtain ⟨oc, od, kV, doc, pm, an, cdv, ct, osl, rfl, lk, hcd⟩ := F.ex
  exact fnG_of lk hcd S len fun A outer s H vs Q E hr hG h => hbody cdv A outer s H vs Q E hr hG h
theorem okDG {x qual : Str} {st : Stmt} {dvs : List V} {kws : List (Str × V)} {N : List Str} (F : FunD K x qual (defArgs st) (defBody st) (defScope st) dvs kws f fd) (S : FnScope N ps (defScope st)) (len : ∀ vs H Q E, sp vs H Q E → vs.length = ps.length)
    (hbody : ∀ (cdv : Value) (A : Around) (outer : List Env) (s : Shared) (H : Hp) (vs : List V) (Q : VK) (E : XK), Room k (A.deeper (envOfC qual (defScope st) s.heap.objs.size f cdv)) → GA (A.deeper (envOfC qual (defScope st) s.heap.objs.size f cdv)) → sp vs H Q E →
      ∃ t, PSs (cxOf CX P w K mg base N qual (defScope st) f cdv A outer s H E) (defBody st) t ∧ t { nx := fun _ H' => Q .non H', rt := Q } (L2.start N vs) H) : FnG P w K mg base CX (k + 1) f fd ps sp := by
  obtain ⟨oc, od, dV, kV, doc, pm, an, cdv, ct, osl, rfl, lk, hcd, _, _⟩ := F.ex
  exact fnG_of lk hcd S len fun A outer s H vs Q E hr hG h => hbody cdv A outer s H vs Q E hr hG h
end
section
variable {X : Cx} {CX : CXT} {k : Nat} {f C : Addr} {fd : FuncData} {ps : List Str} {sp : Sp} {dvs : List V} {ds : List Value} {E : XK} {x m : Str} {p pos apos : Pos} {e o : Expr} {es : List Expr} {ta : TE} {t : TA}
/-- what lies behind the run of a callee -/
theorem behind {pins : List (Addr × Obj)} {σ : L2.St} {H : Hp} {s s' : Shared} {Q : VK} {r : Result} (hx : Passes CX X E) (I : Inv X pins σ H s) (h : CR CX X.stack X.prog X.w H s Q E r s') : wants (EP X pins σ Q) X.xe r s' := by
  cases r with
  | error e => exact hx pins σ H s e s' I h
  | ok fl =>
    cases fl with
    | ret u => exact I.after h
    | next => exact h.elim
    | brk => exact h.elim
    | cont => exact h.elim
theorem runG {pins : List (Addr × Obj)} {σ : L2.St} {H : Hp} {s : Shared} {Q : VK} {us : List Value} {vs : List V} (F : FnG X.prog X.w X.K X.mg X.base CX k f fd ps sp) (hr : Room k X.A) (hG : GA X.A) (hb : Binds X.K fd ps ds) (hd : Vals dvs ds) (hx : Passes CX X E)
    (I : Inv X pins σ H s) (r : Vals vs us) (h : sp (vs ++ dvs) H Q E) : wpAny (model X.prog X.w) X.A (call (.ref f) us) (EP X pins σ Q) X.xe s := by
  have r2 := Vals.append r hd
  have hl : (us ++ ds).length = ps.length := r2.length.symm.trans (F.len _ _ _ _ h)
  exact wpAny_call (codeAny_mono (F.run X.A X.stack s H ⟨us, []⟩ (us ++ ds) (vs ++ dvs) Q E hr hG I.env0 (hb s us I.kIn hl) r2 h) fun r s' hq => behind hx I hq)
theorem run1G {pins : List (Addr × Obj)} {σ : L2.St} {H : Hp} {s : Shared} {Q : VK} {us : List Value} {vs : List V} (F : FnG X.prog X.w X.K X.mg X.base CX k f fd ps sp) (hr : Room (k + 1) X.A) (hG : GA X.A) (hb : Binds X.K fd ps ds) (hd : Vals dvs ds) (hx : Passes CX X E)
    (I : Inv X pins σ H s) (r : Vals vs us) (h : sp (vs ++ dvs) H Q E) : wpAny (model X.prog X.w) X.A.in1 (call (.ref f) us) (EP X pins σ Q) X.xe s := by
  have r2 := Vals.append r hd
  have hl : (us ++ ds).length = ps.length := r2.length.symm.trans (F.len _ _ _ _ h)
  exact wpAny_call (codeAny_mono (F.run X.A.in1 X.stack s H ⟨us, []⟩ (us ++ ds) (vs ++ dvs) Q E hr.in1 (ga_in1 hG) I.env0.in1 (hb s us I.kIn hl) r2 h) fun r s' hq => behind hx I hq)
theorem ownG (F : FnG X.prog X.w X.K X.mg X.base CX k f fd ps sp) (hr : Room k X.A) (hG : GA X.A) (hb : Binds X.K fd ps []) (hx : Passes CX X E0) : Own X k f sp :=
  ⟨fun {pins σ H s Q us vs} I r h => runG (dvs := []) (ds := []) F hr hG hb .nil hx I r (by rw [List.append_nil]; exact h)⟩
theorem own1G (F : FnG X.prog X.w X.K X.mg X.base CX k f fd ps sp) (hr : Room (k + 1) X.A) (hG : GA X.A) (hb : Binds X.K fd ps []) (hx : Passes CX X E0) : Own1 X k f sp :=
  ⟨fun {pins σ H s Q us vs} I r h => run1G (dvs := []) (ds := []) F hr hG hb .nil hx I r (by rw [List.append_nil]; exact h)⟩
theorem pe_callG (F : FnG X.prog X.w X.K X.mg X.base CX k f fd ps sp) (hr : Room k X.A) (hG : GA X.A) (hg : Gl X x) (hm : X.mg x = some (.ref f)) (hk : PySem.W.keepIn X.K (.ref f) = true) (hb : Binds X.K fd ps ds) (hd : Vals dvs ds) (hx : Passes CX X E)
    (ha : PA X (e :: es) t) (hdb : (x == ("__debug__" : Str)) = false := by decide) (he : starEach (e :: es) X.env = (false, eval e X.env) :: starEach es X.env := by rfl) (hpl : (backTo pos (starEach es X.env)).any (·.1) = false := by rfl) :
    PE X (.Call (.Name x p) (e :: es) [] pos) (tCall sp dvs E t) :=
  ⟨fun pins s σ H Q I h => wpAny_Call_Name_kw (ld_glob I hg hm (PySem.W.callWith_K (h₀ := X.base) I.ok.mod.kin hk (thn (ha.run pos pins s σ H _ I h) fun us s1 z => by
    obtain ⟨vs, H1, I1, r, q⟩ := z
    exact ⟨I1.kIn, runG F hr hG hb hd hx I1 r q⟩) he hpl) hdb)⟩
theorem pe_callG0 (F : FnG X.prog X.w X.K X.mg X.base CX k f fd ps sp) (hr : Room k X.A) (hG : GA X.A) (hg : Gl X x) (hm : X.mg x = some (.ref f)) (hk : PySem.W.keepIn X.K (.ref f) = true) (hb : Binds X.K fd ps ds) (hd : Vals dvs ds) (hx : Passes CX X E)
    (hdb : (x == ("__debug__" : Str)) = false := by decide) : PE X (.Call (.Name x p) [] [] pos) (tCall sp dvs E tNil) :=
  ⟨fun pins s σ H Q I h => wpAny_Call_Name_kw (ld_glob I hg hm (PySem.W.callWith_K0 I.kIn hk (runG (us := []) F hr hG hb hd hx I .nil h)) hdb)⟩
/-- how the values of a call with keywords stand in the parameters' order -/
structure KwB (K : PySem.W.Frag) (fd : FuncData) (ps : List Str) (n : Nat) (ks : List Str) (gV : List V → List V → List V) : Prop where
  to : ∀ (s : Shared) {vs zs : List V} {us ws : List Value}, K.In s.heap → Vals vs us → Vals zs ws → vs.length = n → zs.length = ks.length → ∃ as, BindsTo s fd ⟨us, ks.zip ws⟩ (ps.zip as) ∧ Vals (gV vs zs) as
/-- a new instance, then __init__ -/
theorem makeG {pins : List (Addr × Obj)} {σ : L2.St} {H : Hp} {s : Shared} {Q : VK} {us ws as : List Value} {ks : List Str} {vs : List V} (M : Mk X.K C f) (F : FnG X.prog X.w X.K X.mg X.base CX k f fd ps sp) (hr : Room (k + 1) X.A) (hG : GA X.A) (hx : Passes CX X E)
    (I : Inv X pins σ H s)
    (hb : ∀ s', X.K.In s'.heap → BindsTo s' fd ⟨Value.ref (s.heap.objs.size + 1) :: us, ks.zip ws⟩ (ps.zip as)) (r : Vals vs as)
    (h : sp vs (upd (upd H s.heap.objs.size (.own (s.heap.objs.size + 1))) (s.heap.objs.size + 1) (.ins C s.heap.objs.size [])) (fun v H2 => v = .non ∧ Q (.ref (s.heap.objs.size + 1)) H2) E) :
    wpAny (model X.prog X.w) X.A (call (.ref C) us (ks.zip ws)) (EP X pins σ Q) X.xe s := by
  have I2 := Inv.made (C := C) I
  refine wpAny_call (make_map (f := f) I.kIn M.makes M.init (beq_iff_eq.mp M.fn) (codeAny_mono (F.run _ X.stack _ _ _ as vs _ E (hr.make C us (ks.zip ws)) (ga_make C us (ks.zip ws) hG) (I2.env0.make C us (ks.zip ws)) (hb _ I2.kIn) r h) fun r s' hq => ?_))
  cases r with
  | error e => exact hx pins σ _ _ e s' I2 hq
  | ok fl =>
    cases fl with
    | ret u =>
      obtain ⟨v, H', I3, rv, ev, q3⟩ := I2.after hq
      subst ev
      exact ⟨rv, .ref (s.heap.objs.size + 1), H', I3, rfl, q3⟩
    | next => exact hq.elim
    | brk => exact hq.elim
    | cont => exact hq.elim
theorem pe_makeG (M : Mk X.K C f) (F : FnG X.prog X.w X.K X.mg X.base CX k f fd ps sp) (hr : Room (k + 1) X.A) (hG : GA X.A) (hg : Gl X x) (hm : X.mg x = some (.ref C)) (hb : Binds X.K fd ps ds) (hd : Vals dvs ds) (hx : Passes CX X E)
    (ha : PA X (e :: es) t) (hdb : (x == ("__debug__" : Str)) = false := by decide) (he : starEach (e :: es) X.env = (false, eval e X.env) :: starEach es X.env := by rfl) (hpl : (backTo pos (starEach es X.env)).any (·.1) = false := by rfl) :
    PE X (.Call (.Name x p) (e :: es) [] pos) (tMake C sp dvs E t) := by
  refine ⟨fun pins s σ H Q I h => wpAny_Call_Name_kw (ld_glob I hg hm (PySem.W.callWith_K (h₀ := X.base) I.ok.mod.kin M.kp (thn (ha.run pos pins s σ H _ I h) fun us s1 z => ?_) he hpl) hdb)⟩
  obtain ⟨vs, H1, I1, r, q⟩ := z
  refine ⟨I1.kIn, ?_⟩
  have hq := q (s1.heap.objs.size + 1) s1.heap.objs.size (I1.hok.fresh (Nat.le_succ _)) (I1.hok.fresh (Nat.le_refl _)) (Nat.ne_of_lt (Nat.lt_succ_self _))
  have r2 : Vals (V.ref (s1.heap.objs.size + 1) :: (vs ++ dvs)) (Value.ref (s1.heap.objs.size + 1) :: (us ++ ds)) := .cons rfl (r.append hd)
  have hl : (Value.ref (s1.heap.objs.size + 1) :: us ++ ds).length = ps.length := r2.length.symm.trans (F.len _ _ _ _ hq)
  exact makeG (ks := []) (ws := []) M F hr hG hx I1 (fun s' kin => hb s' (Value.ref (s1.heap.objs.size + 1) :: us) kin hl) r2 hq
theorem pe_makeG0 (M : Mk X.K C f) (F : FnG X.prog X.w X.K X.mg X.base CX k f fd ps sp) (hr : Room (k + 1) X.A) (hG : GA X.A) (hg : Gl X x) (hm : X.mg x = some (.ref C)) (hb : Binds X.K fd ps ds) (hd : Vals dvs ds) (hx : Passes CX X E)
    (hdb : (x == ("__debug__" : Str)) = false := by decide) : PE X (.Call (.Name x p) [] [] pos) (tMake C sp dvs E tNil) := by
  refine ⟨fun pins s σ H Q I h => wpAny_Call_Name_kw (ld_glob I hg hm (PySem.W.callWith_K0 I.kIn M.kp ?_) hdb)⟩
  have hq := h (s.heap.objs.size + 1) s.heap.objs.size (I.hok.fresh (Nat.le_succ _)) (I.hok.fresh (Nat.le_refl _)) (Nat.ne_of_lt (Nat.lt_succ_self _))
  have r2 : Vals (V.ref (s.heap.objs.size + 1) :: ([] ++ dvs)) (Value.ref (s.heap.objs.size + 1) :: ([] ++ ds)) := .cons rfl hd
  have hl : (Value.ref (s.heap.objs.size + 1) :: [] ++ ds).length = ps.length := r2.length.symm.trans (F.len _ _ _ _ hq)
  exact makeG (us := []) (ks := []) (ws := []) M F hr hG hx I (fun s' kin => hb s' [Value.ref (s.heap.objs.size + 1)] kin hl) r2 hq
/-- o.m(..) -/
theorem pe_methG {pl : Sem Bool} (he : PE X o ta) (c : Cls X.K C) (hm : Meth X.K C m f) (F : FnG X.prog X.w X.K X.mg X.base CX k f fd ps sp) (hr : Room k X.A) (hG : GA X.A) (hb : Binds X.K fd ps ds) (hd : Vals dvs ds) (hx : Passes CX X E) (ha : PA X (e :: es) t)
    (hst : starEach (e :: es) X.env = (false, eval e X.env) :: starEach es X.env := by rfl) (hpl : (backTo pos (starEach es X.env)).any (·.1) = false := by rfl)
    (ht : eval (.Call (.Attribute o m apos) (e :: es) [] pos) X.env = (do
      let ov ← eval o X.env
      standAt apos.atName
      let (f, first) ← holding [ov] (getMethod ov m pl)
      callWith pos f first (backTo pos (starEach (e :: es) X.env)) (backToKw pos (keywordEach [] X.env))) := by rfl) :
    PE X (.Call (.Attribute o m apos) (e :: es) [] pos) (tMeth C m sp dvs E ta t) := by
  refine ⟨fun pins s σ H Q I h => PySem.W.methodCall_KW (pl := pl) (thn (he.run pins s σ H _ I h) fun u s1 z => ?_) ht⟩
  obtain ⟨v, H1, I1, rx, a, dx, fs, rfl, ea, l, q⟩ := z
  cases rx
  refine getmeth_ok I1 ea c hm l (PySem.W.callWith_K (first := [.ref a]) (h₀ := X.base) I.ok.mod.kin hm.kp (thn (ha.run pos pins s1 σ H1 _ I1 q) fun us s2 z => ?_) hst hpl)
  obtain ⟨vs, H2, I2, r, q2⟩ := z
  exact ⟨I2.kIn, runG (us := .ref a :: us) (vs := .ref a :: vs) F hr hG hb hd hx I2 (.cons rfl r) q2⟩
end
/-! ### the law's end -/
/-- the law's def at an abstract heap in which at most the script is tracked -/
theorem lawAt {P : Program} {w : World} {K : PySem.W.Frag} {mg mb : Str → Option Value} {CX : CXT} {k : Nat} {fa a : Addr} {fd : FuncData} {x : Str} {sp : Sp} {s₁ : Shared} {H : Hp}
    (KX : K.In s₁.heap) (hns : s₁.heap.Ns mainGlobals mg) (hb : s₁.heap.Ns builtinsNs mb) (hbb : ∀ x : Str, x ≠ "__name__" → mb x = bootBuiltins x) (hlim : s₁.heap.NoLimit) (hg : s₁.gens = #[]) (hr : Room k callerA)
    (F : ∀ base : Heap, K.In base → base.Ns mainGlobals mg → FnG P w K mg base CX k fa fd [x] sp) (hbind : ∀ (s : Shared) (u : Value), BindsTo s fd ⟨[u], []⟩ [(x, u)])
    (hsp : sp [.ref a] H (fun v _ => v = .bl true) E0) (hCX : ∀ e s', CX [] H s₁ E0 e s' → False)
    (hok : HOk P w H s₁.heap) (free : ∀ b o, s₁.heap.get? b = some o → (∃ es ep, o.data = .dict es ep) ∨ (K.lookup b).isSome = true → H b = none)
    (frz : ∀ b u, H b = some u → ∃ ob xs, u = .frz ob xs) :
    codeAny (model P w) callerA (.call (.ref fa) ⟨[.ref a], []⟩) (fun r s' => r = .ok (.ret (.bool true)) ∧ OldK s₁.heap s'.heap ∧ s'.os = s₁.os ∧ AllBare s'.gens) s₁ := by
  have ns : ∀ {b : Addr} {m : Str → Option Value}, s₁.heap.Ns b m → (hidT s₁.heap H).Ns b m := fun {b m} z => by
    obtain ⟨o, es, ep, e, d, r⟩ := z
    exact ⟨o, es, ep, hidT_get e (free b o e (.inl ⟨es, ep, d⟩)), d, r⟩
  have kb : K.In (hidT s₁.heap H) := fun b o e => hidT_get (KX b o e) (free b o (KX b o e) (.inr (by rw [e]; rfl)))
  have md : Mod K mg (hidT s₁.heap H) := by
    obtain ⟨mc, h1, h2⟩ := hlim
    exact ⟨kb, ns hns, ⟨mb, ns hb, hbb⟩, mc, ns h1, h2⟩
  have e0 : Env0 P w K mg (hidT s₁.heap H) callerA [] s₁ H :=
    { frames := rfl, mod := md, bs := fun b o e => of_hidT e, bsz := Nat.le_of_eq (hidT_size _ _), funs := trivial, frf := fun b z => (List.not_mem_nil z).elim, hok := hok, bare := .of_eq hg }
  refine codeAny_mono ((F _ kb (ns hns)).run callerA [] s₁ H ⟨[.ref a], []⟩ [.ref a] [.ref a] _ _ hr rfl e0 (hbind s₁ (.ref a)) (.cons rfl .nil) hsp) fun r s' h => ?_
  match r, h with
  | .error e, h => exact (hCX e s' h).elim
  | .ok .next, h => exact h.elim
  | .ok .brk, h => exact h.elim
  | .ok .cont, h => exact h.elim
  | .ok (.ret u), h =>
    obtain ⟨v, H', os, bare, un, hok', rv, q⟩ := h
    have q' : v = .bl true := q
    subst q'
    cases rv
    refine ⟨rfl, OldK.of_keep fun b o e => ?_, os, bare⟩
    cases eb : H b with
    | none => exact un.keep b o e eb (fun z => (List.not_mem_nil z).elim) (fun z => (List.not_mem_nil z).elim)
    | some u =>
      obtain ⟨ob, xs, rfl⟩ := frz b u eb
      have e1 := (hok b _ eb).1
      rw [e] at e1
      cases e1
      exact (hok' b _ (un.frzs b _ xs eb)).1
theorem walkG {l : PySem.W.OpenLaw} {n k : Nat} {q : Program} {loose : List Str} {XP : (Str → Option Value) → Heap → Prop} {YP : World → Heap → Prop} {d : DefRec} {K : Params → PySem.W.Frag} {CX : World → CXT} {sp : World → Sp} {x : Str}
    (hn : l.most = some n) (hn2 : n ≤ sizeLine) (hdf : d.params.defaults = []) (hr : Room k callerA)
    (hY : ∀ (w : World) (h : Heap), YP w h → (K w.params).In h)
    (F : ∀ (w : World) (mg : Str → Option Value) (fa : Addr) (h : Heap), (K w.params).In h → h.Ns mainGlobals mg → mg d.name = some (.ref fa) →
      ∃ fd : FuncData, (∀ (s : Shared) (u : Value), BindsTo s fd ⟨[u], []⟩ [(x, u)]) ∧
        ∀ base : Heap, (K w.params).In base → base.Ns mainGlobals mg → FnG l.prog w (K w.params) mg base (CX w) k fa fd [x] (sp w))
    (hsp : ∀ (w : World) (H : Hp) (a : Addr) (ns : List Int), ns.length ≤ n → SqL (K w.params) H a (ns.map V.int) → (H a = none ∨ (∃ o u, H a = some (.frz o u)) ∨ H a = some (.lst (ns.map V.int))) → sp w [.ref a] H (fun v _ => v = .bl true) E0)
    (hCX : ∀ (w : World) (H : Hp) (s : Shared) (e : Value) (s' : Shared), CX w [] H s E0 e s' → False) :
    PySem.W.WalkO q loose XP YP l.row.toRowW d [] (fun f vs => PySem.call f vs) := by
  refine Att.attach_call hn hdf fun w s₀ s₁ mg mb fa o pm cd doc a vs ns G Y ho hd hcd hmg hobj hints hlen hg => ?_
  have KX := hY w _ Y
  obtain ⟨fd, hb, hF⟩ := F w mg fa _ KX G.T.g hmg
  have rv := vals_ints hints
  have lv := hints.length
  have hl : ns.length ≤ sizeLine := Nat.le_trans hlen hn2
  cases hk : (K w.params).lookup a with
  | some ob =>
    have e := KX a ob hk
    rw [hobj] at e
    cases e
    have sq : SqL (K w.params) (fun _ => none) a (ns.map V.int) := .inr ⟨_, vs.toArray, _, hk, rfl, rfl, rfl, by rw [List.size_toArray, lv]; exact hl, by simpa using rv⟩
    exact lawAt (H := fun _ => none) KX G.T.g G.T.b G.T.builtins G.T.nolimit hg hr hF hb (hsp w _ a ns hlen sq (.inl rfl)) (fun e s' => hCX w _ s₁ e s') (fun b u z => by cases z) (fun _ _ _ _ => rfl) (fun b u z => by cases z)
  | none =>
    let Hs : Hp := fun b => if b = a then some (.frz { cls := .type "list", data := .seq vs.toArray } (.lst (ns.map V.int))) else none
    have ha : Hs a = some (.frz { cls := .type "list", data := .seq vs.toArray } (.lst (ns.map V.int))) := if_pos rfl
    have only : ∀ b u, Hs b = some u → b = a ∧ u = .frz { cls := .type "list", data := .seq vs.toArray } (.lst (ns.map V.int)) := fun b u z => by
      by_cases hb : b = a
      · have z' := (if_pos hb).symm.trans z
        exact ⟨hb, (Option.some.inj z').symm⟩
      · have z' := (if_neg hb).symm.trans z
        cases z'
    have sq : SqL (K w.params) Hs a (ns.map V.int) := .inl (.inr ⟨_, ha⟩)
    refine lawAt (H := Hs) KX G.T.g G.T.b G.T.builtins G.T.nolimit hg hr hF hb (hsp w _ a ns hlen sq (.inr (.inl ⟨_, _, ha⟩))) (fun e s' => hCX w _ s₁ e s') (fun b u z => ?_) (fun b o e z => ?_) (fun b u z => ?_)
    · obtain ⟨rfl, rfl⟩ := only b u z
      exact ⟨hobj, by rw [List.length_map]; exact hl, vs, _, rv, hobj⟩
    · by_cases hb : b = a
      · subst hb
        rcases z with ⟨es, ep, z⟩ | z
        · rw [hobj] at e
          cases e
          cases z
        · rw [hk] at z
          cases z
      · exact if_neg hb
    · obtain ⟨_, rfl⟩ := only b u z
      exact ⟨_, _, rfl⟩
end HG

namespace HG
open PySem L2
theorem never0 {CX : CXT} {P : Program} {w : World} {K : PySem.W.Frag} {mg : Str → Option Value} {base : Heap} {N : List Str} {qual : Str} {scope : Scope} {f : Addr} {cdv : Value} {A : Around} {outer : List Env} {s : Shared} {H : Hp} {E : XK} :
    PassesOwn (model (cxOf CX P w K mg base N qual scope f cdv A outer s H E).prog (cxOf CX P w K mg base N qual scope f cdv A outer s H E).w) (cxOf CX P w K mg base N qual scope f cdv A outer s H E).A (cxOf CX P w K mg base N qual scope f cdv A outer s H E).env (cxOf CX P w K mg base N qual scope f cdv A outer s H E).xe :=
  PassesOwn.leaving
end HG

namespace HG
open PySem L2
mutual
theorem dp_noDict {K : PySem.W.Frag} {H : Hp} : ∀ {x : V} {d : PyData}, Dp K H x d → d.hasDict = false
  | _, _, .non => rfl
  | _, _, .bl _ => rfl
  | _, _, .int _ => rfl
  | _, _, .str _ => rfl
  | _, _, .lst _ h => dpAll_noDict h
  | _, _, .tup _ h => dpAll_noDict h
theorem dpAll_noDict {K : PySem.W.Frag} {H : Hp} : ∀ {xs : List V} {ds : List PyData}, DpAll K H xs ds → PyData.hasDictAll ds = false
  | _, _, .nil => rfl
  | _, _, .cons (d := d) (ds := ds) h t => by
    have h1 := dp_noDict h
    have h2 := dpAll_noDict t
    show (d.hasDict || PyData.hasDictAll ds) = false
    rw [h1, h2]
    rfl
end
/-- repr(x): a whole number, or data -/
def cRepr (K : PySem.W.Frag) : List V → Hp → VK → Prop := fun xs H Q => match xs with
  | [.int i] => i.natAbs.log2 < 1920 ∧ Q (.str (toString i)) H
  | [.ref a] => match dataF 8 H (.ref a) with
    | some d => d.showable = true ∧ d.depth ≤ 60 ∧ d.shown.length ≤ sizeLine ∧ Q (.str d.shown) H
    | none => False
  | _ => False
theorem call_reprU {X : Cx} (hG : GA X.A) (hu : X.A.units + 64 < cLine) : CallR X (.builtin "repr") (cRepr X.K) := by
  intro pins s σ H xs us Q I r h
  unfold cRepr at h
  split at h
  · exact SkE.call_repr_int pins s σ H _ us Q I r ⟨_, rfl, h.1, h.2⟩
  · rename_i a
    split at h
    · rename_i d e
      obtain ⟨h1, h2, h3, h4⟩ := h
      have D : Dp X.K H (.ref a) d := dp_of e
      have nd := dp_noDict D
      cases r with
      | cons r1 rn =>
        cases rn
        cases r1
        obtain ⟨as, rd⟩ := Dp.reads I d (.ref a) (.ref a) D rfl
        exact repr_of_reads' rd h1 (fun z => by rw [nd] at z; cases z) hG (by omega) (fun _ _ e => e) (fun h' u tk hk => ⟨.str d.shown, H, I.kept hk, ⟨_, rfl⟩, h4⟩) h3
    · exact h.elim
  · exact h.elim
end HG

namespace HG
open PySem L2
/-- by what stands on the left, on the right -/
def onIns (r1 r2 : R2) : R2 := fun x y H Q => match x with
  | .ref a => match H a with
    | some (.ins _ _ _) => r1 (.ref a) y H Q
    | _ => r2 (.ref a) y H Q
  | x => r2 x y H Q
theorem op_onIns {X : Cx} {f : Value → Value → Sem Value} {r1 r2 : R2} (h1 : OpR X f r1) (h2 : OpR X f r2) : OpR X f (onIns r1 r2) := opImp (h1.or h2) fun x y H Q h => by
  unfold onIns at h
  split at h
  · split at h
    · exact .inl h
    · exact .inr h
  · exact .inr h
def onInsR (r1 r2 : R2) : R2 := fun x y H Q => match y with
  | .ref a => match H a with
    | some (.ins _ _ _) => r1 x (.ref a) H Q
    | _ => r2 x (.ref a) H Q
  | y => r2 x y H Q
theorem op_onInsR {X : Cx} {f : Value → Value → Sem Value} {r1 r2 : R2} (h1 : OpR X f r1) (h2 : OpR X f r2) : OpR X f (onInsR r1 r2) := opImp (h1.or h2) fun x y H Q h => by
  unfold onInsR at h
  split at h
  · split at h
    · exact .inl h
    · exact .inr h
  · exact .inr h
theorem onIns_yes {r1 r2 : R2} {a : Addr} {y : V} {H : Hp} {Q : VK} {C dx : Addr} {fs : List (Str × V)} (h : H a = some (.ins C dx fs)) : onIns r1 r2 (.ref a) y H Q = r1 (.ref a) y H Q := by
  simp only [onIns, h]
theorem onIns_int {r1 r2 : R2} {i : Int} {y : V} {H : Hp} {Q : VK} : onIns r1 r2 (.int i) y H Q = r2 (.int i) y H Q := rfl
theorem onIns_str {r1 r2 : R2} {i : Str} {y : V} {H : Hp} {Q : VK} : onIns r1 r2 (.str i) y H Q = r2 (.str i) y H Q := rfl
theorem onIns_lst {r1 r2 : R2} {a : Addr} {y : V} {H : Hp} {Q : VK} {xs : List V} (h : H a = some (.lst xs)) : onIns r1 r2 (.ref a) y H Q = r2 (.ref a) y H Q := by
  simp only [onIns, h]
theorem onInsR_yes {r1 r2 : R2} {a : Addr} {x : V} {H : Hp} {Q : VK} {C dx : Addr} {fs : List (Str × V)} (h : H a = some (.ins C dx fs)) : onInsR r1 r2 x (.ref a) H Q = r1 x (.ref a) H Q := by
  simp only [onInsR, h]
theorem onInsR_int {r1 r2 : R2} {x : V} {i : Int} {H : Hp} {Q : VK} : onInsR r1 r2 x (.int i) H Q = r2 x (.int i) H Q := rfl
/-- -x -/
structure NegF (K : PySem.W.Frag) (C f : Addr) : Prop where
  fn : PySem.W.findIn K (.ref C) "__neg__" = some (some (.ref f))
  isf : PySem.W.isFn K (.ref f) = true
def uNegO (C : Addr) (sp : Sp) : V → Hp → VK → Prop := fun x H Q => match x with
  | .int i => Q (.int (-i)) H
  | x => isIns C H x ∧ sp [x] H Q E0
theorem un_negO {X : Cx} {k : Nat} {C f : Addr} {sp : Sp} (B : NegF X.K C f) (O : Own X k f sp) : UnR X (unaryOp .USub) (uNegO C sp) := by
  intro pins s σ H x v Q I rx h
  unfold uNegO at h
  split at h
  · exact un_neg pins s σ H _ v Q I rx ⟨_, rfl, h⟩
  · obtain ⟨h1, h3⟩ := h
    obtain ⟨a, dx, fs, rfl, ea⟩ := isIns_out h1
    cases rx
    obtain ⟨mA, J, _⟩ := ins_get I.hok ea
    obtain ⟨od, J, _⟩ := J.look
    obtain ⟨m, hF⟩ := I.fr
    exact PySem.W.ksp_neg hF I.ok.mod.kin J B.fn B.isf (O.run (vs := [.ref a]) I (.cons rfl .nil) h3)
/-! C(k = v, ..) -/
section
variable {X : Cx} {CX : CXT} {k : Nat} {f C : Addr} {fd : FuncData} {ps ks : List Str} {sp : Sp} {E : XK} {x : Str} {p pos : Pos} {kws : List Keyword} {tk : TA} {g : List Value → List Value → List Value} {gV : List V → List V → List V}
theorem pe_makeKG0 {n : Nat} (M : Mk X.K C f) (F : FnG X.prog X.w X.K X.mg X.base CX k f fd ps sp) (hr : Room (k + 1) X.A) (hG : GA X.A) (hg : Gl X x) (hm : X.mg x = some (.ref C)) (hb : KBn X.K fd ps 1 ks g gV) (hx : Passes CX X E) (hkw : PK X kws tk)
    (hall : (backToKw pos (keywordEach kws X.env)).all (·.1.isSome) = true := by rfl) (hks : (backToKw pos (keywordEach kws X.env)).filterMap (·.1) = ks := by rfl) (hdb : (x == ("__debug__" : Str)) = false := by decide)
    (hpl : ((backTo pos (starEach [] X.env)).any (·.1) || (backToKw pos (keywordEach kws X.env)).any (·.1.isNone)) = false := by rfl)
    (hnl : ks.length = n := by rfl) : PE X (.Call (.Name x p) [] kws pos) (tMakeK C 0 n sp gV E tNil tk) := by
  subst hnl
  refine ⟨fun pins s σ H Q I h => wpAny_Call_Name_kw (ld_glob I hg hm (PySem.W.callWith_KW0 (h₀ := X.base) I.ok.mod.kin M.kp hall (thn (hkw.run pos pins s σ H _ I h) fun ws s2 z => ?_) hpl) hdb)⟩
  obtain ⟨zs, H2, I2, rz, l1, l2, q2⟩ := z
  refine ⟨I2.kIn, ?_⟩
  rw [hks]
  have hq := q2 (s2.heap.objs.size + 1) s2.heap.objs.size (I2.hok.fresh (Nat.le_succ _)) (I2.hok.fresh (Nat.le_refl _)) (Nat.ne_of_lt (Nat.lt_succ_self _))
  have r1 : Vals [V.ref (s2.heap.objs.size + 1)] [Value.ref (s2.heap.objs.size + 1)] := .cons rfl .nil
  exact makeG (us := []) M F hr hG hx I2 (fun s' kin => hb.to s' [Value.ref (s2.heap.objs.size + 1)] ws kin rfl (rz.length.symm.trans l2)) (hb.rel r1 rz) hq
/-- e.f, a property -/
theorem pe_propG {p' g' : Addr} {f' : Str} {e : Expr} {ta : TE} (he : PE X e ta) (c : Cls X.K C) (hp : PropOf X.K C f' p' f) (F : FnG X.prog X.w X.K X.mg X.base CX k f fd ps sp) (hr : Room (k + 1) X.A) (hG : GA X.A) (hb : Binds X.K fd ps []) (hx : Passes CX X.nox E0)
    (hab : attributeBase e f' X.env (eval e X.env) = eval e X.env) : PE X (.Attribute e f' pos) (tProp C sp [] E0 ta) := by
  refine ⟨fun pins s σ H Q I h => attr_of hab (thn (he.run pins s σ H _ I h) fun u s1 z => ?_)⟩
  obtain ⟨v, H1, I1, rx, a, dx, fs, rfl, ea, q⟩ := z
  cases rx
  obtain ⟨mA, O, _⟩ := ins_get I1.hok ea
  obtain ⟨od, J, _⟩ := O.look
  obtain ⟨rest, hrec⟩ := hp.rec_
  have hc : (PySem.W.clsIn X.K C).isSome = true := by
    obtain ⟨cd, hc, _⟩ := PySem.W.any_some c.hd
    rw [hc]
    rfl
  have I2 := I1.tok (s1.toks + 1)
  refine PySem.W.get_bind I1.kIn J (PySem.W.plainGet_of (c.get f')).1 (PySem.W.findObj_data hc hp.at_ hp.get hp.tak) (PySem.W.plainGet_of (c.get f')).2 (wpAny_call (PySem.W.prop_get (s := { s1 with toks := s1.toks + 1 }) I1.kIn hrec ?_))
  have hl : [Value.ref a].length = ps.length := F.len _ _ _ _ q
  have hb' := hb { s1 with toks := s1.toks + 1 } [Value.ref a] I2.kIn (by simpa using hl)
  rw [List.append_nil] at hb'
  refine codeAny_mono (F.run X.A.in1 X.stack { s1 with toks := s1.toks + 1 } H1 ⟨[.ref a], []⟩ [.ref a] [.ref a] Q E0 hr.in1 (ga_in1 hG) I2.env0.in1 hb' (.cons rfl .nil) q) fun r s' hq => ?_
  cases r with
  | error er => exact (hx pins σ H1 _ er s' (I2.wish _) hq).elim
  | ok fl =>
    cases fl with
    | ret u =>
      obtain ⟨v, H', I3, rv, q3⟩ := I2.after hq
      show wpAny _ _ (handedOut u) _ _ _
      rw [PySem.W.handedOut_of (handed_of rv)]
      exact wpAny_pure ⟨v, H', I3, rv, q3⟩
    | next => exact hq.elim
    | brk => exact hq.elim
    | cont => exact hq.elim
end
end HG
namespace HG
theorem _root_.L2.Room.units1 {k : Nat} {A : PySem.Around} (r : L2.Room k A) : A.units + 1 < PySem.cLine := by have := r.un; omega
end HG
namespace HG
open PySem L2
/-! ### attributes -/
def fldR (K : PySem.W.Frag) (x : V) (f : Str) (H1 : Hp) (Q : VK) : Prop := ∃ a C dx fs v, x = .ref a ∧ H1 a = some (.ins C dx fs) ∧ Cls K C ∧ NoAttr K C f ∧ fs.lookup f = some v ∧ Q v H1
theorem tFld_eq {K : PySem.W.Frag} {ta : TE} {f : Str} {σ : L2.St} {H : Hp} {Q : VK} : tFld K ta f σ H Q = ta σ H fun x H1 => fldR K x f H1 Q := rfl
theorem fldR_eq {K : PySem.W.Frag} {a C dx : Addr} {f : Str} {fs : List (Str × V)} {v : V} {H : Hp} {Q : VK} (h : H a = some (.ins C dx fs)) (c : Cls K C) (n : NoAttr K C f) (l : fs.lookup f = some v) : fldR K (.ref a) f H Q = Q v H := by
  refine propext ⟨?_, fun q => ⟨a, C, dx, fs, v, rfl, h, c, n, l, q⟩⟩
  rintro ⟨a', C', dx', fs', v', e1, e2, _, _, e3, q⟩
  cases e1
  rw [h] at e2
  cases e2
  rw [l] at e3
  cases e3
  exact q
theorem st_fld {K : PySem.W.Frag} {ta tv : TE} {f : Str} {D : Ends} {σ : L2.St} {H : Hp} (h : tv σ H fun y H1 => ta σ H1 fun x H2 => ∃ a C dx fs, x = .ref a ∧ H2 a = some (.ins C dx fs) ∧ Cls K C ∧ NoAttr K C f ∧ fs.length < 1000 ∧ D.nx σ (upd H2 a (.ins C dx (putF f y fs)))) : sFld K ta tv f D σ H := h
theorem isIns_of {C a dx : Addr} {H : Hp} {fs : List (Str × V)} (h : H a = some (.ins C dx fs)) : isIns C H (.ref a) := by
  simp only [isIns, h]
end HG

/-! Sizes of numbers; fractions in lowest terms. No program in sight. -/
namespace HG
open PySem L2
def Bn (m : Nat) (x : Int) : Prop := x.natAbs < 2 ^ m
section
variable {m n : Nat} {x y : Int}
theorem Bn.bits (h : Bn m x) : Builtin.Int.intBits x ≤ m := intBits_le_iff.mpr h
theorem Bn.of_bits (h : Builtin.Int.intBits x ≤ m) : Bn m x := intBits_le_iff.mp h
theorem Bn.up (h : Bn m x) (q : m ≤ n) : Bn n x := Nat.lt_of_lt_of_le h (Nat.pow_le_pow_right (by decide) q)
theorem Bn.mul (h : Bn m x) (q : Bn n y) : Bn (m + n) (x * y) := .of_bits (intBits_mul_le h.bits q.bits)
theorem Bn.add (h : Bn m x) (q : Bn m y) : Bn (m + 1) (x + y) := by have z := intBits_add_le h.bits q.bits; rw [Nat.max_self] at z; exact .of_bits z
theorem Bn.sub (h : Bn m x) (q : Bn m y) : Bn (m + 1) (x - y) := by have z := intBits_sub_le h.bits q.bits; rw [Nat.max_self] at z; exact .of_bits z
theorem Bn.neg (h : Bn m x) : Bn m (0 - x) := by unfold Bn at *; rw [Int.zero_sub, Int.natAbs_neg]; exact h
theorem Bn.le (h : Bn m x) (q : y.natAbs ≤ x.natAbs) : Bn m y := Nat.lt_of_le_of_lt q h
theorem Bn.mulok (h : Bn m x) (q : Bn n y) (l : m + n ≤ 134217728 := by decide) : IntMulOk x y := .of_le h.bits q.bits l
theorem Bn.log (h : Bn (m + 1) x) : x.natAbs.log2 ≤ m := by
  by_cases h0 : x.natAbs = 0
  · rw [h0]; exact Nat.zero_le _
  · exact Nat.le_of_lt_succ ((Nat.log2_lt h0).mpr h)
theorem Bn.div (h : Bn m x) : Bn m (x / y) := h.le (Int.natAbs_ediv_le_natAbs x y)
end
/-- lowest terms -/
def ru (p q : Int) : Int := p / (Int.gcd p q : Int)
def rl (p q : Int) : Int := q / (Int.gcd p q : Int)
section
variable {p q k r s : Int}
theorem gcd_pos (h : 0 < q) : 0 < (Int.gcd p q : Int) := by
  have : 0 < Int.gcd p q := Int.gcd_pos_of_ne_zero_right _ (by omega)
  omega
theorem gcd_pos_ne (h : q ≠ 0) : 0 < (Int.gcd p q : Int) := by
  have : 0 < Int.gcd p q := Int.gcd_pos_of_ne_zero_right _ h
  omega
theorem ru_mul : (Int.gcd p q : Int) * ru p q = p := Int.mul_ediv_cancel' (Int.gcd_dvd_left _ _)
theorem rl_mul : (Int.gcd p q : Int) * rl p q = q := Int.mul_ediv_cancel' (Int.gcd_dvd_right _ _)
theorem rl_pos (h : 0 < q) : 0 < rl p q := by
  have h1 := gcd_pos (p := p) h
  have h2 := rl_mul (p := p) (q := q)
  by_cases z : 0 < rl p q
  · exact z
  · have := Int.mul_nonpos_of_nonneg_of_nonpos (Int.le_of_lt h1) (Int.not_lt.mp z)
    omega
theorem r_scale (hk : 0 < k) : ru (k * p) (k * q) = ru p q ∧ rl (k * p) (k * q) = rl p q := by
  unfold ru rl
  rw [Int.gcd_mul_left]
  have e : ((k.natAbs * Int.gcd p q : Nat) : Int) = k * (Int.gcd p q : Int) := by
    rw [Int.natCast_mul, Int.natAbs_of_nonneg (Int.le_of_lt hk)]
  rw [e]
  exact ⟨Int.mul_ediv_mul_of_pos _ _ hk, Int.mul_ediv_mul_of_pos _ _ hk⟩
theorem r_one : ru k 1 = k ∧ rl k 1 = 1 := by
  unfold ru rl
  rw [Int.gcd_one]
  exact ⟨Int.ediv_one _, rfl⟩
theorem bn_ru {m : Nat} (h : Bn m p) : Bn m (ru p q) := h.div
theorem bn_rl {m : Nat} (h : Bn m q) : Bn m (rl p q) := h.div
/-- sums of fractions in lowest terms -/
theorem r_add (hq : 0 < q) (hs : 0 < s) : ru (ru p q * rl r s + ru r s * rl p q) (rl p q * rl r s) = ru (p * s + r * q) (q * s) ∧ rl (ru p q * rl r s + ru r s * rl p q) (rl p q * rl r s) = rl (p * s + r * q) (q * s) := by
  have g1 := gcd_pos (p := p) hq
  have g2 := gcd_pos (p := r) hs
  have e1 := ru_mul (p := p) (q := q)
  have e2 := rl_mul (p := p) (q := q)
  have e3 := ru_mul (p := r) (q := s)
  have e4 := rl_mul (p := r) (q := s)
  generalize ru p q = a at *
  generalize rl p q = b at *
  generalize ru r s = c at *
  generalize rl r s = d at *
  generalize (Int.gcd p q : Int) = g at *
  generalize (Int.gcd r s : Int) = h at *
  subst e1 e2 e3 e4
  have hk : 0 < g * h := Int.mul_pos g1 g2
  have z := r_scale (p := a * d + c * b) (q := b * d) hk
  have y1 : g * h * (a * d + c * b) = g * a * (h * d) + h * c * (g * b) := by
    rw [Int.mul_add]; ac_rfl
  have y2 : g * h * (b * d) = g * b * (h * d) := by ac_rfl
  rw [y1, y2] at z
  exact ⟨z.1.symm, z.2.symm⟩
theorem r_neg (hq : 0 < q) : ru (0 - ru p q) (rl p q) = ru (0 - p) q ∧ rl (0 - ru p q) (rl p q) = rl (0 - p) q := by
  have g1 := gcd_pos (p := p) hq
  have e1 := ru_mul (p := p) (q := q)
  have e2 := rl_mul (p := p) (q := q)
  generalize ru p q = a at *
  generalize rl p q = b at *
  generalize (Int.gcd p q : Int) = g at *
  subst e1 e2
  have z := r_scale (p := 0 - a) (q := b) g1
  have y : g * (0 - a) = 0 - g * a := by rw [Int.mul_sub, Int.mul_zero]
  rw [y] at z
  exact ⟨z.1.symm, z.2.symm⟩
theorem r_mul (hq : 0 < q) : ru (ru p q * k) (rl p q) = ru (p * k) q ∧ rl (ru p q * k) (rl p q) = rl (p * k) q := by
  have g1 := gcd_pos (p := p) hq
  have e1 := ru_mul (p := p) (q := q)
  have e2 := rl_mul (p := p) (q := q)
  generalize ru p q = a at *
  generalize rl p q = b at *
  generalize (Int.gcd p q : Int) = g at *
  subst e1 e2
  have z := r_scale (p := a * k) (q := b) g1
  rw [← Int.mul_assoc] at z
  exact ⟨z.1.symm, z.2.symm⟩
theorem r_lt (hq : 0 < q) (hs : 0 < s) : (ru p q * rl r s < ru r s * rl p q) ↔ p * s < r * q := by
  have g1 := gcd_pos (p := p) hq
  have g2 := gcd_pos (p := r) hs
  have e1 := ru_mul (p := p) (q := q)
  have e2 := rl_mul (p := p) (q := q)
  have e3 := ru_mul (p := r) (q := s)
  have e4 := rl_mul (p := r) (q := s)
  generalize ru p q = a at *
  generalize rl p q = b at *
  generalize ru r s = c at *
  generalize rl r s = d at *
  generalize (Int.gcd p q : Int) = g at *
  generalize (Int.gcd r s : Int) = h at *
  subst e1 e2 e3 e4
  have hk : 0 < g * h := Int.mul_pos g1 g2
  have y1 : g * a * (h * d) = g * h * (a * d) := by ac_rfl
  have y2 : h * c * (g * b) = g * h * (c * b) := by ac_rfl
  rw [y1, y2]
  exact ⟨fun z => Int.mul_lt_mul_of_pos_left z hk, fun z => Int.lt_of_mul_lt_mul_left z (Int.le_of_lt hk)⟩
theorem r_le (hq : 0 < q) (hs : 0 < s) : (ru p q * rl r s ≤ ru r s * rl p q) ↔ p * s ≤ r * q := by
  have z := r_lt (p := r) (q := s) (r := p) (s := q) hs hq
  constructor
  · intro h
    refine Int.not_lt.mp fun y => ?_
    have := z.mpr y
    omega
  · intro h
    refine Int.not_lt.mp fun y => ?_
    have := z.mp y
    omega
theorem r_eq (hq : 0 < q) (hs : 0 < s) : (ru p q = ru r s ∧ rl p q = rl r s) ↔ p * s = r * q := by
  constructor
  · rintro ⟨h1, h2⟩
    have e1 := ru_mul (p := p) (q := q)
    have e2 := rl_mul (p := p) (q := q)
    have e3 := ru_mul (p := r) (q := s)
    have e4 := rl_mul (p := r) (q := s)
    generalize ru p q = a at *
    generalize rl p q = b at *
    generalize ru r s = c at *
    generalize rl r s = d at *
    generalize (Int.gcd p q : Int) = g at *
    generalize (Int.gcd r s : Int) = h at *
    subst h1 h2 e1 e2 e3 e4
    ac_rfl
  · intro h
    have z1 := r_scale (p := p) (q := q) hs
    have z2 := r_scale (p := r) (q := s) hq
    have y1 : s * p = q * r := by rw [Int.mul_comm s p, h, Int.mul_comm]
    have y2 : s * q = q * s := Int.mul_comm _ _
    rw [y1, y2] at z1
    exact ⟨z1.1.symm.trans z2.1, z1.2.symm.trans z2.2⟩
end
/-- one step of the divisor's loop -/
theorem gcd_step {a b : Int} (h : 0 < b) : Int.gcd b (a % b) = Int.gcd a b := by
  rw [Int.gcd_comm a b, Int.emod_def, Int.gcd_sub_mul_left_right]
end HG

/-! The pen of the laws' scripts: what the laws' drawing defs are asked. -/
namespace HG
open PySem L2
/-- the pen at p, at most n cells used -/
def Pen (H : Hp) (p : Addr) (n : Nat) : Prop := ∃ (l : Addr) (cells : List Int) (turn rest : Int), H p = some (.lst [.ref l, .int turn, .int rest]) ∧ H l = some (.lst (cells.map V.int)) ∧ cells.length ≤ 63 ∧ 0 ≤ turn ∧ turn ≤ n ∧ 0 ≤ rest
def Grow (H H' : Hp) : Prop := ∀ b o, H b = some o → H' b = some o
theorem Grow.refl {H : Hp} : Grow H H := fun _ _ h => h
theorem Grow.trans {H H1 H2 : Hp} (h : Grow H H1) (q : Grow H1 H2) : Grow H H2 := fun b o e => q b o (h b o e)
theorem Grow.new {H : Hp} {p : Addr} {o : HO} (h : H p = none) : Grow H (upd H p o) := fun b u e => by
  rw [upd_ne (fun z => by rw [z, h] at e; cases e)]; exact e
theorem Grow.keep {p : Addr} {H H' : Hp} (h : Grow H H') : Keep p H H' := fun b o _ e => h b o e
theorem Keep.refl {p : Addr} {H : Hp} : Keep p H H := fun _ _ _ e => e
theorem Keep.trans {p : Addr} {H H1 H2 : Hp} (h : Keep p H H1) (q : Keep p H1 H2) : Keep p H H2 := fun b o n e => q b o n (h b o n e)
theorem Pen.grow {H H' : Hp} {p : Addr} {n : Nat} (h : Pen H p n) (g : Grow H H') : Pen H' p n := by
  obtain ⟨l, c, t, r, h1, h2, h3⟩ := h
  exact ⟨l, c, t, r, g _ _ h1, g _ _ h2, h3⟩
theorem Pen.up {H : Hp} {p : Addr} {m n : Nat} (h : Pen H p m) (g : m ≤ n) : Pen H p n := by
  obtain ⟨l, c, t, r, h1, h2, h3, h4, h5, h6⟩ := h
  exact ⟨l, c, t, r, h1, h2, h3, h4, by omega, h6⟩
theorem Pen.lst {H : Hp} {p : Addr} {n : Nat} (h : Pen H p n) : ∃ xs, H p = some (.lst xs) := by
  obtain ⟨l, c, t, r, h1, h2, h3⟩ := h
  exact ⟨_, h1⟩
/-- what is no list is not the pen -/
theorem Pen.other {H : Hp} {p b : Addr} {n : Nat} {C dx : Addr} {fs : List (Str × V)} (h : Pen H p n) (q : H b = some (.ins C dx fs)) : b ≠ p := by
  obtain ⟨xs, e⟩ := h.lst
  rintro rfl
  rw [e] at q
  cases q
theorem Pen.fresh {H : Hp} {p b : Addr} {n : Nat} (h : Pen H p n) (q : H b = none) : b ≠ p := by
  obtain ⟨xs, e⟩ := h.lst
  rintro rfl
  rw [e] at q
  cases q
def spPen (K : PySem.W.Frag) : Sp := fun vs H Q _ => match vs with
  | [.ref a] => ∃ ns : List Int, SqL K H a (ns.map V.int) ∧ ∀ p H', Pen H' p 0 → Grow H H' → Q (.ref p) H'
  | _ => False
def spDraw : Sp := fun vs H Q _ => match vs with
  | [.ref p, .int many] => ∃ n : Nat, Pen H p n ∧ n ≤ 999999 ∧ 0 < many ∧ many.natAbs.log2 < 9000 ∧ ∀ (d : Int) (H' : Hp), 0 ≤ d → d < many → Pen H' p (n + 1) → Keep p H H' → Q (.int d) H'
  | _ => False
def spPick : Sp := fun vs H Q _ => match vs with
  | [.ref p, .ref s] => ∃ (n : Nat) (xs : List V), Pen H p n ∧ n ≤ 999999 ∧ H s = some (.lst xs) ∧ s ≠ p ∧ xs ≠ [] ∧ xs.length ≤ 100000 ∧ ∀ (x : V) (H' : Hp), x ∈ xs → Pen H' p (n + 1) → Keep p H H' → Q x H'
  | _ => False
theorem log_small {m : Int} (h0 : 0 < m) (h : m ≤ 1000000) : m.natAbs.log2 < 9000 := by
  have h1 : m.natAbs < 2 ^ 20 := by omega
  have h2 : m.natAbs.log2 < 20 := (Nat.log2_lt (by omega)).mpr h1
  omega
end HG
namespace HG
open PySem L2
/-- the law's def -/
def spLaw (K : PySem.W.Frag) : Sp := fun vs H Q _ => match vs with
  | [.ref a] => (∃ ns : List Int, SqL K H a (ns.map V.int)) ∧ ∀ H', Q (.bl true) H'
  | _ => False
end HG

namespace HG
open PySem L2
theorem shown_int_len {i : Int} {m : Nat} (h : Bn (m + 1) i) : (PyData.shown (.int i)).length ≤ m + 2 := by
  have e := int_text_length_le (a := i) (k := m + 1) (by omega) (Nat.lt_succ_of_le h.log)
  show (Str.ofString (toString i)).length ≤ m + 2
  rw [ofString_length]; exact e
theorem showable_int {i : Int} (h : Bn 1900 i) : PyData.showable (.int i) = true := by
  have := Bn.log (m := 1899) h
  show decide (i.natAbs.log2 < 1920) = true
  exact decide_eq_true (by omega)
theorem weight_int {i : Int} (h : Bn 1900 i) : PyData.weight (.int i) ≤ 1900 := by
  have := Bn.log (m := 1899) h
  show (if i == 0 then 0 else i.natAbs.log2 + 1) ≤ 1900
  split <;> omega
theorem leaves_ints : ∀ ns : List Int, (∀ n ∈ ns, Bn 1900 n) → PyData.leavesShortAll 1901 (ns.map PyData.int) = true ∧ PyData.showableAll (ns.map PyData.int) = true ∧ PyData.weightAll (ns.map PyData.int) ≤ 1901 * ns.length
  | [], _ => ⟨rfl, rfl, Nat.le_refl _⟩
  | n :: r, h => by
    obtain ⟨h1, h2, h3⟩ := leaves_ints r fun m hm => h m (List.mem_cons_of_mem _ hm)
    have hn := h n (List.mem_cons_self ..)
    have e1 : PyData.leavesShort 1901 (.int n) = true := decide_eq_true (shown_int_len (m := 1899) hn)
    have e2 := showable_int hn
    have e3 := weight_int hn
    refine ⟨?_, ?_, ?_⟩
    · show (PyData.leavesShort 1901 (.int n) && PyData.leavesShortAll 1901 (r.map PyData.int)) = true
      rw [e1, h1]; rfl
    · show (PyData.showable (.int n) && PyData.showableAll (r.map PyData.int)) = true
      rw [e2, h2]; rfl
    · show PyData.weight (.int n) + 1 + PyData.weightAll (r.map PyData.int) ≤ 1901 * (r.length + 1)
      omega
theorem repr_ints {K : PySem.W.Frag} {H : Hp} {r : Addr} {ns : List Int} {Q : VK} (h : H r = some (.lst (ns.map V.int))) (hb : ∀ n ∈ ns, Bn 1900 n) (hl : ns.length ≤ 4) (k : Q (.str (PyData.shown (.list (ns.map PyData.int)))) H) : cRepr K [.ref r] H Q := by
  have e : dataF 8 H (.ref r) = some (.list (ns.map PyData.int)) := dataF_ints h
  obtain ⟨h1, h2, h3⟩ := leaves_ints ns hb
  simp only [cRepr, e]
  refine ⟨h2, ?_, ?_, k⟩
  · show PyData.depthAll (ns.map PyData.int) + 1 ≤ 60
    rw [depth_ints]; decide
  · have z := PyData.shown_le 1901 (by decide) (.list (ns.map PyData.int)) h1
    have w : PyData.weight (.list (ns.map PyData.int)) ≤ 1901 * 4 := by
      show PyData.weightAll _ ≤ _
      omega
    have e : (1901 + 2) * PyData.weight (.list (ns.map PyData.int)) ≤ (1901 + 2) * (1901 * 4) := Nat.mul_le_mul_left _ w
    have : sizeLine = 16777216 := rfl
    omega
theorem data_bools {n : Nat} {H : Hp} : ∀ bs : List Bool, dataL (dataF n H) (bs.map V.bl) = some (bs.map PyData.bool)
  | [] => rfl
  | b :: r => by
    have e : dataF n H (.bl b) = some (.bool b) := by cases n <;> rfl
    show (match dataF n H (.bl b) with | some d => (match dataL (dataF n H) (r.map V.bl) with | some ds => some (d :: ds) | none => none) | none => none) = _
    rw [e, data_bools r]
    rfl
theorem leaves_bools : ∀ bs : List Bool, PyData.leavesShortAll 8 (bs.map PyData.bool) = true ∧ PyData.showableAll (bs.map PyData.bool) = true ∧ PyData.weightAll (bs.map PyData.bool) = bs.length ∧ PyData.depthAll (bs.map PyData.bool) = 0
  | [] => ⟨rfl, rfl, rfl, rfl⟩
  | b :: r => by
    obtain ⟨h1, h2, h3, h4⟩ := leaves_bools r
    refine ⟨?_, ?_, ?_, ?_⟩
    · show (PyData.leavesShort 8 (.bool b) && PyData.leavesShortAll 8 (r.map PyData.bool)) = true
      rw [h1]; rfl
    · show (PyData.showable (.bool b) && PyData.showableAll (r.map PyData.bool)) = true
      rw [h2]; rfl
    · show PyData.weight (.bool b) + 1 + PyData.weightAll (r.map PyData.bool) = r.length + 1
      rw [h3]
      show 0 + 1 + r.length = r.length + 1
      omega
    · show max (PyData.depth (.bool b)) (PyData.depthAll (r.map PyData.bool)) = 0
      rw [h4]; rfl
theorem repr_bools {K : PySem.W.Frag} {H : Hp} {r : Addr} {bs : List Bool} {Q : VK} (h : H r = some (.lst (bs.map V.bl))) (hl : bs.length ≤ 1000) (k : Q (.str (PyData.shown (.list (bs.map PyData.bool)))) H) : cRepr K [.ref r] H Q := by
  have e : dataF 8 H (.ref r) = some (.list (bs.map PyData.bool)) := by
    simp only [dataF, h]
    rw [data_bools]
    rfl
  obtain ⟨h1, h2, h3, h4⟩ := leaves_bools bs
  simp only [cRepr, e]
  refine ⟨h2, ?_, ?_, k⟩
  · show PyData.depthAll (bs.map PyData.bool) + 1 ≤ 60
    rw [h4]; decide
  · have z := PyData.shown_le 8 (by decide) (.list (bs.map PyData.bool)) h1
    have w : PyData.weight (.list (bs.map PyData.bool)) = bs.length := h3
    have : sizeLine = 16777216 := rfl
    omega
end HG

namespace HG
open PySem L2
/-! ### new instances, properties: folded readings -/
def MKf (C : Addr) (sp : Sp) (E : XK) (f : V → List V) (H : Hp) (Q : VK) : Prop := ∀ x dx, H x = none → H dx = none → dx ≠ x → sp (f (.ref x)) (upd (upd H dx (.own x)) x (.ins C dx [])) (fun v H2 => v = .non ∧ Q (.ref x) H2) E
theorem tMake_eq {C : Addr} {sp : Sp} {dvs : List V} {E : XK} {t : TA} {σ : L2.St} {H : Hp} {Q : VK} : tMake C sp dvs E t σ H Q = t σ H fun vs H1 => MKf C sp E (fun r => r :: (vs ++ dvs)) H1 Q := rfl
theorem tMakeK_eq {C : Addr} {n m : Nat} {sp : Sp} {gV : List V → List V → List V} {E : XK} {t tk : TA} {σ : L2.St} {H : Hp} {Q : VK} : tMakeK C n m sp gV E t tk σ H Q = t σ H fun vs H1 => tk σ H1 fun zs H2 => vs.length = n ∧ zs.length = m ∧ MKf C sp E (fun r => gV (r :: vs) zs) H2 Q := rfl
def PRf (C : Addr) (sp : Sp) (dvs : List V) (E : XK) (x : V) (H : Hp) (Q : VK) : Prop := ∃ a dx fs, x = .ref a ∧ H a = some (.ins C dx fs) ∧ sp (.ref a :: dvs) H Q E
theorem tProp_eq {C : Addr} {sp : Sp} {dvs : List V} {E : XK} {t : TE} {σ : L2.St} {H : Hp} {Q : VK} : tProp C sp dvs E t σ H Q = t σ H fun x H1 => PRf C sp dvs E x H1 Q := rfl
theorem cRepr_int {K : PySem.W.Frag} {i : Int} {H : Hp} {Q : VK} : cRepr K [.int i] H Q = (i.natAbs.log2 < 1920 ∧ Q (.str (toString i)) H) := rfl
/-! ### a comprehension over a list -/
def LcK (K : PySem.W.Frag) (g : TG) (tt : TT) (te : TE) (vs : List Nat) (σ : L2.St) (Q : VK) : VK := fun x H1 => ∃ a, x = .ref a ∧ (∃ xs, SqL K H1 a xs) ∧ ∀ D, H1 D = none → ∃ W : Nat → Nat → Hp → Prop, (∃ m, W 0 m (upd H1 D (.lst []))) ∧ ∀ i m H, W i m H →
      ((Itl K a).stop i H ∧ Q (.ref D) H) ∨ ((Itl K a).go i H ∧ ∃ Nx : Hp → Prop, (∀ H', Nx H' → ∃ m', m' < m ∧ W (i + 1) m' H') ∧ ∀ x H', (Itl K a).yld i H x H' → g x (wipe σ vs) H' fun σ2 H2 => wipe σ2 vs = wipe σ vs ∧ tt σ2 H2 fun b H3 =>
        if b = true then te σ2 H3 fun y H4 => ∃ acc, H4 D = some (.lst acc) ∧ acc.length < sizeLine ∧ Nx (upd H4 D (.lst (acc ++ [y]))) else Nx H3)
theorem lc_go {K : PySem.W.Frag} {tl te : TE} {g : TG} {tt : TT} {vs : List Nat} {σ : L2.St} {H : Hp} {Q : VK} (h : tl σ H (LcK K g tt te vs σ Q)) : tLc (iList K tl) g tt te vs σ H Q := h
/-- one whose test lets nothing through -/
theorem lc_empty {K : PySem.W.Frag} {te : TE} {i : Nat} {tt : TT} {σ : L2.St} {H1 : Hp} {Q : VK} {a : Addr} {xs : List V} (ha : H1 a = some (.lst xs))
    (q : ∀ D, H1 D = none → (∀ x ∈ xs, ∀ H', Grow (upd H1 D (.lst [])) H' → ∀ R : Bool → Hp → Prop, (∀ H2, Grow H' H2 → R false H2) → tt ((wipe σ [i]).set i (some x)) H' R) ∧ ∀ H', Grow (upd H1 D (.lst [])) H' → Q (.ref D) H')
    (hw : ∀ x, wipe ((wipe σ [i]).set i (some x)) [i] = wipe σ [i]) : LcK K (gName i) tt te [i] σ Q (.ref a) H1 := by
  refine ⟨a, rfl, ⟨xs, SqL.of ha⟩, fun D hD => ?_⟩
  obtain ⟨q1, q2⟩ := q D hD
  have g0 : Grow H1 (upd H1 D (.lst [])) := Grow.new hD
  refine ⟨fun j m H' => m = xs.length - j ∧ Grow (upd H1 D (.lst [])) H', ⟨_, rfl, .refl⟩, fun j m H' ⟨hm, g⟩ => ?_⟩
  have ha' := g _ _ (g0 _ _ ha)
  by_cases hj : xs.length ≤ j
  · exact .inl ⟨⟨xs, SqL.of ha', hj⟩, q2 _ g⟩
  · refine .inr ⟨⟨xs, xs[j], SqL.of ha', List.getElem?_eq_getElem (by omega)⟩, fun H'' => Grow (upd H1 D (.lst [])) H'', fun H'' g' => ⟨xs.length - (j + 1), by omega, rfl, g'⟩, ?_⟩
    rintro x H'' ⟨rfl, e⟩
    have ex := e xs (SqL.of ha')
    refine ⟨hw x, q1 x (List.mem_of_getElem? ex) _ g _ fun H2 g2 => ?_⟩
    rw [if_neg (by decide)]
    exact g.trans g2
theorem st_ifcmp {r : R2} {ta tb : TE} {t u : TS} {D : Ends} {σ : L2.St} {H : Hp} (h : ta σ H fun x H1 => tb σ H1 fun y H2 => r x y H2 fun z H3 => ∃ k, z = .bl k ∧ if k = true then t D σ H3 else u D σ H3) : tIfS (tTest (tOp r ta tb)) t u D σ H := h
end HG

/-! What the top has written, in the forms that the rules want. -/
namespace HG
open PySem L2 PyProof.Rows
open PySem.W in
theorem fillsI_no {K : Frag} {M : Model} {h : Heap} {C : Addr} {cd : ClassData} {nm : String} {add : Bool} (X : K.In h) (hc : clsIn K C = some cd) (hm : cd.mro = [.ref C, .type "object"]) (hs : findIn K (.ref C) (dunderI nm) = some none)
    (ho : findIn K (.type "object") (dunderI nm) = some none) : Looks M h (fillsInplaceSlot (.ref C) nm add) false := by
  intro A Q E s k q
  have Lm : Looks M h (mroOf (.ref C)) cd.mro := (looks_clsIn X hc).andThen (f := fun cd => pure cd.mro) .now
  have Lm' := Lm.keeps k
  obtain ⟨hh, g, d, tt, os⟩ := s
  have X' : K.In hh := X.keeps k
  have L1 : Looks M hh (typeLookup (.ref C) (dunderI nm)) none := looks_findIn X' hs
  have L2 : Looks M hh (typeLookup (.type "object") (dunderI nm)) none := looks_findIn X' ho
  unfold fillsInplaceSlot
  refine wpAny_bind (Lm'.at ?_)
  rw [hm, List.anyM_cons]
  refine wpAny_bind (wpAny_bind (L1.at (wpAny_pure ?_)))
  simp only [Bool.false_eq_true, if_false]
  rw [List.anyM_cons]
  refine wpAny_bind (wpAny_bind (L2.at (wpAny_pure ?_)))
  simp only [Bool.false_eq_true, if_false, List.anyM_nil]
  exact wpAny_pure q
section
variable {K : PySem.W.Frag} {C f g : Addr} {op : Operator} {nm : Str}
theorem isSomeE {α : Type} {o : Option α} (h : o.isSome = true) : ∃ x, o = some x := Option.isSome_iff_exists.mp h
theorem binF_mk (d : PySem.dunder op.info.2 = nm) (sf : PySem.W.selfFirst K C = true) (fn : PySem.W.findIn K (.ref C) nm = some (some (.ref f))) (isf : PySem.W.isFn K (.ref f) = true)
    (rc : ∃ rc, PySem.W.findIn K (.ref C) (dunderR op.info.2) = some rc ∧ (rc = none ∨ ∃ g : Addr, rc = some (.ref g))) (i1 : (PySem.W.findIn K (.type "int") (PySem.dunder op.info.2)).isSome = true) (i2 : (PySem.W.findIn K (.type "int") (dunderR op.info.2)).isSome = true)
    (sub : PySem.W.subIn K (.type "int") (.ref C) = some false) : BinF K C f op := ⟨sf, by rw [d]; exact fn, isf, rc, isSomeE i1, isSomeE i2, sub⟩
theorem reflF_mk {nr : Str} (d : PySem.dunder op.info.2 = nm) (dr : dunderR op.info.2 = nr) (sf : PySem.W.selfFirst K C = true) (fn : PySem.W.findIn K (.ref C) nm = some (some (.ref f))) (rn : PySem.W.findIn K (.ref C) nr = some (some (.ref g))) (isf : PySem.W.isFn K (.ref g) = true)
    (sub : PySem.W.subIn K (.ref C) (.type "int") = some false) (fo : ∃ fo ro, PySem.W.findIn K (.type "int") (PySem.dunder op.info.2) = some fo ∧ PySem.W.findIn K (.type "int") (dunderR op.info.2) = some ro ∧ ((fo.isSome && !isSeqSlot fo) || (ro.isSome && !isSeqSlot ro)) = true) : ReflF K C f g op :=
  ⟨sf, by rw [d]; exact fn, by rw [dr]; exact rn, isf, sub, fo⟩
theorem inpF_mk {cd : ClassData} (d : PySem.dunder op.info.2 = nm) (sf : PySem.W.selfFirst K C = true) (fn : PySem.W.findIn K (.ref C) nm = some (some (.ref f))) (isf : PySem.W.isFn K (.ref f) = true) (hc : PySem.W.clsIn K C = some cd) (hm : cd.mro = [.ref C, .type "object"])
    (hs : PySem.W.findIn K (.ref C) (dunderI op.info.2) = some none) (ho : PySem.W.findIn K (.type "object") (dunderI op.info.2) = some none) : InpF K C f op := ⟨sf, by rw [d]; exact fn, isf, fun M h X => fillsI_no X hc hm hs ho⟩
end
theorem funD_mk {K : PySem.W.Frag} {x qual : Str} {st : Stmt} {f T : Addr} {oc oc2 : Value} {od od2 an : Option Addr} {osl osl2 : Array (Option Value)} {kV doc pm cdv ct : Value} {its : List Value} {dvs : List V} {n : Nat}
    (l : K.lookup f = some ⟨oc, od, .func (PySem.W.fnOf x qual (defArgs st) (defBody st) (defScope st) (.ref T) kV doc pm an cdv ct), osl⟩) (lT : K.lookup T = some ⟨oc2, od2, .seq its.toArray n, osl2⟩) (r : Vals dvs its) (ne : dvs ≠ [])
    (c : PySem.W.codeIn K cdv qual = true) (k : PySem.W.keepIn K (.ref f) = true) : FunD K x qual (defArgs st) (defBody st) (defScope st) dvs [] f (PySem.W.fnOf x qual (defArgs st) (defBody st) (defScope st) (.ref T) kV doc pm an cdv ct) :=
  ⟨⟨oc, od, .ref T, kV, doc, pm, an, cdv, ct, osl, rfl, l, c, .inr ⟨ne, T, _, its, n, rfl, lT, rfl, r⟩, .inl rfl⟩, k⟩
end HG
namespace HG
open PySem L2
theorem int_fo_Add {K : PySem.W.Frag} : ∃ fo ro, PySem.W.findIn K (.type "int") (PySem.dunder Operator.Add.info.2) = some fo ∧ PySem.W.findIn K (.type "int") (dunderR Operator.Add.info.2) = some ro ∧ ((fo.isSome && !isSeqSlot fo) || (ro.isSome && !isSeqSlot ro)) = true :=
  ⟨some (.builtin "int.__add__"), some (.builtin "int.__radd__"), by show fastLookup "int" _ = _; decide +kernel, by show fastLookup "int" _ = _; decide +kernel, by decide +kernel⟩
theorem int_fo_Sub {K : PySem.W.Frag} : ∃ fo ro, PySem.W.findIn K (.type "int") (PySem.dunder Operator.Sub.info.2) = some fo ∧ PySem.W.findIn K (.type "int") (dunderR Operator.Sub.info.2) = some ro ∧ ((fo.isSome && !isSeqSlot fo) || (ro.isSome && !isSeqSlot ro)) = true :=
  ⟨some (.builtin "int.__sub__"), some (.builtin "int.__rsub__"), by show fastLookup "int" _ = _; decide +kernel, by show fastLookup "int" _ = _; decide +kernel, by decide +kernel⟩
end HG
namespace HG
open PySem L2
theorem kit_tr {K : PySem.W.Frag} {C : Addr} {t : String} {b : Bool} (hc : PySem.W.isClsIn K C = true) (ht : PySem.W.typeIn K (.ref C) = some (.type "type")) (hs : PySem.W.subIn K (.type t) (.ref C) = some b) : PySem.W.kitOne K (.type t) (.ref C) = some b := by
  have hne : (Value.type t == Value.ref C) = false := Bool.eq_false_iff.mpr fun q => by cases beq_iff_eq.mp q
  have hc' : (PySem.W.clsIn K C).isSome = true := hc
  unfold PySem.W.kitOne PySem.W.kitCls
  simp only [hne, hc', ht, hs, Bool.false_eq_true, if_false, beq_self_eq_true, Bool.and_self, if_true]
theorem kit_rt {K : PySem.W.Frag} {C : Addr} {T : String} {b : Bool} (hm : PySem.W.kitMeta T = true) (hs : PySem.W.subIn K (.ref C) (.type T) = some b) : PySem.W.kitOne K (.ref C) (.type T) = some b := by
  have hne : (Value.ref C == Value.type T) = false := Bool.eq_false_iff.mpr fun q => by cases beq_iff_eq.mp q
  unfold PySem.W.kitOne PySem.W.kitCls
  simp only [hne, hm, hs, Bool.false_eq_true, if_false, if_true]
theorem kit_rr {K : PySem.W.Frag} {C : Addr} : PySem.W.kitOne K (.ref C) (.ref C) = some true := by
  unfold PySem.W.kitOne
  simp only [beq_self_eq_true, if_true]
theorem nsOk_mk {K : PySem.W.Frag} {N : Addr} {oc : Value} {od : Option Addr} {es : Array DictEntry} {n : Nat} {sl : Array (Option Value)} (h : K.lookup N = some ⟨oc, od, .dict es n, sl⟩) (e : (es.toList.all fun e => match e.key with | .str _ _ => true | _ => false) = true) : PySem.W.nsOkIn K N = true := by
  unfold PySem.W.nsOkIn
  rw [h]
  show (es.all _) = true
  rw [← Array.all_toList]
  exact e
end HG

namespace HG
open PySem L2
structure Ad where
  c_Rate : Addr
  p_Rate_floor : Addr
  f_is_integer : Addr
  f_divisor : Addr
  f_Rate_init : Addr
  f_as_rate : Addr
  f_Rate_floor : Addr
  f_Rate_eq : Addr
  f_Rate_lt : Addr
  f_Rate_le : Addr
  f_Rate_gt : Addr
  f_Rate_ge : Addr
  f_Rate_neg : Addr
  f_Rate_add : Addr
  f_Rate_radd : Addr
  f_Rate_sub : Addr
  f_Rate_rsub : Addr
  f_Rate_mul : Addr
  f_law_pen : Addr
  f_law_draw : Addr
  f_law_pick : Addr
  f_law_number : Addr
  f_law_divisor : Addr
  f_law_is : Addr
  f_law_sums_right : Addr
  f_law_whole_right : Addr
  f_law : Addr
  d_is_integer : FuncData
  d_divisor : FuncData
  d_Rate_init : FuncData
  d_as_rate : FuncData
  d_Rate_floor : FuncData
  d_Rate_eq : FuncData
  d_Rate_lt : FuncData
  d_Rate_le : FuncData
  d_Rate_gt : FuncData
  d_Rate_ge : FuncData
  d_Rate_neg : FuncData
  d_Rate_add : FuncData
  d_Rate_radd : FuncData
  d_Rate_sub : FuncData
  d_Rate_rsub : FuncData
  d_Rate_mul : FuncData
  d_law_pen : FuncData
  d_law_draw : FuncData
  d_law_pick : FuncData
  d_law_number : FuncData
  d_law_divisor : FuncData
  d_law_is : FuncData
  d_law_sums_right : FuncData
  d_law_whole_right : FuncData
  d_law : FuncData

def sp_law_pen (K : PySem.W.Frag) (A : Ad) : Sp := spPen K
def sp_law_draw (K : PySem.W.Frag) (A : Ad) : Sp := spDraw
def sp_law_pick (K : PySem.W.Frag) (A : Ad) : Sp := spPick
def t_law_pen_0 (K : PySem.W.Frag) (A : Ad) : TS := (tRet (tLst (tCons (tCB (cList K) (tCons (tSl (rSlL K) (tVar 0) tNoPart (tPart (tC (.int 63)))) tNil)) (tCons (tC (.int 0)) (tCons (tC (.int 0)) tNil)))))

def t_law_draw_3 (K : PySem.W.Frag) (A : Ad) : TS := (tRet (tVar 2))
def t_law_draw_2 (K : PySem.W.Frag) (A : Ad) : TS := (tSeq (tAsg (tOp oFdiv (tCB cInt (tCons (tOp (iIx K) (tVar 0) (tC (.int 2))) tNil)) (tVar 1)) (gSub (tVar 0) (tC (.int 2)) stL)) (t_law_draw_3 K A))
def t_law_draw_1 (K : PySem.W.Frag) (A : Ad) : TS := (tSeq (tAsg (tOp oMod (tCB cInt (tCons (tOp (iIx K) (tVar 0) (tC (.int 2))) tNil)) (tVar 1)) (gName 2)) (t_law_draw_2 K A))
def t_law_draw_8 (K : PySem.W.Frag) (A : Ad) : TS := (tAsg (tOp (iIx K) (tOp (iIx K) (tVar 0) (tC (.int 0))) (tOp oMod (tCB cInt (tCons (tVar 3) tNil)) (tCB (cLen K) (tCons (tOp (iIx K) (tVar 0) (tC (.int 0))) tNil)))) (gName 4))
def t_law_draw_12 (K : PySem.W.Frag) (A : Ad) : TS := (tRet (tOp oMod (tCB cInt (tCons (tVar 5) tNil)) (tVar 1)))
def t_law_draw_11 (K : PySem.W.Frag) (A : Ad) : TS := (tSeq (tAsg (tOp oFdiv (tCB cInt (tCons (tVar 5) tNil)) (tVar 1)) (gSub (tVar 0) (tC (.int 2)) stL)) (t_law_draw_12 K A))
def t_law_draw_10 (K : PySem.W.Frag) (A : Ad) : TS := (tSeq (tAsg (tOp oAdd (tOp oMul (tC (.int 2)) (tOp oSub (tCB cAbs (tCons (tVar 4) tNil)) (tOp oPow (tC (.int 10)) (tC (.int 18))))) (tCB cInt (tCons (tOp oLt (tVar 4) (tC (.int 0))) tNil))) (gName 5)) (t_law_draw_11 K A))
def t_law_draw_15 (K : PySem.W.Frag) (A : Ad) : TS := (tRet (tOp oMod (tCB cInt (tCons (tOp oFdiv (tVar 6) (tC (.int 32))) tNil)) (tVar 1)))
def t_law_draw_14 (K : PySem.W.Frag) (A : Ad) : TS := (tSeq (tAsg (tOp oMod (tCB cInt (tCons (tOp oPow (tOp oAdd (tOp oAdd (tOp oMul (tVar 6) (tOp oAdd (tOp oMul (tC (.int 2)) (tVar 3)) (tC (.int 565)))) (tOp oMul (tOp oMul (tC (.int 61346)) (tVar 3)) (tVar 3))) (tC (.int 595))) (tC (.int 3))) tNil)) (tC (.int 2147483587))) (gName 6)) (t_law_draw_15 K A))
def t_law_draw_13 (K : PySem.W.Frag) (A : Ad) : TS := (tSeq (tAsg (tOp oMod (tCB cInt (tCons (tOp oPow (tOp oAdd (tOp oAdd (tOp oMod (tCB cInt (tCons (tVar 4) tNil)) (tC (.int 2147483549))) (tOp oMul (tC (.int 86190)) (tVar 3))) (tC (.int 2626))) (tC (.int 5))) tNil)) (tC (.int 2147483629))) (gName 6)) (t_law_draw_14 K A))
def t_law_draw_9 (K : PySem.W.Frag) (A : Ad) : TS := (tSeq (tIfS (tAnd (tTest (tOp oLt (tVar 3) (tCB (cLen K) (tCons (tOp (iIx K) (tVar 0) (tC (.int 0))) tNil)))) (tTest (tOp oGe (tCB cAbs (tCons (tVar 4) tNil)) (tOp oPow (tC (.int 10)) (tC (.int 18)))))) (t_law_draw_10 K A) tNext) (t_law_draw_13 K A))
def t_law_draw_7 (K : PySem.W.Frag) (A : Ad) : TS := (tSeq (tIfS (tTest (tOp (oNe K) (tOp (iIx K) (tVar 0) (tC (.int 0))) (tLst tNil))) (t_law_draw_8 K A) tNext) (t_law_draw_9 K A))
def t_law_draw_6 (K : PySem.W.Frag) (A : Ad) : TS := (tSeq (tAsg (tOp oAdd (tOp oMul (tC (.int 83006)) (tVar 3)) (tC (.int 7190))) (gName 4)) (t_law_draw_7 K A))
def t_law_draw_5 (K : PySem.W.Frag) (A : Ad) : TS := (tSeq (tAsg (tOp oAdd (tVar 3) (tC (.int 1))) (gSub (tVar 0) (tC (.int 1)) stL)) (t_law_draw_6 K A))
def t_law_draw_4 (K : PySem.W.Frag) (A : Ad) : TS := (tSeq (tAsg (tOp (iIx K) (tVar 0) (tC (.int 1))) (gName 3)) (t_law_draw_5 K A))
def t_law_draw_0 (K : PySem.W.Frag) (A : Ad) : TS := (tSeq (tIfS (tTest (tOp oGt (tOp (iIx K) (tVar 0) (tC (.int 2))) (tC (.int 0)))) (t_law_draw_1 K A) tNext) (t_law_draw_4 K A))

def t_law_pick_0 (K : PySem.W.Frag) (A : Ad) : TS := (tRet (tOp (iIx K) (tVar 1) (tCall (sp_law_draw K A) [] E0 (tCons (tVar 0) (tCons (tCB (cLen K) (tCons (tVar 1) tNil)) tNil)))))

theorem pure_law_pen {K : PySem.W.Frag} {A : Ad} {vs : List V} {H : Hp} {Q : VK} {E : XK} (h : sp_law_pen K A vs H Q E) : (t_law_pen_0 K A) { nx := fun _ H' => Q .non H', rt := Q } (start ["_law_script"] vs) H := by
  unfold sp_law_pen spPen at h
  split at h
  · rename_i a
    obtain ⟨ns, hs, k⟩ := h
    show (t_law_pen_0 K A) _ [some (.ref a)] H
    refine st_ret ?_
    (refine evE ?P1 (fun Q h => ?h1) ?_; (case h1 => (simp only [tTest, tOp, tUn, tVar, tC, tCB, tCons, tNil, tAnd, tOr, tNot, tB, tTup, tLst, tIf, tAndV, tOrV, tNotV, tSl, tPart, tNoPart, tCall, iIx_ref, oGt_int, oMod_int, oFdiv_int, oAdd_int, oAdd_str, oSub_int, oMul_int, oLt_int, oGe_int, oLe_int, oPow_int, uNeg_int, oEq_int, oEq_str, oEq_bl, oNe_int, oNe_str, oNe_bl, cInt_int, cInt_bl, cAbs_int, cLen_ref, cList_ref, stL_ref, gName, gSub, gTup, gCons, gNil, rdSeq, List.getElem?_cons_zero, List.getElem?_cons_succ, List.set_cons_zero, List.set_cons_succ, List.cons_append, List.nil_append, Option.some.injEq, exists_eq_left', V.bl.injEq, V.int.injEq, V.ref.injEq, atI_0, atI_1, atI_2, setI_1, setI_2, Bool.not_true, Bool.not_false, Bool.false_eq_true, if_false, if_true, rSlL]; exact h)); (try dsimp only [gName, tNext, List.set_cons_zero, List.set_cons_succ]))
    refine ⟨a, _, rfl, hs, fun p hp => ?_⟩
    have e1 : cutV (ns.map V.int) none (some 63) = (ns.take 63).map V.int := by
      have e2 : HT.sIx (ns.map V.int).length (ns.map V.int).length (some 63) = min 63 (ns.map V.int).length := HT.sIx_nat _ _ 63
      unfold cutV
      rw [e2, HT.sIx_none, List.drop_zero, Nat.sub_zero, List.map_take, List.take_eq_take_iff]
      omega
    rw [e1, upd_same]
    intro l hl
    refine ⟨by show 3 ≤ sizeLine; decide, fun q hq => ?_⟩
    have hlp : l ≠ p := fun z => by rw [z, upd_same] at hl; cases hl
    have hlq : l ≠ q := fun z => by rw [← z, upd_same] at hq; cases hq
    refine k q _ ⟨l, ns.take 63, 0, 0, upd_same, ?_, ?_, by decide, by decide, by decide⟩ fun b o e => ?_
    · rw [upd_ne hlq, upd_same]
    · rw [List.length_take]; omega
    · have g1 : Grow H (upd H p (.lst ((ns.take 63).map V.int))) := Grow.new hp
      exact (g1.trans ((Grow.new hl).trans (Grow.new hq))) b o e
  · exact h.elim
theorem pure_law_draw {K : PySem.W.Frag} {A : Ad} {vs : List V} {H : Hp} {Q : VK} {E : XK} (h : sp_law_draw K A vs H Q E) : (t_law_draw_0 K A) { nx := fun _ H' => Q .non H', rt := Q } (start ["_law_pen_here", "_law_many", "_law_digit", "_law_used", "_law_cell", "_law_great", "_law_mixed"] vs) H := by
  unfold sp_law_draw spDraw at h
  split at h
  · rename_i p many
    obtain ⟨n, ⟨l, cells, turn, rest, hp, hl, hc, ht0, ht1, hr0⟩, hn, hm0, hm1, k⟩ := h
    have k : ∀ (d turn' rest' : Int) (H' : Hp), 0 ≤ d → d < many → turn ≤ turn' → turn' ≤ turn + 1 → 0 ≤ rest' → H' p = some (.lst [.ref l, .int turn', .int rest']) → Keep p H H' → Q (.int d) H' := by
      intro d turn' rest' H' h1 h2 h3 h4 h5 h6 h7
      refine k d H' h1 h2 ⟨l, cells, turn', rest', h6, h7 l _ ?_ hl, hc, by omega, by omega, h5⟩ h7
      rintro rfl
      rw [hp] at hl
      cases cells <;> cases hl
    have ht1 : turn ≤ 1000000 := by omega
    show (t_law_draw_0 K A) _ [some (.ref p), some (.int many), none, none, none, none, none] H
    refine st_seq (st_if ?_)
    (refine evT ?P2 (fun Q h => ?h2) ?_; (case h2 => (simp only [tTest, tOp, tUn, tVar, tC, tCB, tCons, tNil, tAnd, tOr, tNot, tB, tTup, tLst, tIf, tAndV, tOrV, tNotV, tSl, tPart, tNoPart, tCall, iIx_ref, oGt_int, oMod_int, oFdiv_int, oAdd_int, oAdd_str, oSub_int, oMul_int, oLt_int, oGe_int, oLe_int, oPow_int, uNeg_int, oEq_int, oEq_str, oEq_bl, oNe_int, oNe_str, oNe_bl, cInt_int, cInt_bl, cAbs_int, cLen_ref, cList_ref, stL_ref, gName, gSub, gTup, gCons, gNil, rdSeq, List.getElem?_cons_zero, List.getElem?_cons_succ, List.set_cons_zero, List.set_cons_succ, List.cons_append, List.nil_append, Option.some.injEq, exists_eq_left', V.bl.injEq, V.int.injEq, V.ref.injEq, atI_0, atI_1, atI_2, setI_1, setI_2, Bool.not_true, Bool.not_false, Bool.false_eq_true, if_false, if_true, hp]; exact h)); (try dsimp only [gName, tNext, List.set_cons_zero, List.set_cons_succ]))
    refine ite_dec (fun hrest => ?_) (fun hrest => ?_)
    all_goals (try dsimp only [gName, tNext, List.set_cons_zero, List.set_cons_succ])
    · refine st_seq (st_asg ?_)
      (refine evE ?P3 (fun Q h => ?h3) ?_; (case h3 => (simp only [tTest, tOp, tUn, tVar, tC, tCB, tCons, tNil, tAnd, tOr, tNot, tB, tTup, tLst, tIf, tAndV, tOrV, tNotV, tSl, tPart, tNoPart, tCall, iIx_ref, oGt_int, oMod_int, oFdiv_int, oAdd_int, oAdd_str, oSub_int, oMul_int, oLt_int, oGe_int, oLe_int, oPow_int, uNeg_int, oEq_int, oEq_str, oEq_bl, oNe_int, oNe_str, oNe_bl, cInt_int, cInt_bl, cAbs_int, cLen_ref, cList_ref, stL_ref, gName, gSub, gTup, gCons, gNil, rdSeq, List.getElem?_cons_zero, List.getElem?_cons_succ, List.set_cons_zero, List.set_cons_succ, List.cons_append, List.nil_append, Option.some.injEq, exists_eq_left', V.bl.injEq, V.int.injEq, V.ref.injEq, atI_0, atI_1, atI_2, setI_1, setI_2, Bool.not_true, Bool.not_false, Bool.false_eq_true, if_false, if_true, hp]; exact h)); (try dsimp only [gName, tNext, List.set_cons_zero, List.set_cons_succ]))
      refine ⟨hm0, ?_⟩
      (try dsimp only [gName, tNext, List.set_cons_zero, List.set_cons_succ])
      refine st_seq (st_asg ?_)
      (refine evE ?P4 (fun Q h => ?h4) ?_; (case h4 => (simp only [tTest, tOp, tUn, tVar, tC, tCB, tCons, tNil, tAnd, tOr, tNot, tB, tTup, tLst, tIf, tAndV, tOrV, tNotV, tSl, tPart, tNoPart, tCall, iIx_ref, oGt_int, oMod_int, oFdiv_int, oAdd_int, oAdd_str, oSub_int, oMul_int, oLt_int, oGe_int, oLe_int, oPow_int, uNeg_int, oEq_int, oEq_str, oEq_bl, oNe_int, oNe_str, oNe_bl, cInt_int, cInt_bl, cAbs_int, cLen_ref, cList_ref, stL_ref, gName, gSub, gTup, gCons, gNil, rdSeq, List.getElem?_cons_zero, List.getElem?_cons_succ, List.set_cons_zero, List.set_cons_succ, List.cons_append, List.nil_append, Option.some.injEq, exists_eq_left', V.bl.injEq, V.int.injEq, V.ref.injEq, atI_0, atI_1, atI_2, setI_1, setI_2, Bool.not_true, Bool.not_false, Bool.false_eq_true, if_false, if_true, hp]; exact h)); (try dsimp only [gName, tNext, List.set_cons_zero, List.set_cons_succ]))
      refine ⟨⟨hm0, hm1⟩, ?_⟩
      (try dsimp only [gName, tNext, List.set_cons_zero, List.set_cons_succ])
      (refine evG ?P5 (fun Q h => ?h5) ?_; (case h5 => (simp only [tTest, tOp, tUn, tVar, tC, tCB, tCons, tNil, tAnd, tOr, tNot, tB, tTup, tLst, tIf, tAndV, tOrV, tNotV, tSl, tPart, tNoPart, tCall, iIx_ref, oGt_int, oMod_int, oFdiv_int, oAdd_int, oAdd_str, oSub_int, oMul_int, oLt_int, oGe_int, oLe_int, oPow_int, uNeg_int, oEq_int, oEq_str, oEq_bl, oNe_int, oNe_str, oNe_bl, cInt_int, cInt_bl, cAbs_int, cLen_ref, cList_ref, stL_ref, gName, gSub, gTup, gCons, gNil, rdSeq, List.getElem?_cons_zero, List.getElem?_cons_succ, List.set_cons_zero, List.set_cons_succ, List.cons_append, List.nil_append, Option.some.injEq, exists_eq_left', V.bl.injEq, V.int.injEq, V.ref.injEq, atI_0, atI_1, atI_2, setI_1, setI_2, Bool.not_true, Bool.not_false, Bool.false_eq_true, if_false, if_true, hp]; exact h)); (try dsimp only [gName, tNext, List.set_cons_zero, List.set_cons_succ]))
      refine st_ret ?_
      (refine evE ?P6 (fun Q h => ?h6) ?_; (case h6 => (simp only [tTest, tOp, tUn, tVar, tC, tCB, tCons, tNil, tAnd, tOr, tNot, tB, tTup, tLst, tIf, tAndV, tOrV, tNotV, tSl, tPart, tNoPart, tCall, iIx_ref, oGt_int, oMod_int, oFdiv_int, oAdd_int, oAdd_str, oSub_int, oMul_int, oLt_int, oGe_int, oLe_int, oPow_int, uNeg_int, oEq_int, oEq_str, oEq_bl, oNe_int, oNe_str, oNe_bl, cInt_int, cInt_bl, cAbs_int, cLen_ref, cList_ref, stL_ref, gName, gSub, gTup, gCons, gNil, rdSeq, List.getElem?_cons_zero, List.getElem?_cons_succ, List.set_cons_zero, List.set_cons_succ, List.cons_append, List.nil_append, Option.some.injEq, exists_eq_left', V.bl.injEq, V.int.injEq, V.ref.injEq, atI_0, atI_1, atI_2, setI_1, setI_2, Bool.not_true, Bool.not_false, Bool.false_eq_true, if_false, if_true]; exact h)); (try dsimp only [gName, tNext, List.set_cons_zero, List.set_cons_succ]))
      exact k _ turn _ _ (Int.emod_nonneg _ (by omega)) (Int.emod_lt_of_pos _ hm0) (by omega) (by omega) (Int.ediv_nonneg hr0 (by omega)) upd_same fun b o hb e => by rw [upd_ne hb]; exact e
    · refine st_seq (st_asg ?_)
      (refine evE ?P7 (fun Q h => ?h7) ?_; (case h7 => (simp only [tTest, tOp, tUn, tVar, tC, tCB, tCons, tNil, tAnd, tOr, tNot, tB, tTup, tLst, tIf, tAndV, tOrV, tNotV, tSl, tPart, tNoPart, tCall, iIx_ref, oGt_int, oMod_int, oFdiv_int, oAdd_int, oAdd_str, oSub_int, oMul_int, oLt_int, oGe_int, oLe_int, oPow_int, uNeg_int, oEq_int, oEq_str, oEq_bl, oNe_int, oNe_str, oNe_bl, cInt_int, cInt_bl, cAbs_int, cLen_ref, cList_ref, stL_ref, gName, gSub, gTup, gCons, gNil, rdSeq, List.getElem?_cons_zero, List.getElem?_cons_succ, List.set_cons_zero, List.set_cons_succ, List.cons_append, List.nil_append, Option.some.injEq, exists_eq_left', V.bl.injEq, V.int.injEq, V.ref.injEq, atI_0, atI_1, atI_2, setI_1, setI_2, Bool.not_true, Bool.not_false, Bool.false_eq_true, if_false, if_true, hp]; exact h)); (try dsimp only [gName, tNext, List.set_cons_zero, List.set_cons_succ]))
      refine st_seq (st_asg ?_)
      (refine evE ?P8 (fun Q h => ?h8) ?_; (case h8 => (simp only [tTest, tOp, tUn, tVar, tC, tCB, tCons, tNil, tAnd, tOr, tNot, tB, tTup, tLst, tIf, tAndV, tOrV, tNotV, tSl, tPart, tNoPart, tCall, iIx_ref, oGt_int, oMod_int, oFdiv_int, oAdd_int, oAdd_str, oSub_int, oMul_int, oLt_int, oGe_int, oLe_int, oPow_int, uNeg_int, oEq_int, oEq_str, oEq_bl, oNe_int, oNe_str, oNe_bl, cInt_int, cInt_bl, cAbs_int, cLen_ref, cList_ref, stL_ref, gName, gSub, gTup, gCons, gNil, rdSeq, List.getElem?_cons_zero, List.getElem?_cons_succ, List.set_cons_zero, List.set_cons_succ, List.cons_append, List.nil_append, Option.some.injEq, exists_eq_left', V.bl.injEq, V.int.injEq, V.ref.injEq, atI_0, atI_1, atI_2, setI_1, setI_2, Bool.not_true, Bool.not_false, Bool.false_eq_true, if_false, if_true, hp]; exact h)); (try dsimp only [gName, tNext, List.set_cons_zero, List.set_cons_succ]))
      (refine evG ?P9 (fun Q h => ?h9) ?_; (case h9 => (simp only [tTest, tOp, tUn, tVar, tC, tCB, tCons, tNil, tAnd, tOr, tNot, tB, tTup, tLst, tIf, tAndV, tOrV, tNotV, tSl, tPart, tNoPart, tCall, iIx_ref, oGt_int, oMod_int, oFdiv_int, oAdd_int, oAdd_str, oSub_int, oMul_int, oLt_int, oGe_int, oLe_int, oPow_int, uNeg_int, oEq_int, oEq_str, oEq_bl, oNe_int, oNe_str, oNe_bl, cInt_int, cInt_bl, cAbs_int, cLen_ref, cList_ref, stL_ref, gName, gSub, gTup, gCons, gNil, rdSeq, List.getElem?_cons_zero, List.getElem?_cons_succ, List.set_cons_zero, List.set_cons_succ, List.cons_append, List.nil_append, Option.some.injEq, exists_eq_left', V.bl.injEq, V.int.injEq, V.ref.injEq, atI_0, atI_1, atI_2, setI_1, setI_2, Bool.not_true, Bool.not_false, Bool.false_eq_true, if_false, if_true, hp]; exact h)); (try dsimp only [gName, tNext, List.set_cons_zero, List.set_cons_succ]))
      refine st_seq (st_asg ?_)
      (refine evE ?P10 (fun Q h => ?h10) ?_; (case h10 => (simp only [tTest, tOp, tUn, tVar, tC, tCB, tCons, tNil, tAnd, tOr, tNot, tB, tTup, tLst, tIf, tAndV, tOrV, tNotV, tSl, tPart, tNoPart, tCall, iIx_ref, oGt_int, oMod_int, oFdiv_int, oAdd_int, oAdd_str, oSub_int, oMul_int, oLt_int, oGe_int, oLe_int, oPow_int, uNeg_int, oEq_int, oEq_str, oEq_bl, oNe_int, oNe_str, oNe_bl, cInt_int, cInt_bl, cAbs_int, cLen_ref, cList_ref, stL_ref, gName, gSub, gTup, gCons, gNil, rdSeq, List.getElem?_cons_zero, List.getElem?_cons_succ, List.set_cons_zero, List.set_cons_succ, List.cons_append, List.nil_append, Option.some.injEq, exists_eq_left', V.bl.injEq, V.int.injEq, V.ref.injEq, atI_0, atI_1, atI_2, setI_1, setI_2, Bool.not_true, Bool.not_false, Bool.false_eq_true, if_false, if_true, hp]; exact h)); (try dsimp only [gName, tNext, List.set_cons_zero, List.set_cons_succ]))
      refine ⟨.of_left (intBits_le_64 (by omega) (by omega)), ?_⟩
      refine st_seq (st_if ?_)
      (refine evT ?P11 (fun Q h => ?h11) ?_; (case h11 => (simp only [tTest, tOp, tUn, tVar, tC, tCB, tCons, tNil, tAnd, tOr, tNot, tB, tTup, tLst, tIf, tAndV, tOrV, tNotV, tSl, tPart, tNoPart, tCall, iIx_ref, oGt_int, oMod_int, oFdiv_int, oAdd_int, oAdd_str, oSub_int, oMul_int, oLt_int, oGe_int, oLe_int, oPow_int, uNeg_int, oEq_int, oEq_str, oEq_bl, oNe_int, oNe_str, oNe_bl, cInt_int, cInt_bl, cAbs_int, cLen_ref, cList_ref, stL_ref, gName, gSub, gTup, gCons, gNil, rdSeq, List.getElem?_cons_zero, List.getElem?_cons_succ, List.set_cons_zero, List.set_cons_succ, List.cons_append, List.nil_append, Option.some.injEq, exists_eq_left', V.bl.injEq, V.int.injEq, V.ref.injEq, atI_0, atI_1, atI_2, setI_1, setI_2, Bool.not_true, Bool.not_false, Bool.false_eq_true, if_false, if_true, hp, upd_same]; exact h)); (try dsimp only [gName, tNext, List.set_cons_zero, List.set_cons_succ]))
      refine ⟨by decide, fun q hq => ?_⟩
      have npl : l ≠ p := by
        rintro rfl
        rw [hp] at hl
        cases cells <;> cases hl
      have hpq : q ≠ p := fun e => by rw [e, upd_same] at hq; cases hq
      have hq' : H q = none := by rw [upd_ne hpq] at hq; exact hq
      have hlq : l ≠ q := fun e => by rw [← e, hl] at hq'; cases hq'
      generalize hH2 : upd (upd H p (.lst [.ref l, .int (turn + 1), .int rest])) q (.lst []) = H2
      have h2p : H2 p = some (.lst [.ref l, .int (turn + 1), .int rest]) := by rw [← hH2, upd_ne hpq.symm, upd_same]
      have h2l : H2 l = some (.lst (cells.map V.int)) := by rw [← hH2, upd_ne hlq, upd_ne npl]; exact hl
      have h2q : H2 q = some (.lst []) := by rw [← hH2, upd_same]
      have k2 : Keep p H H2 := fun b o hb e => by
        rw [← hH2, upd_ne (fun z => by rw [z, hq'] at e; cases e), upd_ne hb]; exact e
      refine ne_nil h2l h2q ⟨_, rfl, ?_⟩
      have tail : ∀ cell : Int, t_law_draw_13 K A { nx := fun _ H' => Q .non H', rt := Q } [some (.ref p), some (.int many), none, some (.int turn), some (.int cell), none, none] H2 := by
        intro cell
        refine st_seq (st_asg ?_)
        (refine evE ?P12 (fun Q h => ?h12) ?_; (case h12 => (simp only [tTest, tOp, tUn, tVar, tC, tCB, tCons, tNil, tAnd, tOr, tNot, tB, tTup, tLst, tIf, tAndV, tOrV, tNotV, tSl, tPart, tNoPart, tCall, iIx_ref, oGt_int, oMod_int, oFdiv_int, oAdd_int, oAdd_str, oSub_int, oMul_int, oLt_int, oGe_int, oLe_int, oPow_int, uNeg_int, oEq_int, oEq_str, oEq_bl, oNe_int, oNe_str, oNe_bl, cInt_int, cInt_bl, cAbs_int, cLen_ref, cList_ref, stL_ref, gName, gSub, gTup, gCons, gNil, rdSeq, List.getElem?_cons_zero, List.getElem?_cons_succ, List.set_cons_zero, List.set_cons_succ, List.cons_append, List.nil_append, Option.some.injEq, exists_eq_left', V.bl.injEq, V.int.injEq, V.ref.injEq, atI_0, atI_1, atI_2, setI_1, setI_2, Bool.not_true, Bool.not_false, Bool.false_eq_true, if_false, if_true]; exact h)); (try dsimp only [gName, tNext, List.set_cons_zero, List.set_cons_succ]))
        have hx := mod_range (x := cell) (m := 2147483549) (by decide)
        refine ⟨by decide, mulok_left (by decide) (by decide), ⟨by decide, by decide, draw_pow1 hx.1 (by omega) ht0 ht1 (by decide) (by decide) (by decide) (by decide)⟩, by decide, ?_⟩
        (try dsimp only [gName, tNext, List.set_cons_zero, List.set_cons_succ])
        generalize hm : ((cell % 2147483549 + 86190 * turn + 2626) ^ Int.toNat 5 % 2147483629) = mixed
        have hmx : 0 ≤ mixed ∧ mixed < 2147483629 := by rw [← hm]; exact mod_range (by decide)
        refine st_seq (st_asg ?_)
        (refine evE ?P13 (fun Q h => ?h13) ?_; (case h13 => (simp only [tTest, tOp, tUn, tVar, tC, tCB, tCons, tNil, tAnd, tOr, tNot, tB, tTup, tLst, tIf, tAndV, tOrV, tNotV, tSl, tPart, tNoPart, tCall, iIx_ref, oGt_int, oMod_int, oFdiv_int, oAdd_int, oAdd_str, oSub_int, oMul_int, oLt_int, oGe_int, oLe_int, oPow_int, uNeg_int, oEq_int, oEq_str, oEq_bl, oNe_int, oNe_str, oNe_bl, cInt_int, cInt_bl, cAbs_int, cLen_ref, cList_ref, stL_ref, gName, gSub, gTup, gCons, gNil, rdSeq, List.getElem?_cons_zero, List.getElem?_cons_succ, List.set_cons_zero, List.set_cons_succ, List.cons_append, List.nil_append, Option.some.injEq, exists_eq_left', V.bl.injEq, V.int.injEq, V.ref.injEq, atI_0, atI_1, atI_2, setI_1, setI_2, Bool.not_true, Bool.not_false, Bool.false_eq_true, if_false, if_true]; exact h)); (try dsimp only [gName, tNext, List.set_cons_zero, List.set_cons_succ]))
        refine ⟨mulok_left (by decide) (by decide), mulok_left (by omega) (by omega), mulok_left (by decide) (by decide), draw_bt ht0 ht1 (by decide) (by decide), ⟨by decide, by decide, draw_pow2 hmx.1 (by omega) ht0 ht1 (by decide) (by decide) (by decide) (by decide) (by decide) (by decide)⟩, by decide, ?_⟩
        (try dsimp only [gName, tNext, List.set_cons_zero, List.set_cons_succ])
        refine st_ret ?_
        (refine evE ?P14 (fun Q h => ?h14) ?_; (case h14 => (simp only [tTest, tOp, tUn, tVar, tC, tCB, tCons, tNil, tAnd, tOr, tNot, tB, tTup, tLst, tIf, tAndV, tOrV, tNotV, tSl, tPart, tNoPart, tCall, iIx_ref, oGt_int, oMod_int, oFdiv_int, oAdd_int, oAdd_str, oSub_int, oMul_int, oLt_int, oGe_int, oLe_int, oPow_int, uNeg_int, oEq_int, oEq_str, oEq_bl, oNe_int, oNe_str, oNe_bl, cInt_int, cInt_bl, cAbs_int, cLen_ref, cList_ref, stL_ref, gName, gSub, gTup, gCons, gNil, rdSeq, List.getElem?_cons_zero, List.getElem?_cons_succ, List.set_cons_zero, List.set_cons_succ, List.cons_append, List.nil_append, Option.some.injEq, exists_eq_left', V.bl.injEq, V.int.injEq, V.ref.injEq, atI_0, atI_1, atI_2, setI_1, setI_2, Bool.not_true, Bool.not_false, Bool.false_eq_true, if_false, if_true]; exact h)); (try dsimp only [gName, tNext, List.set_cons_zero, List.set_cons_succ]))
        refine ⟨⟨by decide, by decide⟩, hm0, ?_⟩
        exact k _ (turn + 1) _ _ (mod_range hm0).1 (mod_range hm0).2 (by omega) (by omega) hr0 h2p k2
      -- both ways go on with a cell
      have go : ∀ cell : Int, t_law_draw_9 K A { nx := fun _ H' => Q .non H', rt := Q } [some (.ref p), some (.int many), none, some (.int turn), some (.int cell), none, none] H2 := by
        intro cell
        refine st_seq (st_if ?_)
        (refine evT ?P15 (fun Q h => ?h15) ?_; (case h15 => (simp only [tTest, tOp, tUn, tVar, tC, tCB, tCons, tNil, tAnd, tOr, tNot, tB, tTup, tLst, tIf, tAndV, tOrV, tNotV, tSl, tPart, tNoPart, tCall, iIx_ref, oGt_int, oMod_int, oFdiv_int, oAdd_int, oAdd_str, oSub_int, oMul_int, oLt_int, oGe_int, oLe_int, oPow_int, uNeg_int, oEq_int, oEq_str, oEq_bl, oNe_int, oNe_str, oNe_bl, cInt_int, cInt_bl, cAbs_int, cLen_ref, cList_ref, stL_ref, gName, gSub, gTup, gCons, gNil, rdSeq, List.getElem?_cons_zero, List.getElem?_cons_succ, List.set_cons_zero, List.set_cons_succ, List.cons_append, List.nil_append, Option.some.injEq, exists_eq_left', V.bl.injEq, V.int.injEq, V.ref.injEq, atI_0, atI_1, atI_2, setI_1, setI_2, Bool.not_true, Bool.not_false, Bool.false_eq_true, if_false, if_true, h2p, h2l]; exact h)); (try dsimp only [gName, tNext, List.set_cons_zero, List.set_cons_succ]))
        refine ite_dec (fun hc1 => ?_) (fun hc1 => ?_)
        all_goals (try dsimp only [gName, tNext, List.set_cons_zero, List.set_cons_succ])
        · refine ⟨⟨by decide, by decide, by decide⟩, ?_⟩
          refine ite_dec (fun hc2 => ?_) (fun hc2 => ?_)
          all_goals (try dsimp only [gName, tNext, List.set_cons_zero, List.set_cons_succ])
          · refine st_seq (st_asg ?_)
            (refine evE ?P16 (fun Q h => ?h16) ?_; (case h16 => (simp only [tTest, tOp, tUn, tVar, tC, tCB, tCons, tNil, tAnd, tOr, tNot, tB, tTup, tLst, tIf, tAndV, tOrV, tNotV, tSl, tPart, tNoPart, tCall, iIx_ref, oGt_int, oMod_int, oFdiv_int, oAdd_int, oAdd_str, oSub_int, oMul_int, oLt_int, oGe_int, oLe_int, oPow_int, uNeg_int, oEq_int, oEq_str, oEq_bl, oNe_int, oNe_str, oNe_bl, cInt_int, cInt_bl, cAbs_int, cLen_ref, cList_ref, stL_ref, gName, gSub, gTup, gCons, gNil, rdSeq, List.getElem?_cons_zero, List.getElem?_cons_succ, List.set_cons_zero, List.set_cons_succ, List.cons_append, List.nil_append, Option.some.injEq, exists_eq_left', V.bl.injEq, V.int.injEq, V.ref.injEq, atI_0, atI_1, atI_2, setI_1, setI_2, Bool.not_true, Bool.not_false, Bool.false_eq_true, if_false, if_true]; exact h)); (try dsimp only [gName, tNext, List.set_cons_zero, List.set_cons_succ]))
            refine ⟨⟨by decide, by decide, by decide⟩, mulok_left (by decide) (by decide), ?_⟩
            (try dsimp only [gName, tNext, List.set_cons_zero, List.set_cons_succ])
            refine st_seq (st_asg ?_)
            (refine evE ?P17 (fun Q h => ?h17) ?_; (case h17 => (simp only [tTest, tOp, tUn, tVar, tC, tCB, tCons, tNil, tAnd, tOr, tNot, tB, tTup, tLst, tIf, tAndV, tOrV, tNotV, tSl, tPart, tNoPart, tCall, iIx_ref, oGt_int, oMod_int, oFdiv_int, oAdd_int, oAdd_str, oSub_int, oMul_int, oLt_int, oGe_int, oLe_int, oPow_int, uNeg_int, oEq_int, oEq_str, oEq_bl, oNe_int, oNe_str, oNe_bl, cInt_int, cInt_bl, cAbs_int, cLen_ref, cList_ref, stL_ref, gName, gSub, gTup, gCons, gNil, rdSeq, List.getElem?_cons_zero, List.getElem?_cons_succ, List.set_cons_zero, List.set_cons_succ, List.cons_append, List.nil_append, Option.some.injEq, exists_eq_left', V.bl.injEq, V.int.injEq, V.ref.injEq, atI_0, atI_1, atI_2, setI_1, setI_2, Bool.not_true, Bool.not_false, Bool.false_eq_true, if_false, if_true]; exact h)); (try dsimp only [gName, tNext, List.set_cons_zero, List.set_cons_succ]))
            refine ⟨⟨hm0, hm1⟩, ?_⟩
            (refine evG ?P18 (fun Q h => ?h18) ?_; (case h18 => (simp only [tTest, tOp, tUn, tVar, tC, tCB, tCons, tNil, tAnd, tOr, tNot, tB, tTup, tLst, tIf, tAndV, tOrV, tNotV, tSl, tPart, tNoPart, tCall, iIx_ref, oGt_int, oMod_int, oFdiv_int, oAdd_int, oAdd_str, oSub_int, oMul_int, oLt_int, oGe_int, oLe_int, oPow_int, uNeg_int, oEq_int, oEq_str, oEq_bl, oNe_int, oNe_str, oNe_bl, cInt_int, cInt_bl, cAbs_int, cLen_ref, cList_ref, stL_ref, gName, gSub, gTup, gCons, gNil, rdSeq, List.getElem?_cons_zero, List.getElem?_cons_succ, List.set_cons_zero, List.set_cons_succ, List.cons_append, List.nil_append, Option.some.injEq, exists_eq_left', V.bl.injEq, V.int.injEq, V.ref.injEq, atI_0, atI_1, atI_2, setI_1, setI_2, Bool.not_true, Bool.not_false, Bool.false_eq_true, if_false, if_true, h2p]; exact h)); (try dsimp only [gName, tNext, List.set_cons_zero, List.set_cons_succ]))
            refine st_ret ?_
            (refine evE ?P19 (fun Q h => ?h19) ?_; (case h19 => (simp only [tTest, tOp, tUn, tVar, tC, tCB, tCons, tNil, tAnd, tOr, tNot, tB, tTup, tLst, tIf, tAndV, tOrV, tNotV, tSl, tPart, tNoPart, tCall, iIx_ref, oGt_int, oMod_int, oFdiv_int, oAdd_int, oAdd_str, oSub_int, oMul_int, oLt_int, oGe_int, oLe_int, oPow_int, uNeg_int, oEq_int, oEq_str, oEq_bl, oNe_int, oNe_str, oNe_bl, cInt_int, cInt_bl, cAbs_int, cLen_ref, cList_ref, stL_ref, gName, gSub, gTup, gCons, gNil, rdSeq, List.getElem?_cons_zero, List.getElem?_cons_succ, List.set_cons_zero, List.set_cons_succ, List.cons_append, List.nil_append, Option.some.injEq, exists_eq_left', V.bl.injEq, V.int.injEq, V.ref.injEq, atI_0, atI_1, atI_2, setI_1, setI_2, Bool.not_true, Bool.not_false, Bool.false_eq_true, if_false, if_true]; exact h)); (try dsimp only [gName, tNext, List.set_cons_zero, List.set_cons_succ]))
            refine ⟨hm0, ?_⟩
            refine k _ (turn + 1) _ _ (mod_range hm0).1 (mod_range hm0).2 (by omega) (by omega) (Int.ediv_nonneg ?_ (by omega)) upd_same fun b o hb e => by rw [upd_ne hb]; exact k2 b o hb e
            have e18 : (10 : Int) ^ Int.toNat 18 = 1000000000000000000 := by decide
            rw [e18] at hc2 ⊢
            split <;> split at hc2 <;> split <;> omega
          · exact tail cell
        · exact tail cell
      refine ite_b (fun hb => ?_) (fun _ => go _)
      refine st_asg ?_
      have hne : cells ≠ [] := by
        rintro rfl
        cases hb
      have hpos : 0 < cells.length := List.length_pos_iff.mpr hne
      have hi : turn % (cells.length : Int) < cells.length := (mod_range (by omega)).2
      have hi0 : 0 ≤ turn % (cells.length : Int) := (mod_range (by omega)).1
      have hat : atI (cells.map V.int) (turn % ((cells.map V.int).length : Int)) = some (.int (cells.getD (turn % (cells.length : Int)).toNat 0)) := by
        refine atI_nat' (by rw [List.length_map]; exact hi0) ?_
        rw [List.length_map, List.getElem?_map, List.getD_eq_getElem?_getD, List.getElem?_eq_getElem (by omega)]
        rfl
      (refine evE ?P20 (fun Q h => ?h20) ?_; (case h20 => (simp only [tTest, tOp, tUn, tVar, tC, tCB, tCons, tNil, tAnd, tOr, tNot, tB, tTup, tLst, tIf, tAndV, tOrV, tNotV, tSl, tPart, tNoPart, tCall, iIx_ref, oGt_int, oMod_int, oFdiv_int, oAdd_int, oAdd_str, oSub_int, oMul_int, oLt_int, oGe_int, oLe_int, oPow_int, uNeg_int, oEq_int, oEq_str, oEq_bl, oNe_int, oNe_str, oNe_bl, cInt_int, cInt_bl, cAbs_int, cLen_ref, cList_ref, stL_ref, gName, gSub, gTup, gCons, gNil, rdSeq, List.getElem?_cons_zero, List.getElem?_cons_succ, List.set_cons_zero, List.set_cons_succ, List.cons_append, List.nil_append, Option.some.injEq, exists_eq_left', V.bl.injEq, V.int.injEq, V.ref.injEq, atI_0, atI_1, atI_2, setI_1, setI_2, Bool.not_true, Bool.not_false, Bool.false_eq_true, if_false, if_true, h2p, h2l, hat]; exact h)); (try dsimp only [gName, tNext, List.set_cons_zero, List.set_cons_succ]))
      refine ⟨by rw [List.length_map]; omega, ?_⟩
      exact go _
  · exact h.elim
theorem pure_law_pick {K : PySem.W.Frag} {A : Ad} {vs : List V} {H : Hp} {Q : VK} {E : XK} (h : sp_law_pick K A vs H Q E) : (t_law_pick_0 K A) { nx := fun _ H' => Q .non H', rt := Q } (start ["_law_pen_here", "_law_some"] vs) H := by
  unfold sp_law_pick spPick at h
  split at h
  · rename_i p s
    obtain ⟨n, xs, hp, hn, hs, hsp, hx, hl, k⟩ := h
    show (t_law_pick_0 K A) _ [some (.ref p), some (.ref s)] H
    refine st_ret ?_
    (refine evE ?P21 (fun Q h => ?h21) ?_; (case h21 => (simp only [tTest, tOp, tUn, tVar, tC, tCB, tCons, tNil, tAnd, tOr, tNot, tB, tTup, tLst, tIf, tAndV, tOrV, tNotV, tSl, tPart, tNoPart, tCall, iIx_ref, oGt_int, oMod_int, oFdiv_int, oAdd_int, oAdd_str, oSub_int, oMul_int, oLt_int, oGe_int, oLe_int, oPow_int, uNeg_int, oEq_int, oEq_str, oEq_bl, oNe_int, oNe_str, oNe_bl, cInt_int, cInt_bl, cAbs_int, cLen_ref, cList_ref, stL_ref, gName, gSub, gTup, gCons, gNil, rdSeq, List.getElem?_cons_zero, List.getElem?_cons_succ, List.set_cons_zero, List.set_cons_succ, List.cons_append, List.nil_append, Option.some.injEq, exists_eq_left', V.bl.injEq, V.int.injEq, V.ref.injEq, atI_0, atI_1, atI_2, setI_1, setI_2, Bool.not_true, Bool.not_false, Bool.false_eq_true, if_false, if_true, hs]; exact h)); (try dsimp only [gName, tNext, List.set_cons_zero, List.set_cons_succ]))
    have hpos : 0 < xs.length := List.length_pos_iff.mpr hx
    refine ⟨n, hp, hn, by omega, log_small (by omega) (by omega), fun d H' h0 h1 hp' kp => ?_⟩
    have e : atI xs d = some xs[d.toNat] := atI_nat' h0 (List.getElem?_eq_getElem (by omega))
    have hs' := kp s _ hsp hs
    simp only [tTest, tOp, tUn, tVar, tC, tCB, tCons, tNil, tAnd, tOr, tNot, tB, tTup, tLst, tIf, tAndV, tOrV, tNotV, tSl, tPart, tNoPart, tCall, iIx_ref, oGt_int, oMod_int, oFdiv_int, oAdd_int, oAdd_str, oSub_int, oMul_int, oLt_int, oGe_int, oLe_int, oPow_int, uNeg_int, oEq_int, oEq_str, oEq_bl, oNe_int, oNe_str, oNe_bl, cInt_int, cInt_bl, cAbs_int, cLen_ref, cList_ref, stL_ref, gName, gSub, gTup, gCons, gNil, rdSeq, List.getElem?_cons_zero, List.getElem?_cons_succ, List.set_cons_zero, List.set_cons_succ, List.cons_append, List.nil_append, Option.some.injEq, exists_eq_left', V.bl.injEq, V.int.injEq, V.ref.injEq, atI_0, atI_1, atI_2, setI_1, setI_2, Bool.not_true, Bool.not_false, Bool.false_eq_true, if_false, if_true, hs', e]
    exact k _ _ (List.getElem_mem _) hp' kp
  · exact h.elim

/-- what is seen of the text -/
structure KF (K : PySem.W.Frag) (A : Ad) : Prop where
  cl : Cls K A.c_Rate
  up : NoAttr K A.c_Rate "upper"
  lo : NoAttr K A.c_Rate "lower"
  it : InsTy K A.c_Rate
  ri : PySem.W.kitOne K (.ref A.c_Rate) (.type "int") = some false
  rr : PySem.W.kitOne K (.ref A.c_Rate) (.ref A.c_Rate) = some true
  xr : ∀ n ∈ ["int", "bool", "NoneType", "str", "list", "tuple", "dict"], PySem.W.kitOne K (.type n) (.ref A.c_Rate) = some false
  nr : PySem.W.notFirst K A.c_Rate (.ref A.c_Rate) = true
  nx : ∀ n ∈ ["int", "bool", "NoneType", "str", "list", "tuple", "dict"], PySem.W.notFirst K A.c_Rate (.type n) = true
def RateAt (A : Ad) (H : Hp) (a : Addr) (u l : Int) : Prop := ∃ dx, H a = some (.ins A.c_Rate dx [("upper", .int u), ("lower", .int l)])
theorem RateAt.grow {A : Ad} {H H' : Hp} {a : Addr} {u l : Int} (h : RateAt A H a u l) (g : Grow H H') : RateAt A H' a u l := by
  obtain ⟨dx, e⟩ := h
  exact ⟨dx, g _ _ e⟩
/-- the rate p / q at a, told in at most m bits -/
structure Rt (m : Nat) (A : Ad) (H : Hp) (a : Addr) (p q : Int) : Prop where
  at_ : RateAt A H a (ru p q) (rl p q)
  pos : 0 < q
  bp : Bn m p
  bq : Bn m q
theorem Rt.grow {m : Nat} {A : Ad} {H H' : Hp} {a : Addr} {p q : Int} (h : Rt m A H a p q) (g : Grow H H') : Rt m A H' a p q := ⟨h.at_.grow g, h.pos, h.bp, h.bq⟩
theorem Rt.up {m n : Nat} {A : Ad} {H : Hp} {a : Addr} {p q : Int} (h : Rt m A H a p q) (g : m ≤ n) : Rt n A H a p q := ⟨h.at_, h.pos, h.bp.up g, h.bq.up g⟩
/-- y tells p / q -/
def Nm (A : Ad) (H : Hp) (y : V) (p q : Int) : Prop := (∃ b, y = .ref b ∧ Rt 300 A H b p q) ∨ (y = .int p ∧ q = 1 ∧ Bn 300 p)
theorem Nm.rt {A : Ad} {H : Hp} {b : Addr} {p q : Int} (h : Rt 300 A H b p q) : Nm A H (.ref b) p q := .inl ⟨b, rfl, h⟩
theorem Nm.int {A : Ad} {H : Hp} {p : Int} (h : Bn 300 p) : Nm A H (.int p) p 1 := .inr ⟨rfl, rfl, h⟩
theorem Nm.pos {A : Ad} {H : Hp} {y : V} {p q : Int} (h : Nm A H y p q) : 0 < q := by
  rcases h with ⟨b, _, h⟩ | ⟨_, rfl, _⟩
  · exact h.pos
  · decide
theorem bn_one {m : Nat} : Bn (m + 1) 1 := by
  unfold Bn
  exact Nat.one_lt_two_pow (by omega)
def sp_is_integer (K : PySem.W.Frag) (A : Ad) : Sp := fun vs H Q _ => match vs with
  | [.int _] => Q (.bl true) H
  | [.bl _] => Q (.bl false) H
  | [.non] => Q (.bl false) H
  | [.str _] => Q (.bl false) H
  | [.ref a] => match H a with
    | some (.lst _) => Q (.bl false) H
    | some (.tup _) => Q (.bl false) H
    | some (.dK _) => Q (.bl false) H
    | some (.ins C _ _) => C = A.c_Rate ∧ Q (.bl false) H
    | _ => False
  | _ => False
theorem is_int {K : PySem.W.Frag} {A : Ad} {i : Int} {H : Hp} {Q : VK} {E : XK} : sp_is_integer K A [.int i] H Q E = Q (.bl true) H := rfl
def t_is_integer_0 (K : PySem.W.Frag) (A : Ad) : TS := (tRet (tAndV (tCB (cIsi K) (tCons (tVar 0) (tCons (tC (.ty "int")) tNil))) (tNotV (tCB (cIsi K) (tCons (tVar 0) (tCons (tC (.ty "bool")) tNil))))))

theorem pure_is_integer {K : PySem.W.Frag} {A : Ad} {vs : List V} {H : Hp} {Q : VK} {E : XK} (F : KF K A) (h : sp_is_integer K A vs H Q E) : (t_is_integer_0 K A) { nx := fun _ H' => Q .non H', rt := Q } (start ["value"] vs) H := by
  unfold sp_is_integer at h
  split at h
  · show (t_is_integer_0 K A) _ [some (.int _)] H
    refine st_ret ?_
    (refine evE ?P22 (fun Q h => ?h22) ?_; (case h22 => (simp only [tTest, tOp, tUn, tVar, tC, tCB, tCons, tNil, tAnd, tOr, tNot, tB, tTup, tLst, tIf, tAndV, tOrV, tNotV, tSl, tPart, tNoPart, tCall, iIx_ref, oGt_int, oMod_int, oFdiv_int, oAdd_int, oAdd_str, oSub_int, oMul_int, oLt_int, oGe_int, oLe_int, oPow_int, uNeg_int, oEq_int, oEq_str, oEq_bl, oNe_int, oNe_str, oNe_bl, cInt_int, cInt_bl, cAbs_int, cLen_ref, cList_ref, stL_ref, gName, gSub, gTup, gCons, gNil, rdSeq, List.getElem?_cons_zero, List.getElem?_cons_succ, List.set_cons_zero, List.set_cons_succ, List.cons_append, List.nil_append, Option.some.injEq, exists_eq_left', V.bl.injEq, V.int.injEq, V.ref.injEq, atI_0, atI_1, atI_2, setI_1, setI_2, Bool.not_true, Bool.not_false, Bool.false_eq_true, if_false, if_true, cIsi, tyF, kit_tt, kit_ib, tyOk, true_and, if_true]; exact h)); (try dsimp only [gName, tNext, List.set_cons_zero, List.set_cons_succ]))
    exact h
  · show (t_is_integer_0 K A) _ [some (.bl _)] H
    refine st_ret ?_
    (refine evE ?P23 (fun Q h => ?h23) ?_; (case h23 => (simp only [tTest, tOp, tUn, tVar, tC, tCB, tCons, tNil, tAnd, tOr, tNot, tB, tTup, tLst, tIf, tAndV, tOrV, tNotV, tSl, tPart, tNoPart, tCall, iIx_ref, oGt_int, oMod_int, oFdiv_int, oAdd_int, oAdd_str, oSub_int, oMul_int, oLt_int, oGe_int, oLe_int, oPow_int, uNeg_int, oEq_int, oEq_str, oEq_bl, oNe_int, oNe_str, oNe_bl, cInt_int, cInt_bl, cAbs_int, cLen_ref, cList_ref, stL_ref, gName, gSub, gTup, gCons, gNil, rdSeq, List.getElem?_cons_zero, List.getElem?_cons_succ, List.set_cons_zero, List.set_cons_succ, List.cons_append, List.nil_append, Option.some.injEq, exists_eq_left', V.bl.injEq, V.int.injEq, V.ref.injEq, atI_0, atI_1, atI_2, setI_1, setI_2, Bool.not_true, Bool.not_false, Bool.false_eq_true, if_false, if_true, cIsi, tyF, kit_bi, kit_bb, tyOk, true_and, if_true]; exact h)); (try dsimp only [gName, tNext, List.set_cons_zero, List.set_cons_succ]))
    exact h
  · show (t_is_integer_0 K A) _ [some (.non)] H
    refine st_ret ?_
    (refine evE ?P24 (fun Q h => ?h24) ?_; (case h24 => (simp only [tTest, tOp, tUn, tVar, tC, tCB, tCons, tNil, tAnd, tOr, tNot, tB, tTup, tLst, tIf, tAndV, tOrV, tNotV, tSl, tPart, tNoPart, tCall, iIx_ref, oGt_int, oMod_int, oFdiv_int, oAdd_int, oAdd_str, oSub_int, oMul_int, oLt_int, oGe_int, oLe_int, oPow_int, uNeg_int, oEq_int, oEq_str, oEq_bl, oNe_int, oNe_str, oNe_bl, cInt_int, cInt_bl, cAbs_int, cLen_ref, cList_ref, stL_ref, gName, gSub, gTup, gCons, gNil, rdSeq, List.getElem?_cons_zero, List.getElem?_cons_succ, List.set_cons_zero, List.set_cons_succ, List.cons_append, List.nil_append, Option.some.injEq, exists_eq_left', V.bl.injEq, V.int.injEq, V.ref.injEq, atI_0, atI_1, atI_2, setI_1, setI_2, Bool.not_true, Bool.not_false, Bool.false_eq_true, if_false, if_true, cIsi, tyF, kit_ni, tyOk, true_and, Bool.false_eq_true, if_false]; exact h)); (try dsimp only [gName, tNext, List.set_cons_zero, List.set_cons_succ]))
    exact h
  · show (t_is_integer_0 K A) _ [some (.str _)] H
    refine st_ret ?_
    (refine evE ?P25 (fun Q h => ?h25) ?_; (case h25 => (simp only [tTest, tOp, tUn, tVar, tC, tCB, tCons, tNil, tAnd, tOr, tNot, tB, tTup, tLst, tIf, tAndV, tOrV, tNotV, tSl, tPart, tNoPart, tCall, iIx_ref, oGt_int, oMod_int, oFdiv_int, oAdd_int, oAdd_str, oSub_int, oMul_int, oLt_int, oGe_int, oLe_int, oPow_int, uNeg_int, oEq_int, oEq_str, oEq_bl, oNe_int, oNe_str, oNe_bl, cInt_int, cInt_bl, cAbs_int, cLen_ref, cList_ref, stL_ref, gName, gSub, gTup, gCons, gNil, rdSeq, List.getElem?_cons_zero, List.getElem?_cons_succ, List.set_cons_zero, List.set_cons_succ, List.cons_append, List.nil_append, Option.some.injEq, exists_eq_left', V.bl.injEq, V.int.injEq, V.ref.injEq, atI_0, atI_1, atI_2, setI_1, setI_2, Bool.not_true, Bool.not_false, Bool.false_eq_true, if_false, if_true, cIsi, tyF, kit_si, tyOk, true_and, Bool.false_eq_true, if_false]; exact h)); (try dsimp only [gName, tNext, List.set_cons_zero, List.set_cons_succ]))
    exact h
  · split at h
    · rename_i e
      show (t_is_integer_0 K A) _ [some (.ref _)] H
      refine st_ret ?_
      (refine evE ?P26 (fun Q h => ?h26) ?_; (case h26 => (simp only [tTest, tOp, tUn, tVar, tC, tCB, tCons, tNil, tAnd, tOr, tNot, tB, tTup, tLst, tIf, tAndV, tOrV, tNotV, tSl, tPart, tNoPart, tCall, iIx_ref, oGt_int, oMod_int, oFdiv_int, oAdd_int, oAdd_str, oSub_int, oMul_int, oLt_int, oGe_int, oLe_int, oPow_int, uNeg_int, oEq_int, oEq_str, oEq_bl, oNe_int, oNe_str, oNe_bl, cInt_int, cInt_bl, cAbs_int, cLen_ref, cList_ref, stL_ref, gName, gSub, gTup, gCons, gNil, rdSeq, List.getElem?_cons_zero, List.getElem?_cons_succ, List.set_cons_zero, List.set_cons_succ, List.cons_append, List.nil_append, Option.some.injEq, exists_eq_left', V.bl.injEq, V.int.injEq, V.ref.injEq, atI_0, atI_1, atI_2, setI_1, setI_2, Bool.not_true, Bool.not_false, Bool.false_eq_true, if_false, if_true, cIsi, tyF, e, kit_li, tyOk, true_and, Bool.false_eq_true, if_false]; exact h)); (try dsimp only [gName, tNext, List.set_cons_zero, List.set_cons_succ]))
      exact h
    · rename_i e
      show (t_is_integer_0 K A) _ [some (.ref _)] H
      refine st_ret ?_
      (refine evE ?P27 (fun Q h => ?h27) ?_; (case h27 => (simp only [tTest, tOp, tUn, tVar, tC, tCB, tCons, tNil, tAnd, tOr, tNot, tB, tTup, tLst, tIf, tAndV, tOrV, tNotV, tSl, tPart, tNoPart, tCall, iIx_ref, oGt_int, oMod_int, oFdiv_int, oAdd_int, oAdd_str, oSub_int, oMul_int, oLt_int, oGe_int, oLe_int, oPow_int, uNeg_int, oEq_int, oEq_str, oEq_bl, oNe_int, oNe_str, oNe_bl, cInt_int, cInt_bl, cAbs_int, cLen_ref, cList_ref, stL_ref, gName, gSub, gTup, gCons, gNil, rdSeq, List.getElem?_cons_zero, List.getElem?_cons_succ, List.set_cons_zero, List.set_cons_succ, List.cons_append, List.nil_append, Option.some.injEq, exists_eq_left', V.bl.injEq, V.int.injEq, V.ref.injEq, atI_0, atI_1, atI_2, setI_1, setI_2, Bool.not_true, Bool.not_false, Bool.false_eq_true, if_false, if_true, cIsi, tyF, e, kit_ui, tyOk, true_and, Bool.false_eq_true, if_false]; exact h)); (try dsimp only [gName, tNext, List.set_cons_zero, List.set_cons_succ]))
      exact h
    · rename_i e
      show (t_is_integer_0 K A) _ [some (.ref _)] H
      refine st_ret ?_
      (refine evE ?P28 (fun Q h => ?h28) ?_; (case h28 => (simp only [tTest, tOp, tUn, tVar, tC, tCB, tCons, tNil, tAnd, tOr, tNot, tB, tTup, tLst, tIf, tAndV, tOrV, tNotV, tSl, tPart, tNoPart, tCall, iIx_ref, oGt_int, oMod_int, oFdiv_int, oAdd_int, oAdd_str, oSub_int, oMul_int, oLt_int, oGe_int, oLe_int, oPow_int, uNeg_int, oEq_int, oEq_str, oEq_bl, oNe_int, oNe_str, oNe_bl, cInt_int, cInt_bl, cAbs_int, cLen_ref, cList_ref, stL_ref, gName, gSub, gTup, gCons, gNil, rdSeq, List.getElem?_cons_zero, List.getElem?_cons_succ, List.set_cons_zero, List.set_cons_succ, List.cons_append, List.nil_append, Option.some.injEq, exists_eq_left', V.bl.injEq, V.int.injEq, V.ref.injEq, atI_0, atI_1, atI_2, setI_1, setI_2, Bool.not_true, Bool.not_false, Bool.false_eq_true, if_false, if_true, cIsi, tyF, e, kit_di, tyOk, true_and, Bool.false_eq_true, if_false]; exact h)); (try dsimp only [gName, tNext, List.set_cons_zero, List.set_cons_succ]))
      exact h
    · rename_i e
      obtain ⟨rfl, h⟩ := h
      show (t_is_integer_0 K A) _ [some (.ref _)] H
      refine st_ret ?_
      (refine evE ?P29 (fun Q h => ?h29) ?_; (case h29 => (simp only [tTest, tOp, tUn, tVar, tC, tCB, tCons, tNil, tAnd, tOr, tNot, tB, tTup, tLst, tIf, tAndV, tOrV, tNotV, tSl, tPart, tNoPart, tCall, iIx_ref, oGt_int, oMod_int, oFdiv_int, oAdd_int, oAdd_str, oSub_int, oMul_int, oLt_int, oGe_int, oLe_int, oPow_int, uNeg_int, oEq_int, oEq_str, oEq_bl, oNe_int, oNe_str, oNe_bl, cInt_int, cInt_bl, cAbs_int, cLen_ref, cList_ref, stL_ref, gName, gSub, gTup, gCons, gNil, rdSeq, List.getElem?_cons_zero, List.getElem?_cons_succ, List.set_cons_zero, List.set_cons_succ, List.cons_append, List.nil_append, Option.some.injEq, exists_eq_left', V.bl.injEq, V.int.injEq, V.ref.injEq, atI_0, atI_1, atI_2, setI_1, setI_2, Bool.not_true, Bool.not_false, Bool.false_eq_true, if_false, if_true, cIsi, tyF, e, F.ri, tyOk, F.it, true_and, Bool.false_eq_true, if_false]; exact h)); (try dsimp only [gName, tNext, List.set_cons_zero, List.set_cons_succ]))
      exact h
    · exact h.elim
  · exact h.elim
/-- the greatest common divisor -/
def spGcd : Sp := fun vs H Q _ => match vs with
  | [.int a, .int b] => 0 < b ∧ Q (.int (Int.gcd a b)) H
  | _ => False
def sp_divisor (K : PySem.W.Frag) (A : Ad) : Sp := spGcd
def sp_law_divisor (K : PySem.W.Frag) (A : Ad) : Sp := spGcd
def t_divisor_2 (K : PySem.W.Frag) (A : Ad) : TS := (tPar 2 3 (tCons (tVar 3) (tCons (tOp oMod (tVar 2) (tVar 3)) tNil)))
def t_divisor_3 (K : PySem.W.Frag) (A : Ad) : TS := (tRet (tVar 2))
def t_divisor_1 (K : PySem.W.Frag) (A : Ad) : TS := (tSeq (tWhile (tTest (tOp oGt (tVar 3) (tC (.int 0)))) (t_divisor_2 K A)) (t_divisor_3 K A))
def t_divisor_0 (K : PySem.W.Frag) (A : Ad) : TS := (tSeq (tPar 2 3 (tCons (tCB cAbs (tCons (tCB cInt (tCons (tVar 0) tNil)) tNil)) (tCons (tCB cInt (tCons (tVar 1) tNil)) tNil))) (t_divisor_1 K A))

def t_law_divisor_2 (K : PySem.W.Frag) (A : Ad) : TS := (tPar 2 3 (tCons (tVar 3) (tCons (tOp oMod (tCB cInt (tCons (tVar 2) tNil)) (tVar 3)) tNil)))
def t_law_divisor_3 (K : PySem.W.Frag) (A : Ad) : TS := (tRet (tVar 2))
def t_law_divisor_1 (K : PySem.W.Frag) (A : Ad) : TS := (tSeq (tWhile (tTest (tOp (oNe K) (tVar 3) (tC (.int 0)))) (t_law_divisor_2 K A)) (t_law_divisor_3 K A))
def t_law_divisor_0 (K : PySem.W.Frag) (A : Ad) : TS := (tSeq (tPar 2 3 (tCons (tCB cAbs (tCons (tCB cInt (tCons (tVar 0) tNil)) tNil)) (tCons (tCB cInt (tCons (tVar 1) tNil)) tNil))) (t_law_divisor_1 K A))

theorem gcd_abs {a b : Int} : Int.gcd (if a < 0 then -a else a) b = Int.gcd a b := by
  split
  · exact Int.neg_gcd
  · rfl
theorem pure_divisor {K : PySem.W.Frag} {A : Ad} {vs : List V} {H : Hp} {Q : VK} {E : XK} (h : sp_divisor K A vs H Q E) : (t_divisor_0 K A) { nx := fun _ H' => Q .non H', rt := Q } (start ["one", "other", "first", "second"] vs) H := by
  unfold sp_divisor spGcd at h
  split at h
  · rename_i a b
    obtain ⟨hb, k⟩ := h
    show (t_divisor_0 K A) _ [some (.int a), some (.int b), none, none] H
    refine st_seq ?_
    unfold tPar
    (refine evA ?P30 (fun Q h => ?h30) ?_; (case h30 => (simp only [tTest, tOp, tUn, tVar, tC, tCB, tCons, tNil, tAnd, tOr, tNot, tB, tTup, tLst, tIf, tAndV, tOrV, tNotV, tSl, tPart, tNoPart, tCall, iIx_ref, oGt_int, oMod_int, oFdiv_int, oAdd_int, oAdd_str, oSub_int, oMul_int, oLt_int, oGe_int, oLe_int, oPow_int, uNeg_int, oEq_int, oEq_str, oEq_bl, oNe_int, oNe_str, oNe_bl, cInt_int, cInt_bl, cAbs_int, cLen_ref, cList_ref, stL_ref, gName, gSub, gTup, gCons, gNil, rdSeq, List.getElem?_cons_zero, List.getElem?_cons_succ, List.set_cons_zero, List.set_cons_succ, List.cons_append, List.nil_append, Option.some.injEq, exists_eq_left', V.bl.injEq, V.int.injEq, V.ref.injEq, atI_0, atI_1, atI_2, setI_1, setI_2, Bool.not_true, Bool.not_false, Bool.false_eq_true, if_false, if_true]; exact h)); (try dsimp only [gName, tNext, List.set_cons_zero, List.set_cons_succ]))
    refine ⟨_, _, rfl, ?_⟩
    (try dsimp only [gName, tNext, List.set_cons_zero, List.set_cons_succ])
    refine st_seq ?_
    unfold tWhile
    refine ⟨fun m σ H' => H' = H ∧ ∃ x y : Int, σ = [some (.int a), some (.int b), some (.int x), some (.int y)] ∧ 0 ≤ x ∧ 0 ≤ y ∧ Int.gcd x y = Int.gcd a b ∧ y.toNat = m, ⟨b.toNat, rfl, _, _, rfl, by split <;> omega, by omega, gcd_abs, rfl⟩, ?_⟩
    rintro m σ H' ⟨rfl, x, y, rfl, hx, hy, hg, hm⟩
    (refine evT ?P31 (fun Q h => ?h31) ?_; (case h31 => (simp only [tTest, tOp, tUn, tVar, tC, tCB, tCons, tNil, tAnd, tOr, tNot, tB, tTup, tLst, tIf, tAndV, tOrV, tNotV, tSl, tPart, tNoPart, tCall, iIx_ref, oGt_int, oMod_int, oFdiv_int, oAdd_int, oAdd_str, oSub_int, oMul_int, oLt_int, oGe_int, oLe_int, oPow_int, uNeg_int, oEq_int, oEq_str, oEq_bl, oNe_int, oNe_str, oNe_bl, cInt_int, cInt_bl, cAbs_int, cLen_ref, cList_ref, stL_ref, gName, gSub, gTup, gCons, gNil, rdSeq, List.getElem?_cons_zero, List.getElem?_cons_succ, List.set_cons_zero, List.set_cons_succ, List.cons_append, List.nil_append, Option.some.injEq, exists_eq_left', V.bl.injEq, V.int.injEq, V.ref.injEq, atI_0, atI_1, atI_2, setI_1, setI_2, Bool.not_true, Bool.not_false, Bool.false_eq_true, if_false, if_true]; exact h)); (try dsimp only [gName, tNext, List.set_cons_zero, List.set_cons_succ]))
    refine ite_dec (fun hc => ?_) (fun hc => ?_)
    · refine ⟨fun σ' H'' => H'' = H' ∧ σ' = [some (.int a), some (.int b), some (.int y), some (.int (x % y))], ?_, ?_⟩
      · rintro σ' H'' ⟨rfl, rfl⟩
        have z := mod_range (x := x) hc
        exact ⟨(x % y).toNat, by omega, rfl, y, x % y, rfl, hy, z.1, (gcd_step hc).trans hg, rfl⟩
      · show tPar _ _ _ _ _ _
        unfold tPar
        (refine evA ?P32 (fun Q h => ?h32) ?_; (case h32 => (simp only [tTest, tOp, tUn, tVar, tC, tCB, tCons, tNil, tAnd, tOr, tNot, tB, tTup, tLst, tIf, tAndV, tOrV, tNotV, tSl, tPart, tNoPart, tCall, iIx_ref, oGt_int, oMod_int, oFdiv_int, oAdd_int, oAdd_str, oSub_int, oMul_int, oLt_int, oGe_int, oLe_int, oPow_int, uNeg_int, oEq_int, oEq_str, oEq_bl, oNe_int, oNe_str, oNe_bl, cInt_int, cInt_bl, cAbs_int, cLen_ref, cList_ref, stL_ref, gName, gSub, gTup, gCons, gNil, rdSeq, List.getElem?_cons_zero, List.getElem?_cons_succ, List.set_cons_zero, List.set_cons_succ, List.cons_append, List.nil_append, Option.some.injEq, exists_eq_left', V.bl.injEq, V.int.injEq, V.ref.injEq, atI_0, atI_1, atI_2, setI_1, setI_2, Bool.not_true, Bool.not_false, Bool.false_eq_true, if_false, if_true]; exact h)); (try dsimp only [gName, tNext, List.set_cons_zero, List.set_cons_succ]))
        refine ⟨hc, _, _, rfl, rfl, rfl⟩
    · refine st_ret ?_
      (refine evE ?P33 (fun Q h => ?h33) ?_; (case h33 => (simp only [tTest, tOp, tUn, tVar, tC, tCB, tCons, tNil, tAnd, tOr, tNot, tB, tTup, tLst, tIf, tAndV, tOrV, tNotV, tSl, tPart, tNoPart, tCall, iIx_ref, oGt_int, oMod_int, oFdiv_int, oAdd_int, oAdd_str, oSub_int, oMul_int, oLt_int, oGe_int, oLe_int, oPow_int, uNeg_int, oEq_int, oEq_str, oEq_bl, oNe_int, oNe_str, oNe_bl, cInt_int, cInt_bl, cAbs_int, cLen_ref, cList_ref, stL_ref, gName, gSub, gTup, gCons, gNil, rdSeq, List.getElem?_cons_zero, List.getElem?_cons_succ, List.set_cons_zero, List.set_cons_succ, List.cons_append, List.nil_append, Option.some.injEq, exists_eq_left', V.bl.injEq, V.int.injEq, V.ref.injEq, atI_0, atI_1, atI_2, setI_1, setI_2, Bool.not_true, Bool.not_false, Bool.false_eq_true, if_false, if_true]; exact h)); (try dsimp only [gName, tNext, List.set_cons_zero, List.set_cons_succ]))
      have e : y = 0 := by omega
      subst e
      rw [Int.gcd_zero_right] at hg
      have e : x = (Int.gcd a b : Int) := by omega
      rw [e]
      exact k
  · exact h.elim
theorem pure_law_divisor {K : PySem.W.Frag} {A : Ad} {vs : List V} {H : Hp} {Q : VK} {E : XK} (h : sp_law_divisor K A vs H Q E) : (t_law_divisor_0 K A) { nx := fun _ H' => Q .non H', rt := Q } (start ["_law_one", "_law_other", "_law_first", "_law_second"] vs) H := by
  unfold sp_law_divisor spGcd at h
  split at h
  · rename_i a b
    obtain ⟨hb, k⟩ := h
    show (t_law_divisor_0 K A) _ [some (.int a), some (.int b), none, none] H
    refine st_seq ?_
    unfold tPar
    (refine evA ?P34 (fun Q h => ?h34) ?_; (case h34 => (simp only [tTest, tOp, tUn, tVar, tC, tCB, tCons, tNil, tAnd, tOr, tNot, tB, tTup, tLst, tIf, tAndV, tOrV, tNotV, tSl, tPart, tNoPart, tCall, iIx_ref, oGt_int, oMod_int, oFdiv_int, oAdd_int, oAdd_str, oSub_int, oMul_int, oLt_int, oGe_int, oLe_int, oPow_int, uNeg_int, oEq_int, oEq_str, oEq_bl, oNe_int, oNe_str, oNe_bl, cInt_int, cInt_bl, cAbs_int, cLen_ref, cList_ref, stL_ref, gName, gSub, gTup, gCons, gNil, rdSeq, List.getElem?_cons_zero, List.getElem?_cons_succ, List.set_cons_zero, List.set_cons_succ, List.cons_append, List.nil_append, Option.some.injEq, exists_eq_left', V.bl.injEq, V.int.injEq, V.ref.injEq, atI_0, atI_1, atI_2, setI_1, setI_2, Bool.not_true, Bool.not_false, Bool.false_eq_true, if_false, if_true]; exact h)); (try dsimp only [gName, tNext, List.set_cons_zero, List.set_cons_succ]))
    refine ⟨_, _, rfl, ?_⟩
    (try dsimp only [gName, tNext, List.set_cons_zero, List.set_cons_succ])
    refine st_seq ?_
    unfold tWhile
    refine ⟨fun m σ H' => H' = H ∧ ∃ x y : Int, σ = [some (.int a), some (.int b), some (.int x), some (.int y)] ∧ 0 ≤ x ∧ 0 ≤ y ∧ Int.gcd x y = Int.gcd a b ∧ y.toNat = m, ⟨b.toNat, rfl, _, _, rfl, by split <;> omega, by omega, gcd_abs, rfl⟩, ?_⟩
    rintro m σ H' ⟨rfl, x, y, rfl, hx, hy, hg, hm⟩
    (refine evT ?P35 (fun Q h => ?h35) ?_; (case h35 => (simp only [tTest, tOp, tUn, tVar, tC, tCB, tCons, tNil, tAnd, tOr, tNot, tB, tTup, tLst, tIf, tAndV, tOrV, tNotV, tSl, tPart, tNoPart, tCall, iIx_ref, oGt_int, oMod_int, oFdiv_int, oAdd_int, oAdd_str, oSub_int, oMul_int, oLt_int, oGe_int, oLe_int, oPow_int, uNeg_int, oEq_int, oEq_str, oEq_bl, oNe_int, oNe_str, oNe_bl, cInt_int, cInt_bl, cAbs_int, cLen_ref, cList_ref, stL_ref, gName, gSub, gTup, gCons, gNil, rdSeq, List.getElem?_cons_zero, List.getElem?_cons_succ, List.set_cons_zero, List.set_cons_succ, List.cons_append, List.nil_append, Option.some.injEq, exists_eq_left', V.bl.injEq, V.int.injEq, V.ref.injEq, atI_0, atI_1, atI_2, setI_1, setI_2, Bool.not_true, Bool.not_false, Bool.false_eq_true, if_false, if_true]; exact h)); (try dsimp only [gName, tNext, List.set_cons_zero, List.set_cons_succ]))
    refine ite_ndec (fun hc => ?_) (fun hc => ?_)
    · have hc : 0 < y := by omega
      refine ⟨fun σ' H'' => H'' = H' ∧ σ' = [some (.int a), some (.int b), some (.int y), some (.int (x % y))], ?_, ?_⟩
      · rintro σ' H'' ⟨rfl, rfl⟩
        have z := mod_range (x := x) hc
        exact ⟨(x % y).toNat, by omega, rfl, y, x % y, rfl, hy, z.1, (gcd_step hc).trans hg, rfl⟩
      · show tPar _ _ _ _ _ _
        unfold tPar
        (refine evA ?P36 (fun Q h => ?h36) ?_; (case h36 => (simp only [tTest, tOp, tUn, tVar, tC, tCB, tCons, tNil, tAnd, tOr, tNot, tB, tTup, tLst, tIf, tAndV, tOrV, tNotV, tSl, tPart, tNoPart, tCall, iIx_ref, oGt_int, oMod_int, oFdiv_int, oAdd_int, oAdd_str, oSub_int, oMul_int, oLt_int, oGe_int, oLe_int, oPow_int, uNeg_int, oEq_int, oEq_str, oEq_bl, oNe_int, oNe_str, oNe_bl, cInt_int, cInt_bl, cAbs_int, cLen_ref, cList_ref, stL_ref, gName, gSub, gTup, gCons, gNil, rdSeq, List.getElem?_cons_zero, List.getElem?_cons_succ, List.set_cons_zero, List.set_cons_succ, List.cons_append, List.nil_append, Option.some.injEq, exists_eq_left', V.bl.injEq, V.int.injEq, V.ref.injEq, atI_0, atI_1, atI_2, setI_1, setI_2, Bool.not_true, Bool.not_false, Bool.false_eq_true, if_false, if_true]; exact h)); (try dsimp only [gName, tNext, List.set_cons_zero, List.set_cons_succ]))
        refine ⟨hc, _, _, rfl, rfl, rfl⟩
    · refine st_ret ?_
      (refine evE ?P37 (fun Q h => ?h37) ?_; (case h37 => (simp only [tTest, tOp, tUn, tVar, tC, tCB, tCons, tNil, tAnd, tOr, tNot, tB, tTup, tLst, tIf, tAndV, tOrV, tNotV, tSl, tPart, tNoPart, tCall, iIx_ref, oGt_int, oMod_int, oFdiv_int, oAdd_int, oAdd_str, oSub_int, oMul_int, oLt_int, oGe_int, oLe_int, oPow_int, uNeg_int, oEq_int, oEq_str, oEq_bl, oNe_int, oNe_str, oNe_bl, cInt_int, cInt_bl, cAbs_int, cLen_ref, cList_ref, stL_ref, gName, gSub, gTup, gCons, gNil, rdSeq, List.getElem?_cons_zero, List.getElem?_cons_succ, List.set_cons_zero, List.set_cons_succ, List.cons_append, List.nil_append, Option.some.injEq, exists_eq_left', V.bl.injEq, V.int.injEq, V.ref.injEq, atI_0, atI_1, atI_2, setI_1, setI_2, Bool.not_true, Bool.not_false, Bool.false_eq_true, if_false, if_true]; exact h)); (try dsimp only [gName, tNext, List.set_cons_zero, List.set_cons_succ]))
      subst hc
      rw [Int.gcd_zero_right] at hg
      have e : x = (Int.gcd a b : Int) := by omega
      rw [e]
      exact k
  · exact h.elim

theorem dv {K : PySem.W.Frag} {A : Ad} {a b : Int} {H : Hp} {Q : VK} {E : XK} : sp_divisor K A [.int a, .int b] H Q E = (0 < b ∧ Q (.int (Int.gcd a b)) H) := rfl
theorem ldv {K : PySem.W.Frag} {A : Ad} {a b : Int} {H : Hp} {Q : VK} {E : XK} : sp_law_divisor K A [.int a, .int b] H Q E = (0 < b ∧ Q (.int (Int.gcd a b)) H) := rfl
def sp_Rate_init (K : PySem.W.Frag) (A : Ad) : Sp := fun vs H Q _ => match vs with
  | [.ref x, .int u, .int l] => ∃ dx, H x = some (.ins A.c_Rate dx []) ∧ 0 < l ∧ Bn 700 u ∧ Bn 700 l ∧
    ∀ H', (∀ b, b ≠ x → H' b = H b) → H' x = some (.ins A.c_Rate dx [("upper", .int (ru u l)), ("lower", .int (rl u l))]) → Q .non H'
  | _ => False
def t_Rate_init_1 (K : PySem.W.Frag) (A : Ad) : TS := tNever
def t_Rate_init_3 (K : PySem.W.Frag) (A : Ad) : TS := tNever
def t_Rate_init_6 (K : PySem.W.Frag) (A : Ad) : TS := (sFld K (tVar 0) (tOp oFdiv (tVar 2) (tVar 3)) "lower")
def t_Rate_init_5 (K : PySem.W.Frag) (A : Ad) : TS := (tSeq (sFld K (tVar 0) (tOp oFdiv (tVar 1) (tVar 3)) "upper") (t_Rate_init_6 K A))
def t_Rate_init_4 (K : PySem.W.Frag) (A : Ad) : TS := (tSeq (tAsg (tCall (sp_divisor K A) [] E0 (tCons (tVar 1) (tCons (tVar 2) tNil))) (gName 3)) (t_Rate_init_5 K A))
def t_Rate_init_2 (K : PySem.W.Frag) (A : Ad) : TS := (tSeq (tIfS (tOr (tNot (tB (tCall (sp_is_integer K A) [] E0 (tCons (tVar 2) tNil)))) (tTest (tOp oLt (tVar 2) (tC (.int 1))))) (t_Rate_init_3 K A) tNext) (t_Rate_init_4 K A))
def t_Rate_init_0 (K : PySem.W.Frag) (A : Ad) : TS := (tSeq (tIfS (tNot (tB (tCall (sp_is_integer K A) [] E0 (tCons (tVar 1) tNil)))) (t_Rate_init_1 K A) tNext) (t_Rate_init_2 K A))

theorem gcd_divw {a b : Int} (hb : 0 < b) (h : Bn 700 b) : CDivW a (Int.gcd a b : Int) ∧ CDivW b (Int.gcd a b : Int) := by
  have h1 := gcd_pos (p := a) hb
  have h2 : (Int.gcd a b : Int).natAbs ≤ b.natAbs := by
    have z : Int.gcd a b ∣ b.natAbs := Nat.gcd_dvd_right _ _
    have := Nat.le_of_dvd (by omega) z
    omega
  have h3 := Bn.log (m := 699) (h.le h2)
  exact ⟨⟨h1, by omega⟩, ⟨h1, by omega⟩⟩
theorem pure_Rate_init {K : PySem.W.Frag} {A : Ad} {vs : List V} {H : Hp} {Q : VK} {E : XK} (F : KF K A) (h : sp_Rate_init K A vs H Q E) : (t_Rate_init_0 K A) { nx := fun _ H' => Q .non H', rt := Q } (start ["self", "upper", "lower", "common"] vs) H := by
  unfold sp_Rate_init at h
  split at h
  · rename_i x u l
    obtain ⟨dx, hx, hl, bu, bl, k⟩ := h
    show (t_Rate_init_0 K A) _ [some (.ref x), some (.int u), some (.int l), none] H
    have dw := gcd_divw (a := u) hl bl
    refine st_seq (st_if ?_)
    (refine evT ?P38 (fun Q h => ?h38) ?_; (case h38 => (simp only [tTest, tOp, tUn, tVar, tC, tCB, tCons, tNil, tAnd, tOr, tNot, tB, tTup, tLst, tIf, tAndV, tOrV, tNotV, tSl, tPart, tNoPart, tCall, iIx_ref, oGt_int, oMod_int, oFdiv_int, oAdd_int, oAdd_str, oSub_int, oMul_int, oLt_int, oGe_int, oLe_int, oPow_int, uNeg_int, oEq_int, oEq_str, oEq_bl, oNe_int, oNe_str, oNe_bl, cInt_int, cInt_bl, cAbs_int, cLen_ref, cList_ref, stL_ref, gName, gSub, gTup, gCons, gNil, rdSeq, List.getElem?_cons_zero, List.getElem?_cons_succ, List.set_cons_zero, List.set_cons_succ, List.cons_append, List.nil_append, Option.some.injEq, exists_eq_left', V.bl.injEq, V.int.injEq, V.ref.injEq, atI_0, atI_1, atI_2, setI_1, setI_2, Bool.not_true, Bool.not_false, Bool.false_eq_true, if_false, if_true, is_int]; exact h)); (try dsimp only [gName, tNext, List.set_cons_zero, List.set_cons_succ]))
    (refine if_no ?_; (try dsimp only [gName, tNext, List.set_cons_zero, List.set_cons_succ]))
    refine st_seq (st_if ?_)
    (refine evT ?P39 (fun Q h => ?h39) ?_; (case h39 => (simp only [tTest, tOp, tUn, tVar, tC, tCB, tCons, tNil, tAnd, tOr, tNot, tB, tTup, tLst, tIf, tAndV, tOrV, tNotV, tSl, tPart, tNoPart, tCall, iIx_ref, oGt_int, oMod_int, oFdiv_int, oAdd_int, oAdd_str, oSub_int, oMul_int, oLt_int, oGe_int, oLe_int, oPow_int, uNeg_int, oEq_int, oEq_str, oEq_bl, oNe_int, oNe_str, oNe_bl, cInt_int, cInt_bl, cAbs_int, cLen_ref, cList_ref, stL_ref, gName, gSub, gTup, gCons, gNil, rdSeq, List.getElem?_cons_zero, List.getElem?_cons_succ, List.set_cons_zero, List.set_cons_succ, List.cons_append, List.nil_append, Option.some.injEq, exists_eq_left', V.bl.injEq, V.int.injEq, V.ref.injEq, atI_0, atI_1, atI_2, setI_1, setI_2, Bool.not_true, Bool.not_false, Bool.false_eq_true, if_false, if_true, is_int]; exact h)); (try dsimp only [gName, tNext, List.set_cons_zero, List.set_cons_succ]))
    refine ite_dec (fun hc => by omega) (fun hc => ?_)
    (try dsimp only [gName, tNext, List.set_cons_zero, List.set_cons_succ])
    refine st_seq (st_asg ?_)
    (refine evE ?P40 (fun Q h => ?h40) ?_; (case h40 => (simp only [tTest, tOp, tUn, tVar, tC, tCB, tCons, tNil, tAnd, tOr, tNot, tB, tTup, tLst, tIf, tAndV, tOrV, tNotV, tSl, tPart, tNoPart, tCall, iIx_ref, oGt_int, oMod_int, oFdiv_int, oAdd_int, oAdd_str, oSub_int, oMul_int, oLt_int, oGe_int, oLe_int, oPow_int, uNeg_int, oEq_int, oEq_str, oEq_bl, oNe_int, oNe_str, oNe_bl, cInt_int, cInt_bl, cAbs_int, cLen_ref, cList_ref, stL_ref, gName, gSub, gTup, gCons, gNil, rdSeq, List.getElem?_cons_zero, List.getElem?_cons_succ, List.set_cons_zero, List.set_cons_succ, List.cons_append, List.nil_append, Option.some.injEq, exists_eq_left', V.bl.injEq, V.int.injEq, V.ref.injEq, atI_0, atI_1, atI_2, setI_1, setI_2, Bool.not_true, Bool.not_false, Bool.false_eq_true, if_false, if_true, dv]; exact h)); (try dsimp only [gName, tNext, List.set_cons_zero, List.set_cons_succ]))
    refine ⟨hl, ?_⟩
    (try dsimp only [gName, tNext, List.set_cons_zero, List.set_cons_succ])
    refine st_seq (st_fld ?_)
    (refine evE ?P41 (fun Q h => ?h41) ?_; (case h41 => (simp only [tTest, tOp, tUn, tVar, tC, tCB, tCons, tNil, tAnd, tOr, tNot, tB, tTup, tLst, tIf, tAndV, tOrV, tNotV, tSl, tPart, tNoPart, tCall, iIx_ref, oGt_int, oMod_int, oFdiv_int, oAdd_int, oAdd_str, oSub_int, oMul_int, oLt_int, oGe_int, oLe_int, oPow_int, uNeg_int, oEq_int, oEq_str, oEq_bl, oNe_int, oNe_str, oNe_bl, cInt_int, cInt_bl, cAbs_int, cLen_ref, cList_ref, stL_ref, gName, gSub, gTup, gCons, gNil, rdSeq, List.getElem?_cons_zero, List.getElem?_cons_succ, List.set_cons_zero, List.set_cons_succ, List.cons_append, List.nil_append, Option.some.injEq, exists_eq_left', V.bl.injEq, V.int.injEq, V.ref.injEq, atI_0, atI_1, atI_2, setI_1, setI_2, Bool.not_true, Bool.not_false, Bool.false_eq_true, if_false, if_true]; exact h)); (try dsimp only [gName, tNext, List.set_cons_zero, List.set_cons_succ]))
    refine ⟨dw.1, ?_⟩
    refine ⟨_, rfl, x, _, dx, _, rfl, hx, F.cl, F.up, by decide, ?_⟩
    refine st_fld ?_
    (refine evE ?P42 (fun Q h => ?h42) ?_; (case h42 => (simp only [tTest, tOp, tUn, tVar, tC, tCB, tCons, tNil, tAnd, tOr, tNot, tB, tTup, tLst, tIf, tAndV, tOrV, tNotV, tSl, tPart, tNoPart, tCall, iIx_ref, oGt_int, oMod_int, oFdiv_int, oAdd_int, oAdd_str, oSub_int, oMul_int, oLt_int, oGe_int, oLe_int, oPow_int, uNeg_int, oEq_int, oEq_str, oEq_bl, oNe_int, oNe_str, oNe_bl, cInt_int, cInt_bl, cAbs_int, cLen_ref, cList_ref, stL_ref, gName, gSub, gTup, gCons, gNil, rdSeq, List.getElem?_cons_zero, List.getElem?_cons_succ, List.set_cons_zero, List.set_cons_succ, List.cons_append, List.nil_append, Option.some.injEq, exists_eq_left', V.bl.injEq, V.int.injEq, V.ref.injEq, atI_0, atI_1, atI_2, setI_1, setI_2, Bool.not_true, Bool.not_false, Bool.false_eq_true, if_false, if_true]; exact h)); (try dsimp only [gName, tNext, List.set_cons_zero, List.set_cons_succ]))
    refine ⟨dw.2, ?_⟩
    refine ⟨_, rfl, x, _, dx, _, rfl, upd_same, F.cl, F.lo, by show 1 < 1000; decide, ?_⟩
    refine k _ (fun b hb => ?_) ?_
    · rw [upd_ne hb, upd_ne hb]
    · rw [upd_same]
      rfl
  · exact h.elim
/-- Rate(u, l) -/
theorem mk_rate {K : PySem.W.Frag} {A : Ad} {u l : Int} {H : Hp} {Q : VK} {x dx : Addr} (hl : 0 < l) (bu : Bn 700 u) (bl : Bn 700 l) (k : ∀ c H', Grow H H' → RateAt A H' c (ru u l) (rl u l) → Q (.ref c) H') (hx : H x = none) (hd : H dx = none) (hn : dx ≠ x) :
    sp_Rate_init K A [.ref x, .int u, .int l] (upd (upd H dx (.own x)) x (.ins A.c_Rate dx [])) (fun v H2 => v = .non ∧ Q (.ref x) H2) E0 := by
  refine ⟨dx, upd_same, hl, bu, bl, fun H' h1 h2 => ⟨rfl, k x H' (fun b o e => ?_) ⟨dx, h2⟩⟩⟩
  have hb : b ≠ x := fun z => by rw [z, hx] at e; cases e
  have hb2 : b ≠ dx := fun z => by rw [z, hd] at e; cases e
  rw [h1 b hb, upd_ne hb, upd_ne hb2]
  exact e
theorem mk_rt {K : PySem.W.Frag} {A : Ad} {m : Nat} {u l : Int} {H : Hp} {Q : VK} {x dx : Addr} (hl : 0 < l) (bu : Bn m u) (bl : Bn m l) (hm : m ≤ 700) (k : ∀ c H', Grow H H' → Rt m A H' c u l → Q (.ref c) H') (hx : H x = none) (hd : H dx = none) (hn : dx ≠ x) :
    sp_Rate_init K A [.ref x, .int u, .int l] (upd (upd H dx (.own x)) x (.ins A.c_Rate dx [])) (fun v H2 => v = .non ∧ Q (.ref x) H2) E0 :=
  mk_rate hl (bu.up hm) (bl.up hm) (fun c H' g h => k c H' g ⟨h, hl, bu, bl⟩) hx hd hn
def sp_as_rate (K : PySem.W.Frag) (A : Ad) : Sp := fun vs H Q _ => match vs with
  | [y] => ∃ p q, Nm A H y p q ∧ ∀ b H', Grow H H' → Rt 300 A H' b p q → Q (.ref b) H'
  | _ => False
def t_as_rate_1 (K : PySem.W.Frag) (A : Ad) : TS := (tRet (tVar 0))
def t_as_rate_3 (K : PySem.W.Frag) (A : Ad) : TS := tNever
def t_as_rate_4 (K : PySem.W.Frag) (A : Ad) : TS := (tRet (tMake A.c_Rate (sp_Rate_init K A) [.int 1] E0 (tCons (tVar 0) tNil)))
def t_as_rate_2 (K : PySem.W.Frag) (A : Ad) : TS := (tSeq (tIfS (tNot (tB (tCall (sp_is_integer K A) [] E0 (tCons (tVar 0) tNil)))) (t_as_rate_3 K A) tNext) (t_as_rate_4 K A))
def t_as_rate_0 (K : PySem.W.Frag) (A : Ad) : TS := (tSeq (tIfS (tB (tCB (cIsi K) (tCons (tVar 0) (tCons (tC (.ref A.c_Rate)) tNil)))) (t_as_rate_1 K A) tNext) (t_as_rate_2 K A))

theorem pure_as_rate {K : PySem.W.Frag} {A : Ad} {vs : List V} {H : Hp} {Q : VK} {E : XK} (F : KF K A) (h : sp_as_rate K A vs H Q E) : (t_as_rate_0 K A) { nx := fun _ H' => Q .non H', rt := Q } (start ["value"] vs) H := by
  unfold sp_as_rate at h
  split at h
  · rename_i y
    obtain ⟨p, q, h | ⟨rfl, rfl, bp⟩, k⟩ := h
    · obtain ⟨b, rfl, h⟩ := h
      show (t_as_rate_0 K A) _ [some (.ref b)] H
      obtain ⟨dx, hb⟩ := h.at_
      refine st_seq (st_if ?_)
      (refine evT ?P43 (fun Q h => ?h43) ?_; (case h43 => (simp only [tTest, tOp, tUn, tVar, tC, tCB, tCons, tNil, tAnd, tOr, tNot, tB, tTup, tLst, tIf, tAndV, tOrV, tNotV, tSl, tPart, tNoPart, tCall, iIx_ref, oGt_int, oMod_int, oFdiv_int, oAdd_int, oAdd_str, oSub_int, oMul_int, oLt_int, oGe_int, oLe_int, oPow_int, uNeg_int, oEq_int, oEq_str, oEq_bl, oNe_int, oNe_str, oNe_bl, cInt_int, cInt_bl, cAbs_int, cLen_ref, cList_ref, stL_ref, gName, gSub, gTup, gCons, gNil, rdSeq, List.getElem?_cons_zero, List.getElem?_cons_succ, List.set_cons_zero, List.set_cons_succ, List.cons_append, List.nil_append, Option.some.injEq, exists_eq_left', V.bl.injEq, V.int.injEq, V.ref.injEq, atI_0, atI_1, atI_2, setI_1, setI_2, Bool.not_true, Bool.not_false, Bool.false_eq_true, if_false, if_true, cIsi, tyF, hb, F.rr, tyOk, F.it, true_and]; exact h)); (try dsimp only [gName, tNext, List.set_cons_zero, List.set_cons_succ]))
      (refine if_yes ?_; (try dsimp only [gName, tNext, List.set_cons_zero, List.set_cons_succ]))
      refine st_ret ?_
      (refine evE ?P44 (fun Q h => ?h44) ?_; (case h44 => (simp only [tTest, tOp, tUn, tVar, tC, tCB, tCons, tNil, tAnd, tOr, tNot, tB, tTup, tLst, tIf, tAndV, tOrV, tNotV, tSl, tPart, tNoPart, tCall, iIx_ref, oGt_int, oMod_int, oFdiv_int, oAdd_int, oAdd_str, oSub_int, oMul_int, oLt_int, oGe_int, oLe_int, oPow_int, uNeg_int, oEq_int, oEq_str, oEq_bl, oNe_int, oNe_str, oNe_bl, cInt_int, cInt_bl, cAbs_int, cLen_ref, cList_ref, stL_ref, gName, gSub, gTup, gCons, gNil, rdSeq, List.getElem?_cons_zero, List.getElem?_cons_succ, List.set_cons_zero, List.set_cons_succ, List.cons_append, List.nil_append, Option.some.injEq, exists_eq_left', V.bl.injEq, V.int.injEq, V.ref.injEq, atI_0, atI_1, atI_2, setI_1, setI_2, Bool.not_true, Bool.not_false, Bool.false_eq_true, if_false, if_true]; exact h)); (try dsimp only [gName, tNext, List.set_cons_zero, List.set_cons_succ]))
      exact k _ _ .refl h
    · show (t_as_rate_0 K A) _ [some (.int p)] H
      refine st_seq (st_if ?_)
      (refine evT ?P45 (fun Q h => ?h45) ?_; (case h45 => (simp only [tTest, tOp, tUn, tVar, tC, tCB, tCons, tNil, tAnd, tOr, tNot, tB, tTup, tLst, tIf, tAndV, tOrV, tNotV, tSl, tPart, tNoPart, tCall, iIx_ref, oGt_int, oMod_int, oFdiv_int, oAdd_int, oAdd_str, oSub_int, oMul_int, oLt_int, oGe_int, oLe_int, oPow_int, uNeg_int, oEq_int, oEq_str, oEq_bl, oNe_int, oNe_str, oNe_bl, cInt_int, cInt_bl, cAbs_int, cLen_ref, cList_ref, stL_ref, gName, gSub, gTup, gCons, gNil, rdSeq, List.getElem?_cons_zero, List.getElem?_cons_succ, List.set_cons_zero, List.set_cons_succ, List.cons_append, List.nil_append, Option.some.injEq, exists_eq_left', V.bl.injEq, V.int.injEq, V.ref.injEq, atI_0, atI_1, atI_2, setI_1, setI_2, Bool.not_true, Bool.not_false, Bool.false_eq_true, if_false, if_true, cIsi, tyF, F.xr "int" (by decide), tyOk, true_and]; exact h)); (try dsimp only [gName, tNext, List.set_cons_zero, List.set_cons_succ]))
      (refine if_no ?_; (try dsimp only [gName, tNext, List.set_cons_zero, List.set_cons_succ]))
      refine st_seq (st_if ?_)
      (refine evT ?P46 (fun Q h => ?h46) ?_; (case h46 => (simp only [tTest, tOp, tUn, tVar, tC, tCB, tCons, tNil, tAnd, tOr, tNot, tB, tTup, tLst, tIf, tAndV, tOrV, tNotV, tSl, tPart, tNoPart, tCall, iIx_ref, oGt_int, oMod_int, oFdiv_int, oAdd_int, oAdd_str, oSub_int, oMul_int, oLt_int, oGe_int, oLe_int, oPow_int, uNeg_int, oEq_int, oEq_str, oEq_bl, oNe_int, oNe_str, oNe_bl, cInt_int, cInt_bl, cAbs_int, cLen_ref, cList_ref, stL_ref, gName, gSub, gTup, gCons, gNil, rdSeq, List.getElem?_cons_zero, List.getElem?_cons_succ, List.set_cons_zero, List.set_cons_succ, List.cons_append, List.nil_append, Option.some.injEq, exists_eq_left', V.bl.injEq, V.int.injEq, V.ref.injEq, atI_0, atI_1, atI_2, setI_1, setI_2, Bool.not_true, Bool.not_false, Bool.false_eq_true, if_false, if_true, is_int]; exact h)); (try dsimp only [gName, tNext, List.set_cons_zero, List.set_cons_succ]))
      (refine if_no ?_; (try dsimp only [gName, tNext, List.set_cons_zero, List.set_cons_succ]))
      refine st_ret ?_
      unfold tMake
      (refine evA ?P47 (fun Q h => ?h47) ?_; (case h47 => (simp only [tTest, tOp, tUn, tVar, tC, tCB, tCons, tNil, tAnd, tOr, tNot, tB, tTup, tLst, tIf, tAndV, tOrV, tNotV, tSl, tPart, tNoPart, tCall, iIx_ref, oGt_int, oMod_int, oFdiv_int, oAdd_int, oAdd_str, oSub_int, oMul_int, oLt_int, oGe_int, oLe_int, oPow_int, uNeg_int, oEq_int, oEq_str, oEq_bl, oNe_int, oNe_str, oNe_bl, cInt_int, cInt_bl, cAbs_int, cLen_ref, cList_ref, stL_ref, gName, gSub, gTup, gCons, gNil, rdSeq, List.getElem?_cons_zero, List.getElem?_cons_succ, List.set_cons_zero, List.set_cons_succ, List.cons_append, List.nil_append, Option.some.injEq, exists_eq_left', V.bl.injEq, V.int.injEq, V.ref.injEq, atI_0, atI_1, atI_2, setI_1, setI_2, Bool.not_true, Bool.not_false, Bool.false_eq_true, if_false, if_true]; exact h)); (try dsimp only [gName, tNext, List.set_cons_zero, List.set_cons_succ]))
      intro x dx hx hd hn
      exact mk_rt (by decide) bp (bn_one (m := 299)) (by decide) (fun c H' g h => k c H' g h) hx hd hn
  · exact h.elim

section
variable {K : PySem.W.Frag} {A : Ad} {H : Hp} {Q : VK} {m : Nat} {a b : Addr} {p q r s : Int} {y : V} {sp : Sp} {o r1 : R2}
theorem Rt.fu (h : Rt m A H a p q) (F : KF K A) : ∀ Q, fldR K (.ref a) "upper" H Q = Q (.int (ru p q)) H := fun Q => by
  obtain ⟨dx, e⟩ := h.at_
  exact fldR_eq e F.cl F.up rfl
theorem Rt.fl (h : Rt m A H a p q) (F : KF K A) : ∀ Q, fldR K (.ref a) "lower" H Q = Q (.int (rl p q)) H := fun Q => by
  obtain ⟨dx, e⟩ := h.at_
  exact fldR_eq e F.cl F.lo rfl
theorem Rt.ins (h : Rt m A H a p q) : isIns A.c_Rate H (.ref a) := by
  obtain ⟨dx, e⟩ := h.at_
  exact isIns_of e
theorem Rt.bu (h : Rt m A H a p q) : Bn m (ru p q) := bn_ru h.bp
theorem Rt.bl (h : Rt m A H a p q) : Bn m (rl p q) := bn_rl h.bq
def TyN (K : PySem.W.Frag) (A : Ad) (H : Hp) (y : V) : Prop := ∃ t, tyF H y = some t ∧ tyOk K t ∧ PySem.W.notFirst K A.c_Rate t = true
theorem Rt.ty (h : Rt m A H a p q) (F : KF K A) : TyN K A H (.ref a) := by
  obtain ⟨dx, e⟩ := h.at_
  exact ⟨.ref A.c_Rate, by simp only [tyF, e], F.it, F.nr⟩
theorem TyN.int {i : Int} (F : KF K A) : TyN K A H (.int i) := ⟨.type "int", rfl, trivial, F.nx _ (by decide)⟩
theorem Nm.ty (h : Nm A H y p q) (F : KF K A) : TyN K A H y := by
  rcases h with ⟨b, rfl, h⟩ | ⟨rfl, rfl, _⟩
  · exact h.ty F
  · exact .int F
theorem cmp_own (h : Rt m A H a p q) (t : TyN K A H y) (k : sp [.ref a, y] H Q E0) : onIns (rCmp K A.c_Rate sp) o (.ref a) y H Q := by
  have i := h.ins
  obtain ⟨dx, e⟩ := h.at_
  rw [onIns_yes e]
  exact ⟨i, t, k⟩
theorem bin_own (h : Rt m A H a p q) (t : Nm A H y r s) (k : sp [.ref a, y] H Q E0) : onIns (rBinL A.c_Rate sp) o (.ref a) y H Q := by
  have i := h.ins
  obtain ⟨dx, e⟩ := h.at_
  rw [onIns_yes e]
  refine ⟨i, ?_, k⟩
  rcases t with ⟨b, rfl, h⟩ | ⟨rfl, rfl, _⟩
  · exact .inl h.ins
  · exact .inr ⟨_, rfl⟩
theorem binR_own {i : Int} (h : Rt m A H a p q) (k : sp [.ref a, .int i] H Q E0) : onIns r1 (onInsR (rBinR A.c_Rate sp) o) (.int i) (.ref a) H Q := by
  have z := h.ins
  obtain ⟨dx, e⟩ := h.at_
  rw [onIns_int, onInsR_yes e]
  exact ⟨⟨i, rfl⟩, z, k⟩
theorem neg_own (h : Rt m A H a p q) (k : sp [.ref a] H Q E0) : uNegO A.c_Rate sp (.ref a) H Q := ⟨h.ins, k⟩
theorem inp_own {n : Nat} (h : Rt m A H a p q) (t : Rt n A H b r s) (k : sp [.ref a, .ref b] H Q E0) : rInp A.c_Rate sp (.ref a) (.ref b) H Q := ⟨h.ins, t.ins, k⟩
theorem ne_own {n : Nat} (h : Rt m A H a p q) (t : Rt n A H b r s) (k : sp [.ref a, .ref b] H (fun v H' => match v with | .bl b => Q (.bl (!b)) H' | _ => False) E0) : onIns (rNeO A.c_Rate sp) o (.ref a) (.ref b) H Q := by
  have i := h.ins
  obtain ⟨dx, e⟩ := h.at_
  rw [onIns_yes e]
  exact ⟨i, t.ins, k⟩
end
/-! ### comparisons -/
def spCmp (A : Ad) (c : Int → Int → Bool) : Sp := fun vs H Q _ => match vs with
  | [.ref a, y] => ∃ p q r s, Rt 300 A H a p q ∧ Nm A H y r s ∧ ∀ H', Grow H H' → Q (.bl (c (p * s) (r * q))) H'
  | _ => False
def sp_Rate_lt (K : PySem.W.Frag) (A : Ad) : Sp := spCmp A fun x y => decide (x < y)
def sp_Rate_le (K : PySem.W.Frag) (A : Ad) : Sp := spCmp A fun x y => decide (x ≤ y)
def sp_Rate_gt (K : PySem.W.Frag) (A : Ad) : Sp := spCmp A fun x y => decide (y < x)
def sp_Rate_ge (K : PySem.W.Frag) (A : Ad) : Sp := spCmp A fun x y => decide (y ≤ x)
def t_Rate_lt_1 (K : PySem.W.Frag) (A : Ad) : TS := (tRet (tOp oLt (tOp oMul (tFld K (tVar 0) "upper") (tFld K (tVar 2) "lower")) (tOp oMul (tFld K (tVar 2) "upper") (tFld K (tVar 0) "lower"))))
def t_Rate_lt_0 (K : PySem.W.Frag) (A : Ad) : TS := (tSeq (tAsg (tCall (sp_as_rate K A) [] E0 (tCons (tVar 1) tNil)) (gName 2)) (t_Rate_lt_1 K A))

def t_Rate_le_1 (K : PySem.W.Frag) (A : Ad) : TS := (tRet (tOp oLe (tOp oMul (tFld K (tVar 0) "upper") (tFld K (tVar 2) "lower")) (tOp oMul (tFld K (tVar 2) "upper") (tFld K (tVar 0) "lower"))))
def t_Rate_le_0 (K : PySem.W.Frag) (A : Ad) : TS := (tSeq (tAsg (tCall (sp_as_rate K A) [] E0 (tCons (tVar 1) tNil)) (gName 2)) (t_Rate_le_1 K A))

def t_Rate_gt_0 (K : PySem.W.Frag) (A : Ad) : TS := (tRet (tOp (onIns (rCmp K A.c_Rate (sp_Rate_lt K A)) oLt) (tCall (sp_as_rate K A) [] E0 (tCons (tVar 1) tNil)) (tVar 0)))

def t_Rate_ge_0 (K : PySem.W.Frag) (A : Ad) : TS := (tRet (tOp (onIns (rCmp K A.c_Rate (sp_Rate_le K A)) oLe) (tCall (sp_as_rate K A) [] E0 (tCons (tVar 1) tNil)) (tVar 0)))

theorem pure_Rate_lt {K : PySem.W.Frag} {A : Ad} {vs : List V} {H : Hp} {Q : VK} {E : XK} (F : KF K A) (h : sp_Rate_lt K A vs H Q E) : (t_Rate_lt_0 K A) { nx := fun _ H' => Q .non H', rt := Q } (start ["self", "other", "right"] vs) H := by
  unfold sp_Rate_lt spCmp at h
  split at h
  · rename_i a y
    obtain ⟨p, q, r, s, ha, hy, k⟩ := h
    show (t_Rate_lt_0 K A) _ [some (.ref a), some (y), none] H
    refine st_seq (st_asg ?_)
    (refine evE ?P48 (fun Q h => ?h48) ?_; (case h48 => (simp only [tTest, tOp, tUn, tVar, tC, tCB, tCons, tNil, tAnd, tOr, tNot, tB, tTup, tLst, tIf, tAndV, tOrV, tNotV, tSl, tPart, tNoPart, tCall, iIx_ref, oGt_int, oMod_int, oFdiv_int, oAdd_int, oAdd_str, oSub_int, oMul_int, oLt_int, oGe_int, oLe_int, oPow_int, uNeg_int, oEq_int, oEq_str, oEq_bl, oNe_int, oNe_str, oNe_bl, cInt_int, cInt_bl, cAbs_int, cLen_ref, cList_ref, stL_ref, gName, gSub, gTup, gCons, gNil, rdSeq, List.getElem?_cons_zero, List.getElem?_cons_succ, List.set_cons_zero, List.set_cons_succ, List.cons_append, List.nil_append, Option.some.injEq, exists_eq_left', V.bl.injEq, V.int.injEq, V.ref.injEq, atI_0, atI_1, atI_2, setI_1, setI_2, Bool.not_true, Bool.not_false, Bool.false_eq_true, if_false, if_true]; exact h)); (try dsimp only [gName, tNext, List.set_cons_zero, List.set_cons_succ]))
    refine ⟨r, s, hy, fun b H' g hb => ?_⟩
    (try dsimp only [gName, tNext, List.set_cons_zero, List.set_cons_succ])
    refine st_ret ?_
    (refine evE ?P49 (fun Q h => ?h49) ?_; (case h49 => (simp only [tTest, tOp, tUn, tVar, tC, tCB, tCons, tNil, tAnd, tOr, tNot, tB, tTup, tLst, tIf, tAndV, tOrV, tNotV, tSl, tPart, tNoPart, tCall, iIx_ref, oGt_int, oMod_int, oFdiv_int, oAdd_int, oAdd_str, oSub_int, oMul_int, oLt_int, oGe_int, oLe_int, oPow_int, uNeg_int, oEq_int, oEq_str, oEq_bl, oNe_int, oNe_str, oNe_bl, cInt_int, cInt_bl, cAbs_int, cLen_ref, cList_ref, stL_ref, gName, gSub, gTup, gCons, gNil, rdSeq, List.getElem?_cons_zero, List.getElem?_cons_succ, List.set_cons_zero, List.set_cons_succ, List.cons_append, List.nil_append, Option.some.injEq, exists_eq_left', V.bl.injEq, V.int.injEq, V.ref.injEq, atI_0, atI_1, atI_2, setI_1, setI_2, Bool.not_true, Bool.not_false, Bool.false_eq_true, if_false, if_true, tFld_eq, (ha.grow g).fu F, (ha.grow g).fl F, hb.fu F, hb.fl F]; exact h)); (try dsimp only [gName, tNext, List.set_cons_zero, List.set_cons_succ]))
    refine ⟨ha.bu.mulok hb.bl, hb.bu.mulok ha.bl, ?_⟩
    have z : Q (.bl (decide (p * s < r * q))) H' := k H' g
    rw [← decide_eq_decide.mpr (r_lt ha.pos hb.pos)] at z
    exact z
  · exact h.elim
theorem pure_Rate_le {K : PySem.W.Frag} {A : Ad} {vs : List V} {H : Hp} {Q : VK} {E : XK} (F : KF K A) (h : sp_Rate_le K A vs H Q E) : (t_Rate_le_0 K A) { nx := fun _ H' => Q .non H', rt := Q } (start ["self", "other", "right"] vs) H := by
  unfold sp_Rate_le spCmp at h
  split at h
  · rename_i a y
    obtain ⟨p, q, r, s, ha, hy, k⟩ := h
    show (t_Rate_le_0 K A) _ [some (.ref a), some (y), none] H
    refine st_seq (st_asg ?_)
    (refine evE ?P50 (fun Q h => ?h50) ?_; (case h50 => (simp only [tTest, tOp, tUn, tVar, tC, tCB, tCons, tNil, tAnd, tOr, tNot, tB, tTup, tLst, tIf, tAndV, tOrV, tNotV, tSl, tPart, tNoPart, tCall, iIx_ref, oGt_int, oMod_int, oFdiv_int, oAdd_int, oAdd_str, oSub_int, oMul_int, oLt_int, oGe_int, oLe_int, oPow_int, uNeg_int, oEq_int, oEq_str, oEq_bl, oNe_int, oNe_str, oNe_bl, cInt_int, cInt_bl, cAbs_int, cLen_ref, cList_ref, stL_ref, gName, gSub, gTup, gCons, gNil, rdSeq, List.getElem?_cons_zero, List.getElem?_cons_succ, List.set_cons_zero, List.set_cons_succ, List.cons_append, List.nil_append, Option.some.injEq, exists_eq_left', V.bl.injEq, V.int.injEq, V.ref.injEq, atI_0, atI_1, atI_2, setI_1, setI_2, Bool.not_true, Bool.not_false, Bool.false_eq_true, if_false, if_true]; exact h)); (try dsimp only [gName, tNext, List.set_cons_zero, List.set_cons_succ]))
    refine ⟨r, s, hy, fun b H' g hb => ?_⟩
    (try dsimp only [gName, tNext, List.set_cons_zero, List.set_cons_succ])
    refine st_ret ?_
    (refine evE ?P51 (fun Q h => ?h51) ?_; (case h51 => (simp only [tTest, tOp, tUn, tVar, tC, tCB, tCons, tNil, tAnd, tOr, tNot, tB, tTup, tLst, tIf, tAndV, tOrV, tNotV, tSl, tPart, tNoPart, tCall, iIx_ref, oGt_int, oMod_int, oFdiv_int, oAdd_int, oAdd_str, oSub_int, oMul_int, oLt_int, oGe_int, oLe_int, oPow_int, uNeg_int, oEq_int, oEq_str, oEq_bl, oNe_int, oNe_str, oNe_bl, cInt_int, cInt_bl, cAbs_int, cLen_ref, cList_ref, stL_ref, gName, gSub, gTup, gCons, gNil, rdSeq, List.getElem?_cons_zero, List.getElem?_cons_succ, List.set_cons_zero, List.set_cons_succ, List.cons_append, List.nil_append, Option.some.injEq, exists_eq_left', V.bl.injEq, V.int.injEq, V.ref.injEq, atI_0, atI_1, atI_2, setI_1, setI_2, Bool.not_true, Bool.not_false, Bool.false_eq_true, if_false, if_true, tFld_eq, (ha.grow g).fu F, (ha.grow g).fl F, hb.fu F, hb.fl F]; exact h)); (try dsimp only [gName, tNext, List.set_cons_zero, List.set_cons_succ]))
    refine ⟨ha.bu.mulok hb.bl, hb.bu.mulok ha.bl, ?_⟩
    have z : Q (.bl (decide (p * s ≤ r * q))) H' := k H' g
    rw [← decide_eq_decide.mpr (r_le ha.pos hb.pos)] at z
    exact z
  · exact h.elim
theorem pure_Rate_gt {K : PySem.W.Frag} {A : Ad} {vs : List V} {H : Hp} {Q : VK} {E : XK} (F : KF K A) (h : sp_Rate_gt K A vs H Q E) : (t_Rate_gt_0 K A) { nx := fun _ H' => Q .non H', rt := Q } (start ["self", "other"] vs) H := by
  unfold sp_Rate_gt spCmp at h
  split at h
  · rename_i a y
    obtain ⟨p, q, r, s, ha, hy, k⟩ := h
    show (t_Rate_gt_0 K A) _ [some (.ref a), some (y)] H
    refine st_ret ?_
    (refine evE ?P52 (fun Q h => ?h52) ?_; (case h52 => (simp only [tTest, tOp, tUn, tVar, tC, tCB, tCons, tNil, tAnd, tOr, tNot, tB, tTup, tLst, tIf, tAndV, tOrV, tNotV, tSl, tPart, tNoPart, tCall, iIx_ref, oGt_int, oMod_int, oFdiv_int, oAdd_int, oAdd_str, oSub_int, oMul_int, oLt_int, oGe_int, oLe_int, oPow_int, uNeg_int, oEq_int, oEq_str, oEq_bl, oNe_int, oNe_str, oNe_bl, cInt_int, cInt_bl, cAbs_int, cLen_ref, cList_ref, stL_ref, gName, gSub, gTup, gCons, gNil, rdSeq, List.getElem?_cons_zero, List.getElem?_cons_succ, List.set_cons_zero, List.set_cons_succ, List.cons_append, List.nil_append, Option.some.injEq, exists_eq_left', V.bl.injEq, V.int.injEq, V.ref.injEq, atI_0, atI_1, atI_2, setI_1, setI_2, Bool.not_true, Bool.not_false, Bool.false_eq_true, if_false, if_true]; exact h)); (try dsimp only [gName, tNext, List.set_cons_zero, List.set_cons_succ]))
    refine ⟨r, s, hy, fun b H' g hb => ?_⟩
    (try dsimp only [gName, tNext, List.set_cons_zero, List.set_cons_succ])
    exact cmp_own hb ((ha.grow g).ty F) ⟨r, s, p, q, hb, .rt (ha.grow g), fun H2 g2 => k H2 (g.trans g2)⟩
  · exact h.elim
theorem pure_Rate_ge {K : PySem.W.Frag} {A : Ad} {vs : List V} {H : Hp} {Q : VK} {E : XK} (F : KF K A) (h : sp_Rate_ge K A vs H Q E) : (t_Rate_ge_0 K A) { nx := fun _ H' => Q .non H', rt := Q } (start ["self", "other"] vs) H := by
  unfold sp_Rate_ge spCmp at h
  split at h
  · rename_i a y
    obtain ⟨p, q, r, s, ha, hy, k⟩ := h
    show (t_Rate_ge_0 K A) _ [some (.ref a), some (y)] H
    refine st_ret ?_
    (refine evE ?P53 (fun Q h => ?h53) ?_; (case h53 => (simp only [tTest, tOp, tUn, tVar, tC, tCB, tCons, tNil, tAnd, tOr, tNot, tB, tTup, tLst, tIf, tAndV, tOrV, tNotV, tSl, tPart, tNoPart, tCall, iIx_ref, oGt_int, oMod_int, oFdiv_int, oAdd_int, oAdd_str, oSub_int, oMul_int, oLt_int, oGe_int, oLe_int, oPow_int, uNeg_int, oEq_int, oEq_str, oEq_bl, oNe_int, oNe_str, oNe_bl, cInt_int, cInt_bl, cAbs_int, cLen_ref, cList_ref, stL_ref, gName, gSub, gTup, gCons, gNil, rdSeq, List.getElem?_cons_zero, List.getElem?_cons_succ, List.set_cons_zero, List.set_cons_succ, List.cons_append, List.nil_append, Option.some.injEq, exists_eq_left', V.bl.injEq, V.int.injEq, V.ref.injEq, atI_0, atI_1, atI_2, setI_1, setI_2, Bool.not_true, Bool.not_false, Bool.false_eq_true, if_false, if_true]; exact h)); (try dsimp only [gName, tNext, List.set_cons_zero, List.set_cons_succ]))
    refine ⟨r, s, hy, fun b H' g hb => ?_⟩
    (try dsimp only [gName, tNext, List.set_cons_zero, List.set_cons_succ])
    exact cmp_own hb ((ha.grow g).ty F) ⟨r, s, p, q, hb, .rt (ha.grow g), fun H2 g2 => k H2 (g.trans g2)⟩
  · exact h.elim
/-! ### == -/
def oddV (H : Hp) : V → Prop
  | .non => True
  | .bl _ => True
  | .str _ => True
  | .ref a => match H a with
    | some (.lst _) => True
    | some (.tup _) => True
    | some (.dK _) => True
    | _ => False
  | _ => False
def sp_Rate_eq (K : PySem.W.Frag) (A : Ad) : Sp := fun vs H Q _ => match vs with
  | [.ref a, .ref b] => ∃ p q, Rt 700 A H a p q ∧ ((∃ r s, Rt 700 A H b r s ∧ Q (.bl (decide (p * s = r * q))) H) ∨ (oddV H (.ref b) ∧ Q (.bl false) H))
  | [.ref a, .int i] => ∃ p q, Rt 700 A H a p q ∧ Q (.bl (decide (p * 1 = i * q))) H
  | [.ref a, y] => ∃ p q, Rt 700 A H a p q ∧ oddV H y ∧ Q (.bl false) H
  | _ => False
def t_Rate_eq_1 (K : PySem.W.Frag) (A : Ad) : TS := (tRet (tAndV (tOp (oEq K) (tFld K (tVar 0) "upper") (tVar 1)) (tOp (oEq K) (tFld K (tVar 0) "lower") (tC (.int 1)))))
def t_Rate_eq_2 (K : PySem.W.Frag) (A : Ad) : TS := (tRet (tAndV (tCB (cIsi K) (tCons (tVar 1) (tCons (tC (.ref A.c_Rate)) tNil))) (tAndV (tOp (oEq K) (tFld K (tVar 0) "upper") (tFld K (tVar 1) "upper")) (tOp (oEq K) (tFld K (tVar 0) "lower") (tFld K (tVar 1) "lower")))))
def t_Rate_eq_0 (K : PySem.W.Frag) (A : Ad) : TS := (tSeq (tIfS (tB (tCall (sp_is_integer K A) [] E0 (tCons (tVar 1) tNil))) (t_Rate_eq_1 K A) tNext) (t_Rate_eq_2 K A))

theorem eq_ty {K : PySem.W.Frag} {A : Ad} {H : Hp} {y : V} (F : KF K A) (h : oddV H y) : ∃ t, tyF H y = some t ∧ tyOk K t ∧ PySem.W.notFirst K A.c_Rate t = true ∧ PySem.W.kitOne K t (.ref A.c_Rate) = some false := by
  cases y with
  | non => exact ⟨_, rfl, trivial, F.nx _ (by decide), F.xr _ (by decide)⟩
  | bl b => exact ⟨_, rfl, trivial, F.nx _ (by decide), F.xr _ (by decide)⟩
  | str b => exact ⟨_, rfl, trivial, F.nx _ (by decide), F.xr _ (by decide)⟩
  | ref a =>
    unfold oddV at h
    simp only at h
    split at h
    · rename_i e; exact ⟨.type "list", by simp only [tyF, e], trivial, F.nx _ (by decide), F.xr _ (by decide)⟩
    · rename_i e; exact ⟨.type "tuple", by simp only [tyF, e], trivial, F.nx _ (by decide), F.xr _ (by decide)⟩
    · rename_i e; exact ⟨.type "dict", by simp only [tyF, e], trivial, F.nx _ (by decide), F.xr _ (by decide)⟩
    · exact h.elim
  | _ => exact h.elim
theorem is_odd {K : PySem.W.Frag} {A : Ad} {y : V} {H : Hp} {Q : VK} {E : XK} (h : oddV H y) : sp_is_integer K A [y] H Q E = Q (.bl false) H := by
  cases y with
  | non => rfl
  | bl b => rfl
  | str b => rfl
  | ref a =>
    unfold oddV at h
    simp only at h
    simp only [sp_is_integer]
    split at h
    · rename_i e; rw [e]
    · rename_i e; rw [e]
    · rename_i e; rw [e]
    · exact h.elim
  | _ => exact h.elim
theorem is_rt {K : PySem.W.Frag} {A : Ad} {m : Nat} {a : Addr} {p q : Int} {H : Hp} {Q : VK} {E : XK} (h : Rt m A H a p q) : sp_is_integer K A [.ref a] H Q E = Q (.bl false) H := by
  obtain ⟨dx, e⟩ := h.at_
  simp only [sp_is_integer, e, true_and]
theorem isi_odd {K : PySem.W.Frag} {A : Ad} {H : Hp} {y : V} {Q : VK} (F : KF K A) (h : oddV H y) (k : Q (.bl false) H) : cIsi K [y, .ref A.c_Rate] H Q := by
  obtain ⟨t, e1, e2, e3, e4⟩ := eq_ty F h
  simp only [cIsi, e1, e4]
  exact ⟨e2, k⟩
theorem isi_rt {K : PySem.W.Frag} {A : Ad} {m : Nat} {a : Addr} {p q : Int} {H : Hp} {Q : VK} (F : KF K A) (h : Rt m A H a p q) (k : Q (.bl true) H) : cIsi K [.ref a, .ref A.c_Rate] H Q := by
  obtain ⟨dx, e⟩ := h.at_
  simp only [cIsi, tyF, e, F.rr]
  exact ⟨F.it, k⟩
theorem eq_odd {K : PySem.W.Frag} {A : Ad} {a : Addr} {p q : Int} {y : V} {H : Hp} {Q : VK} (F : KF K A) (ha : Rt 700 A H a p q) (ho : oddV H y) (k : Q (.bl false) H) : (t_Rate_eq_0 K A) { nx := fun _ H' => Q .non H', rt := Q } [some (.ref a), some y] H := by
  refine st_seq (st_if ?_)
  (refine evT ?P54 (fun Q h => ?h54) ?_; (case h54 => (simp only [tTest, tOp, tUn, tVar, tC, tCB, tCons, tNil, tAnd, tOr, tNot, tB, tTup, tLst, tIf, tAndV, tOrV, tNotV, tSl, tPart, tNoPart, tCall, iIx_ref, oGt_int, oMod_int, oFdiv_int, oAdd_int, oAdd_str, oSub_int, oMul_int, oLt_int, oGe_int, oLe_int, oPow_int, uNeg_int, oEq_int, oEq_str, oEq_bl, oNe_int, oNe_str, oNe_bl, cInt_int, cInt_bl, cAbs_int, cLen_ref, cList_ref, stL_ref, gName, gSub, gTup, gCons, gNil, rdSeq, List.getElem?_cons_zero, List.getElem?_cons_succ, List.set_cons_zero, List.set_cons_succ, List.cons_append, List.nil_append, Option.some.injEq, exists_eq_left', V.bl.injEq, V.int.injEq, V.ref.injEq, atI_0, atI_1, atI_2, setI_1, setI_2, Bool.not_true, Bool.not_false, Bool.false_eq_true, if_false, if_true, is_odd ho]; exact h)); (try dsimp only [gName, tNext, List.set_cons_zero, List.set_cons_succ]))
  (refine if_no ?_; (try dsimp only [gName, tNext, List.set_cons_zero, List.set_cons_succ]))
  refine st_ret ?_
  unfold tAndV
  (refine evE ?P55 (fun Q h => ?h55) ?_; (case h55 => (simp only [tTest, tOp, tUn, tVar, tC, tCB, tCons, tNil, tAnd, tOr, tNot, tB, tTup, tLst, tIf, tAndV, tOrV, tNotV, tSl, tPart, tNoPart, tCall, iIx_ref, oGt_int, oMod_int, oFdiv_int, oAdd_int, oAdd_str, oSub_int, oMul_int, oLt_int, oGe_int, oLe_int, oPow_int, uNeg_int, oEq_int, oEq_str, oEq_bl, oNe_int, oNe_str, oNe_bl, cInt_int, cInt_bl, cAbs_int, cLen_ref, cList_ref, stL_ref, gName, gSub, gTup, gCons, gNil, rdSeq, List.getElem?_cons_zero, List.getElem?_cons_succ, List.set_cons_zero, List.set_cons_succ, List.cons_append, List.nil_append, Option.some.injEq, exists_eq_left', V.bl.injEq, V.int.injEq, V.ref.injEq, atI_0, atI_1, atI_2, setI_1, setI_2, Bool.not_true, Bool.not_false, Bool.false_eq_true, if_false, if_true]; exact h)); (try dsimp only [gName, tNext, List.set_cons_zero, List.set_cons_succ]))
  refine isi_odd F ho ⟨_, rfl, ?_⟩
  (refine if_no ?_; (try dsimp only [gName, tNext, List.set_cons_zero, List.set_cons_succ]))
  exact k
theorem pure_Rate_eq {K : PySem.W.Frag} {A : Ad} {vs : List V} {H : Hp} {Q : VK} {E : XK} (F : KF K A) (h : sp_Rate_eq K A vs H Q E) : (t_Rate_eq_0 K A) { nx := fun _ H' => Q .non H', rt := Q } (start ["self", "other"] vs) H := by
  unfold sp_Rate_eq at h
  split at h
  · rename_i a b
    obtain ⟨p, q, ha, ⟨r, s, hb, k⟩ | ⟨ho, k⟩⟩ := h
    · show (t_Rate_eq_0 K A) _ [some (.ref a), some (.ref b)] H
      refine st_seq (st_if ?_)
      (refine evT ?P56 (fun Q h => ?h56) ?_; (case h56 => (simp only [tTest, tOp, tUn, tVar, tC, tCB, tCons, tNil, tAnd, tOr, tNot, tB, tTup, tLst, tIf, tAndV, tOrV, tNotV, tSl, tPart, tNoPart, tCall, iIx_ref, oGt_int, oMod_int, oFdiv_int, oAdd_int, oAdd_str, oSub_int, oMul_int, oLt_int, oGe_int, oLe_int, oPow_int, uNeg_int, oEq_int, oEq_str, oEq_bl, oNe_int, oNe_str, oNe_bl, cInt_int, cInt_bl, cAbs_int, cLen_ref, cList_ref, stL_ref, gName, gSub, gTup, gCons, gNil, rdSeq, List.getElem?_cons_zero, List.getElem?_cons_succ, List.set_cons_zero, List.set_cons_succ, List.cons_append, List.nil_append, Option.some.injEq, exists_eq_left', V.bl.injEq, V.int.injEq, V.ref.injEq, atI_0, atI_1, atI_2, setI_1, setI_2, Bool.not_true, Bool.not_false, Bool.false_eq_true, if_false, if_true, is_rt hb]; exact h)); (try dsimp only [gName, tNext, List.set_cons_zero, List.set_cons_succ]))
      (refine if_no ?_; (try dsimp only [gName, tNext, List.set_cons_zero, List.set_cons_succ]))
      refine st_ret ?_
      unfold tAndV
      (refine evE ?P57 (fun Q h => ?h57) ?_; (case h57 => (simp only [tTest, tOp, tUn, tVar, tC, tCB, tCons, tNil, tAnd, tOr, tNot, tB, tTup, tLst, tIf, tAndV, tOrV, tNotV, tSl, tPart, tNoPart, tCall, iIx_ref, oGt_int, oMod_int, oFdiv_int, oAdd_int, oAdd_str, oSub_int, oMul_int, oLt_int, oGe_int, oLe_int, oPow_int, uNeg_int, oEq_int, oEq_str, oEq_bl, oNe_int, oNe_str, oNe_bl, cInt_int, cInt_bl, cAbs_int, cLen_ref, cList_ref, stL_ref, gName, gSub, gTup, gCons, gNil, rdSeq, List.getElem?_cons_zero, List.getElem?_cons_succ, List.set_cons_zero, List.set_cons_succ, List.cons_append, List.nil_append, Option.some.injEq, exists_eq_left', V.bl.injEq, V.int.injEq, V.ref.injEq, atI_0, atI_1, atI_2, setI_1, setI_2, Bool.not_true, Bool.not_false, Bool.false_eq_true, if_false, if_true]; exact h)); (try dsimp only [gName, tNext, List.set_cons_zero, List.set_cons_succ]))
      refine isi_rt F hb ⟨_, rfl, ?_⟩
      (refine if_yes ?_; (try dsimp only [gName, tNext, List.set_cons_zero, List.set_cons_succ]))
      (refine evE ?P58 (fun Q h => ?h58) ?_; (case h58 => (simp only [tTest, tOp, tUn, tVar, tC, tCB, tCons, tNil, tAnd, tOr, tNot, tB, tTup, tLst, tIf, tAndV, tOrV, tNotV, tSl, tPart, tNoPart, tCall, iIx_ref, oGt_int, oMod_int, oFdiv_int, oAdd_int, oAdd_str, oSub_int, oMul_int, oLt_int, oGe_int, oLe_int, oPow_int, uNeg_int, oEq_int, oEq_str, oEq_bl, oNe_int, oNe_str, oNe_bl, cInt_int, cInt_bl, cAbs_int, cLen_ref, cList_ref, stL_ref, gName, gSub, gTup, gCons, gNil, rdSeq, List.getElem?_cons_zero, List.getElem?_cons_succ, List.set_cons_zero, List.set_cons_succ, List.cons_append, List.nil_append, Option.some.injEq, exists_eq_left', V.bl.injEq, V.int.injEq, V.ref.injEq, atI_0, atI_1, atI_2, setI_1, setI_2, Bool.not_true, Bool.not_false, Bool.false_eq_true, if_false, if_true, tFld_eq, ha.fu F, ha.fl F, hb.fu F, hb.fl F]; exact h)); (try dsimp only [gName, tNext, List.set_cons_zero, List.set_cons_succ]))
      have z : decide (p * s = r * q) = decide (ru p q = ru r s ∧ rl p q = rl r s) := decide_eq_decide.mpr (r_eq ha.pos hb.pos).symm
      rw [z] at k
      refine ⟨_, rfl, ite_dec (c := ru p q = ru r s) (fun h1 => ?_) (fun h1 => ?_)⟩
      · (refine evE ?P59 (fun Q h => ?h59) ?_; (case h59 => (simp only [tTest, tOp, tUn, tVar, tC, tCB, tCons, tNil, tAnd, tOr, tNot, tB, tTup, tLst, tIf, tAndV, tOrV, tNotV, tSl, tPart, tNoPart, tCall, iIx_ref, oGt_int, oMod_int, oFdiv_int, oAdd_int, oAdd_str, oSub_int, oMul_int, oLt_int, oGe_int, oLe_int, oPow_int, uNeg_int, oEq_int, oEq_str, oEq_bl, oNe_int, oNe_str, oNe_bl, cInt_int, cInt_bl, cAbs_int, cLen_ref, cList_ref, stL_ref, gName, gSub, gTup, gCons, gNil, rdSeq, List.getElem?_cons_zero, List.getElem?_cons_succ, List.set_cons_zero, List.set_cons_succ, List.cons_append, List.nil_append, Option.some.injEq, exists_eq_left', V.bl.injEq, V.int.injEq, V.ref.injEq, atI_0, atI_1, atI_2, setI_1, setI_2, Bool.not_true, Bool.not_false, Bool.false_eq_true, if_false, if_true, tFld_eq, ha.fu F, ha.fl F, hb.fu F, hb.fl F]; exact h)); (try dsimp only [gName, tNext, List.set_cons_zero, List.set_cons_succ]))
        simpa [h1] using k
      · simpa [h1] using k
    · show (t_Rate_eq_0 K A) _ [some (.ref a), some (.ref b)] H
      exact eq_odd F ha ho k
  · rename_i a i
    obtain ⟨p, q, ha, k⟩ := h
    show (t_Rate_eq_0 K A) _ [some (.ref a), some (.int i)] H
    refine st_seq (st_if ?_)
    (refine evT ?P60 (fun Q h => ?h60) ?_; (case h60 => (simp only [tTest, tOp, tUn, tVar, tC, tCB, tCons, tNil, tAnd, tOr, tNot, tB, tTup, tLst, tIf, tAndV, tOrV, tNotV, tSl, tPart, tNoPart, tCall, iIx_ref, oGt_int, oMod_int, oFdiv_int, oAdd_int, oAdd_str, oSub_int, oMul_int, oLt_int, oGe_int, oLe_int, oPow_int, uNeg_int, oEq_int, oEq_str, oEq_bl, oNe_int, oNe_str, oNe_bl, cInt_int, cInt_bl, cAbs_int, cLen_ref, cList_ref, stL_ref, gName, gSub, gTup, gCons, gNil, rdSeq, List.getElem?_cons_zero, List.getElem?_cons_succ, List.set_cons_zero, List.set_cons_succ, List.cons_append, List.nil_append, Option.some.injEq, exists_eq_left', V.bl.injEq, V.int.injEq, V.ref.injEq, atI_0, atI_1, atI_2, setI_1, setI_2, Bool.not_true, Bool.not_false, Bool.false_eq_true, if_false, if_true, is_int]; exact h)); (try dsimp only [gName, tNext, List.set_cons_zero, List.set_cons_succ]))
    (refine if_yes ?_; (try dsimp only [gName, tNext, List.set_cons_zero, List.set_cons_succ]))
    refine st_ret ?_
    (refine evE ?P61 (fun Q h => ?h61) ?_; (case h61 => (simp only [tTest, tOp, tUn, tVar, tC, tCB, tCons, tNil, tAnd, tOr, tNot, tB, tTup, tLst, tIf, tAndV, tOrV, tNotV, tSl, tPart, tNoPart, tCall, iIx_ref, oGt_int, oMod_int, oFdiv_int, oAdd_int, oAdd_str, oSub_int, oMul_int, oLt_int, oGe_int, oLe_int, oPow_int, uNeg_int, oEq_int, oEq_str, oEq_bl, oNe_int, oNe_str, oNe_bl, cInt_int, cInt_bl, cAbs_int, cLen_ref, cList_ref, stL_ref, gName, gSub, gTup, gCons, gNil, rdSeq, List.getElem?_cons_zero, List.getElem?_cons_succ, List.set_cons_zero, List.set_cons_succ, List.cons_append, List.nil_append, Option.some.injEq, exists_eq_left', V.bl.injEq, V.int.injEq, V.ref.injEq, atI_0, atI_1, atI_2, setI_1, setI_2, Bool.not_true, Bool.not_false, Bool.false_eq_true, if_false, if_true, tFld_eq, ha.fu F, ha.fl F]; exact h)); (try dsimp only [gName, tNext, List.set_cons_zero, List.set_cons_succ]))
    have z := r_eq (p := p) (q := q) (r := i) (s := 1) ha.pos (by decide)
    rw [r_one.1, r_one.2] at z
    have z2 : decide (p * 1 = i * q) = decide (ru p q = i ∧ rl p q = 1) := decide_eq_decide.mpr z.symm
    rw [z2] at k
    by_cases h1 : ru p q = i
    · simpa [h1] using k
    · simpa [h1] using k
  · rename_i a y _ _
    obtain ⟨p, q, ha, ho, k⟩ := h
    show (t_Rate_eq_0 K A) _ [some (.ref a), some (y)] H
    exact eq_odd F ha ho k
  · exact h.elim

/-! ### sums -/
def sp_Rate_floor (K : PySem.W.Frag) (A : Ad) : Sp := fun vs H Q _ => match vs with
  | [.ref a] => ∃ p q, Rt 700 A H a p q ∧ Q (.int (p / q)) H
  | _ => False
def sp_Rate_neg (K : PySem.W.Frag) (A : Ad) : Sp := fun vs H Q _ => match vs with
  | [.ref a] => ∃ p q, Rt 300 A H a p q ∧ ∀ c H', Grow H H' → Rt 300 A H' c (0 - p) q → Q (.ref c) H'
  | _ => False
def spSum (A : Ad) (f : Int → Int → Int → Int → Int) (g : Int → Int → Int) : Sp := fun vs H Q _ => match vs with
  | [.ref a, y] => ∃ p q r s, Rt 300 A H a p q ∧ Nm A H y r s ∧ ∀ c H', Grow H H' → Rt 700 A H' c (f p q r s) (g q s) → Q (.ref c) H'
  | _ => False
def sp_Rate_add (K : PySem.W.Frag) (A : Ad) : Sp := spSum A (fun p q r s => p * s + r * q) (fun q s => q * s)
def sp_Rate_radd (K : PySem.W.Frag) (A : Ad) : Sp := spSum A (fun p q r s => r * q + p * s) (fun q s => s * q)
def sp_Rate_sub (K : PySem.W.Frag) (A : Ad) : Sp := spSum A (fun p q r s => p * s + (0 - r) * q) (fun q s => q * s)
def sp_Rate_rsub (K : PySem.W.Frag) (A : Ad) : Sp := spSum A (fun p q r s => r * q + (0 - p) * s) (fun q s => s * q)
def sp_Rate_mul (K : PySem.W.Frag) (A : Ad) : Sp := fun vs H Q _ => match vs with
  | [.ref a, .int k] => ∃ p q, Rt 300 A H a p q ∧ Bn 300 k ∧ ∀ c H', Grow H H' → Rt 700 A H' c (p * k) q → Q (.ref c) H'
  | _ => False
def t_Rate_floor_0 (K : PySem.W.Frag) (A : Ad) : TS := (tRet (tOp oFdiv (tFld K (tVar 0) "upper") (tFld K (tVar 0) "lower")))

def t_Rate_neg_0 (K : PySem.W.Frag) (A : Ad) : TS := (tRet (tMake A.c_Rate (sp_Rate_init K A) [] E0 (tCons (tOp oSub (tC (.int 0)) (tFld K (tVar 0) "upper")) (tCons (tFld K (tVar 0) "lower") tNil))))

def t_Rate_add_1 (K : PySem.W.Frag) (A : Ad) : TS := (tRet (tMake A.c_Rate (sp_Rate_init K A) [] E0 (tCons (tOp oAdd (tOp oMul (tFld K (tVar 0) "upper") (tFld K (tVar 2) "lower")) (tOp oMul (tFld K (tVar 2) "upper") (tFld K (tVar 0) "lower"))) (tCons (tOp oMul (tFld K (tVar 0) "lower") (tFld K (tVar 2) "lower")) tNil))))
def t_Rate_add_0 (K : PySem.W.Frag) (A : Ad) : TS := (tSeq (tAsg (tCall (sp_as_rate K A) [] E0 (tCons (tVar 1) tNil)) (gName 2)) (t_Rate_add_1 K A))

def t_Rate_radd_0 (K : PySem.W.Frag) (A : Ad) : TS := (tRet (tOp (onIns (rBinL A.c_Rate (sp_Rate_add K A)) oAdd) (tCall (sp_as_rate K A) [] E0 (tCons (tVar 1) tNil)) (tVar 0)))

def t_Rate_sub_0 (K : PySem.W.Frag) (A : Ad) : TS := (tRet (tOp (onIns (rBinL A.c_Rate (sp_Rate_add K A)) oAdd) (tVar 0) (tUn (uNegO A.c_Rate (sp_Rate_neg K A)) (tCall (sp_as_rate K A) [] E0 (tCons (tVar 1) tNil)))))

def t_Rate_rsub_0 (K : PySem.W.Frag) (A : Ad) : TS := (tRet (tOp (onIns (rBinL A.c_Rate (sp_Rate_add K A)) oAdd) (tCall (sp_as_rate K A) [] E0 (tCons (tVar 1) tNil)) (tUn (uNegO A.c_Rate (sp_Rate_neg K A)) (tVar 0))))

def t_Rate_mul_1 (K : PySem.W.Frag) (A : Ad) : TS := tNever
def t_Rate_mul_2 (K : PySem.W.Frag) (A : Ad) : TS := (tRet (tMake A.c_Rate (sp_Rate_init K A) [] E0 (tCons (tOp oMul (tFld K (tVar 0) "upper") (tVar 1)) (tCons (tFld K (tVar 0) "lower") tNil))))
def t_Rate_mul_0 (K : PySem.W.Frag) (A : Ad) : TS := (tSeq (tIfS (tNot (tB (tCall (sp_is_integer K A) [] E0 (tCons (tVar 1) tNil)))) (t_Rate_mul_1 K A) tNext) (t_Rate_mul_2 K A))

theorem r_floor {p q : Int} (h : 0 < q) : ru p q / rl p q = p / q := by
  have g1 := gcd_pos (p := p) h
  have z := Int.mul_ediv_mul_of_pos (ru p q) (rl p q) g1
  rw [ru_mul, rl_mul] at z
  exact z.symm
theorem bn_log {m : Nat} {x : Int} (h : Bn (m + 1) x) (l : m < 9000 := by decide) : x.natAbs.log2 < 9000 := Nat.lt_of_le_of_lt h.log l
theorem pure_Rate_floor {K : PySem.W.Frag} {A : Ad} {vs : List V} {H : Hp} {Q : VK} {E : XK} (F : KF K A) (h : sp_Rate_floor K A vs H Q E) : (t_Rate_floor_0 K A) { nx := fun _ H' => Q .non H', rt := Q } (start ["self"] vs) H := by
  unfold sp_Rate_floor at h
  split at h
  · rename_i a
    obtain ⟨p, q, ha, k⟩ := h
    show (t_Rate_floor_0 K A) _ [some (.ref a)] H
    refine st_ret ?_
    (refine evE ?P62 (fun Q h => ?h62) ?_; (case h62 => (simp only [tTest, tOp, tUn, tVar, tC, tCB, tCons, tNil, tAnd, tOr, tNot, tB, tTup, tLst, tIf, tAndV, tOrV, tNotV, tSl, tPart, tNoPart, tCall, iIx_ref, oGt_int, oMod_int, oFdiv_int, oAdd_int, oAdd_str, oSub_int, oMul_int, oLt_int, oGe_int, oLe_int, oPow_int, uNeg_int, oEq_int, oEq_str, oEq_bl, oNe_int, oNe_str, oNe_bl, cInt_int, cInt_bl, cAbs_int, cLen_ref, cList_ref, stL_ref, gName, gSub, gTup, gCons, gNil, rdSeq, List.getElem?_cons_zero, List.getElem?_cons_succ, List.set_cons_zero, List.set_cons_succ, List.cons_append, List.nil_append, Option.some.injEq, exists_eq_left', V.bl.injEq, V.int.injEq, V.ref.injEq, atI_0, atI_1, atI_2, setI_1, setI_2, Bool.not_true, Bool.not_false, Bool.false_eq_true, if_false, if_true, tFld_eq, ha.fu F, ha.fl F]; exact h)); (try dsimp only [gName, tNext, List.set_cons_zero, List.set_cons_succ]))
    refine ⟨⟨rl_pos ha.pos, bn_log (m := 699) ha.bl⟩, ?_⟩
    rw [r_floor ha.pos]
    exact k
  · exact h.elim
theorem pure_Rate_neg {K : PySem.W.Frag} {A : Ad} {vs : List V} {H : Hp} {Q : VK} {E : XK} (F : KF K A) (h : sp_Rate_neg K A vs H Q E) : (t_Rate_neg_0 K A) { nx := fun _ H' => Q .non H', rt := Q } (start ["self"] vs) H := by
  unfold sp_Rate_neg at h
  split at h
  · rename_i a
    obtain ⟨p, q, ha, k⟩ := h
    show (t_Rate_neg_0 K A) _ [some (.ref a)] H
    refine st_ret ?_
    unfold tMake
    (refine evA ?P63 (fun Q h => ?h63) ?_; (case h63 => (simp only [tTest, tOp, tUn, tVar, tC, tCB, tCons, tNil, tAnd, tOr, tNot, tB, tTup, tLst, tIf, tAndV, tOrV, tNotV, tSl, tPart, tNoPart, tCall, iIx_ref, oGt_int, oMod_int, oFdiv_int, oAdd_int, oAdd_str, oSub_int, oMul_int, oLt_int, oGe_int, oLe_int, oPow_int, uNeg_int, oEq_int, oEq_str, oEq_bl, oNe_int, oNe_str, oNe_bl, cInt_int, cInt_bl, cAbs_int, cLen_ref, cList_ref, stL_ref, gName, gSub, gTup, gCons, gNil, rdSeq, List.getElem?_cons_zero, List.getElem?_cons_succ, List.set_cons_zero, List.set_cons_succ, List.cons_append, List.nil_append, Option.some.injEq, exists_eq_left', V.bl.injEq, V.int.injEq, V.ref.injEq, atI_0, atI_1, atI_2, setI_1, setI_2, Bool.not_true, Bool.not_false, Bool.false_eq_true, if_false, if_true, tFld_eq, ha.fu F, ha.fl F]; exact h)); (try dsimp only [gName, tNext, List.set_cons_zero, List.set_cons_succ]))
    intro x dx hx hd hn
    refine mk_rate (rl_pos ha.pos) (ha.bu.neg.up (by decide)) (ha.bl.up (by decide)) (fun c H' g h => ?_) hx hd hn
    have z := r_neg (p := p) ha.pos
    rw [z.1, z.2] at h
    exact k c H' g ⟨h, ha.pos, ha.bp.neg, ha.bq⟩
  · exact h.elim
theorem pure_Rate_add {K : PySem.W.Frag} {A : Ad} {vs : List V} {H : Hp} {Q : VK} {E : XK} (F : KF K A) (h : sp_Rate_add K A vs H Q E) : (t_Rate_add_0 K A) { nx := fun _ H' => Q .non H', rt := Q } (start ["self", "other", "right"] vs) H := by
  unfold sp_Rate_add spSum at h
  split at h
  · rename_i a y
    obtain ⟨p, q, r, s, ha, hy, k⟩ := h
    show (t_Rate_add_0 K A) _ [some (.ref a), some (y), none] H
    refine st_seq (st_asg ?_)
    (refine evE ?P64 (fun Q h => ?h64) ?_; (case h64 => (simp only [tTest, tOp, tUn, tVar, tC, tCB, tCons, tNil, tAnd, tOr, tNot, tB, tTup, tLst, tIf, tAndV, tOrV, tNotV, tSl, tPart, tNoPart, tCall, iIx_ref, oGt_int, oMod_int, oFdiv_int, oAdd_int, oAdd_str, oSub_int, oMul_int, oLt_int, oGe_int, oLe_int, oPow_int, uNeg_int, oEq_int, oEq_str, oEq_bl, oNe_int, oNe_str, oNe_bl, cInt_int, cInt_bl, cAbs_int, cLen_ref, cList_ref, stL_ref, gName, gSub, gTup, gCons, gNil, rdSeq, List.getElem?_cons_zero, List.getElem?_cons_succ, List.set_cons_zero, List.set_cons_succ, List.cons_append, List.nil_append, Option.some.injEq, exists_eq_left', V.bl.injEq, V.int.injEq, V.ref.injEq, atI_0, atI_1, atI_2, setI_1, setI_2, Bool.not_true, Bool.not_false, Bool.false_eq_true, if_false, if_true]; exact h)); (try dsimp only [gName, tNext, List.set_cons_zero, List.set_cons_succ]))
    refine ⟨r, s, hy, fun b H' g hb => ?_⟩
    (try dsimp only [gName, tNext, List.set_cons_zero, List.set_cons_succ])
    refine st_ret ?_
    unfold tMake
    have ha' := ha.grow g
    (refine evA ?P65 (fun Q h => ?h65) ?_; (case h65 => (simp only [tTest, tOp, tUn, tVar, tC, tCB, tCons, tNil, tAnd, tOr, tNot, tB, tTup, tLst, tIf, tAndV, tOrV, tNotV, tSl, tPart, tNoPart, tCall, iIx_ref, oGt_int, oMod_int, oFdiv_int, oAdd_int, oAdd_str, oSub_int, oMul_int, oLt_int, oGe_int, oLe_int, oPow_int, uNeg_int, oEq_int, oEq_str, oEq_bl, oNe_int, oNe_str, oNe_bl, cInt_int, cInt_bl, cAbs_int, cLen_ref, cList_ref, stL_ref, gName, gSub, gTup, gCons, gNil, rdSeq, List.getElem?_cons_zero, List.getElem?_cons_succ, List.set_cons_zero, List.set_cons_succ, List.cons_append, List.nil_append, Option.some.injEq, exists_eq_left', V.bl.injEq, V.int.injEq, V.ref.injEq, atI_0, atI_1, atI_2, setI_1, setI_2, Bool.not_true, Bool.not_false, Bool.false_eq_true, if_false, if_true, tFld_eq, ha'.fu F, ha'.fl F, hb.fu F, hb.fl F]; exact h)); (try dsimp only [gName, tNext, List.set_cons_zero, List.set_cons_succ]))
    refine ⟨ha'.bu.mulok hb.bl, hb.bu.mulok ha'.bl, ha'.bl.mulok hb.bl, ?_⟩
    intro x dx hx hd hn
    have b1 : Bn 601 (ru p q * rl r s + ru r s * rl p q) := (ha'.bu.mul hb.bl).add (hb.bu.mul ha'.bl)
    have b2 : Bn 600 (rl p q * rl r s) := ha'.bl.mul hb.bl
    refine mk_rate (Int.mul_pos (rl_pos ha.pos) (rl_pos hb.pos)) (b1.up (by decide)) (b2.up (by decide)) (fun c H2 g2 h => ?_) hx hd hn
    have z := r_add (p := p) (r := r) ha.pos hb.pos
    rw [z.1, z.2] at h
    exact k c H2 (g.trans g2) ⟨h, Int.mul_pos ha.pos hb.pos, (((ha.bp.mul hb.bq).add (hb.bp.mul ha.bq)).up (by decide)), ((ha.bq.mul hb.bq).up (by decide))⟩
  · exact h.elim
theorem pure_Rate_radd {K : PySem.W.Frag} {A : Ad} {vs : List V} {H : Hp} {Q : VK} {E : XK} (F : KF K A) (h : sp_Rate_radd K A vs H Q E) : (t_Rate_radd_0 K A) { nx := fun _ H' => Q .non H', rt := Q } (start ["self", "other"] vs) H := by
  unfold sp_Rate_radd spSum at h
  split at h
  · rename_i a y
    obtain ⟨p, q, r, s, ha, hy, k⟩ := h
    show (t_Rate_radd_0 K A) _ [some (.ref a), some (y)] H
    refine st_ret ?_
    (refine evE ?P66 (fun Q h => ?h66) ?_; (case h66 => (simp only [tTest, tOp, tUn, tVar, tC, tCB, tCons, tNil, tAnd, tOr, tNot, tB, tTup, tLst, tIf, tAndV, tOrV, tNotV, tSl, tPart, tNoPart, tCall, iIx_ref, oGt_int, oMod_int, oFdiv_int, oAdd_int, oAdd_str, oSub_int, oMul_int, oLt_int, oGe_int, oLe_int, oPow_int, uNeg_int, oEq_int, oEq_str, oEq_bl, oNe_int, oNe_str, oNe_bl, cInt_int, cInt_bl, cAbs_int, cLen_ref, cList_ref, stL_ref, gName, gSub, gTup, gCons, gNil, rdSeq, List.getElem?_cons_zero, List.getElem?_cons_succ, List.set_cons_zero, List.set_cons_succ, List.cons_append, List.nil_append, Option.some.injEq, exists_eq_left', V.bl.injEq, V.int.injEq, V.ref.injEq, atI_0, atI_1, atI_2, setI_1, setI_2, Bool.not_true, Bool.not_false, Bool.false_eq_true, if_false, if_true]; exact h)); (try dsimp only [gName, tNext, List.set_cons_zero, List.set_cons_succ]))
    refine ⟨r, s, hy, fun b H' g hb => ?_⟩
    (try dsimp only [gName, tNext, List.set_cons_zero, List.set_cons_succ])
    have ha' := ha.grow g
    exact bin_own hb (.rt ha') ⟨r, s, p, q, hb, .rt ha', fun c H2 g2 h => k c H2 (g.trans g2) h⟩
  · exact h.elim
theorem pure_Rate_sub {K : PySem.W.Frag} {A : Ad} {vs : List V} {H : Hp} {Q : VK} {E : XK} (F : KF K A) (h : sp_Rate_sub K A vs H Q E) : (t_Rate_sub_0 K A) { nx := fun _ H' => Q .non H', rt := Q } (start ["self", "other"] vs) H := by
  unfold sp_Rate_sub spSum at h
  split at h
  · rename_i a y
    obtain ⟨p, q, r, s, ha, hy, k⟩ := h
    show (t_Rate_sub_0 K A) _ [some (.ref a), some (y)] H
    refine st_ret ?_
    (refine evE ?P67 (fun Q h => ?h67) ?_; (case h67 => (simp only [tTest, tOp, tUn, tVar, tC, tCB, tCons, tNil, tAnd, tOr, tNot, tB, tTup, tLst, tIf, tAndV, tOrV, tNotV, tSl, tPart, tNoPart, tCall, iIx_ref, oGt_int, oMod_int, oFdiv_int, oAdd_int, oAdd_str, oSub_int, oMul_int, oLt_int, oGe_int, oLe_int, oPow_int, uNeg_int, oEq_int, oEq_str, oEq_bl, oNe_int, oNe_str, oNe_bl, cInt_int, cInt_bl, cAbs_int, cLen_ref, cList_ref, stL_ref, gName, gSub, gTup, gCons, gNil, rdSeq, List.getElem?_cons_zero, List.getElem?_cons_succ, List.set_cons_zero, List.set_cons_succ, List.cons_append, List.nil_append, Option.some.injEq, exists_eq_left', V.bl.injEq, V.int.injEq, V.ref.injEq, atI_0, atI_1, atI_2, setI_1, setI_2, Bool.not_true, Bool.not_false, Bool.false_eq_true, if_false, if_true]; exact h)); (try dsimp only [gName, tNext, List.set_cons_zero, List.set_cons_succ]))
    refine ⟨r, s, hy, fun b H' g hb => ?_⟩
    (try dsimp only [gName, tNext, List.set_cons_zero, List.set_cons_succ])
    refine neg_own hb ⟨r, s, hb, fun c H2 g2 hc => ?_⟩
    have ha' := (ha.grow g).grow g2
    exact bin_own ha' (.rt hc) ⟨p, q, _, s, ha', .rt hc, fun c H3 g3 h => k c H3 ((g.trans g2).trans g3) h⟩
  · exact h.elim
theorem pure_Rate_rsub {K : PySem.W.Frag} {A : Ad} {vs : List V} {H : Hp} {Q : VK} {E : XK} (F : KF K A) (h : sp_Rate_rsub K A vs H Q E) : (t_Rate_rsub_0 K A) { nx := fun _ H' => Q .non H', rt := Q } (start ["self", "other"] vs) H := by
  unfold sp_Rate_rsub spSum at h
  split at h
  · rename_i a y
    obtain ⟨p, q, r, s, ha, hy, k⟩ := h
    show (t_Rate_rsub_0 K A) _ [some (.ref a), some (y)] H
    refine st_ret ?_
    (refine evE ?P68 (fun Q h => ?h68) ?_; (case h68 => (simp only [tTest, tOp, tUn, tVar, tC, tCB, tCons, tNil, tAnd, tOr, tNot, tB, tTup, tLst, tIf, tAndV, tOrV, tNotV, tSl, tPart, tNoPart, tCall, iIx_ref, oGt_int, oMod_int, oFdiv_int, oAdd_int, oAdd_str, oSub_int, oMul_int, oLt_int, oGe_int, oLe_int, oPow_int, uNeg_int, oEq_int, oEq_str, oEq_bl, oNe_int, oNe_str, oNe_bl, cInt_int, cInt_bl, cAbs_int, cLen_ref, cList_ref, stL_ref, gName, gSub, gTup, gCons, gNil, rdSeq, List.getElem?_cons_zero, List.getElem?_cons_succ, List.set_cons_zero, List.set_cons_succ, List.cons_append, List.nil_append, Option.some.injEq, exists_eq_left', V.bl.injEq, V.int.injEq, V.ref.injEq, atI_0, atI_1, atI_2, setI_1, setI_2, Bool.not_true, Bool.not_false, Bool.false_eq_true, if_false, if_true]; exact h)); (try dsimp only [gName, tNext, List.set_cons_zero, List.set_cons_succ]))
    refine ⟨r, s, hy, fun b H' g hb => ?_⟩
    (try dsimp only [gName, tNext, List.set_cons_zero, List.set_cons_succ])
    refine neg_own (ha.grow g) ⟨p, q, ha.grow g, fun c H2 g2 hc => ?_⟩
    have hb' := hb.grow g2
    exact bin_own hb' (.rt hc) ⟨r, s, _, q, hb', .rt hc, fun c H3 g3 h => k c H3 ((g.trans g2).trans g3) h⟩
  · exact h.elim
theorem pure_Rate_mul {K : PySem.W.Frag} {A : Ad} {vs : List V} {H : Hp} {Q : VK} {E : XK} (F : KF K A) (h : sp_Rate_mul K A vs H Q E) : (t_Rate_mul_0 K A) { nx := fun _ H' => Q .non H', rt := Q } (start ["self", "k"] vs) H := by
  unfold sp_Rate_mul at h
  split at h
  · rename_i a i
    obtain ⟨p, q, ha, bi, k⟩ := h
    show (t_Rate_mul_0 K A) _ [some (.ref a), some (.int i)] H
    refine st_seq (st_if ?_)
    (refine evT ?P69 (fun Q h => ?h69) ?_; (case h69 => (simp only [tTest, tOp, tUn, tVar, tC, tCB, tCons, tNil, tAnd, tOr, tNot, tB, tTup, tLst, tIf, tAndV, tOrV, tNotV, tSl, tPart, tNoPart, tCall, iIx_ref, oGt_int, oMod_int, oFdiv_int, oAdd_int, oAdd_str, oSub_int, oMul_int, oLt_int, oGe_int, oLe_int, oPow_int, uNeg_int, oEq_int, oEq_str, oEq_bl, oNe_int, oNe_str, oNe_bl, cInt_int, cInt_bl, cAbs_int, cLen_ref, cList_ref, stL_ref, gName, gSub, gTup, gCons, gNil, rdSeq, List.getElem?_cons_zero, List.getElem?_cons_succ, List.set_cons_zero, List.set_cons_succ, List.cons_append, List.nil_append, Option.some.injEq, exists_eq_left', V.bl.injEq, V.int.injEq, V.ref.injEq, atI_0, atI_1, atI_2, setI_1, setI_2, Bool.not_true, Bool.not_false, Bool.false_eq_true, if_false, if_true, is_int]; exact h)); (try dsimp only [gName, tNext, List.set_cons_zero, List.set_cons_succ]))
    (refine if_no ?_; (try dsimp only [gName, tNext, List.set_cons_zero, List.set_cons_succ]))
    refine st_ret ?_
    unfold tMake
    (refine evA ?P70 (fun Q h => ?h70) ?_; (case h70 => (simp only [tTest, tOp, tUn, tVar, tC, tCB, tCons, tNil, tAnd, tOr, tNot, tB, tTup, tLst, tIf, tAndV, tOrV, tNotV, tSl, tPart, tNoPart, tCall, iIx_ref, oGt_int, oMod_int, oFdiv_int, oAdd_int, oAdd_str, oSub_int, oMul_int, oLt_int, oGe_int, oLe_int, oPow_int, uNeg_int, oEq_int, oEq_str, oEq_bl, oNe_int, oNe_str, oNe_bl, cInt_int, cInt_bl, cAbs_int, cLen_ref, cList_ref, stL_ref, gName, gSub, gTup, gCons, gNil, rdSeq, List.getElem?_cons_zero, List.getElem?_cons_succ, List.set_cons_zero, List.set_cons_succ, List.cons_append, List.nil_append, Option.some.injEq, exists_eq_left', V.bl.injEq, V.int.injEq, V.ref.injEq, atI_0, atI_1, atI_2, setI_1, setI_2, Bool.not_true, Bool.not_false, Bool.false_eq_true, if_false, if_true, tFld_eq, ha.fu F, ha.fl F]; exact h)); (try dsimp only [gName, tNext, List.set_cons_zero, List.set_cons_succ]))
    refine ⟨ha.bu.mulok bi, ?_⟩
    intro x dx hx hd hn
    refine mk_rate (rl_pos ha.pos) ((ha.bu.mul bi).up (by decide)) (ha.bl.up (by decide)) (fun c H2 g2 h => ?_) hx hd hn
    have z := r_mul (p := p) (k := i) ha.pos
    rw [z.1, z.2] at h
    exact k c H2 g2 ⟨h, ha.pos, (ha.bp.mul bi).up (by decide), ha.bq.up (by decide)⟩
  · exact h.elim
end HG

namespace HG
open PySem L2
def sp_law_number (K : PySem.W.Frag) (A : Ad) : Sp := fun vs H Q _ => match vs with
  | [.ref p] => ∃ n : Nat, Pen H p n ∧ n ≤ 900000 ∧ ∀ (d : Int) (H' : Hp), Bn 140 d → Pen H' p (n + 3) → Keep p H H' → Q (.int d) H'
  | _ => False
def t_law_number_1 (K : PySem.W.Frag) (A : Ad) : TS := (tRet (tOp oMul (tCall (sp_law_draw K A) [] E0 (tCons (tVar 0) (tCons (tVar 1) tNil))) (tCall (sp_law_pick K A) [] E0 (tCons (tVar 0) (tCons (tLst (tCons (tC (.int 1)) (tCons (tC (.int 1)) (tCons (tUn uNeg (tC (.int 1))) tNil)))) tNil)))))
def t_law_number_0 (K : PySem.W.Frag) (A : Ad) : TS := (tSeq (tAsg (tCall (sp_law_pick K A) [] E0 (tCons (tVar 0) (tCons (tLst (tCons (tC (.int 2)) (tCons (tC (.int 5)) (tCons (tC (.int 30)) (tCons (tOp oPow (tC (.int 10)) (tC (.int 9))) (tCons (tOp oPow (tC (.int 10)) (tC (.int 40))) tNil)))))) tNil))) (gName 1)) (t_law_number_1 K A))

theorem bn_of {m : Nat} {d b : Int} (h0 : 0 ≤ d) (h1 : d < b) (hb : b ≤ 2 ^ m) : Bn m d := by
  unfold Bn
  have : (2 : Int) ^ m = ((2 ^ m : Nat) : Int) := by rw [Int.natCast_pow]; rfl
  omega
theorem pure_law_number {K : PySem.W.Frag} {A : Ad} {vs : List V} {H : Hp} {Q : VK} {E : XK} (F : KF K A) (h : sp_law_number K A vs H Q E) : (t_law_number_0 K A) { nx := fun _ H' => Q .non H', rt := Q } (start ["_law_pen_here", "_law_size"] vs) H := by
  unfold sp_law_number at h
  split at h
  · rename_i p
    obtain ⟨n, hp, hn, k⟩ := h
    show (t_law_number_0 K A) _ [some (.ref p), none] H
    refine st_seq (st_asg ?_)
    (refine evE ?P71 (fun Q h => ?h71) ?_; (case h71 => (simp only [tTest, tOp, tUn, tVar, tC, tCB, tCons, tNil, tAnd, tOr, tNot, tB, tTup, tLst, tIf, tAndV, tOrV, tNotV, tSl, tPart, tNoPart, tCall, iIx_ref, oGt_int, oMod_int, oFdiv_int, oAdd_int, oAdd_str, oSub_int, oMul_int, oLt_int, oGe_int, oLe_int, oPow_int, uNeg_int, oEq_int, oEq_str, oEq_bl, oNe_int, oNe_str, oNe_bl, cInt_int, cInt_bl, cAbs_int, cLen_ref, cList_ref, stL_ref, gName, gSub, gTup, gCons, gNil, rdSeq, List.getElem?_cons_zero, List.getElem?_cons_succ, List.set_cons_zero, List.set_cons_succ, List.cons_append, List.nil_append, Option.some.injEq, exists_eq_left', V.bl.injEq, V.int.injEq, V.ref.injEq, atI_0, atI_1, atI_2, setI_1, setI_2, Bool.not_true, Bool.not_false, Bool.false_eq_true, if_false, if_true]; exact h)); (try dsimp only [gName, tNext, List.set_cons_zero, List.set_cons_succ]))
    refine ⟨⟨by decide, by decide, by decide⟩, ⟨by decide, by decide, by decide⟩, by show 5 ≤ sizeLine; decide, fun l hl => ?_⟩
    have g1 := Grow.new (o := .lst [.int 2, .int 5, .int 30, .int (10 ^ Int.toNat 9), .int (10 ^ Int.toNat 40)]) hl
    refine ⟨n, _, hp.grow g1, by omega, upd_same, hp.fresh hl, by simp, by simp, fun x H1 hx hp1 k1 => ?_⟩
    have hx : ∃ m : Int, x = .int m ∧ 0 < m ∧ m ≤ 10 ^ 40 := by
      simp only [List.mem_cons, List.not_mem_nil, or_false] at hx
      rcases hx with rfl | rfl | rfl | rfl | rfl
      · exact ⟨_, rfl, by decide, by decide⟩
      · exact ⟨_, rfl, by decide, by decide⟩
      · exact ⟨_, rfl, by decide, by decide⟩
      · exact ⟨_, rfl, by decide, by decide⟩
      · exact ⟨_, rfl, by decide, by decide⟩
    obtain ⟨m, rfl, hm0, hm1⟩ := hx
    (try dsimp only [gName, tNext, List.set_cons_zero, List.set_cons_succ])
    refine st_ret ?_
    (refine evE ?P72 (fun Q h => ?h72) ?_; (case h72 => (simp only [tTest, tOp, tUn, tVar, tC, tCB, tCons, tNil, tAnd, tOr, tNot, tB, tTup, tLst, tIf, tAndV, tOrV, tNotV, tSl, tPart, tNoPart, tCall, iIx_ref, oGt_int, oMod_int, oFdiv_int, oAdd_int, oAdd_str, oSub_int, oMul_int, oLt_int, oGe_int, oLe_int, oPow_int, uNeg_int, oEq_int, oEq_str, oEq_bl, oNe_int, oNe_str, oNe_bl, cInt_int, cInt_bl, cAbs_int, cLen_ref, cList_ref, stL_ref, gName, gSub, gTup, gCons, gNil, rdSeq, List.getElem?_cons_zero, List.getElem?_cons_succ, List.set_cons_zero, List.set_cons_succ, List.cons_append, List.nil_append, Option.some.injEq, exists_eq_left', V.bl.injEq, V.int.injEq, V.ref.injEq, atI_0, atI_1, atI_2, setI_1, setI_2, Bool.not_true, Bool.not_false, Bool.false_eq_true, if_false, if_true]; exact h)); (try dsimp only [gName, tNext, List.set_cons_zero, List.set_cons_succ]))
    have bm : Bn 140 m := bn_of (b := 10 ^ 40 + 1) (by omega) (by omega) (by decide)
    refine ⟨n + 1, hp1, by omega, hm0, bn_log (m := 139) bm, fun d H2 hd0 hd1 hp2 k2 => ?_⟩
    refine ⟨by show 3 ≤ sizeLine; decide, fun l2 hl2 => ?_⟩
    have g2 := Grow.new (o := .lst [.int 1, .int 1, .int (-1)]) hl2
    refine ⟨n + 2, _, hp2.grow g2, by omega, upd_same, hp2.fresh hl2, by simp, by simp, fun x H3 hx hp3 k3 => ?_⟩
    have hx : ∃ z : Int, x = .int z ∧ (z = 1 ∨ z = -1) := by
      simp only [List.mem_cons, List.not_mem_nil, or_false] at hx
      rcases hx with rfl | rfl | rfl
      · exact ⟨_, rfl, .inl rfl⟩
      · exact ⟨_, rfl, .inl rfl⟩
      · exact ⟨_, rfl, .inr rfl⟩
    obtain ⟨z, rfl, hz⟩ := hx
    simp only [tTest, tOp, tUn, tVar, tC, tCB, tCons, tNil, tAnd, tOr, tNot, tB, tTup, tLst, tIf, tAndV, tOrV, tNotV, tSl, tPart, tNoPart, tCall, iIx_ref, oGt_int, oMod_int, oFdiv_int, oAdd_int, oAdd_str, oSub_int, oMul_int, oLt_int, oGe_int, oLe_int, oPow_int, uNeg_int, oEq_int, oEq_str, oEq_bl, oNe_int, oNe_str, oNe_bl, cInt_int, cInt_bl, cAbs_int, cLen_ref, cList_ref, stL_ref, gName, gSub, gTup, gCons, gNil, rdSeq, List.getElem?_cons_zero, List.getElem?_cons_succ, List.set_cons_zero, List.set_cons_succ, List.cons_append, List.nil_append, Option.some.injEq, exists_eq_left', V.bl.injEq, V.int.injEq, V.ref.injEq, atI_0, atI_1, atI_2, setI_1, setI_2, Bool.not_true, Bool.not_false, Bool.false_eq_true, if_false, if_true]
    have bd : Bn 140 d := bn_of hd0 (by omega : d < 10 ^ 40) (by decide)
    refine ⟨bd.mulok (n := 1) (by rcases hz with rfl | rfl <;> (show (_ : Nat) < _; decide)), k _ _ ?_ hp3 ?_⟩
    · rcases hz with rfl | rfl
      · rw [Int.mul_one]; exact bd
      · unfold Bn at *
        omega
    · exact ((g1.keep.trans k1).trans k2).trans (g2.keep.trans k3)
  · exact h.elim
def sp_law_is (K : PySem.W.Frag) (A : Ad) : Sp := fun vs H Q _ => match vs with
  | [.ref a, .int u, .int l] => ∃ p q, Rt 700 A H a p q ∧ p * l = u * q ∧ 0 < l ∧ Bn 700 u ∧ Bn 700 l ∧ ∀ H', Grow H H' → Q (.bl true) H'
  | _ => False
def t_law_is_2 (K : PySem.W.Frag) (A : Ad) : TS := (tRet (tC (.bl false)))
def t_law_is_3 (K : PySem.W.Frag) (A : Ad) : TS := (tRet (tOp (oEq K) (tCB (cRepr K) (tCons (tLst (tCons (tFld K (tVar 0) "upper") (tCons (tFld K (tVar 0) "lower") tNil))) tNil)) (tCB (cRepr K) (tCons (tLst (tCons (tOp oFdiv (tVar 1) (tVar 3)) (tCons (tOp oFdiv (tVar 2) (tVar 3)) tNil))) tNil))))
def t_law_is_1 (K : PySem.W.Frag) (A : Ad) : TS := (tSeq (tIfS (tNot (tB (tCB (cIsi K) (tCons (tVar 0) (tCons (tC (.ref A.c_Rate)) tNil))))) (t_law_is_2 K A) tNext) (t_law_is_3 K A))
def t_law_is_0 (K : PySem.W.Frag) (A : Ad) : TS := (tSeq (tAsg (tCall (sp_law_divisor K A) [] E0 (tCons (tVar 1) (tCons (tVar 2) tNil))) (gName 3)) (t_law_is_1 K A))

theorem sp_is {K : PySem.W.Frag} {A : Ad} {m n : Nat} {a : Addr} {u l p q : Int} {H : Hp} {Q : VK} {E : XK} (h : Rt m A H a p q) (e : p * l = u * q) (hl : 0 < l) (b1 : Bn n u) (b2 : Bn n l) (k : ∀ H', Grow H H' → Q (.bl true) H') (hm : m ≤ 700 := by decide) (hn : n ≤ 700 := by decide) : sp_law_is K A [.ref a, .int u, .int l] H Q E :=
  ⟨p, q, h.up hm, e, hl, b1.up hn, b2.up hn, k⟩
theorem pure_law_is {K : PySem.W.Frag} {A : Ad} {vs : List V} {H : Hp} {Q : VK} {E : XK} (F : KF K A) (h : sp_law_is K A vs H Q E) : (t_law_is_0 K A) { nx := fun _ H' => Q .non H', rt := Q } (start ["_law_rate", "_law_upper", "_law_lower", "_law_common"] vs) H := by
  unfold sp_law_is at h
  split at h
  · rename_i a u l
    obtain ⟨p, q, ha, e, hl, bu, bl, k⟩ := h
    show (t_law_is_0 K A) _ [some (.ref a), some (.int u), some (.int l), none] H
    refine st_seq (st_asg ?_)
    (refine evE ?P73 (fun Q h => ?h73) ?_; (case h73 => (simp only [tTest, tOp, tUn, tVar, tC, tCB, tCons, tNil, tAnd, tOr, tNot, tB, tTup, tLst, tIf, tAndV, tOrV, tNotV, tSl, tPart, tNoPart, tCall, iIx_ref, oGt_int, oMod_int, oFdiv_int, oAdd_int, oAdd_str, oSub_int, oMul_int, oLt_int, oGe_int, oLe_int, oPow_int, uNeg_int, oEq_int, oEq_str, oEq_bl, oNe_int, oNe_str, oNe_bl, cInt_int, cInt_bl, cAbs_int, cLen_ref, cList_ref, stL_ref, gName, gSub, gTup, gCons, gNil, rdSeq, List.getElem?_cons_zero, List.getElem?_cons_succ, List.set_cons_zero, List.set_cons_succ, List.cons_append, List.nil_append, Option.some.injEq, exists_eq_left', V.bl.injEq, V.int.injEq, V.ref.injEq, atI_0, atI_1, atI_2, setI_1, setI_2, Bool.not_true, Bool.not_false, Bool.false_eq_true, if_false, if_true, ldv]; exact h)); (try dsimp only [gName, tNext, List.set_cons_zero, List.set_cons_succ]))
    refine ⟨hl, ?_⟩
    (try dsimp only [gName, tNext, List.set_cons_zero, List.set_cons_succ])
    refine st_seq (st_if ?_)
    (refine evT ?P74 (fun Q h => ?h74) ?_; (case h74 => (simp only [tTest, tOp, tUn, tVar, tC, tCB, tCons, tNil, tAnd, tOr, tNot, tB, tTup, tLst, tIf, tAndV, tOrV, tNotV, tSl, tPart, tNoPart, tCall, iIx_ref, oGt_int, oMod_int, oFdiv_int, oAdd_int, oAdd_str, oSub_int, oMul_int, oLt_int, oGe_int, oLe_int, oPow_int, uNeg_int, oEq_int, oEq_str, oEq_bl, oNe_int, oNe_str, oNe_bl, cInt_int, cInt_bl, cAbs_int, cLen_ref, cList_ref, stL_ref, gName, gSub, gTup, gCons, gNil, rdSeq, List.getElem?_cons_zero, List.getElem?_cons_succ, List.set_cons_zero, List.set_cons_succ, List.cons_append, List.nil_append, Option.some.injEq, exists_eq_left', V.bl.injEq, V.int.injEq, V.ref.injEq, atI_0, atI_1, atI_2, setI_1, setI_2, Bool.not_true, Bool.not_false, Bool.false_eq_true, if_false, if_true]; exact h)); (try dsimp only [gName, tNext, List.set_cons_zero, List.set_cons_succ]))
    refine isi_rt F ha ⟨_, rfl, ?_⟩
    (refine if_no ?_; (try dsimp only [gName, tNext, List.set_cons_zero, List.set_cons_succ]))
    refine st_ret ?_
    (refine evE ?P75 (fun Q h => ?h75) ?_; (case h75 => (simp only [tTest, tOp, tUn, tVar, tC, tCB, tCons, tNil, tAnd, tOr, tNot, tB, tTup, tLst, tIf, tAndV, tOrV, tNotV, tSl, tPart, tNoPart, tCall, iIx_ref, oGt_int, oMod_int, oFdiv_int, oAdd_int, oAdd_str, oSub_int, oMul_int, oLt_int, oGe_int, oLe_int, oPow_int, uNeg_int, oEq_int, oEq_str, oEq_bl, oNe_int, oNe_str, oNe_bl, cInt_int, cInt_bl, cAbs_int, cLen_ref, cList_ref, stL_ref, gName, gSub, gTup, gCons, gNil, rdSeq, List.getElem?_cons_zero, List.getElem?_cons_succ, List.set_cons_zero, List.set_cons_succ, List.cons_append, List.nil_append, Option.some.injEq, exists_eq_left', V.bl.injEq, V.int.injEq, V.ref.injEq, atI_0, atI_1, atI_2, setI_1, setI_2, Bool.not_true, Bool.not_false, Bool.false_eq_true, if_false, if_true, tFld_eq, ha.fu F, ha.fl F]; exact h)); (try dsimp only [gName, tNext, List.set_cons_zero, List.set_cons_succ]))
    refine ⟨by show 2 ≤ sizeLine; decide, fun x hx => ?_⟩
    have dw := gcd_divw (a := u) hl bl
    have z := (r_eq (p := p) (q := q) (r := u) (s := l) ha.pos hl).mpr e
    refine repr_ints (ns := [ru p q, rl p q]) upd_same ?_ (by show 2 ≤ 4; decide) ?_
    · intro n hn
      simp only [List.mem_cons, List.not_mem_nil, or_false] at hn
      rcases hn with rfl | rfl
      · exact ha.bu.up (by decide)
      · exact ha.bl.up (by decide)
    refine ⟨dw.1, dw.2, by show 2 ≤ sizeLine; decide, fun y hy => ?_⟩
    refine repr_ints (ns := [ru u l, rl u l]) upd_same ?_ (by show 2 ≤ 4; decide) ?_
    · intro n hn
      simp only [List.mem_cons, List.not_mem_nil, or_false] at hn
      rcases hn with rfl | rfl
      · exact (bn_ru bu).up (by decide)
      · exact (bn_rl bl).up (by decide)
    have g := (Grow.new hx).trans (Grow.new (o := .lst [.int (ru u l), .int (rl u l)]) hy)
    rw [z.1, z.2] at g ⊢
    simp only [tTest, tOp, tUn, tVar, tC, tCB, tCons, tNil, tAnd, tOr, tNot, tB, tTup, tLst, tIf, tAndV, tOrV, tNotV, tSl, tPart, tNoPart, tCall, iIx_ref, oGt_int, oMod_int, oFdiv_int, oAdd_int, oAdd_str, oSub_int, oMul_int, oLt_int, oGe_int, oLe_int, oPow_int, uNeg_int, oEq_int, oEq_str, oEq_bl, oNe_int, oNe_str, oNe_bl, cInt_int, cInt_bl, cAbs_int, cLen_ref, cList_ref, stL_ref, gName, gSub, gTup, gCons, gNil, rdSeq, List.getElem?_cons_zero, List.getElem?_cons_succ, List.set_cons_zero, List.set_cons_succ, List.cons_append, List.nil_append, Option.some.injEq, exists_eq_left', V.bl.injEq, V.int.injEq, V.ref.injEq, atI_0, atI_1, atI_2, setI_1, setI_2, Bool.not_true, Bool.not_false, Bool.false_eq_true, if_false, if_true, decide_true]
    exact k _ g
  · exact h.elim
end HG

namespace HG
open PySem L2
def sp_law_sums_right (K : PySem.W.Frag) (A : Ad) : Sp := fun vs H Q _ => match vs with
  | [.ref x, .ref y, .int a, .int b, .int c, .int d] => Rt 300 A H x a b ∧ Rt 300 A H y c d ∧ ∀ H', Grow H H' → Q (.bl true) H'
  | _ => False
def t_law_sums_right_1 (K : PySem.W.Frag) (A : Ad) : TS := (tRet (tC (.bl false)))
def t_law_sums_right_6 (K : PySem.W.Frag) (A : Ad) : TS := (tRet (tC (.bl false)))
def t_law_sums_right_9 (K : PySem.W.Frag) (A : Ad) : TS := (tRet (tOp (onIns (rCmp K A.c_Rate (sp_Rate_eq K A)) (oEq K)) (tCB (cRepr K) (tCons (tVar 8) tNil)) (tCB (cRepr K) (tCons (tLst (tCons (tOp (onIns (rCmp K A.c_Rate (sp_Rate_lt K A)) oLt) (tVar 9) (tVar 10)) (tCons (tOp (onIns (rCmp K A.c_Rate (sp_Rate_le K A)) oLe) (tVar 9) (tVar 10)) (tCons (tOp (onIns (rCmp K A.c_Rate (sp_Rate_gt K A)) oGt) (tVar 9) (tVar 10)) (tCons (tOp (onIns (rCmp K A.c_Rate (sp_Rate_ge K A)) oGe) (tVar 9) (tVar 10)) (tCons (tOp (onIns (rCmp K A.c_Rate (sp_Rate_eq K A)) (oEq K)) (tVar 9) (tVar 10)) (tCons (tOp (onIns (rNeO A.c_Rate (sp_Rate_eq K A)) (oNe K)) (tVar 9) (tVar 10)) tNil))))))) tNil))))
def t_law_sums_right_8 (K : PySem.W.Frag) (A : Ad) : TS := (tSeq (tPar 9 10 (tCons (tOp oMul (tVar 2) (tVar 5)) (tCons (tOp oMul (tVar 4) (tVar 3)) tNil))) (t_law_sums_right_9 K A))
def t_law_sums_right_7 (K : PySem.W.Frag) (A : Ad) : TS := (tSeq (tAsg (tLst (tCons (tOp (onIns (rCmp K A.c_Rate (sp_Rate_lt K A)) oLt) (tVar 0) (tVar 1)) (tCons (tOp (onIns (rCmp K A.c_Rate (sp_Rate_le K A)) oLe) (tVar 0) (tVar 1)) (tCons (tOp (onIns (rCmp K A.c_Rate (sp_Rate_gt K A)) oGt) (tVar 0) (tVar 1)) (tCons (tOp (onIns (rCmp K A.c_Rate (sp_Rate_ge K A)) oGe) (tVar 0) (tVar 1)) (tCons (tOp (onIns (rCmp K A.c_Rate (sp_Rate_eq K A)) (oEq K)) (tVar 0) (tVar 1)) (tCons (tOp (onIns (rNeO A.c_Rate (sp_Rate_eq K A)) (oNe K)) (tVar 0) (tVar 1)) tNil))))))) (gName 8)) (t_law_sums_right_8 K A))
def t_law_sums_right_5 (K : PySem.W.Frag) (A : Ad) : TS := (tSeq (tIfS (tOr (tTest (tOp (onIns (rNeO A.c_Rate (sp_Rate_eq K A)) (oNe K)) (tVar 6) (tOp (onIns (rBinL A.c_Rate (sp_Rate_add K A)) oAdd) (tVar 0) (tVar 1)))) (tOr (tTest (tOp (onIns (rNeO A.c_Rate (sp_Rate_eq K A)) (oNe K)) (tVar 7) (tOp (onIns (rBinL A.c_Rate (sp_Rate_sub K A)) oSub) (tVar 0) (tVar 1)))) (tOr (tNot (tB (tCall (sp_law_is K A) [] E0 (tCons (tVar 0) (tCons (tVar 2) (tCons (tVar 3) tNil)))))) (tNot (tB (tCall (sp_law_is K A) [] E0 (tCons (tUn (uNegO A.c_Rate (sp_Rate_neg K A)) (tVar 0)) (tCons (tOp (onIns (rBinL A.c_Rate (sp_Rate_sub K A)) oSub) (tC (.int 0)) (tVar 2)) (tCons (tVar 3) tNil))))))))) (t_law_sums_right_6 K A) tNext) (t_law_sums_right_7 K A))
def t_law_sums_right_4 (K : PySem.W.Frag) (A : Ad) : TS := (tSeq (tAug 7 (tVar 1) (rInp A.c_Rate (sp_Rate_sub K A))) (t_law_sums_right_5 K A))
def t_law_sums_right_3 (K : PySem.W.Frag) (A : Ad) : TS := (tSeq (tAug 6 (tVar 1) (rInp A.c_Rate (sp_Rate_add K A))) (t_law_sums_right_4 K A))
def t_law_sums_right_2 (K : PySem.W.Frag) (A : Ad) : TS := (tSeq (tPar 6 7 (tCons (tVar 0) (tCons (tVar 0) tNil))) (t_law_sums_right_3 K A))
def t_law_sums_right_0 (K : PySem.W.Frag) (A : Ad) : TS := (tSeq (tIfS (tOr (tNot (tB (tCall (sp_law_is K A) [] E0 (tCons (tOp (onIns (rBinL A.c_Rate (sp_Rate_add K A)) oAdd) (tVar 0) (tVar 1)) (tCons (tOp (onIns (rBinL A.c_Rate (sp_Rate_add K A)) oAdd) (tOp oMul (tVar 2) (tVar 5)) (tOp oMul (tVar 4) (tVar 3))) (tCons (tOp oMul (tVar 3) (tVar 5)) tNil)))))) (tNot (tB (tCall (sp_law_is K A) [] E0 (tCons (tOp (onIns (rBinL A.c_Rate (sp_Rate_sub K A)) oSub) (tVar 0) (tVar 1)) (tCons (tOp (onIns (rBinL A.c_Rate (sp_Rate_sub K A)) oSub) (tOp oMul (tVar 2) (tVar 5)) (tOp oMul (tVar 4) (tVar 3))) (tCons (tOp oMul (tVar 3) (tVar 5)) tNil))))))) (t_law_sums_right_1 K A) tNext) (t_law_sums_right_2 K A))

theorem pure_law_sums_right {K : PySem.W.Frag} {A : Ad} {vs : List V} {H : Hp} {Q : VK} {E : XK} (F : KF K A) (h : sp_law_sums_right K A vs H Q E) : (t_law_sums_right_0 K A) { nx := fun _ H' => Q .non H', rt := Q } (start ["_law_one", "_law_other", "_law_a", "_law_b", "_law_c", "_law_d", "_law_held", "_law_less", "_law_told", "_law_left", "_law_right"] vs) H := by
  unfold sp_law_sums_right at h
  split at h
  · rename_i x y a b c d
    obtain ⟨hx, hy, k⟩ := h
    show (t_law_sums_right_0 K A) _ [some (.ref x), some (.ref y), some (.int a), some (.int b), some (.int c), some (.int d), none, none, none, none, none] H
    have e2 : a * d + (0 - c) * b = a * d - c * b := by rw [Int.sub_mul, Int.zero_mul]; omega
    have b1 : Bn 601 (a * d + c * b) := (hx.bp.mul hy.bq).add (hy.bp.mul hx.bq)
    have b2 : Bn 601 (a * d - c * b) := (hx.bp.mul hy.bq).sub (hy.bp.mul hx.bq)
    have b3 : Bn 601 (b * d) := (hx.bq.mul hy.bq).up (by decide)
    have p3 : 0 < b * d := Int.mul_pos hx.pos hy.pos
    have m1 : IntMulOk a d := hx.bp.mulok hy.bq
    have m2 : IntMulOk c b := hy.bp.mulok hx.bq
    have m3 : IntMulOk b d := hx.bq.mulok hy.bq
    refine st_seq (st_if ?_)
    (refine evT ?P76 (fun Q h => ?h76) ?_; (case h76 => (simp only [tTest, tOp, tUn, tVar, tC, tCB, tCons, tNil, tAnd, tOr, tNot, tB, tTup, tLst, tIf, tAndV, tOrV, tNotV, tSl, tPart, tNoPart, tCall, iIx_ref, oGt_int, oMod_int, oFdiv_int, oAdd_int, oAdd_str, oSub_int, oMul_int, oLt_int, oGe_int, oLe_int, oPow_int, uNeg_int, oEq_int, oEq_str, oEq_bl, oNe_int, oNe_str, oNe_bl, cInt_int, cInt_bl, cAbs_int, cLen_ref, cList_ref, stL_ref, gName, gSub, gTup, gCons, gNil, rdSeq, List.getElem?_cons_zero, List.getElem?_cons_succ, List.set_cons_zero, List.set_cons_succ, List.cons_append, List.nil_append, Option.some.injEq, exists_eq_left', V.bl.injEq, V.int.injEq, V.ref.injEq, atI_0, atI_1, atI_2, setI_1, setI_2, Bool.not_true, Bool.not_false, Bool.false_eq_true, if_false, if_true, onIns_int, onIns_str]; exact h)); (try dsimp only [gName, tNext, List.set_cons_zero, List.set_cons_succ]))
    refine bin_own hx (.rt hy) ⟨a, b, c, d, hx, .rt hy, fun s1 H1 g1 h1 => ?_⟩
    refine ⟨m1, m2, m3, sp_is h1 rfl p3 b1 b3 fun H2 g2 => ?_⟩
    simp only [tTest, tOp, tUn, tVar, tC, tCB, tCons, tNil, tAnd, tOr, tNot, tB, tTup, tLst, tIf, tAndV, tOrV, tNotV, tSl, tPart, tNoPart, tCall, iIx_ref, oGt_int, oMod_int, oFdiv_int, oAdd_int, oAdd_str, oSub_int, oMul_int, oLt_int, oGe_int, oLe_int, oPow_int, uNeg_int, oEq_int, oEq_str, oEq_bl, oNe_int, oNe_str, oNe_bl, cInt_int, cInt_bl, cAbs_int, cLen_ref, cList_ref, stL_ref, gName, gSub, gTup, gCons, gNil, rdSeq, List.getElem?_cons_zero, List.getElem?_cons_succ, List.set_cons_zero, List.set_cons_succ, List.cons_append, List.nil_append, Option.some.injEq, exists_eq_left', V.bl.injEq, V.int.injEq, V.ref.injEq, atI_0, atI_1, atI_2, setI_1, setI_2, Bool.not_true, Bool.not_false, Bool.false_eq_true, if_false, if_true]
    have g12 := g1.trans g2
    have hx2 := hx.grow g12
    have hy2 := hy.grow g12
    refine bin_own hx2 (.rt hy2) ⟨a, b, c, d, hx2, .rt hy2, fun s2 H3 g3 h2 => ?_⟩
    refine ⟨m1, m2, m3, sp_is h2 (by rw [← e2]) p3 b2 b3 fun H4 g4 => ?_⟩
    simp only [tTest, tOp, tUn, tVar, tC, tCB, tCons, tNil, tAnd, tOr, tNot, tB, tTup, tLst, tIf, tAndV, tOrV, tNotV, tSl, tPart, tNoPart, tCall, iIx_ref, oGt_int, oMod_int, oFdiv_int, oAdd_int, oAdd_str, oSub_int, oMul_int, oLt_int, oGe_int, oLe_int, oPow_int, uNeg_int, oEq_int, oEq_str, oEq_bl, oNe_int, oNe_str, oNe_bl, cInt_int, cInt_bl, cAbs_int, cLen_ref, cList_ref, stL_ref, gName, gSub, gTup, gCons, gNil, rdSeq, List.getElem?_cons_zero, List.getElem?_cons_succ, List.set_cons_zero, List.set_cons_succ, List.cons_append, List.nil_append, Option.some.injEq, exists_eq_left', V.bl.injEq, V.int.injEq, V.ref.injEq, atI_0, atI_1, atI_2, setI_1, setI_2, Bool.not_true, Bool.not_false, Bool.false_eq_true, if_false, if_true]
    have g14 := g12.trans (g3.trans g4)
    have hx4 := hx.grow g14
    have hy4 := hy.grow g14
    clear hx2 hy2 h1 h2
    -- held, less
    refine st_seq ?_
    unfold tPar
    (refine evA ?P77 (fun Q h => ?h77) ?_; (case h77 => (simp only [tTest, tOp, tUn, tVar, tC, tCB, tCons, tNil, tAnd, tOr, tNot, tB, tTup, tLst, tIf, tAndV, tOrV, tNotV, tSl, tPart, tNoPart, tCall, iIx_ref, oGt_int, oMod_int, oFdiv_int, oAdd_int, oAdd_str, oSub_int, oMul_int, oLt_int, oGe_int, oLe_int, oPow_int, uNeg_int, oEq_int, oEq_str, oEq_bl, oNe_int, oNe_str, oNe_bl, cInt_int, cInt_bl, cAbs_int, cLen_ref, cList_ref, stL_ref, gName, gSub, gTup, gCons, gNil, rdSeq, List.getElem?_cons_zero, List.getElem?_cons_succ, List.set_cons_zero, List.set_cons_succ, List.cons_append, List.nil_append, Option.some.injEq, exists_eq_left', V.bl.injEq, V.int.injEq, V.ref.injEq, atI_0, atI_1, atI_2, setI_1, setI_2, Bool.not_true, Bool.not_false, Bool.false_eq_true, if_false, if_true]; exact h)); (try dsimp only [gName, tNext, List.set_cons_zero, List.set_cons_succ]))
    refine ⟨_, _, rfl, ?_⟩
    (try dsimp only [gName, tNext, List.set_cons_zero, List.set_cons_succ])
    refine st_seq ?_
    unfold tAug
    refine ⟨_, rfl, ?_⟩
    (refine evE ?P78 (fun Q h => ?h78) ?_; (case h78 => (simp only [tTest, tOp, tUn, tVar, tC, tCB, tCons, tNil, tAnd, tOr, tNot, tB, tTup, tLst, tIf, tAndV, tOrV, tNotV, tSl, tPart, tNoPart, tCall, iIx_ref, oGt_int, oMod_int, oFdiv_int, oAdd_int, oAdd_str, oSub_int, oMul_int, oLt_int, oGe_int, oLe_int, oPow_int, uNeg_int, oEq_int, oEq_str, oEq_bl, oNe_int, oNe_str, oNe_bl, cInt_int, cInt_bl, cAbs_int, cLen_ref, cList_ref, stL_ref, gName, gSub, gTup, gCons, gNil, rdSeq, List.getElem?_cons_zero, List.getElem?_cons_succ, List.set_cons_zero, List.set_cons_succ, List.cons_append, List.nil_append, Option.some.injEq, exists_eq_left', V.bl.injEq, V.int.injEq, V.ref.injEq, atI_0, atI_1, atI_2, setI_1, setI_2, Bool.not_true, Bool.not_false, Bool.false_eq_true, if_false, if_true]; exact h)); (try dsimp only [gName, tNext, List.set_cons_zero, List.set_cons_succ]))
    refine inp_own hx4 hy4 ⟨a, b, c, d, hx4, .rt hy4, fun s3 H5 g5 h3 => ?_⟩
    (try dsimp only [gName, tNext, List.set_cons_zero, List.set_cons_succ])
    have hx5 := hx4.grow g5
    have hy5 := hy4.grow g5
    refine st_seq ?_
    unfold tAug
    refine ⟨_, rfl, ?_⟩
    (refine evE ?P79 (fun Q h => ?h79) ?_; (case h79 => (simp only [tTest, tOp, tUn, tVar, tC, tCB, tCons, tNil, tAnd, tOr, tNot, tB, tTup, tLst, tIf, tAndV, tOrV, tNotV, tSl, tPart, tNoPart, tCall, iIx_ref, oGt_int, oMod_int, oFdiv_int, oAdd_int, oAdd_str, oSub_int, oMul_int, oLt_int, oGe_int, oLe_int, oPow_int, uNeg_int, oEq_int, oEq_str, oEq_bl, oNe_int, oNe_str, oNe_bl, cInt_int, cInt_bl, cAbs_int, cLen_ref, cList_ref, stL_ref, gName, gSub, gTup, gCons, gNil, rdSeq, List.getElem?_cons_zero, List.getElem?_cons_succ, List.set_cons_zero, List.set_cons_succ, List.cons_append, List.nil_append, Option.some.injEq, exists_eq_left', V.bl.injEq, V.int.injEq, V.ref.injEq, atI_0, atI_1, atI_2, setI_1, setI_2, Bool.not_true, Bool.not_false, Bool.false_eq_true, if_false, if_true]; exact h)); (try dsimp only [gName, tNext, List.set_cons_zero, List.set_cons_succ]))
    refine inp_own hx5 hy5 ⟨a, b, c, d, hx5, .rt hy5, fun s4 H6 g6 h4 => ?_⟩
    (try dsimp only [gName, tNext, List.set_cons_zero, List.set_cons_succ])
    have hx6 := hx5.grow g6
    have hy6 := hy5.grow g6
    have h3 := h3.grow g6
    refine st_seq (st_if ?_)
    (refine evT ?P80 (fun Q h => ?h80) ?_; (case h80 => (simp only [tTest, tOp, tUn, tVar, tC, tCB, tCons, tNil, tAnd, tOr, tNot, tB, tTup, tLst, tIf, tAndV, tOrV, tNotV, tSl, tPart, tNoPart, tCall, iIx_ref, oGt_int, oMod_int, oFdiv_int, oAdd_int, oAdd_str, oSub_int, oMul_int, oLt_int, oGe_int, oLe_int, oPow_int, uNeg_int, oEq_int, oEq_str, oEq_bl, oNe_int, oNe_str, oNe_bl, cInt_int, cInt_bl, cAbs_int, cLen_ref, cList_ref, stL_ref, gName, gSub, gTup, gCons, gNil, rdSeq, List.getElem?_cons_zero, List.getElem?_cons_succ, List.set_cons_zero, List.set_cons_succ, List.cons_append, List.nil_append, Option.some.injEq, exists_eq_left', V.bl.injEq, V.int.injEq, V.ref.injEq, atI_0, atI_1, atI_2, setI_1, setI_2, Bool.not_true, Bool.not_false, Bool.false_eq_true, if_false, if_true, onIns_int, onIns_str]; exact h)); (try dsimp only [gName, tNext, List.set_cons_zero, List.set_cons_succ]))
    refine bin_own hx6 (.rt hy6) ⟨a, b, c, d, hx6, .rt hy6, fun s5 H7 g7 h5 => ?_⟩
    have h3 := h3.grow g7
    refine ne_own h3 h5 ⟨_, _, h3, .inl ⟨_, _, h5, ?_⟩⟩
    simp only [tTest, tOp, tUn, tVar, tC, tCB, tCons, tNil, tAnd, tOr, tNot, tB, tTup, tLst, tIf, tAndV, tOrV, tNotV, tSl, tPart, tNoPart, tCall, iIx_ref, oGt_int, oMod_int, oFdiv_int, oAdd_int, oAdd_str, oSub_int, oMul_int, oLt_int, oGe_int, oLe_int, oPow_int, uNeg_int, oEq_int, oEq_str, oEq_bl, oNe_int, oNe_str, oNe_bl, cInt_int, cInt_bl, cAbs_int, cLen_ref, cList_ref, stL_ref, gName, gSub, gTup, gCons, gNil, rdSeq, List.getElem?_cons_zero, List.getElem?_cons_succ, List.set_cons_zero, List.set_cons_succ, List.cons_append, List.nil_append, Option.some.injEq, exists_eq_left', V.bl.injEq, V.int.injEq, V.ref.injEq, atI_0, atI_1, atI_2, setI_1, setI_2, Bool.not_true, Bool.not_false, Bool.false_eq_true, if_false, if_true, decide_true]
    have h4 := h4.grow g7
    have hx7 := hx6.grow g7
    have hy7 := hy6.grow g7
    refine bin_own hx7 (.rt hy7) ⟨a, b, c, d, hx7, .rt hy7, fun s6 H8 g8 h6 => ?_⟩
    have h4 := h4.grow g8
    refine ne_own h4 h6 ⟨_, _, h4, .inl ⟨_, _, h6, ?_⟩⟩
    simp only [tTest, tOp, tUn, tVar, tC, tCB, tCons, tNil, tAnd, tOr, tNot, tB, tTup, tLst, tIf, tAndV, tOrV, tNotV, tSl, tPart, tNoPart, tCall, iIx_ref, oGt_int, oMod_int, oFdiv_int, oAdd_int, oAdd_str, oSub_int, oMul_int, oLt_int, oGe_int, oLe_int, oPow_int, uNeg_int, oEq_int, oEq_str, oEq_bl, oNe_int, oNe_str, oNe_bl, cInt_int, cInt_bl, cAbs_int, cLen_ref, cList_ref, stL_ref, gName, gSub, gTup, gCons, gNil, rdSeq, List.getElem?_cons_zero, List.getElem?_cons_succ, List.set_cons_zero, List.set_cons_succ, List.cons_append, List.nil_append, Option.some.injEq, exists_eq_left', V.bl.injEq, V.int.injEq, V.ref.injEq, atI_0, atI_1, atI_2, setI_1, setI_2, Bool.not_true, Bool.not_false, Bool.false_eq_true, if_false, if_true, decide_true]
    have hx8 := hx7.grow g8
    have hy8 := hy7.grow g8
    refine sp_is hx8 rfl hx.pos hx.bp hx.bq fun H9 g9 => ?_
    simp only [tTest, tOp, tUn, tVar, tC, tCB, tCons, tNil, tAnd, tOr, tNot, tB, tTup, tLst, tIf, tAndV, tOrV, tNotV, tSl, tPart, tNoPart, tCall, iIx_ref, oGt_int, oMod_int, oFdiv_int, oAdd_int, oAdd_str, oSub_int, oMul_int, oLt_int, oGe_int, oLe_int, oPow_int, uNeg_int, oEq_int, oEq_str, oEq_bl, oNe_int, oNe_str, oNe_bl, cInt_int, cInt_bl, cAbs_int, cLen_ref, cList_ref, stL_ref, gName, gSub, gTup, gCons, gNil, rdSeq, List.getElem?_cons_zero, List.getElem?_cons_succ, List.set_cons_zero, List.set_cons_succ, List.cons_append, List.nil_append, Option.some.injEq, exists_eq_left', V.bl.injEq, V.int.injEq, V.ref.injEq, atI_0, atI_1, atI_2, setI_1, setI_2, Bool.not_true, Bool.not_false, Bool.false_eq_true, if_false, if_true]
    have hx9 := hx8.grow g9
    have hy9 := hy8.grow g9
    refine neg_own hx9 ⟨a, b, hx9, fun s7 H10 g10 h7 => ?_⟩
    refine sp_is h7 rfl hx.pos h7.bp h7.bq fun H11 g11 => ?_
    simp only [tTest, tOp, tUn, tVar, tC, tCB, tCons, tNil, tAnd, tOr, tNot, tB, tTup, tLst, tIf, tAndV, tOrV, tNotV, tSl, tPart, tNoPart, tCall, iIx_ref, oGt_int, oMod_int, oFdiv_int, oAdd_int, oAdd_str, oSub_int, oMul_int, oLt_int, oGe_int, oLe_int, oPow_int, uNeg_int, oEq_int, oEq_str, oEq_bl, oNe_int, oNe_str, oNe_bl, cInt_int, cInt_bl, cAbs_int, cLen_ref, cList_ref, stL_ref, gName, gSub, gTup, gCons, gNil, rdSeq, List.getElem?_cons_zero, List.getElem?_cons_succ, List.set_cons_zero, List.set_cons_succ, List.cons_append, List.nil_append, Option.some.injEq, exists_eq_left', V.bl.injEq, V.int.injEq, V.ref.injEq, atI_0, atI_1, atI_2, setI_1, setI_2, Bool.not_true, Bool.not_false, Bool.false_eq_true, if_false, if_true]
    have hx1 := (hx9.grow g10).grow g11
    have hy1 := (hy9.grow g10).grow g11
    have G11 := ((((g14.trans g5).trans (g6.trans g7)).trans (g8.trans g9))).trans (g10.trans g11)
    clear hx4 hy4 hx5 hy5 hx6 hy6 hx7 hy7 hx8 hy8 hx9 hy9 h3 h4 h5 h6 h7
    refine st_seq (st_asg ?_)
    (refine evE ?P81 (fun Q h => ?h81) ?_; (case h81 => (simp only [tTest, tOp, tUn, tVar, tC, tCB, tCons, tNil, tAnd, tOr, tNot, tB, tTup, tLst, tIf, tAndV, tOrV, tNotV, tSl, tPart, tNoPart, tCall, iIx_ref, oGt_int, oMod_int, oFdiv_int, oAdd_int, oAdd_str, oSub_int, oMul_int, oLt_int, oGe_int, oLe_int, oPow_int, uNeg_int, oEq_int, oEq_str, oEq_bl, oNe_int, oNe_str, oNe_bl, cInt_int, cInt_bl, cAbs_int, cLen_ref, cList_ref, stL_ref, gName, gSub, gTup, gCons, gNil, rdSeq, List.getElem?_cons_zero, List.getElem?_cons_succ, List.set_cons_zero, List.set_cons_succ, List.cons_append, List.nil_append, Option.some.injEq, exists_eq_left', V.bl.injEq, V.int.injEq, V.ref.injEq, atI_0, atI_1, atI_2, setI_1, setI_2, Bool.not_true, Bool.not_false, Bool.false_eq_true, if_false, if_true]; exact h)); (try dsimp only [gName, tNext, List.set_cons_zero, List.set_cons_succ]))
    refine cmp_own hx1 (hy1.ty F) ⟨a, b, c, d, hx1, .rt hy1, fun H12 g12 => ?_⟩
    have hx2 := hx1.grow g12
    have hy2 := hy1.grow g12
    refine cmp_own hx2 (hy2.ty F) ⟨a, b, c, d, hx2, .rt hy2, fun H13 g13 => ?_⟩
    have hx3 := hx2.grow g13
    have hy3 := hy2.grow g13
    refine cmp_own hx3 (hy3.ty F) ⟨a, b, c, d, hx3, .rt hy3, fun H14 g14 => ?_⟩
    have hx4 := hx3.grow g14
    have hy4 := hy3.grow g14
    refine cmp_own hx4 (hy4.ty F) ⟨a, b, c, d, hx4, .rt hy4, fun H15 g15 => ?_⟩
    have hx5 := hx4.grow g15
    have hy5 := hy4.grow g15
    refine cmp_own hx5 (hy5.ty F) ⟨a, b, hx5.up (by decide), .inl ⟨c, d, hy5.up (by decide), ?_⟩⟩
    refine ne_own hx5 hy5 ⟨a, b, hx5.up (by decide), .inl ⟨c, d, hy5.up (by decide), ?_⟩⟩
    refine ⟨by show 6 ≤ sizeLine; decide, fun r hr => ?_⟩
    (try dsimp only [gName, tNext, List.set_cons_zero, List.set_cons_succ])
    refine st_seq ?_
    unfold tPar
    (refine evA ?P82 (fun Q h => ?h82) ?_; (case h82 => (simp only [tTest, tOp, tUn, tVar, tC, tCB, tCons, tNil, tAnd, tOr, tNot, tB, tTup, tLst, tIf, tAndV, tOrV, tNotV, tSl, tPart, tNoPart, tCall, iIx_ref, oGt_int, oMod_int, oFdiv_int, oAdd_int, oAdd_str, oSub_int, oMul_int, oLt_int, oGe_int, oLe_int, oPow_int, uNeg_int, oEq_int, oEq_str, oEq_bl, oNe_int, oNe_str, oNe_bl, cInt_int, cInt_bl, cAbs_int, cLen_ref, cList_ref, stL_ref, gName, gSub, gTup, gCons, gNil, rdSeq, List.getElem?_cons_zero, List.getElem?_cons_succ, List.set_cons_zero, List.set_cons_succ, List.cons_append, List.nil_append, Option.some.injEq, exists_eq_left', V.bl.injEq, V.int.injEq, V.ref.injEq, atI_0, atI_1, atI_2, setI_1, setI_2, Bool.not_true, Bool.not_false, Bool.false_eq_true, if_false, if_true]; exact h)); (try dsimp only [gName, tNext, List.set_cons_zero, List.set_cons_succ]))
    refine ⟨m1, m2, _, _, rfl, ?_⟩
    (try dsimp only [gName, tNext, List.set_cons_zero, List.set_cons_succ])
    refine st_ret ?_
    (refine evE ?P83 (fun Q h => ?h83) ?_; (case h83 => (simp only [tTest, tOp, tUn, tVar, tC, tCB, tCons, tNil, tAnd, tOr, tNot, tB, tTup, tLst, tIf, tAndV, tOrV, tNotV, tSl, tPart, tNoPart, tCall, iIx_ref, oGt_int, oMod_int, oFdiv_int, oAdd_int, oAdd_str, oSub_int, oMul_int, oLt_int, oGe_int, oLe_int, oPow_int, uNeg_int, oEq_int, oEq_str, oEq_bl, oNe_int, oNe_str, oNe_bl, cInt_int, cInt_bl, cAbs_int, cLen_ref, cList_ref, stL_ref, gName, gSub, gTup, gCons, gNil, rdSeq, List.getElem?_cons_zero, List.getElem?_cons_succ, List.set_cons_zero, List.set_cons_succ, List.cons_append, List.nil_append, Option.some.injEq, exists_eq_left', V.bl.injEq, V.int.injEq, V.ref.injEq, atI_0, atI_1, atI_2, setI_1, setI_2, Bool.not_true, Bool.not_false, Bool.false_eq_true, if_false, if_true, onIns_int, onIns_str]; exact h)); (try dsimp only [gName, tNext, List.set_cons_zero, List.set_cons_succ]))
    generalize hl : [decide (a * d < c * b), decide (a * d ≤ c * b), decide (c * b < a * d), decide (c * b ≤ a * d), decide (a * d = c * b), !decide (a * d = c * b)] = bs
    have hr1 : bs.length = 6 := by rw [← hl]; rfl
    refine repr_bools (bs := bs) (by rw [upd_same, ← hl]; rfl) (by omega) ?_
    refine ⟨by show 6 ≤ sizeLine; decide, fun r2 hr2 => ?_⟩
    refine repr_bools (bs := bs) (by rw [upd_same, ← hl]; rfl) (by omega) ?_
    simp only [tTest, tOp, tUn, tVar, tC, tCB, tCons, tNil, tAnd, tOr, tNot, tB, tTup, tLst, tIf, tAndV, tOrV, tNotV, tSl, tPart, tNoPart, tCall, iIx_ref, oGt_int, oMod_int, oFdiv_int, oAdd_int, oAdd_str, oSub_int, oMul_int, oLt_int, oGe_int, oLe_int, oPow_int, uNeg_int, oEq_int, oEq_str, oEq_bl, oNe_int, oNe_str, oNe_bl, cInt_int, cInt_bl, cAbs_int, cLen_ref, cList_ref, stL_ref, gName, gSub, gTup, gCons, gNil, rdSeq, List.getElem?_cons_zero, List.getElem?_cons_succ, List.set_cons_zero, List.set_cons_succ, List.cons_append, List.nil_append, Option.some.injEq, exists_eq_left', V.bl.injEq, V.int.injEq, V.ref.injEq, atI_0, atI_1, atI_2, setI_1, setI_2, Bool.not_true, Bool.not_false, Bool.false_eq_true, if_false, if_true, onIns_str, decide_true]
    exact k _ (G11.trans ((((g12.trans g13).trans (g14.trans g15))).trans ((Grow.new hr).trans (Grow.new hr2))))
  · exact h.elim
end HG

namespace HG
open PySem L2
def sp_law_whole_right (K : PySem.W.Frag) (A : Ad) : Sp := fun vs H Q _ => match vs with
  | [.ref x, .int a, .int b, .int i] => Rt 300 A H x a b ∧ Bn 300 i ∧ ∀ H', Grow H H' → Q (.bl true) H'
  | _ => False
def t_law_whole_right_1 (K : PySem.W.Frag) (A : Ad) : TS := (tRet (tC (.bl false)))
def t_law_whole_right_3 (K : PySem.W.Frag) (A : Ad) : TS := (tRet (tC (.bl false)))
def t_law_whole_right_5 (K : PySem.W.Frag) (A : Ad) : TS := (tRet (tOp (onIns (rCmp K A.c_Rate (sp_Rate_eq K A)) (oEq K)) (tCB (cRepr K) (tCons (tVar 4) tNil)) (tCB (cRepr K) (tCons (tLst (tCons (tOp (onIns (rCmp K A.c_Rate (sp_Rate_lt K A)) oLt) (tVar 1) (tOp (onIns (rBinL A.c_Rate (sp_Rate_mul K A)) oMul) (tVar 3) (tVar 2))) (tCons (tOp (onIns (rCmp K A.c_Rate (sp_Rate_le K A)) oLe) (tVar 1) (tOp (onIns (rBinL A.c_Rate (sp_Rate_mul K A)) oMul) (tVar 3) (tVar 2))) (tCons (tOp (onIns (rCmp K A.c_Rate (sp_Rate_gt K A)) oGt) (tVar 1) (tOp (onIns (rBinL A.c_Rate (sp_Rate_mul K A)) oMul) (tVar 3) (tVar 2))) (tCons (tOp (onIns (rCmp K A.c_Rate (sp_Rate_ge K A)) oGe) (tVar 1) (tOp (onIns (rBinL A.c_Rate (sp_Rate_mul K A)) oMul) (tVar 3) (tVar 2))) (tCons (tOp (onIns (rCmp K A.c_Rate (sp_Rate_eq K A)) (oEq K)) (tVar 1) (tOp (onIns (rBinL A.c_Rate (sp_Rate_mul K A)) oMul) (tVar 3) (tVar 2))) tNil)))))) tNil))))
def t_law_whole_right_4 (K : PySem.W.Frag) (A : Ad) : TS := (tSeq (tAsg (tLst (tCons (tOp (onIns (rCmp K A.c_Rate (sp_Rate_lt K A)) oLt) (tVar 0) (tVar 3)) (tCons (tOp (onIns (rCmp K A.c_Rate (sp_Rate_le K A)) oLe) (tVar 0) (tVar 3)) (tCons (tOp (onIns (rCmp K A.c_Rate (sp_Rate_gt K A)) oGt) (tVar 0) (tVar 3)) (tCons (tOp (onIns (rCmp K A.c_Rate (sp_Rate_ge K A)) oGe) (tVar 0) (tVar 3)) (tCons (tOp (onIns (rCmp K A.c_Rate (sp_Rate_eq K A)) (oEq K)) (tVar 0) (tVar 3)) tNil)))))) (gName 4)) (t_law_whole_right_5 K A))
def t_law_whole_right_2 (K : PySem.W.Frag) (A : Ad) : TS := (tSeq (tIfS (tOr (tNot (tB (tCall (sp_law_is K A) [] E0 (tCons (tOp (onIns (rBinL A.c_Rate (sp_Rate_sub K A)) (onInsR (rBinR A.c_Rate (sp_Rate_rsub K A)) oSub)) (tVar 0) (tVar 3)) (tCons (tOp (onIns (rBinL A.c_Rate (sp_Rate_sub K A)) (onInsR (rBinR A.c_Rate (sp_Rate_rsub K A)) oSub)) (tVar 1) (tOp (onIns (rBinL A.c_Rate (sp_Rate_mul K A)) oMul) (tVar 3) (tVar 2))) (tCons (tVar 2) tNil)))))) (tNot (tB (tCall (sp_law_is K A) [] E0 (tCons (tOp (onIns (rBinL A.c_Rate (sp_Rate_sub K A)) (onInsR (rBinR A.c_Rate (sp_Rate_rsub K A)) oSub)) (tVar 3) (tVar 0)) (tCons (tOp (onIns (rBinL A.c_Rate (sp_Rate_sub K A)) (onInsR (rBinR A.c_Rate (sp_Rate_rsub K A)) oSub)) (tOp (onIns (rBinL A.c_Rate (sp_Rate_mul K A)) oMul) (tVar 3) (tVar 2)) (tVar 1)) (tCons (tVar 2) tNil))))))) (t_law_whole_right_3 K A) tNext) (t_law_whole_right_4 K A))
def t_law_whole_right_0 (K : PySem.W.Frag) (A : Ad) : TS := (tSeq (tIfS (tOr (tNot (tB (tCall (sp_law_is K A) [] E0 (tCons (tOp (onIns (rBinL A.c_Rate (sp_Rate_add K A)) (onInsR (rBinR A.c_Rate (sp_Rate_radd K A)) oAdd)) (tVar 0) (tVar 3)) (tCons (tOp (onIns (rBinL A.c_Rate (sp_Rate_add K A)) (onInsR (rBinR A.c_Rate (sp_Rate_radd K A)) oAdd)) (tVar 1) (tOp (onIns (rBinL A.c_Rate (sp_Rate_mul K A)) oMul) (tVar 3) (tVar 2))) (tCons (tVar 2) tNil)))))) (tOr (tNot (tB (tCall (sp_law_is K A) [] E0 (tCons (tOp (onIns (rBinL A.c_Rate (sp_Rate_add K A)) (onInsR (rBinR A.c_Rate (sp_Rate_radd K A)) oAdd)) (tVar 3) (tVar 0)) (tCons (tOp (onIns (rBinL A.c_Rate (sp_Rate_add K A)) (onInsR (rBinR A.c_Rate (sp_Rate_radd K A)) oAdd)) (tVar 1) (tOp (onIns (rBinL A.c_Rate (sp_Rate_mul K A)) oMul) (tVar 3) (tVar 2))) (tCons (tVar 2) tNil)))))) (tNot (tB (tCall (sp_law_is K A) [] E0 (tCons (tOp (onIns (rBinL A.c_Rate (sp_Rate_mul K A)) oMul) (tVar 0) (tVar 3)) (tCons (tOp (onIns (rBinL A.c_Rate (sp_Rate_mul K A)) oMul) (tVar 1) (tVar 3)) (tCons (tVar 2) tNil)))))))) (t_law_whole_right_1 K A) tNext) (t_law_whole_right_2 K A))

theorem binR0 {A : Ad} {H : Hp} {Q : VK} {m : Nat} {a : Addr} {p q i : Int} {sp : Sp} {o : R2} (h : Rt m A H a p q) (k : sp [.ref a, .int i] H Q E0) : onInsR (rBinR A.c_Rate sp) o (.int i) (.ref a) H Q := by
  have z := h.ins
  obtain ⟨dx, e⟩ := h.at_
  rw [onInsR_yes e]
  exact ⟨⟨i, rfl⟩, z, k⟩
theorem pure_law_whole_right {K : PySem.W.Frag} {A : Ad} {vs : List V} {H : Hp} {Q : VK} {E : XK} (F : KF K A) (h : sp_law_whole_right K A vs H Q E) : (t_law_whole_right_0 K A) { nx := fun _ H' => Q .non H', rt := Q } (start ["_law_one", "_law_a", "_law_b", "_law_k", "_law_told"] vs) H := by
  unfold sp_law_whole_right at h
  split at h
  · rename_i x a b i
    obtain ⟨hx, bi, k⟩ := h
    show (t_law_whole_right_0 K A) _ [some (.ref x), some (.int a), some (.int b), some (.int i), none] H
    have m1 : IntMulOk i b := bi.mulok hx.bq
    have m2 : IntMulOk a i := hx.bp.mulok bi
    have b1 : Bn 601 (a + i * b) := (hx.bp.up (by decide : 300 ≤ 600)).add (bi.mul hx.bq)
    have b2 : Bn 601 (a - i * b) := (hx.bp.up (by decide : 300 ≤ 600)).sub (bi.mul hx.bq)
    have b3 : Bn 601 (i * b - a) := (bi.mul hx.bq).sub (hx.bp.up (by decide : 300 ≤ 600))
    have b4 : Bn 601 (a * i) := (hx.bp.mul bi).up (by decide)
    have b5 : Bn 601 b := hx.bq.up (by decide)
    have e2 : a * 1 + (0 - i) * b = a - i * b := by rw [Int.sub_mul, Int.zero_mul, Int.mul_one]; omega
    have e3 : i * b + (0 - a) * 1 = i * b - a := by rw [Int.mul_one]; omega
    have nk : ∀ H', Nm A H' (.int i) i 1 := fun H' => .int bi
    refine st_seq (st_if ?_)
    (refine evT ?P84 (fun Q h => ?h84) ?_; (case h84 => (simp only [tTest, tOp, tUn, tVar, tC, tCB, tCons, tNil, tAnd, tOr, tNot, tB, tTup, tLst, tIf, tAndV, tOrV, tNotV, tSl, tPart, tNoPart, tCall, iIx_ref, oGt_int, oMod_int, oFdiv_int, oAdd_int, oAdd_str, oSub_int, oMul_int, oLt_int, oGe_int, oLe_int, oPow_int, uNeg_int, oEq_int, oEq_str, oEq_bl, oNe_int, oNe_str, oNe_bl, cInt_int, cInt_bl, cAbs_int, cLen_ref, cList_ref, stL_ref, gName, gSub, gTup, gCons, gNil, rdSeq, List.getElem?_cons_zero, List.getElem?_cons_succ, List.set_cons_zero, List.set_cons_succ, List.cons_append, List.nil_append, Option.some.injEq, exists_eq_left', V.bl.injEq, V.int.injEq, V.ref.injEq, atI_0, atI_1, atI_2, setI_1, setI_2, Bool.not_true, Bool.not_false, Bool.false_eq_true, if_false, if_true, onIns_int, onInsR_int, onIns_str]; exact h)); (try dsimp only [gName, tNext, List.set_cons_zero, List.set_cons_succ]))
    refine bin_own hx (nk _) ⟨a, b, i, 1, hx, nk _, fun s1 H1 g1 h1 => ?_⟩
    refine ⟨m1, sp_is h1 (by show (a * 1 + i * b) * b = (a + i * b) * (b * 1); rw [Int.mul_one, Int.mul_one]) hx.pos b1 b5 fun H2 g2 => ?_⟩
    simp only [tTest, tOp, tUn, tVar, tC, tCB, tCons, tNil, tAnd, tOr, tNot, tB, tTup, tLst, tIf, tAndV, tOrV, tNotV, tSl, tPart, tNoPart, tCall, iIx_ref, oGt_int, oMod_int, oFdiv_int, oAdd_int, oAdd_str, oSub_int, oMul_int, oLt_int, oGe_int, oLe_int, oPow_int, uNeg_int, oEq_int, oEq_str, oEq_bl, oNe_int, oNe_str, oNe_bl, cInt_int, cInt_bl, cAbs_int, cLen_ref, cList_ref, stL_ref, gName, gSub, gTup, gCons, gNil, rdSeq, List.getElem?_cons_zero, List.getElem?_cons_succ, List.set_cons_zero, List.set_cons_succ, List.cons_append, List.nil_append, Option.some.injEq, exists_eq_left', V.bl.injEq, V.int.injEq, V.ref.injEq, atI_0, atI_1, atI_2, setI_1, setI_2, Bool.not_true, Bool.not_false, Bool.false_eq_true, if_false, if_true]
    have hx2 := hx.grow (g1.trans g2)
    refine binR0 hx2 ⟨a, b, i, 1, hx2, nk _, fun s2 H3 g3 h2 => ?_⟩
    refine ⟨m1, sp_is h2 (by show (i * b + a * 1) * b = (a + i * b) * (1 * b); rw [Int.mul_one, Int.one_mul, Int.add_comm]) hx.pos b1 b5 fun H4 g4 => ?_⟩
    simp only [tTest, tOp, tUn, tVar, tC, tCB, tCons, tNil, tAnd, tOr, tNot, tB, tTup, tLst, tIf, tAndV, tOrV, tNotV, tSl, tPart, tNoPart, tCall, iIx_ref, oGt_int, oMod_int, oFdiv_int, oAdd_int, oAdd_str, oSub_int, oMul_int, oLt_int, oGe_int, oLe_int, oPow_int, uNeg_int, oEq_int, oEq_str, oEq_bl, oNe_int, oNe_str, oNe_bl, cInt_int, cInt_bl, cAbs_int, cLen_ref, cList_ref, stL_ref, gName, gSub, gTup, gCons, gNil, rdSeq, List.getElem?_cons_zero, List.getElem?_cons_succ, List.set_cons_zero, List.set_cons_succ, List.cons_append, List.nil_append, Option.some.injEq, exists_eq_left', V.bl.injEq, V.int.injEq, V.ref.injEq, atI_0, atI_1, atI_2, setI_1, setI_2, Bool.not_true, Bool.not_false, Bool.false_eq_true, if_false, if_true]
    have hx4 := hx2.grow (g3.trans g4)
    refine bin_own hx4 (nk _) ⟨a, b, hx4, bi, fun s3 H5 g5 h3 => ?_⟩
    refine ⟨m2, sp_is h3 rfl hx.pos b4 b5 fun H6 g6 => ?_⟩
    simp only [tTest, tOp, tUn, tVar, tC, tCB, tCons, tNil, tAnd, tOr, tNot, tB, tTup, tLst, tIf, tAndV, tOrV, tNotV, tSl, tPart, tNoPart, tCall, iIx_ref, oGt_int, oMod_int, oFdiv_int, oAdd_int, oAdd_str, oSub_int, oMul_int, oLt_int, oGe_int, oLe_int, oPow_int, uNeg_int, oEq_int, oEq_str, oEq_bl, oNe_int, oNe_str, oNe_bl, cInt_int, cInt_bl, cAbs_int, cLen_ref, cList_ref, stL_ref, gName, gSub, gTup, gCons, gNil, rdSeq, List.getElem?_cons_zero, List.getElem?_cons_succ, List.set_cons_zero, List.set_cons_succ, List.cons_append, List.nil_append, Option.some.injEq, exists_eq_left', V.bl.injEq, V.int.injEq, V.ref.injEq, atI_0, atI_1, atI_2, setI_1, setI_2, Bool.not_true, Bool.not_false, Bool.false_eq_true, if_false, if_true]
    have hx6 := hx4.grow (g5.trans g6)
    refine st_seq (st_if ?_)
    (refine evT ?P85 (fun Q h => ?h85) ?_; (case h85 => (simp only [tTest, tOp, tUn, tVar, tC, tCB, tCons, tNil, tAnd, tOr, tNot, tB, tTup, tLst, tIf, tAndV, tOrV, tNotV, tSl, tPart, tNoPart, tCall, iIx_ref, oGt_int, oMod_int, oFdiv_int, oAdd_int, oAdd_str, oSub_int, oMul_int, oLt_int, oGe_int, oLe_int, oPow_int, uNeg_int, oEq_int, oEq_str, oEq_bl, oNe_int, oNe_str, oNe_bl, cInt_int, cInt_bl, cAbs_int, cLen_ref, cList_ref, stL_ref, gName, gSub, gTup, gCons, gNil, rdSeq, List.getElem?_cons_zero, List.getElem?_cons_succ, List.set_cons_zero, List.set_cons_succ, List.cons_append, List.nil_append, Option.some.injEq, exists_eq_left', V.bl.injEq, V.int.injEq, V.ref.injEq, atI_0, atI_1, atI_2, setI_1, setI_2, Bool.not_true, Bool.not_false, Bool.false_eq_true, if_false, if_true, onIns_int, onInsR_int, onIns_str]; exact h)); (try dsimp only [gName, tNext, List.set_cons_zero, List.set_cons_succ]))
    refine bin_own hx6 (nk _) ⟨a, b, i, 1, hx6, nk _, fun s4 H7 g7 h4 => ?_⟩
    refine ⟨m1, sp_is h4 (by show (a * 1 + (0 - i) * b) * b = (a - i * b) * (b * 1); rw [e2, Int.mul_one]) hx.pos b2 b5 fun H8 g8 => ?_⟩
    simp only [tTest, tOp, tUn, tVar, tC, tCB, tCons, tNil, tAnd, tOr, tNot, tB, tTup, tLst, tIf, tAndV, tOrV, tNotV, tSl, tPart, tNoPart, tCall, iIx_ref, oGt_int, oMod_int, oFdiv_int, oAdd_int, oAdd_str, oSub_int, oMul_int, oLt_int, oGe_int, oLe_int, oPow_int, uNeg_int, oEq_int, oEq_str, oEq_bl, oNe_int, oNe_str, oNe_bl, cInt_int, cInt_bl, cAbs_int, cLen_ref, cList_ref, stL_ref, gName, gSub, gTup, gCons, gNil, rdSeq, List.getElem?_cons_zero, List.getElem?_cons_succ, List.set_cons_zero, List.set_cons_succ, List.cons_append, List.nil_append, Option.some.injEq, exists_eq_left', V.bl.injEq, V.int.injEq, V.ref.injEq, atI_0, atI_1, atI_2, setI_1, setI_2, Bool.not_true, Bool.not_false, Bool.false_eq_true, if_false, if_true]
    have hx8 := hx6.grow (g7.trans g8)
    refine binR0 hx8 ⟨a, b, i, 1, hx8, nk _, fun s5 H9 g9 h5 => ?_⟩
    refine ⟨m1, sp_is h5 (by show (i * b + (0 - a) * 1) * b = (i * b - a) * (1 * b); rw [e3, Int.one_mul]) hx.pos b3 b5 fun H10 g10 => ?_⟩
    simp only [tTest, tOp, tUn, tVar, tC, tCB, tCons, tNil, tAnd, tOr, tNot, tB, tTup, tLst, tIf, tAndV, tOrV, tNotV, tSl, tPart, tNoPart, tCall, iIx_ref, oGt_int, oMod_int, oFdiv_int, oAdd_int, oAdd_str, oSub_int, oMul_int, oLt_int, oGe_int, oLe_int, oPow_int, uNeg_int, oEq_int, oEq_str, oEq_bl, oNe_int, oNe_str, oNe_bl, cInt_int, cInt_bl, cAbs_int, cLen_ref, cList_ref, stL_ref, gName, gSub, gTup, gCons, gNil, rdSeq, List.getElem?_cons_zero, List.getElem?_cons_succ, List.set_cons_zero, List.set_cons_succ, List.cons_append, List.nil_append, Option.some.injEq, exists_eq_left', V.bl.injEq, V.int.injEq, V.ref.injEq, atI_0, atI_1, atI_2, setI_1, setI_2, Bool.not_true, Bool.not_false, Bool.false_eq_true, if_false, if_true]
    have hx1 := hx8.grow (g9.trans g10)
    have G := ((g1.trans g2).trans (g3.trans g4)).trans (((g5.trans g6).trans (g7.trans g8)).trans (g9.trans g10))
    refine st_seq (st_asg ?_)
    (refine evE ?P86 (fun Q h => ?h86) ?_; (case h86 => (simp only [tTest, tOp, tUn, tVar, tC, tCB, tCons, tNil, tAnd, tOr, tNot, tB, tTup, tLst, tIf, tAndV, tOrV, tNotV, tSl, tPart, tNoPart, tCall, iIx_ref, oGt_int, oMod_int, oFdiv_int, oAdd_int, oAdd_str, oSub_int, oMul_int, oLt_int, oGe_int, oLe_int, oPow_int, uNeg_int, oEq_int, oEq_str, oEq_bl, oNe_int, oNe_str, oNe_bl, cInt_int, cInt_bl, cAbs_int, cLen_ref, cList_ref, stL_ref, gName, gSub, gTup, gCons, gNil, rdSeq, List.getElem?_cons_zero, List.getElem?_cons_succ, List.set_cons_zero, List.set_cons_succ, List.cons_append, List.nil_append, Option.some.injEq, exists_eq_left', V.bl.injEq, V.int.injEq, V.ref.injEq, atI_0, atI_1, atI_2, setI_1, setI_2, Bool.not_true, Bool.not_false, Bool.false_eq_true, if_false, if_true]; exact h)); (try dsimp only [gName, tNext, List.set_cons_zero, List.set_cons_succ]))
    refine cmp_own hx1 (.int F) ⟨a, b, i, 1, hx1, nk _, fun H12 g12 => ?_⟩
    have hx2 := hx1.grow g12
    refine cmp_own hx2 (.int F) ⟨a, b, i, 1, hx2, nk _, fun H13 g13 => ?_⟩
    have hx3 := hx2.grow g13
    refine cmp_own hx3 (.int F) ⟨a, b, i, 1, hx3, nk _, fun H14 g14 => ?_⟩
    have hx4 := hx3.grow g14
    refine cmp_own hx4 (.int F) ⟨a, b, i, 1, hx4, nk _, fun H15 g15 => ?_⟩
    have hx5 := hx4.grow g15
    refine cmp_own hx5 (.int F) ⟨a, b, hx5.up (by decide), ?_⟩
    refine ⟨by show 5 ≤ sizeLine; decide, fun r hr => ?_⟩
    (try dsimp only [gName, tNext, List.set_cons_zero, List.set_cons_succ])
    refine st_ret ?_
    (refine evE ?P87 (fun Q h => ?h87) ?_; (case h87 => (simp only [tTest, tOp, tUn, tVar, tC, tCB, tCons, tNil, tAnd, tOr, tNot, tB, tTup, tLst, tIf, tAndV, tOrV, tNotV, tSl, tPart, tNoPart, tCall, iIx_ref, oGt_int, oMod_int, oFdiv_int, oAdd_int, oAdd_str, oSub_int, oMul_int, oLt_int, oGe_int, oLe_int, oPow_int, uNeg_int, oEq_int, oEq_str, oEq_bl, oNe_int, oNe_str, oNe_bl, cInt_int, cInt_bl, cAbs_int, cLen_ref, cList_ref, stL_ref, gName, gSub, gTup, gCons, gNil, rdSeq, List.getElem?_cons_zero, List.getElem?_cons_succ, List.set_cons_zero, List.set_cons_succ, List.cons_append, List.nil_append, Option.some.injEq, exists_eq_left', V.bl.injEq, V.int.injEq, V.ref.injEq, atI_0, atI_1, atI_2, setI_1, setI_2, Bool.not_true, Bool.not_false, Bool.false_eq_true, if_false, if_true, onIns_int, onIns_str]; exact h)); (try dsimp only [gName, tNext, List.set_cons_zero, List.set_cons_succ]))
    generalize hl : [decide (a * 1 < i * b), decide (a * 1 ≤ i * b), decide (i * b < a * 1), decide (i * b ≤ a * 1), decide (a * 1 = i * b)] = bs
    have hr1 : bs.length = 5 := by rw [← hl]; rfl
    refine repr_bools (bs := bs) (by rw [upd_same, ← hl]; rfl) (by omega) ?_
    refine ⟨m1, m1, m1, m1, m1, by show 5 ≤ sizeLine; decide, fun r2 hr2 => ?_⟩
    simp only [Int.mul_one] at hl
    refine repr_bools (bs := bs) (by rw [upd_same, ← hl]; rfl) (by omega) ?_
    simp only [tTest, tOp, tUn, tVar, tC, tCB, tCons, tNil, tAnd, tOr, tNot, tB, tTup, tLst, tIf, tAndV, tOrV, tNotV, tSl, tPart, tNoPart, tCall, iIx_ref, oGt_int, oMod_int, oFdiv_int, oAdd_int, oAdd_str, oSub_int, oMul_int, oLt_int, oGe_int, oLe_int, oPow_int, uNeg_int, oEq_int, oEq_str, oEq_bl, oNe_int, oNe_str, oNe_bl, cInt_int, cInt_bl, cAbs_int, cLen_ref, cList_ref, stL_ref, gName, gSub, gTup, gCons, gNil, rdSeq, List.getElem?_cons_zero, List.getElem?_cons_succ, List.set_cons_zero, List.set_cons_succ, List.cons_append, List.nil_append, Option.some.injEq, exists_eq_left', V.bl.injEq, V.int.injEq, V.ref.injEq, atI_0, atI_1, atI_2, setI_1, setI_2, Bool.not_true, Bool.not_false, Bool.false_eq_true, if_false, if_true, onIns_str, decide_true]
    exact k _ (G.trans ((((g12.trans g13).trans (g14.trans g15))).trans ((Grow.new hr).trans (Grow.new hr2))))
  · exact h.elim
end HG

namespace HG
open PySem L2
def kw_Rate_lower_upper : List V → List V → List V := fun vs zs => vs ++ (zs.drop 1 ++ zs.take 1)
def sp_law (K : PySem.W.Frag) (A : Ad) : Sp := spLaw K
def t_law_7 (K : PySem.W.Frag) (A : Ad) : TS := (tRet (tC (.bl false)))
def t_law_9 (K : PySem.W.Frag) (A : Ad) : TS := (tRet (tC (.bl false)))
def t_law_11 (K : PySem.W.Frag) (A : Ad) : TS := (tRet (tC (.bl false)))
def t_law_13 (K : PySem.W.Frag) (A : Ad) : TS := (tRet (tC (.bl false)))
def t_law_15 (K : PySem.W.Frag) (A : Ad) : TS := (tRet (tC (.bl false)))
def t_law_14 (K : PySem.W.Frag) (A : Ad) : TS := (tIfS (tTest (tOp (onIns (rNeO A.c_Rate (sp_Rate_eq K A)) (oNe K)) (tLc (iList K (tLst (tCons (tC .non) (tCons (tC (.str "1")) (tCons (tTup (tCons (tC (.int 1)) (tCons (tC (.int 1)) tNil))) (tCons (tLst tNil) (tCons tDNewK (tCons (tC (.bl true)) tNil)))))))) (gName 11) (tTest (tOp (onIns (rCmp K A.c_Rate (sp_Rate_eq K A)) (oEq K)) (tMake A.c_Rate (sp_Rate_init K A) [.int 1] E0 (tCons (tC (.int 1)) tNil)) (tVar 11))) (tVar 11) [11]) (tLst tNil))) (t_law_15 K A) tNext)
def t_law_12 (K : PySem.W.Frag) (A : Ad) : TS := (tSeq (tIfS (tTest (tOp (onIns (rNeO A.c_Rate (sp_Rate_eq K A)) (oNe K)) (tCB (cRepr K) (tCons (tProp A.c_Rate (sp_Rate_floor K A) [] E0 (tVar 9)) tNil)) (tCB (cRepr K) (tCons (tOp oFdiv (tVar 3) (tVar 4)) tNil)))) (t_law_13 K A) tNext) (t_law_14 K A))
def t_law_10 (K : PySem.W.Frag) (A : Ad) : TS := (tSeq (tIfS (tOr (tNot (tB (tCall (sp_law_whole_right K A) [] E0 (tCons (tVar 9) (tCons (tVar 3) (tCons (tVar 4) (tCons (tVar 7) tNil))))))) (tNot (tB (tCall (sp_law_whole_right K A) [] E0 (tCons (tMake A.c_Rate (sp_Rate_init K A) [] E0 (tCons (tOp oMul (tVar 8) (tVar 7)) (tCons (tVar 8) tNil))) (tCons (tVar 7) (tCons (tC (.int 1)) (tCons (tVar 7) tNil)))))))) (t_law_11 K A) tNext) (t_law_12 K A))
def t_law_8 (K : PySem.W.Frag) (A : Ad) : TS := (tSeq (tIfS (tOr (tNot (tB (tCall (sp_law_sums_right K A) [] E0 (tCons (tVar 9) (tCons (tVar 10) (tCons (tVar 3) (tCons (tVar 4) (tCons (tVar 5) (tCons (tVar 6) tNil))))))))) (tNot (tB (tCall (sp_law_sums_right K A) [] E0 (tCons (tVar 9) (tCons (tVar 9) (tCons (tVar 3) (tCons (tVar 4) (tCons (tVar 3) (tCons (tVar 4) tNil)))))))))) (t_law_9 K A) tNext) (t_law_10 K A))
def t_law_6 (K : PySem.W.Frag) (A : Ad) : TS := (tSeq (tIfS (tOr (tNot (tB (tCall (sp_law_is K A) [] E0 (tCons (tVar 9) (tCons (tVar 3) (tCons (tVar 4) tNil)))))) (tOr (tTest (tOp (onIns (rNeO A.c_Rate (sp_Rate_eq K A)) (oNe K)) (tMake A.c_Rate (sp_Rate_init K A) [] E0 (tCons (tOp oMul (tVar 8) (tVar 3)) (tCons (tOp oMul (tVar 8) (tVar 4)) tNil))) (tVar 9))) (tNot (tB (tCall (sp_law_is K A) [] E0 (tCons (tMake A.c_Rate (sp_Rate_init K A) [.int 1] E0 (tCons (tVar 7) tNil)) (tCons (tVar 7) (tCons (tC (.int 1)) tNil)))))))) (t_law_7 K A) tNext) (t_law_8 K A))
def t_law_5 (K : PySem.W.Frag) (A : Ad) : TS := (tSeq (tPar 9 10 (tCons (tMake A.c_Rate (sp_Rate_init K A) [] E0 (tCons (tVar 3) (tCons (tVar 4) tNil))) (tCons (tMakeK A.c_Rate 0 2 (sp_Rate_init K A) kw_Rate_lower_upper E0 tNil (tCons (tVar 6) (tCons (tVar 5) tNil))) tNil))) (t_law_6 K A))
def t_law_4 (K : PySem.W.Frag) (A : Ad) : TS := (tSeq (tPar 7 8 (tCons (tCall (sp_law_number K A) [] E0 (tCons (tVar 1) tNil)) (tCons (tOp oAdd (tC (.int 1)) (tCall (sp_law_draw K A) [] E0 (tCons (tVar 1) (tCons (tC (.int 9)) tNil)))) tNil))) (t_law_5 K A))
def t_law_3 (K : PySem.W.Frag) (A : Ad) : TS := (tSeq (tPar 5 6 (tCons (tCall (sp_law_number K A) [] E0 (tCons (tVar 1) tNil)) (tCons (tOp oAdd (tC (.int 1)) (tCall (sp_law_draw K A) [] E0 (tCons (tVar 1) (tCons (tCall (sp_law_pick K A) [] E0 (tCons (tVar 1) (tCons (tLst (tCons (tC (.int 1)) (tCons (tC (.int 6)) (tCons (tC (.int 60)) (tCons (tOp oPow (tC (.int 10)) (tC (.int 20))) tNil))))) tNil))) tNil)))) tNil))) (t_law_4 K A))
def t_law_2 (K : PySem.W.Frag) (A : Ad) : TS := (tSeq (tPar 3 4 (tCons (tCall (sp_law_number K A) [] E0 (tCons (tVar 1) tNil)) (tCons (tOp oAdd (tC (.int 1)) (tCall (sp_law_draw K A) [] E0 (tCons (tVar 1) (tCons (tCall (sp_law_pick K A) [] E0 (tCons (tVar 1) (tCons (tLst (tCons (tC (.int 1)) (tCons (tC (.int 6)) (tCons (tC (.int 60)) (tCons (tOp oPow (tC (.int 10)) (tC (.int 20))) tNil))))) tNil))) tNil)))) tNil))) (t_law_3 K A))
def t_law_16 (K : PySem.W.Frag) (A : Ad) : TS := (tRet (tAndV (tOp (onIns (rCmp K A.c_Rate (sp_Rate_eq K A)) (oEq K)) (tProp A.c_Rate (sp_Rate_floor K A) [] E0 (tMake A.c_Rate (sp_Rate_init K A) [] E0 (tCons (tUn uNeg (tC (.int 7))) (tCons (tC (.int 2)) tNil)))) (tUn uNeg (tC (.int 4)))) (tAndV (tOp (onIns (rCmp K A.c_Rate (sp_Rate_eq K A)) (oEq K)) (tFld K (tMake A.c_Rate (sp_Rate_init K A) [] E0 (tCons (tC (.int 6)) (tCons (tC (.int 4)) tNil))) "upper") (tC (.int 3))) (tOp (onIns (rCmp K A.c_Rate (sp_Rate_eq K A)) (oEq K)) (tFld K (tMake A.c_Rate (sp_Rate_init K A) [] E0 (tCons (tC (.int 0)) (tCons (tC (.int 5)) tNil))) "lower") (tC (.int 1))))))
def t_law_1 (K : PySem.W.Frag) (A : Ad) : TS := (tSeq (tFor (iRng1 (tCons (tC (.int 8)) tNil)) (gName 2)
    (t_law_2 K A)) (t_law_16 K A))
def t_law_0 (K : PySem.W.Frag) (A : Ad) : TS := (tSeq (tAsg (tCall (sp_law_pen K A) [] E0 (tCons (tVar 0) tNil)) (gName 1)) (t_law_1 K A))

theorem mkR {K : PySem.W.Frag} {A : Ad} {m : Nat} {u l : Int} {f : V → List V} {H : Hp} {Q : VK} (hl : 0 < l) (bu : Bn m u) (bl : Bn m l) (k : ∀ c H', Grow H H' → Rt m A H' c u l → Q (.ref c) H') (hf : ∀ r, f r = [r, .int u, .int l] := by exact fun _ => rfl) (hm : m ≤ 700 := by decide) : MKf A.c_Rate (sp_Rate_init K A) E0 f H Q := by
  intro x dx hx hd hn
  rw [hf]
  exact mk_rt hl bu bl hm k hx hd hn
theorem prR {A : Ad} {m : Nat} {a : Addr} {p q : Int} {sp : Sp} {H : Hp} {Q : VK} (h : Rt m A H a p q) (k : sp [.ref a] H Q E0) : PRf A.c_Rate sp [] E0 (.ref a) H Q := by
  obtain ⟨dx, e⟩ := h.at_
  exact ⟨a, dx, _, rfl, e, k⟩
theorem eqOdd {K : PySem.W.Frag} {A : Ad} {a : Addr} {p q : Int} {y : V} {H : Hp} {Q : VK} {E : XK} (h : Rt 700 A H a p q) (ho : oddV H y) (k : Q (.bl false) H) : sp_Rate_eq K A [.ref a, y] H Q E := by
  cases y with
  | ref b => exact ⟨p, q, h, .inr ⟨ho, k⟩⟩
  | int i => exact ho.elim
  | _ => exact ⟨p, q, h, ho, k⟩
theorem small_of {x : V} (h : x ∈ [V.int 1, V.int 6, V.int 60, V.int (10 ^ Int.toNat 20)]) : ∃ m : Int, x = .int m ∧ 0 < m ∧ m ≤ 10 ^ 20 := by
  simp only [List.mem_cons, List.not_mem_nil, or_false] at h
  rcases h with rfl | rfl | rfl | rfl
  · exact ⟨_, rfl, by decide, by decide⟩
  · exact ⟨_, rfl, by decide, by decide⟩
  · exact ⟨_, rfl, by decide, by decide⟩
  · exact ⟨_, rfl, by decide, by decide⟩
theorem list12 {α : Type} {l : List α} (h : l.length = 12) : ∃ a0 a1 a2 a3 a4 a5 a6 a7 a8 a9 a10 a11, l = [a0, a1, a2, a3, a4, a5, a6, a7, a8, a9, a10, a11] := by
  match l, h with
  | [a0, a1, a2, a3, a4, a5, a6, a7, a8, a9, a10, a11], _ => exact ⟨_, _, _, _, _, _, _, _, _, _, _, _, rfl⟩
theorem pure_law {K : PySem.W.Frag} {A : Ad} {vs : List V} {H : Hp} {Q : VK} {E : XK} (F : KF K A) (h : sp_law K A vs H Q E) : (t_law_0 K A) { nx := fun _ H' => Q .non H', rt := Q } (start ["_law_script", "_law_pen_here", "_law_turn", "_law_a", "_law_b", "_law_c", "_law_d", "_law_k", "_law_by", "_law_one", "_law_other", "_law_odd"] vs) H := by
  unfold sp_law spLaw at h
  split at h
  · rename_i sc
    obtain ⟨⟨ns, hs⟩, k⟩ := h
    show (t_law_0 K A) _ [some (.ref sc), none, none, none, none, none, none, none, none, none, none, none] H
    refine st_seq (st_asg ?_)
    (refine evE ?P88 (fun Q h => ?h88) ?_; (case h88 => (simp only [tTest, tOp, tUn, tVar, tC, tCB, tCons, tNil, tAnd, tOr, tNot, tB, tTup, tLst, tIf, tAndV, tOrV, tNotV, tSl, tPart, tNoPart, tCall, iIx_ref, oGt_int, oMod_int, oFdiv_int, oAdd_int, oAdd_str, oSub_int, oMul_int, oLt_int, oGe_int, oLe_int, oPow_int, uNeg_int, oEq_int, oEq_str, oEq_bl, oNe_int, oNe_str, oNe_bl, cInt_int, cInt_bl, cAbs_int, cLen_ref, cList_ref, stL_ref, gName, gSub, gTup, gCons, gNil, rdSeq, List.getElem?_cons_zero, List.getElem?_cons_succ, List.set_cons_zero, List.set_cons_succ, List.cons_append, List.nil_append, Option.some.injEq, exists_eq_left', V.bl.injEq, V.int.injEq, V.ref.injEq, atI_0, atI_1, atI_2, setI_1, setI_2, Bool.not_true, Bool.not_false, Bool.false_eq_true, if_false, if_true]; exact h)); (try dsimp only [gName, tNext, List.set_cons_zero, List.set_cons_succ]))
    refine ⟨ns, hs, fun p H' hp g0 => ?_⟩
    (try dsimp only [gName, tNext, List.set_cons_zero, List.set_cons_succ])
    refine st_seq ?_
    unfold tFor iRng1
    (refine evA ?P89 (fun Q h => ?h89) ?_; (case h89 => (simp only [tTest, tOp, tUn, tVar, tC, tCB, tCons, tNil, tAnd, tOr, tNot, tB, tTup, tLst, tIf, tAndV, tOrV, tNotV, tSl, tPart, tNoPart, tCall, iIx_ref, oGt_int, oMod_int, oFdiv_int, oAdd_int, oAdd_str, oSub_int, oMul_int, oLt_int, oGe_int, oLe_int, oPow_int, uNeg_int, oEq_int, oEq_str, oEq_bl, oNe_int, oNe_str, oNe_bl, cInt_int, cInt_bl, cAbs_int, cLen_ref, cList_ref, stL_ref, gName, gSub, gTup, gCons, gNil, rdSeq, List.getElem?_cons_zero, List.getElem?_cons_succ, List.set_cons_zero, List.set_cons_succ, List.cons_append, List.nil_append, Option.some.injEq, exists_eq_left', V.bl.injEq, V.int.injEq, V.ref.injEq, atI_0, atI_1, atI_2, setI_1, setI_2, Bool.not_true, Bool.not_false, Bool.false_eq_true, if_false, if_true]; exact h)); (try dsimp only [gName, tNext, List.set_cons_zero, List.set_cons_succ]))
    refine ⟨8, rfl, by decide, by decide, ?_⟩
    refine ⟨fun i m σ H => m = 8 - i ∧ σ.length = 12 ∧ σ[1]? = some (some (.ref p)) ∧ Pen H p (14 * i), ⟨8, rfl, rfl, rfl, hp⟩, ?_⟩
    clear hs hp g0 H'
    rintro i m σ H ⟨hm, hl, h1, hp⟩
    obtain ⟨a0, a1, a2, a3, a4, a5, a6, a7, a8, a9, a10, a11, rfl⟩ := list12 hl
    have e1 : a1 = some (.ref p) := Option.some.inj h1
    subst e1
    by_cases hi : 8 ≤ i
    · refine .inl ⟨hi, ?_⟩
      refine st_ret ?_
      (refine evE ?P90 (fun Q h => ?h90) ?_; (case h90 => (simp only [tTest, tOp, tUn, tVar, tC, tCB, tCons, tNil, tAnd, tOr, tNot, tB, tTup, tLst, tIf, tAndV, tOrV, tNotV, tSl, tPart, tNoPart, tCall, iIx_ref, oGt_int, oMod_int, oFdiv_int, oAdd_int, oAdd_str, oSub_int, oMul_int, oLt_int, oGe_int, oLe_int, oPow_int, uNeg_int, oEq_int, oEq_str, oEq_bl, oNe_int, oNe_str, oNe_bl, cInt_int, cInt_bl, cAbs_int, cLen_ref, cList_ref, stL_ref, gName, gSub, gTup, gCons, gNil, rdSeq, List.getElem?_cons_zero, List.getElem?_cons_succ, List.set_cons_zero, List.set_cons_succ, List.cons_append, List.nil_append, Option.some.injEq, exists_eq_left', V.bl.injEq, V.int.injEq, V.ref.injEq, atI_0, atI_1, atI_2, setI_1, setI_2, Bool.not_true, Bool.not_false, Bool.false_eq_true, if_false, if_true, tProp_eq, tMake_eq]; exact h)); (try dsimp only [gName, tNext, List.set_cons_zero, List.set_cons_succ]))
      refine mkR (u := -7) (l := 2) (m := 300) (by decide) (by show (_ : Nat) < _; decide) (by show (_ : Nat) < _; decide) fun x1 H1 g1 r1 => ?_
      refine prR r1 ⟨_, _, r1.up (by decide), ?_⟩
      simp only [tTest, tOp, tUn, tVar, tC, tCB, tCons, tNil, tAnd, tOr, tNot, tB, tTup, tLst, tIf, tAndV, tOrV, tNotV, tSl, tPart, tNoPart, tCall, iIx_ref, oGt_int, oMod_int, oFdiv_int, oAdd_int, oAdd_str, oSub_int, oMul_int, oLt_int, oGe_int, oLe_int, oPow_int, uNeg_int, oEq_int, oEq_str, oEq_bl, oNe_int, oNe_str, oNe_bl, cInt_int, cInt_bl, cAbs_int, cLen_ref, cList_ref, stL_ref, gName, gSub, gTup, gCons, gNil, rdSeq, List.getElem?_cons_zero, List.getElem?_cons_succ, List.set_cons_zero, List.set_cons_succ, List.cons_append, List.nil_append, Option.some.injEq, exists_eq_left', V.bl.injEq, V.int.injEq, V.ref.injEq, atI_0, atI_1, atI_2, setI_1, setI_2, Bool.not_true, Bool.not_false, Bool.false_eq_true, if_false, if_true, tMake_eq, tFld_eq, onIns_int]
      rw [if_pos (by decide)]
      refine mkR (u := 6) (l := 4) (m := 300) (by decide) (by show (_ : Nat) < _; decide) (by show (_ : Nat) < _; decide) fun x2 H2 g2 r2 => ?_
      simp only [tTest, tOp, tUn, tVar, tC, tCB, tCons, tNil, tAnd, tOr, tNot, tB, tTup, tLst, tIf, tAndV, tOrV, tNotV, tSl, tPart, tNoPart, tCall, iIx_ref, oGt_int, oMod_int, oFdiv_int, oAdd_int, oAdd_str, oSub_int, oMul_int, oLt_int, oGe_int, oLe_int, oPow_int, uNeg_int, oEq_int, oEq_str, oEq_bl, oNe_int, oNe_str, oNe_bl, cInt_int, cInt_bl, cAbs_int, cLen_ref, cList_ref, stL_ref, gName, gSub, gTup, gCons, gNil, rdSeq, List.getElem?_cons_zero, List.getElem?_cons_succ, List.set_cons_zero, List.set_cons_succ, List.cons_append, List.nil_append, Option.some.injEq, exists_eq_left', V.bl.injEq, V.int.injEq, V.ref.injEq, atI_0, atI_1, atI_2, setI_1, setI_2, Bool.not_true, Bool.not_false, Bool.false_eq_true, if_false, if_true, r2.fu F, onIns_int, tMake_eq]
      rw [if_pos (by decide)]
      refine mkR (u := 0) (l := 5) (m := 300) (by decide) (by show (_ : Nat) < _; decide) (by show (_ : Nat) < _; decide) fun x3 H3 g3 r3 => ?_
      simp only [tTest, tOp, tUn, tVar, tC, tCB, tCons, tNil, tAnd, tOr, tNot, tB, tTup, tLst, tIf, tAndV, tOrV, tNotV, tSl, tPart, tNoPart, tCall, iIx_ref, oGt_int, oMod_int, oFdiv_int, oAdd_int, oAdd_str, oSub_int, oMul_int, oLt_int, oGe_int, oLe_int, oPow_int, uNeg_int, oEq_int, oEq_str, oEq_bl, oNe_int, oNe_str, oNe_bl, cInt_int, cInt_bl, cAbs_int, cLen_ref, cList_ref, stL_ref, gName, gSub, gTup, gCons, gNil, rdSeq, List.getElem?_cons_zero, List.getElem?_cons_succ, List.set_cons_zero, List.set_cons_succ, List.cons_append, List.nil_append, Option.some.injEq, exists_eq_left', V.bl.injEq, V.int.injEq, V.ref.injEq, atI_0, atI_1, atI_2, setI_1, setI_2, Bool.not_true, Bool.not_false, Bool.false_eq_true, if_false, if_true, r3.fl F, onIns_int]
      exact k _
    · refine .inr ⟨by show i < 8; omega, fun σ' H' => σ'.length = 12 ∧ σ'[1]? = some (some (.ref p)) ∧ Pen H' p (14 * (i + 1)), fun σ' H' q => ⟨8 - (i + 1), by omega, rfl, q⟩, ?_⟩
      rintro x H' ⟨rfl, rfl⟩
      (try dsimp only [gName, tNext, List.set_cons_zero, List.set_cons_succ])
      refine st_seq ?_
      unfold tPar
      (refine evA ?P91 (fun Q h => ?h91) ?_; (case h91 => (simp only [tTest, tOp, tUn, tVar, tC, tCB, tCons, tNil, tAnd, tOr, tNot, tB, tTup, tLst, tIf, tAndV, tOrV, tNotV, tSl, tPart, tNoPart, tCall, iIx_ref, oGt_int, oMod_int, oFdiv_int, oAdd_int, oAdd_str, oSub_int, oMul_int, oLt_int, oGe_int, oLe_int, oPow_int, uNeg_int, oEq_int, oEq_str, oEq_bl, oNe_int, oNe_str, oNe_bl, cInt_int, cInt_bl, cAbs_int, cLen_ref, cList_ref, stL_ref, gName, gSub, gTup, gCons, gNil, rdSeq, List.getElem?_cons_zero, List.getElem?_cons_succ, List.set_cons_zero, List.set_cons_succ, List.cons_append, List.nil_append, Option.some.injEq, exists_eq_left', V.bl.injEq, V.int.injEq, V.ref.injEq, atI_0, atI_1, atI_2, setI_1, setI_2, Bool.not_true, Bool.not_false, Bool.false_eq_true, if_false, if_true]; exact h)); (try dsimp only [gName, tNext, List.set_cons_zero, List.set_cons_succ]))
      refine ⟨_, hp, by omega, fun a HA1 ba pa ka => ?_⟩
      refine ⟨⟨by decide, by decide, by decide⟩, by show 4 ≤ sizeLine; decide, fun la hla => ?_⟩
      have ga := Grow.new (o := .lst [.int 1, .int 6, .int 60, .int (10 ^ Int.toNat 20)]) hla
      refine ⟨_, _, pa.grow ga, by omega, upd_same, pa.fresh hla, by simp, by simp, fun xa HA2 hxa qa ja => ?_⟩
      obtain ⟨ma, rfl, m0a, m1a⟩ := small_of hxa
      refine ⟨_, qa, by omega, m0a, bn_log (m := 69) (bn_of (b := 10 ^ 20 + 1) (by omega) (by omega) (by decide)), fun b0 HA3 b00 b01 pb kb => ?_⟩
      simp only [tTest, tOp, tUn, tVar, tC, tCB, tCons, tNil, tAnd, tOr, tNot, tB, tTup, tLst, tIf, tAndV, tOrV, tNotV, tSl, tPart, tNoPart, tCall, iIx_ref, oGt_int, oMod_int, oFdiv_int, oAdd_int, oAdd_str, oSub_int, oMul_int, oLt_int, oGe_int, oLe_int, oPow_int, uNeg_int, oEq_int, oEq_str, oEq_bl, oNe_int, oNe_str, oNe_bl, cInt_int, cInt_bl, cAbs_int, cLen_ref, cList_ref, stL_ref, gName, gSub, gTup, gCons, gNil, rdSeq, List.getElem?_cons_zero, List.getElem?_cons_succ, List.set_cons_zero, List.set_cons_succ, List.cons_append, List.nil_append, Option.some.injEq, exists_eq_left', V.bl.injEq, V.int.injEq, V.ref.injEq, atI_0, atI_1, atI_2, setI_1, setI_2, Bool.not_true, Bool.not_false, Bool.false_eq_true, if_false, if_true]
      refine ⟨_, _, rfl, ?_⟩
      (try dsimp only [gName, tNext, List.set_cons_zero, List.set_cons_succ])
      generalize hb : 1 + b0 = b
      have p0b : 0 < b := by omega
      have bb : Bn 70 b := bn_of (b := 10 ^ 20 + 2) (by omega) (by omega) (by decide)
      refine st_seq ?_
      unfold tPar
      (refine evA ?P92 (fun Q h => ?h92) ?_; (case h92 => (simp only [tTest, tOp, tUn, tVar, tC, tCB, tCons, tNil, tAnd, tOr, tNot, tB, tTup, tLst, tIf, tAndV, tOrV, tNotV, tSl, tPart, tNoPart, tCall, iIx_ref, oGt_int, oMod_int, oFdiv_int, oAdd_int, oAdd_str, oSub_int, oMul_int, oLt_int, oGe_int, oLe_int, oPow_int, uNeg_int, oEq_int, oEq_str, oEq_bl, oNe_int, oNe_str, oNe_bl, cInt_int, cInt_bl, cAbs_int, cLen_ref, cList_ref, stL_ref, gName, gSub, gTup, gCons, gNil, rdSeq, List.getElem?_cons_zero, List.getElem?_cons_succ, List.set_cons_zero, List.set_cons_succ, List.cons_append, List.nil_append, Option.some.injEq, exists_eq_left', V.bl.injEq, V.int.injEq, V.ref.injEq, atI_0, atI_1, atI_2, setI_1, setI_2, Bool.not_true, Bool.not_false, Bool.false_eq_true, if_false, if_true]; exact h)); (try dsimp only [gName, tNext, List.set_cons_zero, List.set_cons_succ]))
      refine ⟨_, pb, by omega, fun c HB1 bc pc kc => ?_⟩
      refine ⟨⟨by decide, by decide, by decide⟩, by show 4 ≤ sizeLine; decide, fun lc hlc => ?_⟩
      have gc := Grow.new (o := .lst [.int 1, .int 6, .int 60, .int (10 ^ Int.toNat 20)]) hlc
      refine ⟨_, _, pc.grow gc, by omega, upd_same, pc.fresh hlc, by simp, by simp, fun xc HB2 hxc qc jc => ?_⟩
      obtain ⟨mc, rfl, m0c, m1c⟩ := small_of hxc
      refine ⟨_, qc, by omega, m0c, bn_log (m := 69) (bn_of (b := 10 ^ 20 + 1) (by omega) (by omega) (by decide)), fun d0 HB3 d00 d01 pd kd => ?_⟩
      simp only [tTest, tOp, tUn, tVar, tC, tCB, tCons, tNil, tAnd, tOr, tNot, tB, tTup, tLst, tIf, tAndV, tOrV, tNotV, tSl, tPart, tNoPart, tCall, iIx_ref, oGt_int, oMod_int, oFdiv_int, oAdd_int, oAdd_str, oSub_int, oMul_int, oLt_int, oGe_int, oLe_int, oPow_int, uNeg_int, oEq_int, oEq_str, oEq_bl, oNe_int, oNe_str, oNe_bl, cInt_int, cInt_bl, cAbs_int, cLen_ref, cList_ref, stL_ref, gName, gSub, gTup, gCons, gNil, rdSeq, List.getElem?_cons_zero, List.getElem?_cons_succ, List.set_cons_zero, List.set_cons_succ, List.cons_append, List.nil_append, Option.some.injEq, exists_eq_left', V.bl.injEq, V.int.injEq, V.ref.injEq, atI_0, atI_1, atI_2, setI_1, setI_2, Bool.not_true, Bool.not_false, Bool.false_eq_true, if_false, if_true]
      refine ⟨_, _, rfl, ?_⟩
      (try dsimp only [gName, tNext, List.set_cons_zero, List.set_cons_succ])
      generalize hd : 1 + d0 = d
      have p0d : 0 < d := by omega
      have bd : Bn 70 d := bn_of (b := 10 ^ 20 + 2) (by omega) (by omega) (by decide)
      refine st_seq ?_
      unfold tPar
      (refine evA ?P93 (fun Q h => ?h93) ?_; (case h93 => (simp only [tTest, tOp, tUn, tVar, tC, tCB, tCons, tNil, tAnd, tOr, tNot, tB, tTup, tLst, tIf, tAndV, tOrV, tNotV, tSl, tPart, tNoPart, tCall, iIx_ref, oGt_int, oMod_int, oFdiv_int, oAdd_int, oAdd_str, oSub_int, oMul_int, oLt_int, oGe_int, oLe_int, oPow_int, uNeg_int, oEq_int, oEq_str, oEq_bl, oNe_int, oNe_str, oNe_bl, cInt_int, cInt_bl, cAbs_int, cLen_ref, cList_ref, stL_ref, gName, gSub, gTup, gCons, gNil, rdSeq, List.getElem?_cons_zero, List.getElem?_cons_succ, List.set_cons_zero, List.set_cons_succ, List.cons_append, List.nil_append, Option.some.injEq, exists_eq_left', V.bl.injEq, V.int.injEq, V.ref.injEq, atI_0, atI_1, atI_2, setI_1, setI_2, Bool.not_true, Bool.not_false, Bool.false_eq_true, if_false, if_true]; exact h)); (try dsimp only [gName, tNext, List.set_cons_zero, List.set_cons_succ]))
      refine ⟨_, pd, by omega, fun j HC1 bj pj kj => ?_⟩
      refine ⟨_, pj, by omega, by decide, by decide, fun by0 H1 by00 by01 py ky => ?_⟩
      simp only [tTest, tOp, tUn, tVar, tC, tCB, tCons, tNil, tAnd, tOr, tNot, tB, tTup, tLst, tIf, tAndV, tOrV, tNotV, tSl, tPart, tNoPart, tCall, iIx_ref, oGt_int, oMod_int, oFdiv_int, oAdd_int, oAdd_str, oSub_int, oMul_int, oLt_int, oGe_int, oLe_int, oPow_int, uNeg_int, oEq_int, oEq_str, oEq_bl, oNe_int, oNe_str, oNe_bl, cInt_int, cInt_bl, cAbs_int, cLen_ref, cList_ref, stL_ref, gName, gSub, gTup, gCons, gNil, rdSeq, List.getElem?_cons_zero, List.getElem?_cons_succ, List.set_cons_zero, List.set_cons_succ, List.cons_append, List.nil_append, Option.some.injEq, exists_eq_left', V.bl.injEq, V.int.injEq, V.ref.injEq, atI_0, atI_1, atI_2, setI_1, setI_2, Bool.not_true, Bool.not_false, Bool.false_eq_true, if_false, if_true]
      refine ⟨_, _, rfl, ?_⟩
      (try dsimp only [gName, tNext, List.set_cons_zero, List.set_cons_succ])
      generalize hy : 1 + by0 = y
      have p0y : 0 < y := by omega
      have b_y : Bn 70 y := bn_of (b := 11) (by omega) (by omega) (by decide)
      replace py := py.up (by omega : _ ≤ 14 * (i + 1))
      have ba3 : Bn 300 a := ba.up (by decide)
      have bb3 : Bn 300 b := bb.up (by decide)
      have bc3 : Bn 300 c := bc.up (by decide)
      have bd3 : Bn 300 d := bd.up (by decide)
      have bj3 : Bn 300 j := bj.up (by decide)
      -- the rates
      refine st_seq ?_
      unfold tPar
      (refine evA ?P94 (fun Q h => ?h94) ?_; (case h94 => (simp only [tTest, tOp, tUn, tVar, tC, tCB, tCons, tNil, tAnd, tOr, tNot, tB, tTup, tLst, tIf, tAndV, tOrV, tNotV, tSl, tPart, tNoPart, tCall, iIx_ref, oGt_int, oMod_int, oFdiv_int, oAdd_int, oAdd_str, oSub_int, oMul_int, oLt_int, oGe_int, oLe_int, oPow_int, uNeg_int, oEq_int, oEq_str, oEq_bl, oNe_int, oNe_str, oNe_bl, cInt_int, cInt_bl, cAbs_int, cLen_ref, cList_ref, stL_ref, gName, gSub, gTup, gCons, gNil, rdSeq, List.getElem?_cons_zero, List.getElem?_cons_succ, List.set_cons_zero, List.set_cons_succ, List.cons_append, List.nil_append, Option.some.injEq, exists_eq_left', V.bl.injEq, V.int.injEq, V.ref.injEq, atI_0, atI_1, atI_2, setI_1, setI_2, Bool.not_true, Bool.not_false, Bool.false_eq_true, if_false, if_true, tMake_eq, tMakeK_eq]; exact h)); (try dsimp only [gName, tNext, List.set_cons_zero, List.set_cons_succ]))
      refine mkR p0b ba3 bb3 fun one H2 g2 r2 => ?_
      refine ⟨rfl, rfl, mkR p0d bc3 bd3 fun other H3 g3 r3 => ?_⟩
      refine ⟨_, _, rfl, ?_⟩
      (try dsimp only [gName, tNext, List.set_cons_zero, List.set_cons_succ])
      have ho := r2.grow g3
      have py := (py.grow g2).grow g3
      clear r2
      refine st_seq (st_if ?_)
      (refine evT ?P95 (fun Q h => ?h95) ?_; (case h95 => (simp only [tTest, tOp, tUn, tVar, tC, tCB, tCons, tNil, tAnd, tOr, tNot, tB, tTup, tLst, tIf, tAndV, tOrV, tNotV, tSl, tPart, tNoPart, tCall, iIx_ref, oGt_int, oMod_int, oFdiv_int, oAdd_int, oAdd_str, oSub_int, oMul_int, oLt_int, oGe_int, oLe_int, oPow_int, uNeg_int, oEq_int, oEq_str, oEq_bl, oNe_int, oNe_str, oNe_bl, cInt_int, cInt_bl, cAbs_int, cLen_ref, cList_ref, stL_ref, gName, gSub, gTup, gCons, gNil, rdSeq, List.getElem?_cons_zero, List.getElem?_cons_succ, List.set_cons_zero, List.set_cons_succ, List.cons_append, List.nil_append, Option.some.injEq, exists_eq_left', V.bl.injEq, V.int.injEq, V.ref.injEq, atI_0, atI_1, atI_2, setI_1, setI_2, Bool.not_true, Bool.not_false, Bool.false_eq_true, if_false, if_true, tMake_eq]; exact h)); (try dsimp only [gName, tNext, List.set_cons_zero, List.set_cons_succ]))
      refine sp_is ho rfl p0b ba3 bb3 fun H4 g4 => ?_
      simp only [tTest, tOp, tUn, tVar, tC, tCB, tCons, tNil, tAnd, tOr, tNot, tB, tTup, tLst, tIf, tAndV, tOrV, tNotV, tSl, tPart, tNoPart, tCall, iIx_ref, oGt_int, oMod_int, oFdiv_int, oAdd_int, oAdd_str, oSub_int, oMul_int, oLt_int, oGe_int, oLe_int, oPow_int, uNeg_int, oEq_int, oEq_str, oEq_bl, oNe_int, oNe_str, oNe_bl, cInt_int, cInt_bl, cAbs_int, cLen_ref, cList_ref, stL_ref, gName, gSub, gTup, gCons, gNil, rdSeq, List.getElem?_cons_zero, List.getElem?_cons_succ, List.set_cons_zero, List.set_cons_succ, List.cons_append, List.nil_append, Option.some.injEq, exists_eq_left', V.bl.injEq, V.int.injEq, V.ref.injEq, atI_0, atI_1, atI_2, setI_1, setI_2, Bool.not_true, Bool.not_false, Bool.false_eq_true, if_false, if_true]
      have ho4 := ho.grow g4
      refine ⟨b_y.mulok ba3, b_y.mulok bb3, mkR (m := 370) (Int.mul_pos p0y p0b) (b_y.mul ba3 |>.up (by decide)) (b_y.mul bb3 |>.up (by decide)) fun x5 H5 g5 r5 => ?_⟩
      have ho5 := ho4.grow g5
      refine ne_own r5 ho5 ⟨_, _, r5.up (by decide), .inl ⟨_, _, ho5.up (by decide), ?_⟩⟩
      have e5 : y * a * b = a * (y * b) := by ac_rfl
      simp only [tTest, tOp, tUn, tVar, tC, tCB, tCons, tNil, tAnd, tOr, tNot, tB, tTup, tLst, tIf, tAndV, tOrV, tNotV, tSl, tPart, tNoPart, tCall, iIx_ref, oGt_int, oMod_int, oFdiv_int, oAdd_int, oAdd_str, oSub_int, oMul_int, oLt_int, oGe_int, oLe_int, oPow_int, uNeg_int, oEq_int, oEq_str, oEq_bl, oNe_int, oNe_str, oNe_bl, cInt_int, cInt_bl, cAbs_int, cLen_ref, cList_ref, stL_ref, gName, gSub, gTup, gCons, gNil, rdSeq, List.getElem?_cons_zero, List.getElem?_cons_succ, List.set_cons_zero, List.set_cons_succ, List.cons_append, List.nil_append, Option.some.injEq, exists_eq_left', V.bl.injEq, V.int.injEq, V.ref.injEq, atI_0, atI_1, atI_2, setI_1, setI_2, Bool.not_true, Bool.not_false, Bool.false_eq_true, if_false, if_true, e5, decide_true]
      refine mkR (by decide) bj3 (bn_one (m := 299)) fun x6 H6 g6 r6 => ?_
      refine sp_is r6 rfl (by decide) bj3 (bn_one (m := 299)) fun H7 g7 => ?_
      simp only [tTest, tOp, tUn, tVar, tC, tCB, tCons, tNil, tAnd, tOr, tNot, tB, tTup, tLst, tIf, tAndV, tOrV, tNotV, tSl, tPart, tNoPart, tCall, iIx_ref, oGt_int, oMod_int, oFdiv_int, oAdd_int, oAdd_str, oSub_int, oMul_int, oLt_int, oGe_int, oLe_int, oPow_int, uNeg_int, oEq_int, oEq_str, oEq_bl, oNe_int, oNe_str, oNe_bl, cInt_int, cInt_bl, cAbs_int, cLen_ref, cList_ref, stL_ref, gName, gSub, gTup, gCons, gNil, rdSeq, List.getElem?_cons_zero, List.getElem?_cons_succ, List.set_cons_zero, List.set_cons_succ, List.cons_append, List.nil_append, Option.some.injEq, exists_eq_left', V.bl.injEq, V.int.injEq, V.ref.injEq, atI_0, atI_1, atI_2, setI_1, setI_2, Bool.not_true, Bool.not_false, Bool.false_eq_true, if_false, if_true]
      have g47 := (g4.trans g5).trans (g6.trans g7)
      have ho7 := ho.grow g47
      have hr7 := r3.grow g47
      have py7 := py.grow g47
      clear ho ho4 ho5 r3 py r5 r6
      refine st_seq (st_if ?_)
      (refine evT ?P96 (fun Q h => ?h96) ?_; (case h96 => (simp only [tTest, tOp, tUn, tVar, tC, tCB, tCons, tNil, tAnd, tOr, tNot, tB, tTup, tLst, tIf, tAndV, tOrV, tNotV, tSl, tPart, tNoPart, tCall, iIx_ref, oGt_int, oMod_int, oFdiv_int, oAdd_int, oAdd_str, oSub_int, oMul_int, oLt_int, oGe_int, oLe_int, oPow_int, uNeg_int, oEq_int, oEq_str, oEq_bl, oNe_int, oNe_str, oNe_bl, cInt_int, cInt_bl, cAbs_int, cLen_ref, cList_ref, stL_ref, gName, gSub, gTup, gCons, gNil, rdSeq, List.getElem?_cons_zero, List.getElem?_cons_succ, List.set_cons_zero, List.set_cons_succ, List.cons_append, List.nil_append, Option.some.injEq, exists_eq_left', V.bl.injEq, V.int.injEq, V.ref.injEq, atI_0, atI_1, atI_2, setI_1, setI_2, Bool.not_true, Bool.not_false, Bool.false_eq_true, if_false, if_true]; exact h)); (try dsimp only [gName, tNext, List.set_cons_zero, List.set_cons_succ]))
      refine ⟨ho7, hr7, fun H8 g8 => ?_⟩
      simp only [tTest, tOp, tUn, tVar, tC, tCB, tCons, tNil, tAnd, tOr, tNot, tB, tTup, tLst, tIf, tAndV, tOrV, tNotV, tSl, tPart, tNoPart, tCall, iIx_ref, oGt_int, oMod_int, oFdiv_int, oAdd_int, oAdd_str, oSub_int, oMul_int, oLt_int, oGe_int, oLe_int, oPow_int, uNeg_int, oEq_int, oEq_str, oEq_bl, oNe_int, oNe_str, oNe_bl, cInt_int, cInt_bl, cAbs_int, cLen_ref, cList_ref, stL_ref, gName, gSub, gTup, gCons, gNil, rdSeq, List.getElem?_cons_zero, List.getElem?_cons_succ, List.set_cons_zero, List.set_cons_succ, List.cons_append, List.nil_append, Option.some.injEq, exists_eq_left', V.bl.injEq, V.int.injEq, V.ref.injEq, atI_0, atI_1, atI_2, setI_1, setI_2, Bool.not_true, Bool.not_false, Bool.false_eq_true, if_false, if_true]
      refine ⟨ho7.grow g8, ho7.grow g8, fun H9 g9 => ?_⟩
      simp only [tTest, tOp, tUn, tVar, tC, tCB, tCons, tNil, tAnd, tOr, tNot, tB, tTup, tLst, tIf, tAndV, tOrV, tNotV, tSl, tPart, tNoPart, tCall, iIx_ref, oGt_int, oMod_int, oFdiv_int, oAdd_int, oAdd_str, oSub_int, oMul_int, oLt_int, oGe_int, oLe_int, oPow_int, uNeg_int, oEq_int, oEq_str, oEq_bl, oNe_int, oNe_str, oNe_bl, cInt_int, cInt_bl, cAbs_int, cLen_ref, cList_ref, stL_ref, gName, gSub, gTup, gCons, gNil, rdSeq, List.getElem?_cons_zero, List.getElem?_cons_succ, List.set_cons_zero, List.set_cons_succ, List.cons_append, List.nil_append, Option.some.injEq, exists_eq_left', V.bl.injEq, V.int.injEq, V.ref.injEq, atI_0, atI_1, atI_2, setI_1, setI_2, Bool.not_true, Bool.not_false, Bool.false_eq_true, if_false, if_true]
      have ho9 := (ho7.grow g8).grow g9
      have py9 := (py7.grow g8).grow g9
      clear ho7 hr7 py7
      refine st_seq (st_if ?_)
      (refine evT ?P97 (fun Q h => ?h97) ?_; (case h97 => (simp only [tTest, tOp, tUn, tVar, tC, tCB, tCons, tNil, tAnd, tOr, tNot, tB, tTup, tLst, tIf, tAndV, tOrV, tNotV, tSl, tPart, tNoPart, tCall, iIx_ref, oGt_int, oMod_int, oFdiv_int, oAdd_int, oAdd_str, oSub_int, oMul_int, oLt_int, oGe_int, oLe_int, oPow_int, uNeg_int, oEq_int, oEq_str, oEq_bl, oNe_int, oNe_str, oNe_bl, cInt_int, cInt_bl, cAbs_int, cLen_ref, cList_ref, stL_ref, gName, gSub, gTup, gCons, gNil, rdSeq, List.getElem?_cons_zero, List.getElem?_cons_succ, List.set_cons_zero, List.set_cons_succ, List.cons_append, List.nil_append, Option.some.injEq, exists_eq_left', V.bl.injEq, V.int.injEq, V.ref.injEq, atI_0, atI_1, atI_2, setI_1, setI_2, Bool.not_true, Bool.not_false, Bool.false_eq_true, if_false, if_true, tMake_eq]; exact h)); (try dsimp only [gName, tNext, List.set_cons_zero, List.set_cons_succ]))
      refine ⟨ho9, bj3, fun H10 g10 => ?_⟩
      simp only [tTest, tOp, tUn, tVar, tC, tCB, tCons, tNil, tAnd, tOr, tNot, tB, tTup, tLst, tIf, tAndV, tOrV, tNotV, tSl, tPart, tNoPart, tCall, iIx_ref, oGt_int, oMod_int, oFdiv_int, oAdd_int, oAdd_str, oSub_int, oMul_int, oLt_int, oGe_int, oLe_int, oPow_int, uNeg_int, oEq_int, oEq_str, oEq_bl, oNe_int, oNe_str, oNe_bl, cInt_int, cInt_bl, cAbs_int, cLen_ref, cList_ref, stL_ref, gName, gSub, gTup, gCons, gNil, rdSeq, List.getElem?_cons_zero, List.getElem?_cons_succ, List.set_cons_zero, List.set_cons_succ, List.cons_append, List.nil_append, Option.some.injEq, exists_eq_left', V.bl.injEq, V.int.injEq, V.ref.injEq, atI_0, atI_1, atI_2, setI_1, setI_2, Bool.not_true, Bool.not_false, Bool.false_eq_true, if_false, if_true]
      refine ⟨b_y.mulok bj3, mkR (m := 370) p0y (b_y.mul bj3 |>.up (by decide)) (b_y.up (by decide)) fun x11 H11 g11 r11 => ?_⟩
      have r11' : Rt 300 A H11 x11 j 1 := by
        have z := r_scale (p := j) (q := 1) p0y
        rw [Int.mul_one] at z
        have w := r11.at_
        rw [z.1, z.2] at w
        exact ⟨w, by decide, bj3, bn_one (m := 299)⟩
      refine ⟨r11', bj3, fun H12 g12 => ?_⟩
      simp only [tTest, tOp, tUn, tVar, tC, tCB, tCons, tNil, tAnd, tOr, tNot, tB, tTup, tLst, tIf, tAndV, tOrV, tNotV, tSl, tPart, tNoPart, tCall, iIx_ref, oGt_int, oMod_int, oFdiv_int, oAdd_int, oAdd_str, oSub_int, oMul_int, oLt_int, oGe_int, oLe_int, oPow_int, uNeg_int, oEq_int, oEq_str, oEq_bl, oNe_int, oNe_str, oNe_bl, cInt_int, cInt_bl, cAbs_int, cLen_ref, cList_ref, stL_ref, gName, gSub, gTup, gCons, gNil, rdSeq, List.getElem?_cons_zero, List.getElem?_cons_succ, List.set_cons_zero, List.set_cons_succ, List.cons_append, List.nil_append, Option.some.injEq, exists_eq_left', V.bl.injEq, V.int.injEq, V.ref.injEq, atI_0, atI_1, atI_2, setI_1, setI_2, Bool.not_true, Bool.not_false, Bool.false_eq_true, if_false, if_true]
      have g912 := (g10.trans g11).trans g12
      have ho := ho9.grow g912
      have py := py9.grow g912
      clear ho9 py9 r11 r11'
      refine st_seq (st_if ?_)
      (refine evT ?P98 (fun Q h => ?h98) ?_; (case h98 => (simp only [tTest, tOp, tUn, tVar, tC, tCB, tCons, tNil, tAnd, tOr, tNot, tB, tTup, tLst, tIf, tAndV, tOrV, tNotV, tSl, tPart, tNoPart, tCall, iIx_ref, oGt_int, oMod_int, oFdiv_int, oAdd_int, oAdd_str, oSub_int, oMul_int, oLt_int, oGe_int, oLe_int, oPow_int, uNeg_int, oEq_int, oEq_str, oEq_bl, oNe_int, oNe_str, oNe_bl, cInt_int, cInt_bl, cAbs_int, cLen_ref, cList_ref, stL_ref, gName, gSub, gTup, gCons, gNil, rdSeq, List.getElem?_cons_zero, List.getElem?_cons_succ, List.set_cons_zero, List.set_cons_succ, List.cons_append, List.nil_append, Option.some.injEq, exists_eq_left', V.bl.injEq, V.int.injEq, V.ref.injEq, atI_0, atI_1, atI_2, setI_1, setI_2, Bool.not_true, Bool.not_false, Bool.false_eq_true, if_false, if_true, tProp_eq]; exact h)); (try dsimp only [gName, tNext, List.set_cons_zero, List.set_cons_succ]))
      refine prR ho ⟨_, _, ho.up (by decide), ?_⟩
      have lb : (a / b).natAbs.log2 < 1920 := Nat.lt_of_le_of_lt (Bn.log (m := 299) ba3.div) (by decide)
      simp only [tTest, tOp, tUn, tVar, tC, tCB, tCons, tNil, tAnd, tOr, tNot, tB, tTup, tLst, tIf, tAndV, tOrV, tNotV, tSl, tPart, tNoPart, tCall, iIx_ref, oGt_int, oMod_int, oFdiv_int, oAdd_int, oAdd_str, oSub_int, oMul_int, oLt_int, oGe_int, oLe_int, oPow_int, uNeg_int, oEq_int, oEq_str, oEq_bl, oNe_int, oNe_str, oNe_bl, cInt_int, cInt_bl, cAbs_int, cLen_ref, cList_ref, stL_ref, gName, gSub, gTup, gCons, gNil, rdSeq, List.getElem?_cons_zero, List.getElem?_cons_succ, List.set_cons_zero, List.set_cons_succ, List.cons_append, List.nil_append, Option.some.injEq, exists_eq_left', V.bl.injEq, V.int.injEq, V.ref.injEq, atI_0, atI_1, atI_2, setI_1, setI_2, Bool.not_true, Bool.not_false, Bool.false_eq_true, if_false, if_true, cRepr_int]
      refine ⟨lb, ⟨p0b, bn_log (m := 299) bb3⟩, lb, ?_⟩
      simp only [tTest, tOp, tUn, tVar, tC, tCB, tCons, tNil, tAnd, tOr, tNot, tB, tTup, tLst, tIf, tAndV, tOrV, tNotV, tSl, tPart, tNoPart, tCall, iIx_ref, oGt_int, oMod_int, oFdiv_int, oAdd_int, oAdd_str, oSub_int, oMul_int, oLt_int, oGe_int, oLe_int, oPow_int, uNeg_int, oEq_int, oEq_str, oEq_bl, oNe_int, oNe_str, oNe_bl, cInt_int, cInt_bl, cAbs_int, cLen_ref, cList_ref, stL_ref, gName, gSub, gTup, gCons, gNil, rdSeq, List.getElem?_cons_zero, List.getElem?_cons_succ, List.set_cons_zero, List.set_cons_succ, List.cons_append, List.nil_append, Option.some.injEq, exists_eq_left', V.bl.injEq, V.int.injEq, V.ref.injEq, atI_0, atI_1, atI_2, setI_1, setI_2, Bool.not_true, Bool.not_false, Bool.false_eq_true, if_false, if_true, onIns_str, decide_true]
      -- the odd ones
      refine st_ifcmp (lc_go ?_)
      (refine evE ?P101 (fun Q h => ?h101) ?_; (case h101 => (simp only [tTest, tOp, tUn, tVar, tC, tCB, tCons, tNil, tAnd, tOr, tNot, tB, tTup, tLst, tIf, tAndV, tOrV, tNotV, tSl, tPart, tNoPart, tCall, iIx_ref, oGt_int, oMod_int, oFdiv_int, oAdd_int, oAdd_str, oSub_int, oMul_int, oLt_int, oGe_int, oLe_int, oPow_int, uNeg_int, oEq_int, oEq_str, oEq_bl, oNe_int, oNe_str, oNe_bl, cInt_int, cInt_bl, cAbs_int, cLen_ref, cList_ref, stL_ref, gName, gSub, gTup, gCons, gNil, rdSeq, List.getElem?_cons_zero, List.getElem?_cons_succ, List.set_cons_zero, List.set_cons_succ, List.cons_append, List.nil_append, Option.some.injEq, exists_eq_left', V.bl.injEq, V.int.injEq, V.ref.injEq, atI_0, atI_1, atI_2, setI_1, setI_2, Bool.not_true, Bool.not_false, Bool.false_eq_true, if_false, if_true, tDNewK]; exact h)))
      refine ⟨by show 2 ≤ sizeLine; decide, fun l1 hl1 => ⟨by show 0 ≤ sizeLine; decide, fun l2 hl2 l3 hl3 => ⟨by show 6 ≤ sizeLine; decide, fun l4 hl4 => ?_⟩⟩⟩
      have n1 := Grow.new (o := .tup [.int 1, .int 1]) hl1
      have n2 := Grow.new (o := .lst []) hl2
      have n3 := Grow.new (o := .dK []) hl3
      have n4 := Grow.new (o := .lst [.non, .str "1", .ref l1, .ref l2, .ref l3, .bl true]) hl4
      generalize hH4 : upd _ l4 _ = H4 at n4 ⊢
      have f1 := n4 _ _ (n3 _ _ (n2 l1 (.tup [.int 1, .int 1]) upd_same))
      have f2 := n4 _ _ (n3 l2 (.lst []) upd_same)
      have f3 := n4 l3 (.dK []) upd_same
      have f4 : H4 l4 = some (.lst [.non, .str "1", .ref l1, .ref l2, .ref l3, .bl true]) := by rw [← hH4]; exact upd_same
      have G4 := (n1.trans n2).trans (n3.trans n4)
      refine lc_empty f4 (fun D hD => ⟨fun x hx H' g R hR => ?_, fun H' g => ?_⟩) (by exact fun x => rfl)
      · have ho : ∀ H2, Grow H' H2 → oddV H2 x := by
          intro H2 g2
          have gg := (Grow.new (o := .lst []) hD).trans (g.trans g2)
          have f1 := gg _ _ f1
          have f2 := gg _ _ f2
          have f3 := gg _ _ f3
          simp only [List.mem_cons, List.not_mem_nil, or_false] at hx
          rcases hx with rfl | rfl | rfl | rfl | rfl | rfl
          · exact trivial
          · exact trivial
          · simp only [oddV, f1]
          · simp only [oddV, f2]
          · simp only [oddV, f3]
          · exact trivial
        (refine evT ?P99 (fun Q h => ?h99) ?_; (case h99 => (simp only [tTest, tOp, tUn, tVar, tC, tCB, tCons, tNil, tAnd, tOr, tNot, tB, tTup, tLst, tIf, tAndV, tOrV, tNotV, tSl, tPart, tNoPart, tCall, iIx_ref, oGt_int, oMod_int, oFdiv_int, oAdd_int, oAdd_str, oSub_int, oMul_int, oLt_int, oGe_int, oLe_int, oPow_int, uNeg_int, oEq_int, oEq_str, oEq_bl, oNe_int, oNe_str, oNe_bl, cInt_int, cInt_bl, cAbs_int, cLen_ref, cList_ref, stL_ref, gName, gSub, gTup, gCons, gNil, rdSeq, List.getElem?_cons_zero, List.getElem?_cons_succ, List.set_cons_zero, List.set_cons_succ, List.cons_append, List.nil_append, Option.some.injEq, exists_eq_left', V.bl.injEq, V.int.injEq, V.ref.injEq, atI_0, atI_1, atI_2, setI_1, setI_2, Bool.not_true, Bool.not_false, Bool.false_eq_true, if_false, if_true, tMake_eq, wipe]; exact h)); (try dsimp only [gName, tNext, List.set_cons_zero, List.set_cons_succ]))
        refine mkR (by decide) (bn_one (m := 299)) (bn_one (m := 299)) fun x6 H6 g6 r6 => ?_
        obtain ⟨ty, t1, t2, t3, _⟩ := eq_ty F (ho H6 g6)
        exact cmp_own r6 ⟨ty, t1, t2, t3⟩ (eqOdd (r6.up (by decide)) (ho H6 g6) ⟨_, rfl, hR _ g6⟩)
      · have fD := g D (.lst []) upd_same
        (refine evE ?P100 (fun Q h => ?h100) ?_; (case h100 => (simp only [tTest, tOp, tUn, tVar, tC, tCB, tCons, tNil, tAnd, tOr, tNot, tB, tTup, tLst, tIf, tAndV, tOrV, tNotV, tSl, tPart, tNoPart, tCall, iIx_ref, oGt_int, oMod_int, oFdiv_int, oAdd_int, oAdd_str, oSub_int, oMul_int, oLt_int, oGe_int, oLe_int, oPow_int, uNeg_int, oEq_int, oEq_str, oEq_bl, oNe_int, oNe_str, oNe_bl, cInt_int, cInt_bl, cAbs_int, cLen_ref, cList_ref, stL_ref, gName, gSub, gTup, gCons, gNil, rdSeq, List.getElem?_cons_zero, List.getElem?_cons_succ, List.set_cons_zero, List.set_cons_succ, List.cons_append, List.nil_append, Option.some.injEq, exists_eq_left', V.bl.injEq, V.int.injEq, V.ref.injEq, atI_0, atI_1, atI_2, setI_1, setI_2, Bool.not_true, Bool.not_false, Bool.false_eq_true, if_false, if_true]; exact h)); (try dsimp only [gName, tNext, List.set_cons_zero, List.set_cons_succ]))
        refine ⟨by show 0 ≤ sizeLine; decide, fun l5 hl5 => ?_⟩
        have n5 := Grow.new (o := .lst []) hl5
        rw [onIns_lst (n5 _ _ fD)]
        refine ne_nil (ns := []) (n5 _ _ fD) upd_same ⟨_, rfl, ?_⟩
        rw [if_neg (by decide)]
        exact ⟨rfl, rfl, (py.grow (G4.trans ((Grow.new (o := .lst []) hD).trans (g.trans n5))))⟩
  · exact h.elim
end HG

namespace HG
open PySem L2
def top (i : Nat) : Stmt := PySem.Challenge.pw_headgap_k31_rates_made_and_reckoned.main.body.getD i (.Pass ⟨0, 0, 0, 0⟩)
abbrev s_is_integer : Stmt := (top 5)
theorem sc_is_integer : FnScope ["value"] ["value"] (defScope s_is_integer) := ⟨rfl, rfl, rfl, by decide +kernel, rfl, by decide +kernel, by decide +kernel⟩
abbrev s_divisor : Stmt := (top 9)
theorem sc_divisor : FnScope ["one", "other", "first", "second"] ["one", "other"] (defScope s_divisor) := ⟨rfl, rfl, rfl, by decide +kernel, rfl, by decide +kernel, by decide +kernel⟩
abbrev s_Rate_init : Stmt := (inClass (top 12) 0)
theorem sc_Rate_init : FnScope ["self", "upper", "lower", "common"] ["self", "upper", "lower"] (defScope s_Rate_init) := ⟨rfl, rfl, rfl, by decide +kernel, rfl, by decide +kernel, by decide +kernel⟩
abbrev s_as_rate : Stmt := (top 11)
theorem sc_as_rate : FnScope ["value"] ["value"] (defScope s_as_rate) := ⟨rfl, rfl, rfl, by decide +kernel, rfl, by decide +kernel, by decide +kernel⟩
abbrev s_Rate_floor : Stmt := (inClass (top 12) 2)
theorem sc_Rate_floor : FnScope ["self"] ["self"] (defScope s_Rate_floor) := ⟨rfl, rfl, rfl, by decide +kernel, rfl, by decide +kernel, by decide +kernel⟩
abbrev s_Rate_eq : Stmt := (inClass (top 12) 3)
theorem sc_Rate_eq : FnScope ["self", "other"] ["self", "other"] (defScope s_Rate_eq) := ⟨rfl, rfl, rfl, by decide +kernel, rfl, by decide +kernel, by decide +kernel⟩
abbrev s_Rate_lt : Stmt := (inClass (top 12) 4)
theorem sc_Rate_lt : FnScope ["self", "other", "right"] ["self", "other"] (defScope s_Rate_lt) := ⟨rfl, rfl, rfl, by decide +kernel, rfl, by decide +kernel, by decide +kernel⟩
abbrev s_Rate_le : Stmt := (inClass (top 12) 5)
theorem sc_Rate_le : FnScope ["self", "other", "right"] ["self", "other"] (defScope s_Rate_le) := ⟨rfl, rfl, rfl, by decide +kernel, rfl, by decide +kernel, by decide +kernel⟩
abbrev s_Rate_gt : Stmt := (inClass (top 12) 6)
theorem sc_Rate_gt : FnScope ["self", "other"] ["self", "other"] (defScope s_Rate_gt) := ⟨rfl, rfl, rfl, by decide +kernel, rfl, by decide +kernel, by decide +kernel⟩
abbrev s_Rate_ge : Stmt := (inClass (top 12) 7)
theorem sc_Rate_ge : FnScope ["self", "other"] ["self", "other"] (defScope s_Rate_ge) := ⟨rfl, rfl, rfl, by decide +kernel, rfl, by decide +kernel, by decide +kernel⟩
abbrev s_Rate_neg : Stmt := (inClass (top 12) 8)
theorem sc_Rate_neg : FnScope ["self"] ["self"] (defScope s_Rate_neg) := ⟨rfl, rfl, rfl, by decide +kernel, rfl, by decide +kernel, by decide +kernel⟩
abbrev s_Rate_add : Stmt := (inClass (top 12) 9)
theorem sc_Rate_add : FnScope ["self", "other", "right"] ["self", "other"] (defScope s_Rate_add) := ⟨rfl, rfl, rfl, by decide +kernel, rfl, by decide +kernel, by decide +kernel⟩
abbrev s_Rate_radd : Stmt := (inClass (top 12) 10)
theorem sc_Rate_radd : FnScope ["self", "other"] ["self", "other"] (defScope s_Rate_radd) := ⟨rfl, rfl, rfl, by decide +kernel, rfl, by decide +kernel, by decide +kernel⟩
abbrev s_Rate_sub : Stmt := (inClass (top 12) 11)
theorem sc_Rate_sub : FnScope ["self", "other"] ["self", "other"] (defScope s_Rate_sub) := ⟨rfl, rfl, rfl, by decide +kernel, rfl, by decide +kernel, by decide +kernel⟩
abbrev s_Rate_rsub : Stmt := (inClass (top 12) 12)
theorem sc_Rate_rsub : FnScope ["self", "other"] ["self", "other"] (defScope s_Rate_rsub) := ⟨rfl, rfl, rfl, by decide +kernel, rfl, by decide +kernel, by decide +kernel⟩
abbrev s_Rate_mul : Stmt := (inClass (top 12) 13)
theorem sc_Rate_mul : FnScope ["self", "k"] ["self", "k"] (defScope s_Rate_mul) := ⟨rfl, rfl, rfl, by decide +kernel, rfl, by decide +kernel, by decide +kernel⟩
abbrev s_law_pen : Stmt := (top 14)
theorem sc_law_pen : FnScope ["_law_script"] ["_law_script"] (defScope s_law_pen) := ⟨rfl, rfl, rfl, by decide +kernel, rfl, by decide +kernel, by decide +kernel⟩
abbrev s_law_draw : Stmt := (top 15)
theorem sc_law_draw : FnScope ["_law_pen_here", "_law_many", "_law_digit", "_law_used", "_law_cell", "_law_great", "_law_mixed"] ["_law_pen_here", "_law_many"] (defScope s_law_draw) := ⟨rfl, rfl, rfl, by decide +kernel, rfl, by decide +kernel, by decide +kernel⟩
abbrev s_law_pick : Stmt := (top 16)
theorem sc_law_pick : FnScope ["_law_pen_here", "_law_some"] ["_law_pen_here", "_law_some"] (defScope s_law_pick) := ⟨rfl, rfl, rfl, by decide +kernel, rfl, by decide +kernel, by decide +kernel⟩
abbrev s_law_number : Stmt := (top 17)
theorem sc_law_number : FnScope ["_law_pen_here", "_law_size"] ["_law_pen_here"] (defScope s_law_number) := ⟨rfl, rfl, rfl, by decide +kernel, rfl, by decide +kernel, by decide +kernel⟩
abbrev s_law_divisor : Stmt := (top 18)
theorem sc_law_divisor : FnScope ["_law_one", "_law_other", "_law_first", "_law_second"] ["_law_one", "_law_other"] (defScope s_law_divisor) := ⟨rfl, rfl, rfl, by decide +kernel, rfl, by decide +kernel, by decide +kernel⟩
abbrev s_law_is : Stmt := (top 19)
theorem sc_law_is : FnScope ["_law_rate", "_law_upper", "_law_lower", "_law_common"] ["_law_rate", "_law_upper", "_law_lower"] (defScope s_law_is) := ⟨rfl, rfl, rfl, by decide +kernel, rfl, by decide +kernel, by decide +kernel⟩
abbrev s_law_sums_right : Stmt := (top 20)
theorem sc_law_sums_right : FnScope ["_law_one", "_law_other", "_law_a", "_law_b", "_law_c", "_law_d", "_law_held", "_law_less", "_law_told", "_law_left", "_law_right"] ["_law_one", "_law_other", "_law_a", "_law_b", "_law_c", "_law_d"] (defScope s_law_sums_right) := ⟨rfl, rfl, rfl, by decide +kernel, rfl, by decide +kernel, by decide +kernel⟩
abbrev s_law_whole_right : Stmt := (top 21)
theorem sc_law_whole_right : FnScope ["_law_one", "_law_a", "_law_b", "_law_k", "_law_told"] ["_law_one", "_law_a", "_law_b", "_law_k"] (defScope s_law_whole_right) := ⟨rfl, rfl, rfl, by decide +kernel, rfl, by decide +kernel, by decide +kernel⟩
abbrev s_law : Stmt := (top 22)
theorem sc_law : FnScope ["_law_script", "_law_pen_here", "_law_turn", "_law_a", "_law_b", "_law_c", "_law_d", "_law_k", "_law_by", "_law_one", "_law_other", "_law_odd"] ["_law_script"] (defScope s_law) := ⟨rfl, rfl, rfl, by decide +kernel, rfl, by decide +kernel, by decide +kernel⟩

structure Txt (K : PySem.W.Frag) (mg : Str → Option Value) (A : Ad) : Prop where
  kf : KF K A
  b_abs : mg "abs" = none
  b_bool : mg "bool" = none
  b_int : mg "int" = none
  b_isinstance : mg "isinstance" = none
  b_len : mg "len" = none
  b_list : mg "list" = none
  b_range : mg "range" = none
  b_repr : mg "repr" = none
  g_Rate : mg "Rate" = some (.ref A.c_Rate)
  M_Rate : Mk K A.c_Rate A.f_Rate_init
  cl_Rate : Cls K A.c_Rate
  g_is_integer : mg "is_integer" = some (.ref A.f_is_integer)
  F_is_integer : Fun K "is_integer" "is_integer" s_is_integer A.f_is_integer A.d_is_integer
  B_is_integer : Binds K A.d_is_integer ["value"] []
  g_divisor : mg "divisor" = some (.ref A.f_divisor)
  F_divisor : Fun K "divisor" "divisor" s_divisor A.f_divisor A.d_divisor
  B_divisor : Binds K A.d_divisor ["one", "other"] []
  F_Rate_init : FunD K "__init__" "Rate.__init__" (defArgs s_Rate_init) (defBody s_Rate_init) (defScope s_Rate_init) [.int 1] [] A.f_Rate_init A.d_Rate_init
  B_Rate_init : Binds K A.d_Rate_init ["self", "upper", "lower"] []
  g_as_rate : mg "as_rate" = some (.ref A.f_as_rate)
  F_as_rate : Fun K "as_rate" "as_rate" s_as_rate A.f_as_rate A.d_as_rate
  B_as_rate : Binds K A.d_as_rate ["value"] []
  F_Rate_floor : Fun K "floor" "Rate.floor" s_Rate_floor A.f_Rate_floor A.d_Rate_floor
  B_Rate_floor : Binds K A.d_Rate_floor ["self"] []
  F_Rate_eq : Fun K "__eq__" "Rate.__eq__" s_Rate_eq A.f_Rate_eq A.d_Rate_eq
  B_Rate_eq : Binds K A.d_Rate_eq ["self", "other"] []
  F_Rate_lt : Fun K "__lt__" "Rate.__lt__" s_Rate_lt A.f_Rate_lt A.d_Rate_lt
  B_Rate_lt : Binds K A.d_Rate_lt ["self", "other"] []
  F_Rate_le : Fun K "__le__" "Rate.__le__" s_Rate_le A.f_Rate_le A.d_Rate_le
  B_Rate_le : Binds K A.d_Rate_le ["self", "other"] []
  F_Rate_gt : Fun K "__gt__" "Rate.__gt__" s_Rate_gt A.f_Rate_gt A.d_Rate_gt
  B_Rate_gt : Binds K A.d_Rate_gt ["self", "other"] []
  F_Rate_ge : Fun K "__ge__" "Rate.__ge__" s_Rate_ge A.f_Rate_ge A.d_Rate_ge
  B_Rate_ge : Binds K A.d_Rate_ge ["self", "other"] []
  F_Rate_neg : Fun K "__neg__" "Rate.__neg__" s_Rate_neg A.f_Rate_neg A.d_Rate_neg
  B_Rate_neg : Binds K A.d_Rate_neg ["self"] []
  F_Rate_add : Fun K "__add__" "Rate.__add__" s_Rate_add A.f_Rate_add A.d_Rate_add
  B_Rate_add : Binds K A.d_Rate_add ["self", "other"] []
  F_Rate_radd : Fun K "__radd__" "Rate.__radd__" s_Rate_radd A.f_Rate_radd A.d_Rate_radd
  B_Rate_radd : Binds K A.d_Rate_radd ["self", "other"] []
  F_Rate_sub : Fun K "__sub__" "Rate.__sub__" s_Rate_sub A.f_Rate_sub A.d_Rate_sub
  B_Rate_sub : Binds K A.d_Rate_sub ["self", "other"] []
  F_Rate_rsub : Fun K "__rsub__" "Rate.__rsub__" s_Rate_rsub A.f_Rate_rsub A.d_Rate_rsub
  B_Rate_rsub : Binds K A.d_Rate_rsub ["self", "other"] []
  F_Rate_mul : Fun K "__mul__" "Rate.__mul__" s_Rate_mul A.f_Rate_mul A.d_Rate_mul
  B_Rate_mul : Binds K A.d_Rate_mul ["self", "k"] []
  g_law_pen : mg "_law_pen" = some (.ref A.f_law_pen)
  F_law_pen : Fun K "_law_pen" "_law_pen" s_law_pen A.f_law_pen A.d_law_pen
  B_law_pen : Binds K A.d_law_pen ["_law_script"] []
  g_law_draw : mg "_law_draw" = some (.ref A.f_law_draw)
  F_law_draw : Fun K "_law_draw" "_law_draw" s_law_draw A.f_law_draw A.d_law_draw
  B_law_draw : Binds K A.d_law_draw ["_law_pen_here", "_law_many"] []
  g_law_pick : mg "_law_pick" = some (.ref A.f_law_pick)
  F_law_pick : Fun K "_law_pick" "_law_pick" s_law_pick A.f_law_pick A.d_law_pick
  B_law_pick : Binds K A.d_law_pick ["_law_pen_here", "_law_some"] []
  g_law_number : mg "_law_number" = some (.ref A.f_law_number)
  F_law_number : Fun K "_law_number" "_law_number" s_law_number A.f_law_number A.d_law_number
  B_law_number : Binds K A.d_law_number ["_law_pen_here"] []
  g_law_divisor : mg "_law_divisor" = some (.ref A.f_law_divisor)
  F_law_divisor : Fun K "_law_divisor" "_law_divisor" s_law_divisor A.f_law_divisor A.d_law_divisor
  B_law_divisor : Binds K A.d_law_divisor ["_law_one", "_law_other"] []
  g_law_is : mg "_law_is" = some (.ref A.f_law_is)
  F_law_is : Fun K "_law_is" "_law_is" s_law_is A.f_law_is A.d_law_is
  B_law_is : Binds K A.d_law_is ["_law_rate", "_law_upper", "_law_lower"] []
  g_law_sums_right : mg "_law_sums_right" = some (.ref A.f_law_sums_right)
  F_law_sums_right : Fun K "_law_sums_right" "_law_sums_right" s_law_sums_right A.f_law_sums_right A.d_law_sums_right
  B_law_sums_right : Binds K A.d_law_sums_right ["_law_one", "_law_other", "_law_a", "_law_b", "_law_c", "_law_d"] []
  g_law_whole_right : mg "_law_whole_right" = some (.ref A.f_law_whole_right)
  F_law_whole_right : Fun K "_law_whole_right" "_law_whole_right" s_law_whole_right A.f_law_whole_right A.d_law_whole_right
  B_law_whole_right : Binds K A.d_law_whole_right ["_law_one", "_law_a", "_law_b", "_law_k"] []
  F_law : Fun K "law" "law" s_law A.f_law A.d_law
  o_Rate_add : BinF K A.c_Rate A.f_Rate_add .Add
  i_Rate_add : InpF K A.c_Rate A.f_Rate_add .Add
  r_Rate_radd : ReflF K A.c_Rate A.f_Rate_add A.f_Rate_radd .Add
  o_Rate_sub : BinF K A.c_Rate A.f_Rate_sub .Sub
  i_Rate_sub : InpF K A.c_Rate A.f_Rate_sub .Sub
  r_Rate_rsub : ReflF K A.c_Rate A.f_Rate_sub A.f_Rate_rsub .Sub
  o_Rate_mul : BinF K A.c_Rate A.f_Rate_mul .Mult
  q_Rate_lt : CmpF K A.c_Rate A.f_Rate_lt .Lt
  q_Rate_le : CmpF K A.c_Rate A.f_Rate_le .LtE
  q_Rate_gt : CmpF K A.c_Rate A.f_Rate_gt .Gt
  q_Rate_ge : CmpF K A.c_Rate A.f_Rate_ge .GtE
  q_Rate_eq : CmpF K A.c_Rate A.f_Rate_eq .Eq
  n_Rate : NeF K A.c_Rate A.f_Rate_eq
  u_Rate_neg : NegF K A.c_Rate A.f_Rate_neg
  p_Rate_floor : PropOf K A.c_Rate "floor" A.p_Rate_floor A.f_Rate_floor
  D1_Rate : ∃ ds, Vals [.int 1] ds ∧ Binds K A.d_Rate_init ["self", "upper", "lower"] ds
  KW_Rate : ∃ g, KBn K A.d_Rate_init ["self", "upper", "lower"] 1 ["lower", "upper"] g kw_Rate_lower_upper

theorem ok_is_integer {P : Program} {w : World} {K : PySem.W.Frag} {mg : Str → Option Value} {base : Heap} {A : Ad} (T : Txt K mg A) :
    FnG P w K mg base CX0 1 A.f_is_integer A.d_is_integer ["value"] (sp_is_integer K A) := by
  refine okG T.F_is_integer sc_is_integer (fun vs H Q E h => ?_) (fun cdv A' outer s H vs Q E hr hG h => ⟨(t_is_integer_0 K A), ?_, pure_is_integer T.kf h⟩)
  · unfold sp_is_integer at h
    try unfold spPen at h
    try unfold spDraw at h
    try unfold spPick at h
    try unfold spGcd at h
    try unfold spCmp at h
    try unfold spSum at h
    try unfold spLaw at h
    split at h <;> first | rfl | exact h.elim
  · exact (pss_one (ps_ret (pe_and (pe_callB call_isiU (by rfl) T.b_isinstance (by decide +kernel) (pa_cons (pv 0) (pa_cons (pe_bltn rfl T.b_int (by decide +kernel) rfl) pa_nil))) (pe_one (pe_not (pe_callB call_isiU (by rfl) T.b_isinstance (by decide +kernel) (pa_cons (pv 0) (pa_cons (pe_bltn rfl T.b_bool (by decide +kernel) rfl) pa_nil))))))))
theorem ok_divisor {P : Program} {w : World} {K : PySem.W.Frag} {mg : Str → Option Value} {base : Heap} {A : Ad} (T : Txt K mg A) :
    FnG P w K mg base CX0 1 A.f_divisor A.d_divisor ["one", "other"] (sp_divisor K A) := by
  refine okG T.F_divisor sc_divisor (fun vs H Q E h => ?_) (fun cdv A' outer s H vs Q E hr hG h => ⟨(t_divisor_0 K A), ?_, pure_divisor h⟩)
  · unfold sp_divisor at h
    try unfold spPen at h
    try unfold spDraw at h
    try unfold spPick at h
    try unfold spGcd at h
    try unfold spCmp at h
    try unfold spSum at h
    try unfold spLaw at h
    split at h <;> first | rfl | exact h.elim
  · exact (pss_cons (ps_par (i := 2) (j := 3) rfl sc_divisor.nd rfl rfl (by decide) rfl rfl (pa_cons (pe_callB call_absU (by rfl) T.b_abs (by decide +kernel) (pa_cons (pe_callTy call_intU (by rfl) T.b_int (by decide +kernel) (pa_cons (pv 0) pa_nil)) pa_nil)) (pa_cons (pe_callTy call_intU (by rfl) T.b_int (by decide +kernel) (pa_cons (pv 1) pa_nil)) pa_nil)) rfl)
    (pss_cons (ps_while never0 (pt_cmpR op_gtU (pv 3) pe_int (nomark _)) (pss_one (ps_par (i := 2) (j := 3) rfl sc_divisor.nd rfl rfl (by decide) rfl rfl (pa_cons (pv 3) (pa_cons (pe_op op_modU (pv 2) (pv 3)) pa_nil)) rfl)))
    (pss_one (ps_ret (pv 2)))))
theorem ok_Rate_init {P : Program} {w : World} {K : PySem.W.Frag} {mg : Str → Option Value} {base : Heap} {A : Ad} (T : Txt K mg A)
    (G_is_integer : FnG P w K mg base CX0 1 A.f_is_integer A.d_is_integer ["value"] (sp_is_integer K A))
    (G_divisor : FnG P w K mg base CX0 1 A.f_divisor A.d_divisor ["one", "other"] (sp_divisor K A)) :
    FnG P w K mg base CX0 3 A.f_Rate_init A.d_Rate_init ["self", "upper", "lower"] (sp_Rate_init K A) := by
  refine okDG T.F_Rate_init sc_Rate_init (fun vs H Q E h => ?_) (fun cdv A' outer s H vs Q E hr hG h => ⟨(t_Rate_init_0 K A), ?_, pure_Rate_init T.kf h⟩)
  · unfold sp_Rate_init at h
    try unfold spPen at h
    try unfold spDraw at h
    try unfold spPick at h
    try unfold spGcd at h
    try unfold spCmp at h
    try unfold spSum at h
    try unfold spLaw at h
    split at h <;> first | rfl | exact h.elim
  · exact (pss_cons (ps_if (pt_not (pt_val (pe_callG G_is_integer (hr.mono (by decide)) hG rfl T.g_is_integer T.F_is_integer.kp T.B_is_integer .nil pass0 (pa_cons (pv 1) pa_nil)))) (pss_one ps_never) pss_nil)
    (pss_cons (ps_if (PW.pt (pw_or (pt_not (pt_val (pe_callG G_is_integer (hr.mono (by decide)) hG rfl T.g_is_integer T.F_is_integer.kp T.B_is_integer .nil pass0 (pa_cons (pv 2) pa_nil)))) (pw_or1 (pt_cmpR op_ltU (pv 2) pe_int (nomark _))))) (pss_one ps_never) pss_nil)
    (pss_cons (ps_set (i := 3) sc_Rate_init.nd rfl (Or.inl rfl) (pe_callG G_divisor (hr.mono (by decide)) hG rfl T.g_divisor T.F_divisor.kp T.B_divisor .nil pass0 (pa_cons (pv 1) (pa_cons (pv 2) pa_nil))))
    (pss_cons (ps_fld (pv 0) (pe_op op_fdivU (pv 1) (pv 3)) rfl)
    (pss_one (ps_fld (pv 0) (pe_op op_fdivU (pv 2) (pv 3)) rfl))))))
theorem ok_as_rate {P : Program} {w : World} {K : PySem.W.Frag} {mg : Str → Option Value} {base : Heap} {A : Ad} (T : Txt K mg A)
    (G_is_integer : FnG P w K mg base CX0 1 A.f_is_integer A.d_is_integer ["value"] (sp_is_integer K A))
    (G_Rate_init : FnG P w K mg base CX0 3 A.f_Rate_init A.d_Rate_init ["self", "upper", "lower"] (sp_Rate_init K A)) :
    FnG P w K mg base CX0 5 A.f_as_rate A.d_as_rate ["value"] (sp_as_rate K A) := by
  obtain ⟨ds, v1_Rate, b1_Rate⟩ := T.D1_Rate
  refine okG T.F_as_rate sc_as_rate (fun vs H Q E h => ?_) (fun cdv A' outer s H vs Q E hr hG h => ⟨(t_as_rate_0 K A), ?_, pure_as_rate T.kf h⟩)
  · unfold sp_as_rate at h
    try unfold spPen at h
    try unfold spDraw at h
    try unfold spPick at h
    try unfold spGcd at h
    try unfold spCmp at h
    try unfold spSum at h
    try unfold spLaw at h
    split at h <;> first | rfl | exact h.elim
  · exact (pss_cons (ps_if (pt_val (pe_callB call_isiU (by rfl) T.b_isinstance (by decide +kernel) (pa_cons (pv 0) (pa_cons (pe_glob rfl T.g_Rate rfl) pa_nil)))) (pss_one (ps_ret (pv 0))) pss_nil)
    (pss_cons (ps_if (pt_not (pt_val (pe_callG G_is_integer (hr.mono (by decide)) hG rfl T.g_is_integer T.F_is_integer.kp T.B_is_integer .nil pass0 (pa_cons (pv 0) pa_nil)))) (pss_one ps_never) pss_nil)
    (pss_one (ps_ret (pe_makeG T.M_Rate G_Rate_init (hr.mono (by decide)) hG rfl T.g_Rate b1_Rate v1_Rate pass0 (pa_cons (pv 0) pa_nil))))))
theorem ok_Rate_floor {P : Program} {w : World} {K : PySem.W.Frag} {mg : Str → Option Value} {base : Heap} {A : Ad} (T : Txt K mg A) :
    FnG P w K mg base CX0 1 A.f_Rate_floor A.d_Rate_floor ["self"] (sp_Rate_floor K A) := by
  refine okG T.F_Rate_floor sc_Rate_floor (fun vs H Q E h => ?_) (fun cdv A' outer s H vs Q E hr hG h => ⟨(t_Rate_floor_0 K A), ?_, pure_Rate_floor T.kf h⟩)
  · unfold sp_Rate_floor at h
    try unfold spPen at h
    try unfold spDraw at h
    try unfold spPick at h
    try unfold spGcd at h
    try unfold spCmp at h
    try unfold spSum at h
    try unfold spLaw at h
    split at h <;> first | rfl | exact h.elim
  · exact (pss_one (ps_ret (pe_op op_fdivU (pe_fld (pv 0) rfl) (pe_fld (pv 0) rfl))))
theorem ok_Rate_eq {P : Program} {w : World} {K : PySem.W.Frag} {mg : Str → Option Value} {base : Heap} {A : Ad} (T : Txt K mg A)
    (G_is_integer : FnG P w K mg base CX0 1 A.f_is_integer A.d_is_integer ["value"] (sp_is_integer K A)) :
    FnG P w K mg base CX0 3 A.f_Rate_eq A.d_Rate_eq ["self", "other"] (sp_Rate_eq K A) := by
  refine okG T.F_Rate_eq sc_Rate_eq (fun vs H Q E h => ?_) (fun cdv A' outer s H vs Q E hr hG h => ⟨(t_Rate_eq_0 K A), ?_, pure_Rate_eq T.kf h⟩)
  · unfold sp_Rate_eq at h
    try unfold spPen at h
    try unfold spDraw at h
    try unfold spPick at h
    try unfold spGcd at h
    try unfold spCmp at h
    try unfold spSum at h
    try unfold spLaw at h
    split at h <;> first | rfl | exact h.elim
  · exact (pss_cons (ps_if (pt_val (pe_callG G_is_integer (hr.mono (by decide)) hG rfl T.g_is_integer T.F_is_integer.kp T.B_is_integer .nil pass0 (pa_cons (pv 1) pa_nil))) (pss_one (ps_ret (pe_and (pe_cmpR (op_eqU hr.units) (pe_fld (pv 0) rfl) (pv 1) (nomark _)) (pe_one (pe_cmpR (op_eqU hr.units) (pe_fld (pv 0) rfl) pe_int (nomark _)))))) pss_nil)
    (pss_one (ps_ret (pe_and (pe_callB call_isiU (by rfl) T.b_isinstance (by decide +kernel) (pa_cons (pv 1) (pa_cons (pe_glob rfl T.g_Rate rfl) pa_nil))) (pe_and (pe_cmpR (op_eqU hr.units) (pe_fld (pv 0) rfl) (pe_fld (pv 1) rfl) (nomark _)) (pe_one (pe_cmpR (op_eqU hr.units) (pe_fld (pv 0) rfl) (pe_fld (pv 1) rfl) (nomark _))))))))
theorem ok_Rate_lt {P : Program} {w : World} {K : PySem.W.Frag} {mg : Str → Option Value} {base : Heap} {A : Ad} (T : Txt K mg A)
    (G_as_rate : FnG P w K mg base CX0 5 A.f_as_rate A.d_as_rate ["value"] (sp_as_rate K A)) :
    FnG P w K mg base CX0 7 A.f_Rate_lt A.d_Rate_lt ["self", "other"] (sp_Rate_lt K A) := by
  refine okG T.F_Rate_lt sc_Rate_lt (fun vs H Q E h => ?_) (fun cdv A' outer s H vs Q E hr hG h => ⟨(t_Rate_lt_0 K A), ?_, pure_Rate_lt T.kf h⟩)
  · unfold sp_Rate_lt at h
    try unfold spPen at h
    try unfold spDraw at h
    try unfold spPick at h
    try unfold spGcd at h
    try unfold spCmp at h
    try unfold spSum at h
    try unfold spLaw at h
    split at h <;> first | rfl | exact h.elim
  · exact (pss_cons (ps_set (i := 2) sc_Rate_lt.nd rfl (Or.inl rfl) (pe_callG G_as_rate (hr.mono (by decide)) hG rfl T.g_as_rate T.F_as_rate.kp T.B_as_rate .nil pass0 (pa_cons (pv 1) pa_nil)))
    (pss_one (ps_ret (pe_cmpR op_ltU (pe_op op_mulU (pe_fld (pv 0) rfl) (pe_fld (pv 2) rfl)) (pe_op op_mulU (pe_fld (pv 2) rfl) (pe_fld (pv 0) rfl)) (nomark _)))))
theorem ok_Rate_le {P : Program} {w : World} {K : PySem.W.Frag} {mg : Str → Option Value} {base : Heap} {A : Ad} (T : Txt K mg A)
    (G_as_rate : FnG P w K mg base CX0 5 A.f_as_rate A.d_as_rate ["value"] (sp_as_rate K A)) :
    FnG P w K mg base CX0 7 A.f_Rate_le A.d_Rate_le ["self", "other"] (sp_Rate_le K A) := by
  refine okG T.F_Rate_le sc_Rate_le (fun vs H Q E h => ?_) (fun cdv A' outer s H vs Q E hr hG h => ⟨(t_Rate_le_0 K A), ?_, pure_Rate_le T.kf h⟩)
  · unfold sp_Rate_le at h
    try unfold spPen at h
    try unfold spDraw at h
    try unfold spPick at h
    try unfold spGcd at h
    try unfold spCmp at h
    try unfold spSum at h
    try unfold spLaw at h
    split at h <;> first | rfl | exact h.elim
  · exact (pss_cons (ps_set (i := 2) sc_Rate_le.nd rfl (Or.inl rfl) (pe_callG G_as_rate (hr.mono (by decide)) hG rfl T.g_as_rate T.F_as_rate.kp T.B_as_rate .nil pass0 (pa_cons (pv 1) pa_nil)))
    (pss_one (ps_ret (pe_cmpR op_leU (pe_op op_mulU (pe_fld (pv 0) rfl) (pe_fld (pv 2) rfl)) (pe_op op_mulU (pe_fld (pv 2) rfl) (pe_fld (pv 0) rfl)) (nomark _)))))
theorem ok_Rate_gt {P : Program} {w : World} {K : PySem.W.Frag} {mg : Str → Option Value} {base : Heap} {A : Ad} (T : Txt K mg A)
    (G_as_rate : FnG P w K mg base CX0 5 A.f_as_rate A.d_as_rate ["value"] (sp_as_rate K A))
    (G_Rate_lt : FnG P w K mg base CX0 7 A.f_Rate_lt A.d_Rate_lt ["self", "other"] (sp_Rate_lt K A)) :
    FnG P w K mg base CX0 9 A.f_Rate_gt A.d_Rate_gt ["self", "other"] (sp_Rate_gt K A) := by
  refine okG T.F_Rate_gt sc_Rate_gt (fun vs H Q E h => ?_) (fun cdv A' outer s H vs Q E hr hG h => ⟨(t_Rate_gt_0 K A), ?_, pure_Rate_gt T.kf h⟩)
  · unfold sp_Rate_gt at h
    try unfold spPen at h
    try unfold spDraw at h
    try unfold spPick at h
    try unfold spGcd at h
    try unfold spCmp at h
    try unfold spSum at h
    try unfold spLaw at h
    split at h <;> first | rfl | exact h.elim
  · exact (pss_one (ps_ret (pe_cmpR (op_onIns (op_cmp T.q_Rate_lt (ownG G_Rate_lt (hr.mono (by decide)) hG T.B_Rate_lt pass0) hr.units0) op_ltU) (pe_callG G_as_rate (hr.mono (by decide)) hG rfl T.g_as_rate T.F_as_rate.kp T.B_as_rate .nil pass0 (pa_cons (pv 1) pa_nil)) (pv 0) (nomark _))))
theorem ok_Rate_ge {P : Program} {w : World} {K : PySem.W.Frag} {mg : Str → Option Value} {base : Heap} {A : Ad} (T : Txt K mg A)
    (G_as_rate : FnG P w K mg base CX0 5 A.f_as_rate A.d_as_rate ["value"] (sp_as_rate K A))
    (G_Rate_le : FnG P w K mg base CX0 7 A.f_Rate_le A.d_Rate_le ["self", "other"] (sp_Rate_le K A)) :
    FnG P w K mg base CX0 9 A.f_Rate_ge A.d_Rate_ge ["self", "other"] (sp_Rate_ge K A) := by
  refine okG T.F_Rate_ge sc_Rate_ge (fun vs H Q E h => ?_) (fun cdv A' outer s H vs Q E hr hG h => ⟨(t_Rate_ge_0 K A), ?_, pure_Rate_ge T.kf h⟩)
  · unfold sp_Rate_ge at h
    try unfold spPen at h
    try unfold spDraw at h
    try unfold spPick at h
    try unfold spGcd at h
    try unfold spCmp at h
    try unfold spSum at h
    try unfold spLaw at h
    split at h <;> first | rfl | exact h.elim
  · exact (pss_one (ps_ret (pe_cmpR (op_onIns (op_cmp T.q_Rate_le (ownG G_Rate_le (hr.mono (by decide)) hG T.B_Rate_le pass0) hr.units0) op_leU) (pe_callG G_as_rate (hr.mono (by decide)) hG rfl T.g_as_rate T.F_as_rate.kp T.B_as_rate .nil pass0 (pa_cons (pv 1) pa_nil)) (pv 0) (nomark _))))
theorem ok_Rate_neg {P : Program} {w : World} {K : PySem.W.Frag} {mg : Str → Option Value} {base : Heap} {A : Ad} (T : Txt K mg A)
    (G_Rate_init : FnG P w K mg base CX0 3 A.f_Rate_init A.d_Rate_init ["self", "upper", "lower"] (sp_Rate_init K A)) :
    FnG P w K mg base CX0 5 A.f_Rate_neg A.d_Rate_neg ["self"] (sp_Rate_neg K A) := by
  refine okG T.F_Rate_neg sc_Rate_neg (fun vs H Q E h => ?_) (fun cdv A' outer s H vs Q E hr hG h => ⟨(t_Rate_neg_0 K A), ?_, pure_Rate_neg T.kf h⟩)
  · unfold sp_Rate_neg at h
    try unfold spPen at h
    try unfold spDraw at h
    try unfold spPick at h
    try unfold spGcd at h
    try unfold spCmp at h
    try unfold spSum at h
    try unfold spLaw at h
    split at h <;> first | rfl | exact h.elim
  · exact (pss_one (ps_ret (pe_makeG T.M_Rate G_Rate_init (hr.mono (by decide)) hG rfl T.g_Rate T.B_Rate_init .nil pass0 (pa_cons (pe_op op_subU pe_int (pe_fld (pv 0) rfl)) (pa_cons (pe_fld (pv 0) rfl) pa_nil)))))
theorem ok_Rate_add {P : Program} {w : World} {K : PySem.W.Frag} {mg : Str → Option Value} {base : Heap} {A : Ad} (T : Txt K mg A)
    (G_Rate_init : FnG P w K mg base CX0 3 A.f_Rate_init A.d_Rate_init ["self", "upper", "lower"] (sp_Rate_init K A))
    (G_as_rate : FnG P w K mg base CX0 5 A.f_as_rate A.d_as_rate ["value"] (sp_as_rate K A)) :
    FnG P w K mg base CX0 7 A.f_Rate_add A.d_Rate_add ["self", "other"] (sp_Rate_add K A) := by
  refine okG T.F_Rate_add sc_Rate_add (fun vs H Q E h => ?_) (fun cdv A' outer s H vs Q E hr hG h => ⟨(t_Rate_add_0 K A), ?_, pure_Rate_add T.kf h⟩)
  · unfold sp_Rate_add at h
    try unfold spPen at h
    try unfold spDraw at h
    try unfold spPick at h
    try unfold spGcd at h
    try unfold spCmp at h
    try unfold spSum at h
    try unfold spLaw at h
    split at h <;> first | rfl | exact h.elim
  · exact (pss_cons (ps_set (i := 2) sc_Rate_add.nd rfl (Or.inl rfl) (pe_callG G_as_rate (hr.mono (by decide)) hG rfl T.g_as_rate T.F_as_rate.kp T.B_as_rate .nil pass0 (pa_cons (pv 1) pa_nil)))
    (pss_one (ps_ret (pe_makeG T.M_Rate G_Rate_init (hr.mono (by decide)) hG rfl T.g_Rate T.B_Rate_init .nil pass0 (pa_cons (pe_op op_addU (pe_op op_mulU (pe_fld (pv 0) rfl) (pe_fld (pv 2) rfl)) (pe_op op_mulU (pe_fld (pv 2) rfl) (pe_fld (pv 0) rfl))) (pa_cons (pe_op op_mulU (pe_fld (pv 0) rfl) (pe_fld (pv 2) rfl)) pa_nil))))))
theorem ok_Rate_radd {P : Program} {w : World} {K : PySem.W.Frag} {mg : Str → Option Value} {base : Heap} {A : Ad} (T : Txt K mg A)
    (G_as_rate : FnG P w K mg base CX0 5 A.f_as_rate A.d_as_rate ["value"] (sp_as_rate K A))
    (G_Rate_add : FnG P w K mg base CX0 7 A.f_Rate_add A.d_Rate_add ["self", "other"] (sp_Rate_add K A)) :
    FnG P w K mg base CX0 9 A.f_Rate_radd A.d_Rate_radd ["self", "other"] (sp_Rate_radd K A) := by
  refine okG T.F_Rate_radd sc_Rate_radd (fun vs H Q E h => ?_) (fun cdv A' outer s H vs Q E hr hG h => ⟨(t_Rate_radd_0 K A), ?_, pure_Rate_radd T.kf h⟩)
  · unfold sp_Rate_radd at h
    try unfold spPen at h
    try unfold spDraw at h
    try unfold spPick at h
    try unfold spGcd at h
    try unfold spCmp at h
    try unfold spSum at h
    try unfold spLaw at h
    split at h <;> first | rfl | exact h.elim
  · exact (pss_one (ps_ret (pe_op (op_onIns (op_binL T.o_Rate_add (ownG G_Rate_add (hr.mono (by decide)) hG T.B_Rate_add pass0)) op_addU) (pe_callG G_as_rate (hr.mono (by decide)) hG rfl T.g_as_rate T.F_as_rate.kp T.B_as_rate .nil pass0 (pa_cons (pv 1) pa_nil)) (pv 0))))
theorem ok_Rate_sub {P : Program} {w : World} {K : PySem.W.Frag} {mg : Str → Option Value} {base : Heap} {A : Ad} (T : Txt K mg A)
    (G_as_rate : FnG P w K mg base CX0 5 A.f_as_rate A.d_as_rate ["value"] (sp_as_rate K A))
    (G_Rate_neg : FnG P w K mg base CX0 5 A.f_Rate_neg A.d_Rate_neg ["self"] (sp_Rate_neg K A))
    (G_Rate_add : FnG P w K mg base CX0 7 A.f_Rate_add A.d_Rate_add ["self", "other"] (sp_Rate_add K A)) :
    FnG P w K mg base CX0 9 A.f_Rate_sub A.d_Rate_sub ["self", "other"] (sp_Rate_sub K A) := by
  refine okG T.F_Rate_sub sc_Rate_sub (fun vs H Q E h => ?_) (fun cdv A' outer s H vs Q E hr hG h => ⟨(t_Rate_sub_0 K A), ?_, pure_Rate_sub T.kf h⟩)
  · unfold sp_Rate_sub at h
    try unfold spPen at h
    try unfold spDraw at h
    try unfold spPick at h
    try unfold spGcd at h
    try unfold spCmp at h
    try unfold spSum at h
    try unfold spLaw at h
    split at h <;> first | rfl | exact h.elim
  · exact (pss_one (ps_ret (pe_op (op_onIns (op_binL T.o_Rate_add (ownG G_Rate_add (hr.mono (by decide)) hG T.B_Rate_add pass0)) op_addU) (pv 0) (pe_un (un_negO T.u_Rate_neg (ownG G_Rate_neg (hr.mono (by decide)) hG T.B_Rate_neg pass0)) (pe_callG G_as_rate (hr.mono (by decide)) hG rfl T.g_as_rate T.F_as_rate.kp T.B_as_rate .nil pass0 (pa_cons (pv 1) pa_nil))))))
theorem ok_Rate_rsub {P : Program} {w : World} {K : PySem.W.Frag} {mg : Str → Option Value} {base : Heap} {A : Ad} (T : Txt K mg A)
    (G_as_rate : FnG P w K mg base CX0 5 A.f_as_rate A.d_as_rate ["value"] (sp_as_rate K A))
    (G_Rate_neg : FnG P w K mg base CX0 5 A.f_Rate_neg A.d_Rate_neg ["self"] (sp_Rate_neg K A))
    (G_Rate_add : FnG P w K mg base CX0 7 A.f_Rate_add A.d_Rate_add ["self", "other"] (sp_Rate_add K A)) :
    FnG P w K mg base CX0 9 A.f_Rate_rsub A.d_Rate_rsub ["self", "other"] (sp_Rate_rsub K A) := by
  refine okG T.F_Rate_rsub sc_Rate_rsub (fun vs H Q E h => ?_) (fun cdv A' outer s H vs Q E hr hG h => ⟨(t_Rate_rsub_0 K A), ?_, pure_Rate_rsub T.kf h⟩)
  · unfold sp_Rate_rsub at h
    try unfold spPen at h
    try unfold spDraw at h
    try unfold spPick at h
    try unfold spGcd at h
    try unfold spCmp at h
    try unfold spSum at h
    try unfold spLaw at h
    split at h <;> first | rfl | exact h.elim
  · exact (pss_one (ps_ret (pe_op (op_onIns (op_binL T.o_Rate_add (ownG G_Rate_add (hr.mono (by decide)) hG T.B_Rate_add pass0)) op_addU) (pe_callG G_as_rate (hr.mono (by decide)) hG rfl T.g_as_rate T.F_as_rate.kp T.B_as_rate .nil pass0 (pa_cons (pv 1) pa_nil)) (pe_un (un_negO T.u_Rate_neg (ownG G_Rate_neg (hr.mono (by decide)) hG T.B_Rate_neg pass0)) (pv 0)))))
theorem ok_Rate_mul {P : Program} {w : World} {K : PySem.W.Frag} {mg : Str → Option Value} {base : Heap} {A : Ad} (T : Txt K mg A)
    (G_is_integer : FnG P w K mg base CX0 1 A.f_is_integer A.d_is_integer ["value"] (sp_is_integer K A))
    (G_Rate_init : FnG P w K mg base CX0 3 A.f_Rate_init A.d_Rate_init ["self", "upper", "lower"] (sp_Rate_init K A)) :
    FnG P w K mg base CX0 5 A.f_Rate_mul A.d_Rate_mul ["self", "k"] (sp_Rate_mul K A) := by
  refine okG T.F_Rate_mul sc_Rate_mul (fun vs H Q E h => ?_) (fun cdv A' outer s H vs Q E hr hG h => ⟨(t_Rate_mul_0 K A), ?_, pure_Rate_mul T.kf h⟩)
  · unfold sp_Rate_mul at h
    try unfold spPen at h
    try unfold spDraw at h
    try unfold spPick at h
    try unfold spGcd at h
    try unfold spCmp at h
    try unfold spSum at h
    try unfold spLaw at h
    split at h <;> first | rfl | exact h.elim
  · exact (pss_cons (ps_if (pt_not (pt_val (pe_callG G_is_integer (hr.mono (by decide)) hG rfl T.g_is_integer T.F_is_integer.kp T.B_is_integer .nil pass0 (pa_cons (pv 1) pa_nil)))) (pss_one ps_never) pss_nil)
    (pss_one (ps_ret (pe_makeG T.M_Rate G_Rate_init (hr.mono (by decide)) hG rfl T.g_Rate T.B_Rate_init .nil pass0 (pa_cons (pe_op op_mulU (pe_fld (pv 0) rfl) (pv 1)) (pa_cons (pe_fld (pv 0) rfl) pa_nil))))))
theorem ok_law_pen {P : Program} {w : World} {K : PySem.W.Frag} {mg : Str → Option Value} {base : Heap} {A : Ad} (T : Txt K mg A) :
    FnG P w K mg base CX0 1 A.f_law_pen A.d_law_pen ["_law_script"] (sp_law_pen K A) := by
  refine okG T.F_law_pen sc_law_pen (fun vs H Q E h => ?_) (fun cdv A' outer s H vs Q E hr hG h => ⟨(t_law_pen_0 K A), ?_, pure_law_pen h⟩)
  · unfold sp_law_pen at h
    try unfold spPen at h
    try unfold spDraw at h
    try unfold spPick at h
    try unfold spGcd at h
    try unfold spCmp at h
    try unfold spSum at h
    try unfold spLaw at h
    split at h <;> first | rfl | exact h.elim
  · exact (pss_one (ps_ret (pe_lst (pa_cons (pe_callTy call_listU (by rfl) T.b_list (by decide +kernel) (pa_cons (pe_slice sl_list (pv 0) po_none (po_some pe_int)) pa_nil)) (pa_cons pe_int (pa_cons pe_int pa_nil))))))
theorem ok_law_draw {P : Program} {w : World} {K : PySem.W.Frag} {mg : Str → Option Value} {base : Heap} {A : Ad} (T : Txt K mg A) :
    FnG P w K mg base CX0 1 A.f_law_draw A.d_law_draw ["_law_pen_here", "_law_many"] (sp_law_draw K A) := by
  refine okG T.F_law_draw sc_law_draw (fun vs H Q E h => ?_) (fun cdv A' outer s H vs Q E hr hG h => ⟨(t_law_draw_0 K A), ?_, pure_law_draw h⟩)
  · unfold sp_law_draw at h
    try unfold spPen at h
    try unfold spDraw at h
    try unfold spPick at h
    try unfold spGcd at h
    try unfold spCmp at h
    try unfold spSum at h
    try unfold spLaw at h
    split at h <;> first | rfl | exact h.elim
  · exact (pss_cons (ps_if (pt_cmpR op_gtU (pe_ix ix_U (pv 0) pe_int (fun _ _ => rfl)) pe_int (nomark _)) (pss_cons (ps_set (i := 2) sc_law_draw.nd rfl (Or.inl rfl) (pe_op op_modU (pe_callTy call_intU (by rfl) T.b_int (by decide +kernel) (pa_cons (pe_ix ix_U (pv 0) pe_int (fun _ _ => rfl)) pa_nil)) (pv 1)))
    (pss_cons (ps_asg (pe_op op_fdivU (pe_callTy call_intU (by rfl) T.b_int (by decide +kernel) (pa_cons (pe_ix ix_U (pv 0) pe_int (fun _ _ => rfl)) pa_nil)) (pv 1)) (pg_sub (pv 0) pe_int set_U))
    (pss_one (ps_ret (pv 2))))) pss_nil)
    (pss_cons (ps_set (i := 3) sc_law_draw.nd rfl (Or.inl rfl) (pe_ix ix_U (pv 0) pe_int (fun _ _ => rfl)))
    (pss_cons (ps_asg (pe_op op_addU (pv 3) pe_int) (pg_sub (pv 0) pe_int set_U))
    (pss_cons (ps_set (i := 4) sc_law_draw.nd rfl (Or.inl rfl) (pe_op op_addU (pe_op op_mulU pe_int (pv 3)) pe_int))
    (pss_cons (ps_if (pt_cmpR (op_neU hr.units) (pe_ix ix_U (pv 0) pe_int (fun _ _ => rfl)) (pe_lst pa_nil) (nomark _)) (pss_one (ps_set (i := 4) sc_law_draw.nd rfl (Or.inl rfl) (pe_ix ix_U (pe_ix ix_U (pv 0) pe_int (fun _ _ => rfl)) (pe_op op_modU (pe_callTy call_intU (by rfl) T.b_int (by decide +kernel) (pa_cons (pv 3) pa_nil)) (pe_callB call_lenU (by rfl) T.b_len PySem.boot_len (pa_cons (pe_ix ix_U (pv 0) pe_int (fun _ _ => rfl)) pa_nil))) (fun _ _ => rfl)))) pss_nil)
    (pss_cons (ps_if (PW.pt (pw_and (pt_cmpR op_ltU (pv 3) (pe_callB call_lenU (by rfl) T.b_len PySem.boot_len (pa_cons (pe_ix ix_U (pv 0) pe_int (fun _ _ => rfl)) pa_nil)) (nomark _)) (pw_and1 (pt_cmpR op_geU (pe_callB call_absU (by rfl) T.b_abs (by decide +kernel) (pa_cons (pv 4) pa_nil)) (pe_op op_powU pe_int pe_int) (nomark _))))) (pss_cons (ps_set (i := 5) sc_law_draw.nd rfl (Or.inl rfl) (pe_op op_addU (pe_op op_mulU pe_int (pe_op op_subU (pe_callB call_absU (by rfl) T.b_abs (by decide +kernel) (pa_cons (pv 4) pa_nil)) (pe_op op_powU pe_int pe_int))) (pe_callTy call_intU (by rfl) T.b_int (by decide +kernel) (pa_cons (pe_cmpR op_ltU (pv 4) pe_int (nomark _)) pa_nil))))
    (pss_cons (ps_asg (pe_op op_fdivU (pe_callTy call_intU (by rfl) T.b_int (by decide +kernel) (pa_cons (pv 5) pa_nil)) (pv 1)) (pg_sub (pv 0) pe_int set_U))
    (pss_one (ps_ret (pe_op op_modU (pe_callTy call_intU (by rfl) T.b_int (by decide +kernel) (pa_cons (pv 5) pa_nil)) (pv 1)))))) pss_nil)
    (pss_cons (ps_set (i := 6) sc_law_draw.nd rfl (Or.inl rfl) (pe_op op_modU (pe_callTy call_intU (by rfl) T.b_int (by decide +kernel) (pa_cons (pe_op op_powU (pe_op op_addU (pe_op op_addU (pe_op op_modU (pe_callTy call_intU (by rfl) T.b_int (by decide +kernel) (pa_cons (pv 4) pa_nil)) pe_int) (pe_op op_mulU pe_int (pv 3))) pe_int) pe_int) pa_nil)) pe_int))
    (pss_cons (ps_set (i := 6) sc_law_draw.nd rfl (Or.inl rfl) (pe_op op_modU (pe_callTy call_intU (by rfl) T.b_int (by decide +kernel) (pa_cons (pe_op op_powU (pe_op op_addU (pe_op op_addU (pe_op op_mulU (pv 6) (pe_op op_addU (pe_op op_mulU pe_int (pv 3)) pe_int)) (pe_op op_mulU (pe_op op_mulU pe_int (pv 3)) (pv 3))) pe_int) pe_int) pa_nil)) pe_int))
    (pss_one (ps_ret (pe_op op_modU (pe_callTy call_intU (by rfl) T.b_int (by decide +kernel) (pa_cons (pe_op op_fdivU (pv 6) pe_int) pa_nil)) (pv 1))))))))))))
theorem ok_law_pick {P : Program} {w : World} {K : PySem.W.Frag} {mg : Str → Option Value} {base : Heap} {A : Ad} (T : Txt K mg A)
    (G_law_draw : FnG P w K mg base CX0 1 A.f_law_draw A.d_law_draw ["_law_pen_here", "_law_many"] (sp_law_draw K A)) :
    FnG P w K mg base CX0 3 A.f_law_pick A.d_law_pick ["_law_pen_here", "_law_some"] (sp_law_pick K A) := by
  refine okG T.F_law_pick sc_law_pick (fun vs H Q E h => ?_) (fun cdv A' outer s H vs Q E hr hG h => ⟨(t_law_pick_0 K A), ?_, pure_law_pick h⟩)
  · unfold sp_law_pick at h
    try unfold spPen at h
    try unfold spDraw at h
    try unfold spPick at h
    try unfold spGcd at h
    try unfold spCmp at h
    try unfold spSum at h
    try unfold spLaw at h
    split at h <;> first | rfl | exact h.elim
  · exact (pss_one (ps_ret (pe_ix ix_U (pv 1) (pe_callG G_law_draw (hr.mono (by decide)) hG rfl T.g_law_draw T.F_law_draw.kp T.B_law_draw .nil pass0 (pa_cons (pv 0) (pa_cons (pe_callB call_lenU (by rfl) T.b_len PySem.boot_len (pa_cons (pv 1) pa_nil)) pa_nil))) (fun _ _ => rfl))))
theorem ok_law_number {P : Program} {w : World} {K : PySem.W.Frag} {mg : Str → Option Value} {base : Heap} {A : Ad} (T : Txt K mg A)
    (G_law_draw : FnG P w K mg base CX0 1 A.f_law_draw A.d_law_draw ["_law_pen_here", "_law_many"] (sp_law_draw K A))
    (G_law_pick : FnG P w K mg base CX0 3 A.f_law_pick A.d_law_pick ["_law_pen_here", "_law_some"] (sp_law_pick K A)) :
    FnG P w K mg base CX0 5 A.f_law_number A.d_law_number ["_law_pen_here"] (sp_law_number K A) := by
  refine okG T.F_law_number sc_law_number (fun vs H Q E h => ?_) (fun cdv A' outer s H vs Q E hr hG h => ⟨(t_law_number_0 K A), ?_, pure_law_number T.kf h⟩)
  · unfold sp_law_number at h
    try unfold spPen at h
    try unfold spDraw at h
    try unfold spPick at h
    try unfold spGcd at h
    try unfold spCmp at h
    try unfold spSum at h
    try unfold spLaw at h
    split at h <;> first | rfl | exact h.elim
  · exact (pss_cons (ps_set (i := 1) sc_law_number.nd rfl (Or.inl rfl) (pe_callG G_law_pick (hr.mono (by decide)) hG rfl T.g_law_pick T.F_law_pick.kp T.B_law_pick .nil pass0 (pa_cons (pv 0) (pa_cons (pe_lst (pa_cons pe_int (pa_cons pe_int (pa_cons pe_int (pa_cons (pe_op op_powU pe_int pe_int) (pa_cons (pe_op op_powU pe_int pe_int) pa_nil)))))) pa_nil))))
    (pss_one (ps_ret (pe_op op_mulU (pe_callG G_law_draw (hr.mono (by decide)) hG rfl T.g_law_draw T.F_law_draw.kp T.B_law_draw .nil pass0 (pa_cons (pv 0) (pa_cons (pv 1) pa_nil))) (pe_callG G_law_pick (hr.mono (by decide)) hG rfl T.g_law_pick T.F_law_pick.kp T.B_law_pick .nil pass0 (pa_cons (pv 0) (pa_cons (pe_lst (pa_cons pe_int (pa_cons pe_int (pa_cons (pe_un un_negU pe_int) pa_nil)))) pa_nil)))))))
theorem ok_law_divisor {P : Program} {w : World} {K : PySem.W.Frag} {mg : Str → Option Value} {base : Heap} {A : Ad} (T : Txt K mg A) :
    FnG P w K mg base CX0 1 A.f_law_divisor A.d_law_divisor ["_law_one", "_law_other"] (sp_law_divisor K A) := by
  refine okG T.F_law_divisor sc_law_divisor (fun vs H Q E h => ?_) (fun cdv A' outer s H vs Q E hr hG h => ⟨(t_law_divisor_0 K A), ?_, pure_law_divisor h⟩)
  · unfold sp_law_divisor at h
    try unfold spPen at h
    try unfold spDraw at h
    try unfold spPick at h
    try unfold spGcd at h
    try unfold spCmp at h
    try unfold spSum at h
    try unfold spLaw at h
    split at h <;> first | rfl | exact h.elim
  · exact (pss_cons (ps_par (i := 2) (j := 3) rfl sc_law_divisor.nd rfl rfl (by decide) rfl rfl (pa_cons (pe_callB call_absU (by rfl) T.b_abs (by decide +kernel) (pa_cons (pe_callTy call_intU (by rfl) T.b_int (by decide +kernel) (pa_cons (pv 0) pa_nil)) pa_nil)) (pa_cons (pe_callTy call_intU (by rfl) T.b_int (by decide +kernel) (pa_cons (pv 1) pa_nil)) pa_nil)) rfl)
    (pss_cons (ps_while never0 (pt_cmpR (op_neU hr.units) (pv 3) pe_int (nomark _)) (pss_one (ps_par (i := 2) (j := 3) rfl sc_law_divisor.nd rfl rfl (by decide) rfl rfl (pa_cons (pv 3) (pa_cons (pe_op op_modU (pe_callTy call_intU (by rfl) T.b_int (by decide +kernel) (pa_cons (pv 2) pa_nil)) (pv 3)) pa_nil)) rfl)))
    (pss_one (ps_ret (pv 2)))))
theorem ok_law_is {P : Program} {w : World} {K : PySem.W.Frag} {mg : Str → Option Value} {base : Heap} {A : Ad} (T : Txt K mg A)
    (G_law_divisor : FnG P w K mg base CX0 1 A.f_law_divisor A.d_law_divisor ["_law_one", "_law_other"] (sp_law_divisor K A)) :
    FnG P w K mg base CX0 3 A.f_law_is A.d_law_is ["_law_rate", "_law_upper", "_law_lower"] (sp_law_is K A) := by
  refine okG T.F_law_is sc_law_is (fun vs H Q E h => ?_) (fun cdv A' outer s H vs Q E hr hG h => ⟨(t_law_is_0 K A), ?_, pure_law_is T.kf h⟩)
  · unfold sp_law_is at h
    try unfold spPen at h
    try unfold spDraw at h
    try unfold spPick at h
    try unfold spGcd at h
    try unfold spCmp at h
    try unfold spSum at h
    try unfold spLaw at h
    split at h <;> first | rfl | exact h.elim
  · exact (pss_cons (ps_set (i := 3) sc_law_is.nd rfl (Or.inl rfl) (pe_callG G_law_divisor (hr.mono (by decide)) hG rfl T.g_law_divisor T.F_law_divisor.kp T.B_law_divisor .nil pass0 (pa_cons (pv 1) (pa_cons (pv 2) pa_nil))))
    (pss_cons (ps_if (pt_not (pt_val (pe_callB call_isiU (by rfl) T.b_isinstance (by decide +kernel) (pa_cons (pv 0) (pa_cons (pe_glob rfl T.g_Rate rfl) pa_nil))))) (pss_one (ps_ret pe_bl)) pss_nil)
    (pss_one (ps_ret (pe_cmpR (op_eqU hr.units) (pe_callB (call_reprU hG hr.units) (by rfl) T.b_repr (by decide +kernel) (pa_cons (pe_lst (pa_cons (pe_fld (pv 0) rfl) (pa_cons (pe_fld (pv 0) rfl) pa_nil))) pa_nil)) (pe_callB (call_reprU hG hr.units) (by rfl) T.b_repr (by decide +kernel) (pa_cons (pe_lst (pa_cons (pe_op op_fdivU (pv 1) (pv 3)) (pa_cons (pe_op op_fdivU (pv 2) (pv 3)) pa_nil))) pa_nil)) (nomark _))))))
theorem ok_law_sums_right {P : Program} {w : World} {K : PySem.W.Frag} {mg : Str → Option Value} {base : Heap} {A : Ad} (T : Txt K mg A)
    (G_Rate_eq : FnG P w K mg base CX0 3 A.f_Rate_eq A.d_Rate_eq ["self", "other"] (sp_Rate_eq K A))
    (G_Rate_lt : FnG P w K mg base CX0 7 A.f_Rate_lt A.d_Rate_lt ["self", "other"] (sp_Rate_lt K A))
    (G_Rate_le : FnG P w K mg base CX0 7 A.f_Rate_le A.d_Rate_le ["self", "other"] (sp_Rate_le K A))
    (G_Rate_gt : FnG P w K mg base CX0 9 A.f_Rate_gt A.d_Rate_gt ["self", "other"] (sp_Rate_gt K A))
    (G_Rate_ge : FnG P w K mg base CX0 9 A.f_Rate_ge A.d_Rate_ge ["self", "other"] (sp_Rate_ge K A))
    (G_Rate_neg : FnG P w K mg base CX0 5 A.f_Rate_neg A.d_Rate_neg ["self"] (sp_Rate_neg K A))
    (G_Rate_add : FnG P w K mg base CX0 7 A.f_Rate_add A.d_Rate_add ["self", "other"] (sp_Rate_add K A))
    (G_Rate_sub : FnG P w K mg base CX0 9 A.f_Rate_sub A.d_Rate_sub ["self", "other"] (sp_Rate_sub K A))
    (G_law_is : FnG P w K mg base CX0 3 A.f_law_is A.d_law_is ["_law_rate", "_law_upper", "_law_lower"] (sp_law_is K A)) :
    FnG P w K mg base CX0 11 A.f_law_sums_right A.d_law_sums_right ["_law_one", "_law_other", "_law_a", "_law_b", "_law_c", "_law_d"] (sp_law_sums_right K A) := by
  refine okG T.F_law_sums_right sc_law_sums_right (fun vs H Q E h => ?_) (fun cdv A' outer s H vs Q E hr hG h => ⟨(t_law_sums_right_0 K A), ?_, pure_law_sums_right T.kf h⟩)
  · unfold sp_law_sums_right at h
    try unfold spPen at h
    try unfold spDraw at h
    try unfold spPick at h
    try unfold spGcd at h
    try unfold spCmp at h
    try unfold spSum at h
    try unfold spLaw at h
    split at h <;> first | rfl | exact h.elim
  · exact (pss_cons (ps_if (PW.pt (pw_or (pt_not (pt_val (pe_callG G_law_is (hr.mono (by decide)) hG rfl T.g_law_is T.F_law_is.kp T.B_law_is .nil pass0 (pa_cons (pe_op (op_onIns (op_binL T.o_Rate_add (ownG G_Rate_add (hr.mono (by decide)) hG T.B_Rate_add pass0)) op_addU) (pv 0) (pv 1)) (pa_cons (pe_op (op_onIns (op_binL T.o_Rate_add (ownG G_Rate_add (hr.mono (by decide)) hG T.B_Rate_add pass0)) op_addU) (pe_op op_mulU (pv 2) (pv 5)) (pe_op op_mulU (pv 4) (pv 3))) (pa_cons (pe_op op_mulU (pv 3) (pv 5)) pa_nil)))))) (pw_or1 (pt_not (pt_val (pe_callG G_law_is (hr.mono (by decide)) hG rfl T.g_law_is T.F_law_is.kp T.B_law_is .nil pass0 (pa_cons (pe_op (op_onIns (op_binL T.o_Rate_sub (ownG G_Rate_sub (hr.mono (by decide)) hG T.B_Rate_sub pass0)) op_subU) (pv 0) (pv 1)) (pa_cons (pe_op (op_onIns (op_binL T.o_Rate_sub (ownG G_Rate_sub (hr.mono (by decide)) hG T.B_Rate_sub pass0)) op_subU) (pe_op op_mulU (pv 2) (pv 5)) (pe_op op_mulU (pv 4) (pv 3))) (pa_cons (pe_op op_mulU (pv 3) (pv 5)) pa_nil))))))))) (pss_one (ps_ret pe_bl)) pss_nil)
    (pss_cons (ps_par (i := 6) (j := 7) rfl sc_law_sums_right.nd rfl rfl (by decide) rfl rfl (pa_cons (pv 0) (pa_cons (pv 0) pa_nil)) rfl)
    (pss_cons (ps_aug (i := 6) sc_law_sums_right.nd rfl (Or.inl rfl) (pv 1) (pip_of (op_inp T.i_Rate_add (ownG G_Rate_add (hr.mono (by decide)) hG T.B_Rate_add pass0))))
    (pss_cons (ps_aug (i := 7) sc_law_sums_right.nd rfl (Or.inl rfl) (pv 1) (pip_of (op_inp T.i_Rate_sub (ownG G_Rate_sub (hr.mono (by decide)) hG T.B_Rate_sub pass0))))
    (pss_cons (ps_if (PW.pt (pw_or (pt_cmpR (op_onIns (op_neO T.n_Rate (own1G G_Rate_eq (hr.mono (by decide)) hG T.B_Rate_eq pass0) hr.units1) (op_neU hr.units)) (pv 6) (pe_op (op_onIns (op_binL T.o_Rate_add (ownG G_Rate_add (hr.mono (by decide)) hG T.B_Rate_add pass0)) op_addU) (pv 0) (pv 1)) (nomark _)) (pw_or (pt_cmpR (op_onIns (op_neO T.n_Rate (own1G G_Rate_eq (hr.mono (by decide)) hG T.B_Rate_eq pass0) hr.units1) (op_neU hr.units)) (pv 7) (pe_op (op_onIns (op_binL T.o_Rate_sub (ownG G_Rate_sub (hr.mono (by decide)) hG T.B_Rate_sub pass0)) op_subU) (pv 0) (pv 1)) (nomark _)) (pw_or (pt_not (pt_val (pe_callG G_law_is (hr.mono (by decide)) hG rfl T.g_law_is T.F_law_is.kp T.B_law_is .nil pass0 (pa_cons (pv 0) (pa_cons (pv 2) (pa_cons (pv 3) pa_nil)))))) (pw_or1 (pt_not (pt_val (pe_callG G_law_is (hr.mono (by decide)) hG rfl T.g_law_is T.F_law_is.kp T.B_law_is .nil pass0 (pa_cons (pe_un (un_negO T.u_Rate_neg (ownG G_Rate_neg (hr.mono (by decide)) hG T.B_Rate_neg pass0)) (pv 0)) (pa_cons (pe_op (op_onIns (op_binL T.o_Rate_sub (ownG G_Rate_sub (hr.mono (by decide)) hG T.B_Rate_sub pass0)) op_subU) pe_int (pv 2)) (pa_cons (pv 3) pa_nil))))))))))) (pss_one (ps_ret pe_bl)) pss_nil)
    (pss_cons (ps_set (i := 8) sc_law_sums_right.nd rfl (Or.inl rfl) (pe_lst (pa_cons (pe_cmpR (op_onIns (op_cmp T.q_Rate_lt (ownG G_Rate_lt (hr.mono (by decide)) hG T.B_Rate_lt pass0) hr.units0) op_ltU) (pv 0) (pv 1) (nomark _)) (pa_cons (pe_cmpR (op_onIns (op_cmp T.q_Rate_le (ownG G_Rate_le (hr.mono (by decide)) hG T.B_Rate_le pass0) hr.units0) op_leU) (pv 0) (pv 1) (nomark _)) (pa_cons (pe_cmpR (op_onIns (op_cmp T.q_Rate_gt (ownG G_Rate_gt (hr.mono (by decide)) hG T.B_Rate_gt pass0) hr.units0) op_gtU) (pv 0) (pv 1) (nomark _)) (pa_cons (pe_cmpR (op_onIns (op_cmp T.q_Rate_ge (ownG G_Rate_ge (hr.mono (by decide)) hG T.B_Rate_ge pass0) hr.units0) op_geU) (pv 0) (pv 1) (nomark _)) (pa_cons (pe_cmpR (op_onIns (op_cmp T.q_Rate_eq (ownG G_Rate_eq (hr.mono (by decide)) hG T.B_Rate_eq pass0) hr.units0) (op_eqU hr.units)) (pv 0) (pv 1) (nomark _)) (pa_cons (pe_cmpR (op_onIns (op_neO T.n_Rate (own1G G_Rate_eq (hr.mono (by decide)) hG T.B_Rate_eq pass0) hr.units1) (op_neU hr.units)) (pv 0) (pv 1) (nomark _)) pa_nil))))))))
    (pss_cons (ps_par (i := 9) (j := 10) rfl sc_law_sums_right.nd rfl rfl (by decide) rfl rfl (pa_cons (pe_op op_mulU (pv 2) (pv 5)) (pa_cons (pe_op op_mulU (pv 4) (pv 3)) pa_nil)) rfl)
    (pss_one (ps_ret (pe_cmpR (op_onIns (op_cmp T.q_Rate_eq (ownG G_Rate_eq (hr.mono (by decide)) hG T.B_Rate_eq pass0) hr.units0) (op_eqU hr.units)) (pe_callB (call_reprU hG hr.units) (by rfl) T.b_repr (by decide +kernel) (pa_cons (pv 8) pa_nil)) (pe_callB (call_reprU hG hr.units) (by rfl) T.b_repr (by decide +kernel) (pa_cons (pe_lst (pa_cons (pe_cmpR (op_onIns (op_cmp T.q_Rate_lt (ownG G_Rate_lt (hr.mono (by decide)) hG T.B_Rate_lt pass0) hr.units0) op_ltU) (pv 9) (pv 10) (nomark _)) (pa_cons (pe_cmpR (op_onIns (op_cmp T.q_Rate_le (ownG G_Rate_le (hr.mono (by decide)) hG T.B_Rate_le pass0) hr.units0) op_leU) (pv 9) (pv 10) (nomark _)) (pa_cons (pe_cmpR (op_onIns (op_cmp T.q_Rate_gt (ownG G_Rate_gt (hr.mono (by decide)) hG T.B_Rate_gt pass0) hr.units0) op_gtU) (pv 9) (pv 10) (nomark _)) (pa_cons (pe_cmpR (op_onIns (op_cmp T.q_Rate_ge (ownG G_Rate_ge (hr.mono (by decide)) hG T.B_Rate_ge pass0) hr.units0) op_geU) (pv 9) (pv 10) (nomark _)) (pa_cons (pe_cmpR (op_onIns (op_cmp T.q_Rate_eq (ownG G_Rate_eq (hr.mono (by decide)) hG T.B_Rate_eq pass0) hr.units0) (op_eqU hr.units)) (pv 9) (pv 10) (nomark _)) (pa_cons (pe_cmpR (op_onIns (op_neO T.n_Rate (own1G G_Rate_eq (hr.mono (by decide)) hG T.B_Rate_eq pass0) hr.units1) (op_neU hr.units)) (pv 9) (pv 10) (nomark _)) pa_nil))))))) pa_nil)) (nomark _)))))))))))
theorem ok_law_whole_right {P : Program} {w : World} {K : PySem.W.Frag} {mg : Str → Option Value} {base : Heap} {A : Ad} (T : Txt K mg A)
    (G_Rate_eq : FnG P w K mg base CX0 3 A.f_Rate_eq A.d_Rate_eq ["self", "other"] (sp_Rate_eq K A))
    (G_Rate_lt : FnG P w K mg base CX0 7 A.f_Rate_lt A.d_Rate_lt ["self", "other"] (sp_Rate_lt K A))
    (G_Rate_le : FnG P w K mg base CX0 7 A.f_Rate_le A.d_Rate_le ["self", "other"] (sp_Rate_le K A))
    (G_Rate_gt : FnG P w K mg base CX0 9 A.f_Rate_gt A.d_Rate_gt ["self", "other"] (sp_Rate_gt K A))
    (G_Rate_ge : FnG P w K mg base CX0 9 A.f_Rate_ge A.d_Rate_ge ["self", "other"] (sp_Rate_ge K A))
    (G_Rate_add : FnG P w K mg base CX0 7 A.f_Rate_add A.d_Rate_add ["self", "other"] (sp_Rate_add K A))
    (G_Rate_radd : FnG P w K mg base CX0 9 A.f_Rate_radd A.d_Rate_radd ["self", "other"] (sp_Rate_radd K A))
    (G_Rate_sub : FnG P w K mg base CX0 9 A.f_Rate_sub A.d_Rate_sub ["self", "other"] (sp_Rate_sub K A))
    (G_Rate_rsub : FnG P w K mg base CX0 9 A.f_Rate_rsub A.d_Rate_rsub ["self", "other"] (sp_Rate_rsub K A))
    (G_Rate_mul : FnG P w K mg base CX0 5 A.f_Rate_mul A.d_Rate_mul ["self", "k"] (sp_Rate_mul K A))
    (G_law_is : FnG P w K mg base CX0 3 A.f_law_is A.d_law_is ["_law_rate", "_law_upper", "_law_lower"] (sp_law_is K A)) :
    FnG P w K mg base CX0 11 A.f_law_whole_right A.d_law_whole_right ["_law_one", "_law_a", "_law_b", "_law_k"] (sp_law_whole_right K A) := by
  refine okG T.F_law_whole_right sc_law_whole_right (fun vs H Q E h => ?_) (fun cdv A' outer s H vs Q E hr hG h => ⟨(t_law_whole_right_0 K A), ?_, pure_law_whole_right T.kf h⟩)
  · unfold sp_law_whole_right at h
    try unfold spPen at h
    try unfold spDraw at h
    try unfold spPick at h
    try unfold spGcd at h
    try unfold spCmp at h
    try unfold spSum at h
    try unfold spLaw at h
    split at h <;> first | rfl | exact h.elim
  · exact (pss_cons (ps_if (PW.pt (pw_or (pt_not (pt_val (pe_callG G_law_is (hr.mono (by decide)) hG rfl T.g_law_is T.F_law_is.kp T.B_law_is .nil pass0 (pa_cons (pe_op (op_onIns (op_binL T.o_Rate_add (ownG G_Rate_add (hr.mono (by decide)) hG T.B_Rate_add pass0)) (op_onInsR (op_binR T.r_Rate_radd (ownG G_Rate_radd (hr.mono (by decide)) hG T.B_Rate_radd pass0) (fun s y dx i t h Q q => dec_add h Q q)) op_addU)) (pv 0) (pv 3)) (pa_cons (pe_op (op_onIns (op_binL T.o_Rate_add (ownG G_Rate_add (hr.mono (by decide)) hG T.B_Rate_add pass0)) (op_onInsR (op_binR T.r_Rate_radd (ownG G_Rate_radd (hr.mono (by decide)) hG T.B_Rate_radd pass0) (fun s y dx i t h Q q => dec_add h Q q)) op_addU)) (pv 1) (pe_op (op_onIns (op_binL T.o_Rate_mul (ownG G_Rate_mul (hr.mono (by decide)) hG T.B_Rate_mul pass0)) op_mulU) (pv 3) (pv 2))) (pa_cons (pv 2) pa_nil)))))) (pw_or (pt_not (pt_val (pe_callG G_law_is (hr.mono (by decide)) hG rfl T.g_law_is T.F_law_is.kp T.B_law_is .nil pass0 (pa_cons (pe_op (op_onIns (op_binL T.o_Rate_add (ownG G_Rate_add (hr.mono (by decide)) hG T.B_Rate_add pass0)) (op_onInsR (op_binR T.r_Rate_radd (ownG G_Rate_radd (hr.mono (by decide)) hG T.B_Rate_radd pass0) (fun s y dx i t h Q q => dec_add h Q q)) op_addU)) (pv 3) (pv 0)) (pa_cons (pe_op (op_onIns (op_binL T.o_Rate_add (ownG G_Rate_add (hr.mono (by decide)) hG T.B_Rate_add pass0)) (op_onInsR (op_binR T.r_Rate_radd (ownG G_Rate_radd (hr.mono (by decide)) hG T.B_Rate_radd pass0) (fun s y dx i t h Q q => dec_add h Q q)) op_addU)) (pv 1) (pe_op (op_onIns (op_binL T.o_Rate_mul (ownG G_Rate_mul (hr.mono (by decide)) hG T.B_Rate_mul pass0)) op_mulU) (pv 3) (pv 2))) (pa_cons (pv 2) pa_nil)))))) (pw_or1 (pt_not (pt_val (pe_callG G_law_is (hr.mono (by decide)) hG rfl T.g_law_is T.F_law_is.kp T.B_law_is .nil pass0 (pa_cons (pe_op (op_onIns (op_binL T.o_Rate_mul (ownG G_Rate_mul (hr.mono (by decide)) hG T.B_Rate_mul pass0)) op_mulU) (pv 0) (pv 3)) (pa_cons (pe_op (op_onIns (op_binL T.o_Rate_mul (ownG G_Rate_mul (hr.mono (by decide)) hG T.B_Rate_mul pass0)) op_mulU) (pv 1) (pv 3)) (pa_cons (pv 2) pa_nil)))))))))) (pss_one (ps_ret pe_bl)) pss_nil)
    (pss_cons (ps_if (PW.pt (pw_or (pt_not (pt_val (pe_callG G_law_is (hr.mono (by decide)) hG rfl T.g_law_is T.F_law_is.kp T.B_law_is .nil pass0 (pa_cons (pe_op (op_onIns (op_binL T.o_Rate_sub (ownG G_Rate_sub (hr.mono (by decide)) hG T.B_Rate_sub pass0)) (op_onInsR (op_binR T.r_Rate_rsub (ownG G_Rate_rsub (hr.mono (by decide)) hG T.B_Rate_rsub pass0) (fun s y dx i t h Q q => dec_sub h Q q)) op_subU)) (pv 0) (pv 3)) (pa_cons (pe_op (op_onIns (op_binL T.o_Rate_sub (ownG G_Rate_sub (hr.mono (by decide)) hG T.B_Rate_sub pass0)) (op_onInsR (op_binR T.r_Rate_rsub (ownG G_Rate_rsub (hr.mono (by decide)) hG T.B_Rate_rsub pass0) (fun s y dx i t h Q q => dec_sub h Q q)) op_subU)) (pv 1) (pe_op (op_onIns (op_binL T.o_Rate_mul (ownG G_Rate_mul (hr.mono (by decide)) hG T.B_Rate_mul pass0)) op_mulU) (pv 3) (pv 2))) (pa_cons (pv 2) pa_nil)))))) (pw_or1 (pt_not (pt_val (pe_callG G_law_is (hr.mono (by decide)) hG rfl T.g_law_is T.F_law_is.kp T.B_law_is .nil pass0 (pa_cons (pe_op (op_onIns (op_binL T.o_Rate_sub (ownG G_Rate_sub (hr.mono (by decide)) hG T.B_Rate_sub pass0)) (op_onInsR (op_binR T.r_Rate_rsub (ownG G_Rate_rsub (hr.mono (by decide)) hG T.B_Rate_rsub pass0) (fun s y dx i t h Q q => dec_sub h Q q)) op_subU)) (pv 3) (pv 0)) (pa_cons (pe_op (op_onIns (op_binL T.o_Rate_sub (ownG G_Rate_sub (hr.mono (by decide)) hG T.B_Rate_sub pass0)) (op_onInsR (op_binR T.r_Rate_rsub (ownG G_Rate_rsub (hr.mono (by decide)) hG T.B_Rate_rsub pass0) (fun s y dx i t h Q q => dec_sub h Q q)) op_subU)) (pe_op (op_onIns (op_binL T.o_Rate_mul (ownG G_Rate_mul (hr.mono (by decide)) hG T.B_Rate_mul pass0)) op_mulU) (pv 3) (pv 2)) (pv 1)) (pa_cons (pv 2) pa_nil))))))))) (pss_one (ps_ret pe_bl)) pss_nil)
    (pss_cons (ps_set (i := 4) sc_law_whole_right.nd rfl (Or.inl rfl) (pe_lst (pa_cons (pe_cmpR (op_onIns (op_cmp T.q_Rate_lt (ownG G_Rate_lt (hr.mono (by decide)) hG T.B_Rate_lt pass0) hr.units0) op_ltU) (pv 0) (pv 3) (nomark _)) (pa_cons (pe_cmpR (op_onIns (op_cmp T.q_Rate_le (ownG G_Rate_le (hr.mono (by decide)) hG T.B_Rate_le pass0) hr.units0) op_leU) (pv 0) (pv 3) (nomark _)) (pa_cons (pe_cmpR (op_onIns (op_cmp T.q_Rate_gt (ownG G_Rate_gt (hr.mono (by decide)) hG T.B_Rate_gt pass0) hr.units0) op_gtU) (pv 0) (pv 3) (nomark _)) (pa_cons (pe_cmpR (op_onIns (op_cmp T.q_Rate_ge (ownG G_Rate_ge (hr.mono (by decide)) hG T.B_Rate_ge pass0) hr.units0) op_geU) (pv 0) (pv 3) (nomark _)) (pa_cons (pe_cmpR (op_onIns (op_cmp T.q_Rate_eq (ownG G_Rate_eq (hr.mono (by decide)) hG T.B_Rate_eq pass0) hr.units0) (op_eqU hr.units)) (pv 0) (pv 3) (nomark _)) pa_nil)))))))
    (pss_one (ps_ret (pe_cmpR (op_onIns (op_cmp T.q_Rate_eq (ownG G_Rate_eq (hr.mono (by decide)) hG T.B_Rate_eq pass0) hr.units0) (op_eqU hr.units)) (pe_callB (call_reprU hG hr.units) (by rfl) T.b_repr (by decide +kernel) (pa_cons (pv 4) pa_nil)) (pe_callB (call_reprU hG hr.units) (by rfl) T.b_repr (by decide +kernel) (pa_cons (pe_lst (pa_cons (pe_cmpR (op_onIns (op_cmp T.q_Rate_lt (ownG G_Rate_lt (hr.mono (by decide)) hG T.B_Rate_lt pass0) hr.units0) op_ltU) (pv 1) (pe_op (op_onIns (op_binL T.o_Rate_mul (ownG G_Rate_mul (hr.mono (by decide)) hG T.B_Rate_mul pass0)) op_mulU) (pv 3) (pv 2)) (nomark _)) (pa_cons (pe_cmpR (op_onIns (op_cmp T.q_Rate_le (ownG G_Rate_le (hr.mono (by decide)) hG T.B_Rate_le pass0) hr.units0) op_leU) (pv 1) (pe_op (op_onIns (op_binL T.o_Rate_mul (ownG G_Rate_mul (hr.mono (by decide)) hG T.B_Rate_mul pass0)) op_mulU) (pv 3) (pv 2)) (nomark _)) (pa_cons (pe_cmpR (op_onIns (op_cmp T.q_Rate_gt (ownG G_Rate_gt (hr.mono (by decide)) hG T.B_Rate_gt pass0) hr.units0) op_gtU) (pv 1) (pe_op (op_onIns (op_binL T.o_Rate_mul (ownG G_Rate_mul (hr.mono (by decide)) hG T.B_Rate_mul pass0)) op_mulU) (pv 3) (pv 2)) (nomark _)) (pa_cons (pe_cmpR (op_onIns (op_cmp T.q_Rate_ge (ownG G_Rate_ge (hr.mono (by decide)) hG T.B_Rate_ge pass0) hr.units0) op_geU) (pv 1) (pe_op (op_onIns (op_binL T.o_Rate_mul (ownG G_Rate_mul (hr.mono (by decide)) hG T.B_Rate_mul pass0)) op_mulU) (pv 3) (pv 2)) (nomark _)) (pa_cons (pe_cmpR (op_onIns (op_cmp T.q_Rate_eq (ownG G_Rate_eq (hr.mono (by decide)) hG T.B_Rate_eq pass0) hr.units0) (op_eqU hr.units)) (pv 1) (pe_op (op_onIns (op_binL T.o_Rate_mul (ownG G_Rate_mul (hr.mono (by decide)) hG T.B_Rate_mul pass0)) op_mulU) (pv 3) (pv 2)) (nomark _)) pa_nil)))))) pa_nil)) (nomark _)))))))
theorem ok_law {P : Program} {w : World} {K : PySem.W.Frag} {mg : Str → Option Value} {base : Heap} {A : Ad} (T : Txt K mg A)
    (G_Rate_init : FnG P w K mg base CX0 3 A.f_Rate_init A.d_Rate_init ["self", "upper", "lower"] (sp_Rate_init K A))
    (G_Rate_floor : FnG P w K mg base CX0 1 A.f_Rate_floor A.d_Rate_floor ["self"] (sp_Rate_floor K A))
    (G_Rate_eq : FnG P w K mg base CX0 3 A.f_Rate_eq A.d_Rate_eq ["self", "other"] (sp_Rate_eq K A))
    (G_law_pen : FnG P w K mg base CX0 1 A.f_law_pen A.d_law_pen ["_law_script"] (sp_law_pen K A))
    (G_law_draw : FnG P w K mg base CX0 1 A.f_law_draw A.d_law_draw ["_law_pen_here", "_law_many"] (sp_law_draw K A))
    (G_law_pick : FnG P w K mg base CX0 3 A.f_law_pick A.d_law_pick ["_law_pen_here", "_law_some"] (sp_law_pick K A))
    (G_law_number : FnG P w K mg base CX0 5 A.f_law_number A.d_law_number ["_law_pen_here"] (sp_law_number K A))
    (G_law_is : FnG P w K mg base CX0 3 A.f_law_is A.d_law_is ["_law_rate", "_law_upper", "_law_lower"] (sp_law_is K A))
    (G_law_sums_right : FnG P w K mg base CX0 11 A.f_law_sums_right A.d_law_sums_right ["_law_one", "_law_other", "_law_a", "_law_b", "_law_c", "_law_d"] (sp_law_sums_right K A))
    (G_law_whole_right : FnG P w K mg base CX0 11 A.f_law_whole_right A.d_law_whole_right ["_law_one", "_law_a", "_law_b", "_law_k"] (sp_law_whole_right K A)) :
    FnG P w K mg base CX0 13 A.f_law A.d_law ["_law_script"] (sp_law K A) := by
  obtain ⟨ds, v1_Rate, b1_Rate⟩ := T.D1_Rate
  obtain ⟨gK, k_Rate_lower_upper⟩ := T.KW_Rate
  refine okG T.F_law sc_law (fun vs H Q E h => ?_) (fun cdv A' outer s H vs Q E hr hG h => ⟨(t_law_0 K A), ?_, pure_law T.kf h⟩)
  · unfold sp_law at h
    try unfold spPen at h
    try unfold spDraw at h
    try unfold spPick at h
    try unfold spGcd at h
    try unfold spCmp at h
    try unfold spSum at h
    try unfold spLaw at h
    split at h <;> first | rfl | exact h.elim
  · exact (pss_cons (ps_set (i := 1) sc_law.nd rfl (Or.inl rfl) (pe_callG G_law_pen (hr.mono (by decide)) hG rfl T.g_law_pen T.F_law_pen.kp T.B_law_pen .nil pass0 (pa_cons (pv 0) pa_nil)))
    (pss_cons (ps_for never0 rfl (pi_range1 rfl T.b_range (pa_cons pe_int pa_nil)) (pg_name (i := 2) sc_law.nd rfl (Or.inl rfl))
    (pss_cons (ps_par (i := 3) (j := 4) rfl sc_law.nd rfl rfl (by decide) rfl rfl (pa_cons (pe_callG G_law_number (hr.mono (by decide)) hG rfl T.g_law_number T.F_law_number.kp T.B_law_number .nil pass0 (pa_cons (pv 1) pa_nil)) (pa_cons (pe_op op_addU pe_int (pe_callG G_law_draw (hr.mono (by decide)) hG rfl T.g_law_draw T.F_law_draw.kp T.B_law_draw .nil pass0 (pa_cons (pv 1) (pa_cons (pe_callG G_law_pick (hr.mono (by decide)) hG rfl T.g_law_pick T.F_law_pick.kp T.B_law_pick .nil pass0 (pa_cons (pv 1) (pa_cons (pe_lst (pa_cons pe_int (pa_cons pe_int (pa_cons pe_int (pa_cons (pe_op op_powU pe_int pe_int) pa_nil))))) pa_nil))) pa_nil)))) pa_nil)) rfl)
    (pss_cons (ps_par (i := 5) (j := 6) rfl sc_law.nd rfl rfl (by decide) rfl rfl (pa_cons (pe_callG G_law_number (hr.mono (by decide)) hG rfl T.g_law_number T.F_law_number.kp T.B_law_number .nil pass0 (pa_cons (pv 1) pa_nil)) (pa_cons (pe_op op_addU pe_int (pe_callG G_law_draw (hr.mono (by decide)) hG rfl T.g_law_draw T.F_law_draw.kp T.B_law_draw .nil pass0 (pa_cons (pv 1) (pa_cons (pe_callG G_law_pick (hr.mono (by decide)) hG rfl T.g_law_pick T.F_law_pick.kp T.B_law_pick .nil pass0 (pa_cons (pv 1) (pa_cons (pe_lst (pa_cons pe_int (pa_cons pe_int (pa_cons pe_int (pa_cons (pe_op op_powU pe_int pe_int) pa_nil))))) pa_nil))) pa_nil)))) pa_nil)) rfl)
    (pss_cons (ps_par (i := 7) (j := 8) rfl sc_law.nd rfl rfl (by decide) rfl rfl (pa_cons (pe_callG G_law_number (hr.mono (by decide)) hG rfl T.g_law_number T.F_law_number.kp T.B_law_number .nil pass0 (pa_cons (pv 1) pa_nil)) (pa_cons (pe_op op_addU pe_int (pe_callG G_law_draw (hr.mono (by decide)) hG rfl T.g_law_draw T.F_law_draw.kp T.B_law_draw .nil pass0 (pa_cons (pv 1) (pa_cons pe_int pa_nil)))) pa_nil)) rfl)
    (pss_cons (ps_par (i := 9) (j := 10) rfl sc_law.nd rfl rfl (by decide) rfl rfl (pa_cons (pe_makeG T.M_Rate G_Rate_init (hr.mono (by decide)) hG rfl T.g_Rate T.B_Rate_init .nil pass0 (pa_cons (pv 3) (pa_cons (pv 4) pa_nil))) (pa_cons (pe_makeKG0 T.M_Rate G_Rate_init (hr.mono (by decide)) hG rfl T.g_Rate k_Rate_lower_upper pass0 (pk_cons (pv 6) (pk_cons (pv 5) pk_nil))) pa_nil)) rfl)
    (pss_cons (ps_if (PW.pt (pw_or (pt_not (pt_val (pe_callG G_law_is (hr.mono (by decide)) hG rfl T.g_law_is T.F_law_is.kp T.B_law_is .nil pass0 (pa_cons (pv 9) (pa_cons (pv 3) (pa_cons (pv 4) pa_nil)))))) (pw_or (pt_cmpR (op_onIns (op_neO T.n_Rate (own1G G_Rate_eq (hr.mono (by decide)) hG T.B_Rate_eq pass0) hr.units1) (op_neU hr.units)) (pe_makeG T.M_Rate G_Rate_init (hr.mono (by decide)) hG rfl T.g_Rate T.B_Rate_init .nil pass0 (pa_cons (pe_op op_mulU (pv 8) (pv 3)) (pa_cons (pe_op op_mulU (pv 8) (pv 4)) pa_nil))) (pv 9) (nomark _)) (pw_or1 (pt_not (pt_val (pe_callG G_law_is (hr.mono (by decide)) hG rfl T.g_law_is T.F_law_is.kp T.B_law_is .nil pass0 (pa_cons (pe_makeG T.M_Rate G_Rate_init (hr.mono (by decide)) hG rfl T.g_Rate b1_Rate v1_Rate pass0 (pa_cons (pv 7) pa_nil)) (pa_cons (pv 7) (pa_cons pe_int pa_nil)))))))))) (pss_one (ps_ret pe_bl)) pss_nil)
    (pss_cons (ps_if (PW.pt (pw_or (pt_not (pt_val (pe_callG G_law_sums_right (hr.mono (by decide)) hG rfl T.g_law_sums_right T.F_law_sums_right.kp T.B_law_sums_right .nil pass0 (pa_cons (pv 9) (pa_cons (pv 10) (pa_cons (pv 3) (pa_cons (pv 4) (pa_cons (pv 5) (pa_cons (pv 6) pa_nil))))))))) (pw_or1 (pt_not (pt_val (pe_callG G_law_sums_right (hr.mono (by decide)) hG rfl T.g_law_sums_right T.F_law_sums_right.kp T.B_law_sums_right .nil pass0 (pa_cons (pv 9) (pa_cons (pv 9) (pa_cons (pv 3) (pa_cons (pv 4) (pa_cons (pv 3) (pa_cons (pv 4) pa_nil)))))))))))) (pss_one (ps_ret pe_bl)) pss_nil)
    (pss_cons (ps_if (PW.pt (pw_or (pt_not (pt_val (pe_callG G_law_whole_right (hr.mono (by decide)) hG rfl T.g_law_whole_right T.F_law_whole_right.kp T.B_law_whole_right .nil pass0 (pa_cons (pv 9) (pa_cons (pv 3) (pa_cons (pv 4) (pa_cons (pv 7) pa_nil))))))) (pw_or1 (pt_not (pt_val (pe_callG G_law_whole_right (hr.mono (by decide)) hG rfl T.g_law_whole_right T.F_law_whole_right.kp T.B_law_whole_right .nil pass0 (pa_cons (pe_makeG T.M_Rate G_Rate_init (hr.mono (by decide)) hG rfl T.g_Rate T.B_Rate_init .nil pass0 (pa_cons (pe_op op_mulU (pv 8) (pv 7)) (pa_cons (pv 8) pa_nil))) (pa_cons (pv 7) (pa_cons pe_int (pa_cons (pv 7) pa_nil)))))))))) (pss_one (ps_ret pe_bl)) pss_nil)
    (pss_cons (ps_if (pt_cmpR (op_onIns (op_neO T.n_Rate (own1G G_Rate_eq (hr.mono (by decide)) hG T.B_Rate_eq pass0) hr.units1) (op_neU hr.units)) (pe_callB (call_reprU hG hr.units) (by rfl) T.b_repr (by decide +kernel) (pa_cons (pe_propG (g' := 0) (pv 9) T.cl_Rate T.p_Rate_floor G_Rate_floor (hr.mono (by decide)) hG T.B_Rate_floor pass0 rfl) pa_nil)) (pe_callB (call_reprU hG hr.units) (by rfl) T.b_repr (by decide +kernel) (pa_cons (pe_op op_fdivU (pv 3) (pv 4)) pa_nil)) (nomark _)) (pss_one (ps_ret pe_bl)) pss_nil)
    (pss_one (ps_if (pt_cmpR (op_onIns (op_neO T.n_Rate (own1G G_Rate_eq (hr.mono (by decide)) hG T.B_Rate_eq pass0) hr.units1) (op_neU hr.units)) (pe_lc (own := [("_law_odd", 11)]) (g := (gName 11)) (tt := (tTest (tOp (onIns (rCmp K A.c_Rate (sp_Rate_eq K A)) (oEq K)) (tMake A.c_Rate (sp_Rate_init K A) [.int 1] E0 (tCons (tC (.int 1)) tNil)) (tVar 11)))) (by rfl) sc_law.nd (pi_list (pe_lst (pa_cons pe_non (pa_cons pe_str (pa_cons (pe_tup (pa_cons pe_int (pa_cons pe_int pa_nil))) (pa_cons (pe_lst pa_nil) (pa_cons pe_dnewK (pa_cons pe_bl pa_nil)))))))) (blkOk_by (own := [("_law_odd", 11)]) (N := ["_law_script", "_law_pen_here", "_law_turn", "_law_a", "_law_b", "_law_c", "_law_d", "_law_k", "_law_by", "_law_one", "_law_other", "_law_odd"]) (sc := defScope s_law) (by decide +kernel)) (fun _ _ _ _ _ => (pg_name (i := 11) sc_law.nd rfl (Or.inl rfl))) (fun _ _ _ _ _ => (pts_one (pt_cmpR (op_onIns (op_cmp T.q_Rate_eq (ownG G_Rate_eq (hr.mono (by decide)) hG T.B_Rate_eq pass0) hr.units0) (op_eqU hr.units)) (pe_makeG T.M_Rate G_Rate_init (hr.mono (by decide)) hG rfl T.g_Rate b1_Rate v1_Rate pass0 (pa_cons pe_int pa_nil)) (pv 11) (nomark _)))) (fun _ _ _ _ _ => (pv 11))) (pe_lst pa_nil) (nomark _)) (pss_one (ps_ret pe_bl)) pss_nil)))))))))))
    (pss_one (ps_ret (pe_and (pe_cmpR (op_onIns (op_cmp T.q_Rate_eq (ownG G_Rate_eq (hr.mono (by decide)) hG T.B_Rate_eq pass0) hr.units0) (op_eqU hr.units)) (pe_propG (g' := 0) (pe_makeG T.M_Rate G_Rate_init (hr.mono (by decide)) hG rfl T.g_Rate T.B_Rate_init .nil pass0 (pa_cons (pe_un un_negU pe_int) (pa_cons pe_int pa_nil))) T.cl_Rate T.p_Rate_floor G_Rate_floor (hr.mono (by decide)) hG T.B_Rate_floor pass0 rfl) (pe_un un_negU pe_int) (nomark _)) (pe_and (pe_cmpR (op_onIns (op_cmp T.q_Rate_eq (ownG G_Rate_eq (hr.mono (by decide)) hG T.B_Rate_eq pass0) hr.units0) (op_eqU hr.units)) (pe_fld (pe_makeG T.M_Rate G_Rate_init (hr.mono (by decide)) hG rfl T.g_Rate T.B_Rate_init .nil pass0 (pa_cons pe_int (pa_cons pe_int pa_nil))) rfl) pe_int (nomark _)) (pe_one (pe_cmpR (op_onIns (op_cmp T.q_Rate_eq (ownG G_Rate_eq (hr.mono (by decide)) hG T.B_Rate_eq pass0) hr.units0) (op_eqU hr.units)) (pe_fld (pe_makeG T.M_Rate G_Rate_init (hr.mono (by decide)) hG rfl T.g_Rate T.B_Rate_init .nil pass0 (pa_cons pe_int (pa_cons pe_int pa_nil))) rfl) pe_int (nomark _)))))))))

theorem ok_all {P : Program} {w : World} {K : PySem.W.Frag} {mg : Str → Option Value} {base : Heap} {A : Ad} (T : Txt K mg A) : FnG P w K mg base CX0 13 A.f_law A.d_law ["_law_script"] (sp_law K A) := by
  have G_is_integer : FnG P w K mg base CX0 1 A.f_is_integer A.d_is_integer ["value"] (sp_is_integer K A) := ok_is_integer T
  have G_divisor : FnG P w K mg base CX0 1 A.f_divisor A.d_divisor ["one", "other"] (sp_divisor K A) := ok_divisor T
  have G_Rate_init : FnG P w K mg base CX0 3 A.f_Rate_init A.d_Rate_init ["self", "upper", "lower"] (sp_Rate_init K A) := ok_Rate_init T G_is_integer G_divisor
  have G_as_rate : FnG P w K mg base CX0 5 A.f_as_rate A.d_as_rate ["value"] (sp_as_rate K A) := ok_as_rate T G_is_integer G_Rate_init
  have G_Rate_floor : FnG P w K mg base CX0 1 A.f_Rate_floor A.d_Rate_floor ["self"] (sp_Rate_floor K A) := ok_Rate_floor T
  have G_Rate_eq : FnG P w K mg base CX0 3 A.f_Rate_eq A.d_Rate_eq ["self", "other"] (sp_Rate_eq K A) := ok_Rate_eq T G_is_integer
  have G_Rate_lt : FnG P w K mg base CX0 7 A.f_Rate_lt A.d_Rate_lt ["self", "other"] (sp_Rate_lt K A) := ok_Rate_lt T G_as_rate
  have G_Rate_le : FnG P w K mg base CX0 7 A.f_Rate_le A.d_Rate_le ["self", "other"] (sp_Rate_le K A) := ok_Rate_le T G_as_rate
  have G_Rate_gt : FnG P w K mg base CX0 9 A.f_Rate_gt A.d_Rate_gt ["self", "other"] (sp_Rate_gt K A) := ok_Rate_gt T G_as_rate G_Rate_lt
  have G_Rate_ge : FnG P w K mg base CX0 9 A.f_Rate_ge A.d_Rate_ge ["self", "other"] (sp_Rate_ge K A) := ok_Rate_ge T G_as_rate G_Rate_le
  have G_Rate_neg : FnG P w K mg base CX0 5 A.f_Rate_neg A.d_Rate_neg ["self"] (sp_Rate_neg K A) := ok_Rate_neg T G_Rate_init
  have G_Rate_add : FnG P w K mg base CX0 7 A.f_Rate_add A.d_Rate_add ["self", "other"] (sp_Rate_add K A) := ok_Rate_add T G_Rate_init G_as_rate
  have G_Rate_radd : FnG P w K mg base CX0 9 A.f_Rate_radd A.d_Rate_radd ["self", "other"] (sp_Rate_radd K A) := ok_Rate_radd T G_as_rate G_Rate_add
  have G_Rate_sub : FnG P w K mg base CX0 9 A.f_Rate_sub A.d_Rate_sub ["self", "other"] (sp_Rate_sub K A) := ok_Rate_sub T G_as_rate G_Rate_neg G_Rate_add
  have G_Rate_rsub : FnG P w K mg base CX0 9 A.f_Rate_rsub A.d_Rate_rsub ["self", "other"] (sp_Rate_rsub K A) := ok_Rate_rsub T G_as_rate G_Rate_neg G_Rate_add
  have G_Rate_mul : FnG P w K mg base CX0 5 A.f_Rate_mul A.d_Rate_mul ["self", "k"] (sp_Rate_mul K A) := ok_Rate_mul T G_is_integer G_Rate_init
  have G_law_pen : FnG P w K mg base CX0 1 A.f_law_pen A.d_law_pen ["_law_script"] (sp_law_pen K A) := ok_law_pen T
  have G_law_draw : FnG P w K mg base CX0 1 A.f_law_draw A.d_law_draw ["_law_pen_here", "_law_many"] (sp_law_draw K A) := ok_law_draw T
  have G_law_pick : FnG P w K mg base CX0 3 A.f_law_pick A.d_law_pick ["_law_pen_here", "_law_some"] (sp_law_pick K A) := ok_law_pick T G_law_draw
  have G_law_number : FnG P w K mg base CX0 5 A.f_law_number A.d_law_number ["_law_pen_here"] (sp_law_number K A) := ok_law_number T G_law_draw G_law_pick
  have G_law_divisor : FnG P w K mg base CX0 1 A.f_law_divisor A.d_law_divisor ["_law_one", "_law_other"] (sp_law_divisor K A) := ok_law_divisor T
  have G_law_is : FnG P w K mg base CX0 3 A.f_law_is A.d_law_is ["_law_rate", "_law_upper", "_law_lower"] (sp_law_is K A) := ok_law_is T G_law_divisor
  have G_law_sums_right : FnG P w K mg base CX0 11 A.f_law_sums_right A.d_law_sums_right ["_law_one", "_law_other", "_law_a", "_law_b", "_law_c", "_law_d"] (sp_law_sums_right K A) := ok_law_sums_right T G_Rate_eq G_Rate_lt G_Rate_le G_Rate_gt G_Rate_ge G_Rate_neg G_Rate_add G_Rate_sub G_law_is
  have G_law_whole_right : FnG P w K mg base CX0 11 A.f_law_whole_right A.d_law_whole_right ["_law_one", "_law_a", "_law_b", "_law_k"] (sp_law_whole_right K A) := ok_law_whole_right T G_Rate_eq G_Rate_lt G_Rate_le G_Rate_gt G_Rate_ge G_Rate_add G_Rate_radd G_Rate_sub G_Rate_rsub G_Rate_mul G_law_is
  have G_law : FnG P w K mg base CX0 13 A.f_law A.d_law ["_law_script"] (sp_law K A) := ok_law T G_Rate_init G_Rate_floor G_Rate_eq G_law_pen G_law_draw G_law_pick G_law_number G_law_is G_law_sums_right G_law_whole_right
  exact G_law

end HG

namespace HG
open PySem L2
theorem all_mk {l : PySem.W.OpenLaw} {w : World} {K : PySem.W.Frag} {h : Heap} {mg : Str → Option Value} {fa : Addr} {c_Rate p_Rate_floor f_is_integer f_divisor f_Rate_init f_as_rate f_Rate_floor f_Rate_eq f_Rate_lt f_Rate_le f_Rate_gt f_Rate_ge f_Rate_neg f_Rate_add f_Rate_radd f_Rate_sub f_Rate_rsub f_Rate_mul f_law_pen f_law_draw f_law_pick f_law_number f_law_divisor f_law_is f_law_sums_right f_law_whole_right f_law : Addr} (X : K.In h) (G : h.Ns mainGlobals mg) (hfa : mg "law" = some (.ref fa))
    {od_is_integer an_is_integer od_divisor an_divisor od_Rate_init an_Rate_init od_as_rate an_as_rate od_Rate_floor an_Rate_floor od_Rate_eq an_Rate_eq od_Rate_lt an_Rate_lt od_Rate_le an_Rate_le od_Rate_gt an_Rate_gt od_Rate_ge an_Rate_ge od_Rate_neg an_Rate_neg od_Rate_add an_Rate_add od_Rate_radd an_Rate_radd od_Rate_sub an_Rate_sub od_Rate_rsub an_Rate_rsub od_Rate_mul an_Rate_mul od_law_pen an_law_pen od_law_draw an_law_draw od_law_pick an_law_pick od_law_number an_law_number od_law_divisor an_law_divisor od_law_is an_law_is od_law_sums_right an_law_sums_right od_law_whole_right an_law_whole_right od_law an_law : Option Addr} {sl_is_integer sl_divisor sl_Rate_init sl_as_rate sl_Rate_floor sl_Rate_eq sl_Rate_lt sl_Rate_le sl_Rate_gt sl_Rate_ge sl_Rate_neg sl_Rate_add sl_Rate_radd sl_Rate_sub sl_Rate_rsub sl_Rate_mul sl_law_pen sl_law_draw sl_law_pick sl_law_number sl_law_divisor sl_law_is sl_law_sums_right sl_law_whole_right sl_law : Array (Option Value)} {oc_is_integer kV_is_integer dc_is_integer pm_is_integer cd_is_integer ct_is_integer oc_divisor kV_divisor dc_divisor pm_divisor cd_divisor ct_divisor oc_Rate_init kV_Rate_init dc_Rate_init pm_Rate_init cd_Rate_init ct_Rate_init oc_as_rate kV_as_rate dc_as_rate pm_as_rate cd_as_rate ct_as_rate oc_Rate_floor kV_Rate_floor dc_Rate_floor pm_Rate_floor cd_Rate_floor ct_Rate_floor oc_Rate_eq kV_Rate_eq dc_Rate_eq pm_Rate_eq cd_Rate_eq ct_Rate_eq oc_Rate_lt kV_Rate_lt dc_Rate_lt pm_Rate_lt cd_Rate_lt ct_Rate_lt oc_Rate_le kV_Rate_le dc_Rate_le pm_Rate_le cd_Rate_le ct_Rate_le oc_Rate_gt kV_Rate_gt dc_Rate_gt pm_Rate_gt cd_Rate_gt ct_Rate_gt oc_Rate_ge kV_Rate_ge dc_Rate_ge pm_Rate_ge cd_Rate_ge ct_Rate_ge oc_Rate_neg kV_Rate_neg dc_Rate_neg pm_Rate_neg cd_Rate_neg ct_Rate_neg oc_Rate_add kV_Rate_add dc_Rate_add pm_Rate_add cd_Rate_add ct_Rate_add oc_Rate_radd kV_Rate_radd dc_Rate_radd pm_Rate_radd cd_Rate_radd ct_Rate_radd oc_Rate_sub kV_Rate_sub dc_Rate_sub pm_Rate_sub cd_Rate_sub ct_Rate_sub oc_Rate_rsub kV_Rate_rsub dc_Rate_rsub pm_Rate_rsub cd_Rate_rsub ct_Rate_rsub oc_Rate_mul kV_Rate_mul dc_Rate_mul pm_Rate_mul cd_Rate_mul ct_Rate_mul oc_law_pen kV_law_pen dc_law_pen pm_law_pen cd_law_pen ct_law_pen oc_law_draw kV_law_draw dc_law_draw pm_law_draw cd_law_draw ct_law_draw oc_law_pick kV_law_pick dc_law_pick pm_law_pick cd_law_pick ct_law_pick oc_law_number kV_law_number dc_law_number pm_law_number cd_law_number ct_law_number oc_law_divisor kV_law_divisor dc_law_divisor pm_law_divisor cd_law_divisor ct_law_divisor oc_law_is kV_law_is dc_law_is pm_law_is cd_law_is ct_law_is oc_law_sums_right kV_law_sums_right dc_law_sums_right pm_law_sums_right cd_law_sums_right ct_law_sums_right oc_law_whole_right kV_law_whole_right dc_law_whole_right pm_law_whole_right cd_law_whole_right ct_law_whole_right oc_law kV_law dc_law pm_law cd_law ct_law : Value} {T_Rate_init : Addr} {oT_Rate_init : Value} {dT_Rate_init : Option Addr} {nT_Rate_init : Nat} {sT_Rate_init : Array (Option Value)} {tk0_Rate_init : Tok} {rest_Rate_floor : List Value} {cd : ClassData} {nmC qC : Str} {NC : Addr} {bsC : List Value} {hdctC : Bool} {snC : List Str} {subC : List Value} {abC : Bool} {colC : Option Bool} {ddC : Option Addr} {k0C k1C k2C k3C k5C : Option Value} {newIdC : String} {ocN : Value} {odN : Option Addr} {esN : Array DictEntry} {nN : Nat} {slN : Array (Option Value)}
    (aC_Rate : PySem.W.nsIn K mainGlobals "Rate" = some (some (.ref c_Rate)))
    (a_is_integer : PySem.W.nsIn K mainGlobals "is_integer" = some (some (.ref f_is_integer)))
    (l_is_integer : K.lookup f_is_integer = some ⟨oc_is_integer, od_is_integer, .func (PySem.W.fnOf "is_integer" "is_integer" (defArgs s_is_integer) (defBody s_is_integer) (defScope s_is_integer) .none kV_is_integer dc_is_integer pm_is_integer an_is_integer cd_is_integer ct_is_integer), sl_is_integer⟩)
    (c_is_integer : PySem.W.codeIn K cd_is_integer "is_integer" = true)
    (k_is_integer : PySem.W.keepIn K (.ref f_is_integer) = true)
    (a_divisor : PySem.W.nsIn K mainGlobals "divisor" = some (some (.ref f_divisor)))
    (l_divisor : K.lookup f_divisor = some ⟨oc_divisor, od_divisor, .func (PySem.W.fnOf "divisor" "divisor" (defArgs s_divisor) (defBody s_divisor) (defScope s_divisor) .none kV_divisor dc_divisor pm_divisor an_divisor cd_divisor ct_divisor), sl_divisor⟩)
    (c_divisor : PySem.W.codeIn K cd_divisor "divisor" = true)
    (k_divisor : PySem.W.keepIn K (.ref f_divisor) = true)
    (a_Rate_init : PySem.W.findIn K (.ref c_Rate) "__init__" = some (some (.ref f_Rate_init)))
    (i_Rate_init : PySem.W.isFn K (.ref f_Rate_init) = true)
    (l_Rate_init : K.lookup f_Rate_init = some ⟨oc_Rate_init, od_Rate_init, .func (PySem.W.fnOf "__init__" "Rate.__init__" (defArgs s_Rate_init) (defBody s_Rate_init) (defScope s_Rate_init) (.ref T_Rate_init) kV_Rate_init dc_Rate_init pm_Rate_init an_Rate_init cd_Rate_init ct_Rate_init), sl_Rate_init⟩)
    (lT_Rate_init : K.lookup T_Rate_init = some ⟨oT_Rate_init, dT_Rate_init, .seq #[.int 1 tk0_Rate_init] nT_Rate_init, sT_Rate_init⟩)
    (c_Rate_init : PySem.W.codeIn K cd_Rate_init "Rate.__init__" = true)
    (k_Rate_init : PySem.W.keepIn K (.ref f_Rate_init) = true)
    (a_as_rate : PySem.W.nsIn K mainGlobals "as_rate" = some (some (.ref f_as_rate)))
    (l_as_rate : K.lookup f_as_rate = some ⟨oc_as_rate, od_as_rate, .func (PySem.W.fnOf "as_rate" "as_rate" (defArgs s_as_rate) (defBody s_as_rate) (defScope s_as_rate) .none kV_as_rate dc_as_rate pm_as_rate an_as_rate cd_as_rate ct_as_rate), sl_as_rate⟩)
    (c_as_rate : PySem.W.codeIn K cd_as_rate "as_rate" = true)
    (k_as_rate : PySem.W.keepIn K (.ref f_as_rate) = true)
    (a_Rate_floor : PySem.W.findIn K (.ref c_Rate) "floor" = some (some (.ref p_Rate_floor)))
    (pG_Rate_floor : PySem.W.specialIn K (.ref p_Rate_floor) "__get__" = some (some (.builtin "property.__get__")))
    (pT_Rate_floor : PySem.W.takesIn K (.ref p_Rate_floor) = some true)
    (pR_Rate_floor : PySem.W.recIn K p_Rate_floor "property" = some (.ref f_Rate_floor :: rest_Rate_floor))
    (l_Rate_floor : K.lookup f_Rate_floor = some ⟨oc_Rate_floor, od_Rate_floor, .func (PySem.W.fnOf "floor" "Rate.floor" (defArgs s_Rate_floor) (defBody s_Rate_floor) (defScope s_Rate_floor) .none kV_Rate_floor dc_Rate_floor pm_Rate_floor an_Rate_floor cd_Rate_floor ct_Rate_floor), sl_Rate_floor⟩)
    (c_Rate_floor : PySem.W.codeIn K cd_Rate_floor "Rate.floor" = true)
    (k_Rate_floor : PySem.W.keepIn K (.ref f_Rate_floor) = true)
    (a_Rate_eq : PySem.W.findIn K (.ref c_Rate) "__eq__" = some (some (.ref f_Rate_eq)))
    (i_Rate_eq : PySem.W.isFn K (.ref f_Rate_eq) = true)
    (l_Rate_eq : K.lookup f_Rate_eq = some ⟨oc_Rate_eq, od_Rate_eq, .func (PySem.W.fnOf "__eq__" "Rate.__eq__" (defArgs s_Rate_eq) (defBody s_Rate_eq) (defScope s_Rate_eq) .none kV_Rate_eq dc_Rate_eq pm_Rate_eq an_Rate_eq cd_Rate_eq ct_Rate_eq), sl_Rate_eq⟩)
    (c_Rate_eq : PySem.W.codeIn K cd_Rate_eq "Rate.__eq__" = true)
    (k_Rate_eq : PySem.W.keepIn K (.ref f_Rate_eq) = true)
    (a_Rate_lt : PySem.W.findIn K (.ref c_Rate) "__lt__" = some (some (.ref f_Rate_lt)))
    (i_Rate_lt : PySem.W.isFn K (.ref f_Rate_lt) = true)
    (l_Rate_lt : K.lookup f_Rate_lt = some ⟨oc_Rate_lt, od_Rate_lt, .func (PySem.W.fnOf "__lt__" "Rate.__lt__" (defArgs s_Rate_lt) (defBody s_Rate_lt) (defScope s_Rate_lt) .none kV_Rate_lt dc_Rate_lt pm_Rate_lt an_Rate_lt cd_Rate_lt ct_Rate_lt), sl_Rate_lt⟩)
    (c_Rate_lt : PySem.W.codeIn K cd_Rate_lt "Rate.__lt__" = true)
    (k_Rate_lt : PySem.W.keepIn K (.ref f_Rate_lt) = true)
    (a_Rate_le : PySem.W.findIn K (.ref c_Rate) "__le__" = some (some (.ref f_Rate_le)))
    (i_Rate_le : PySem.W.isFn K (.ref f_Rate_le) = true)
    (l_Rate_le : K.lookup f_Rate_le = some ⟨oc_Rate_le, od_Rate_le, .func (PySem.W.fnOf "__le__" "Rate.__le__" (defArgs s_Rate_le) (defBody s_Rate_le) (defScope s_Rate_le) .none kV_Rate_le dc_Rate_le pm_Rate_le an_Rate_le cd_Rate_le ct_Rate_le), sl_Rate_le⟩)
    (c_Rate_le : PySem.W.codeIn K cd_Rate_le "Rate.__le__" = true)
    (k_Rate_le : PySem.W.keepIn K (.ref f_Rate_le) = true)
    (a_Rate_gt : PySem.W.findIn K (.ref c_Rate) "__gt__" = some (some (.ref f_Rate_gt)))
    (i_Rate_gt : PySem.W.isFn K (.ref f_Rate_gt) = true)
    (l_Rate_gt : K.lookup f_Rate_gt = some ⟨oc_Rate_gt, od_Rate_gt, .func (PySem.W.fnOf "__gt__" "Rate.__gt__" (defArgs s_Rate_gt) (defBody s_Rate_gt) (defScope s_Rate_gt) .none kV_Rate_gt dc_Rate_gt pm_Rate_gt an_Rate_gt cd_Rate_gt ct_Rate_gt), sl_Rate_gt⟩)
    (c_Rate_gt : PySem.W.codeIn K cd_Rate_gt "Rate.__gt__" = true)
    (k_Rate_gt : PySem.W.keepIn K (.ref f_Rate_gt) = true)
    (a_Rate_ge : PySem.W.findIn K (.ref c_Rate) "__ge__" = some (some (.ref f_Rate_ge)))
    (i_Rate_ge : PySem.W.isFn K (.ref f_Rate_ge) = true)
    (l_Rate_ge : K.lookup f_Rate_ge = some ⟨oc_Rate_ge, od_Rate_ge, .func (PySem.W.fnOf "__ge__" "Rate.__ge__" (defArgs s_Rate_ge) (defBody s_Rate_ge) (defScope s_Rate_ge) .none kV_Rate_ge dc_Rate_ge pm_Rate_ge an_Rate_ge cd_Rate_ge ct_Rate_ge), sl_Rate_ge⟩)
    (c_Rate_ge : PySem.W.codeIn K cd_Rate_ge "Rate.__ge__" = true)
    (k_Rate_ge : PySem.W.keepIn K (.ref f_Rate_ge) = true)
    (a_Rate_neg : PySem.W.findIn K (.ref c_Rate) "__neg__" = some (some (.ref f_Rate_neg)))
    (i_Rate_neg : PySem.W.isFn K (.ref f_Rate_neg) = true)
    (l_Rate_neg : K.lookup f_Rate_neg = some ⟨oc_Rate_neg, od_Rate_neg, .func (PySem.W.fnOf "__neg__" "Rate.__neg__" (defArgs s_Rate_neg) (defBody s_Rate_neg) (defScope s_Rate_neg) .none kV_Rate_neg dc_Rate_neg pm_Rate_neg an_Rate_neg cd_Rate_neg ct_Rate_neg), sl_Rate_neg⟩)
    (c_Rate_neg : PySem.W.codeIn K cd_Rate_neg "Rate.__neg__" = true)
    (k_Rate_neg : PySem.W.keepIn K (.ref f_Rate_neg) = true)
    (a_Rate_add : PySem.W.findIn K (.ref c_Rate) "__add__" = some (some (.ref f_Rate_add)))
    (i_Rate_add : PySem.W.isFn K (.ref f_Rate_add) = true)
    (l_Rate_add : K.lookup f_Rate_add = some ⟨oc_Rate_add, od_Rate_add, .func (PySem.W.fnOf "__add__" "Rate.__add__" (defArgs s_Rate_add) (defBody s_Rate_add) (defScope s_Rate_add) .none kV_Rate_add dc_Rate_add pm_Rate_add an_Rate_add cd_Rate_add ct_Rate_add), sl_Rate_add⟩)
    (c_Rate_add : PySem.W.codeIn K cd_Rate_add "Rate.__add__" = true)
    (k_Rate_add : PySem.W.keepIn K (.ref f_Rate_add) = true)
    (a_Rate_radd : PySem.W.findIn K (.ref c_Rate) "__radd__" = some (some (.ref f_Rate_radd)))
    (i_Rate_radd : PySem.W.isFn K (.ref f_Rate_radd) = true)
    (l_Rate_radd : K.lookup f_Rate_radd = some ⟨oc_Rate_radd, od_Rate_radd, .func (PySem.W.fnOf "__radd__" "Rate.__radd__" (defArgs s_Rate_radd) (defBody s_Rate_radd) (defScope s_Rate_radd) .none kV_Rate_radd dc_Rate_radd pm_Rate_radd an_Rate_radd cd_Rate_radd ct_Rate_radd), sl_Rate_radd⟩)
    (c_Rate_radd : PySem.W.codeIn K cd_Rate_radd "Rate.__radd__" = true)
    (k_Rate_radd : PySem.W.keepIn K (.ref f_Rate_radd) = true)
    (a_Rate_sub : PySem.W.findIn K (.ref c_Rate) "__sub__" = some (some (.ref f_Rate_sub)))
    (i_Rate_sub : PySem.W.isFn K (.ref f_Rate_sub) = true)
    (l_Rate_sub : K.lookup f_Rate_sub = some ⟨oc_Rate_sub, od_Rate_sub, .func (PySem.W.fnOf "__sub__" "Rate.__sub__" (defArgs s_Rate_sub) (defBody s_Rate_sub) (defScope s_Rate_sub) .none kV_Rate_sub dc_Rate_sub pm_Rate_sub an_Rate_sub cd_Rate_sub ct_Rate_sub), sl_Rate_sub⟩)
    (c_Rate_sub : PySem.W.codeIn K cd_Rate_sub "Rate.__sub__" = true)
    (k_Rate_sub : PySem.W.keepIn K (.ref f_Rate_sub) = true)
    (a_Rate_rsub : PySem.W.findIn K (.ref c_Rate) "__rsub__" = some (some (.ref f_Rate_rsub)))
    (i_Rate_rsub : PySem.W.isFn K (.ref f_Rate_rsub) = true)
    (l_Rate_rsub : K.lookup f_Rate_rsub = some ⟨oc_Rate_rsub, od_Rate_rsub, .func (PySem.W.fnOf "__rsub__" "Rate.__rsub__" (defArgs s_Rate_rsub) (defBody s_Rate_rsub) (defScope s_Rate_rsub) .none kV_Rate_rsub dc_Rate_rsub pm_Rate_rsub an_Rate_rsub cd_Rate_rsub ct_Rate_rsub), sl_Rate_rsub⟩)
    (c_Rate_rsub : PySem.W.codeIn K cd_Rate_rsub "Rate.__rsub__" = true)
    (k_Rate_rsub : PySem.W.keepIn K (.ref f_Rate_rsub) = true)
    (a_Rate_mul : PySem.W.findIn K (.ref c_Rate) "__mul__" = some (some (.ref f_Rate_mul)))
    (i_Rate_mul : PySem.W.isFn K (.ref f_Rate_mul) = true)
    (l_Rate_mul : K.lookup f_Rate_mul = some ⟨oc_Rate_mul, od_Rate_mul, .func (PySem.W.fnOf "__mul__" "Rate.__mul__" (defArgs s_Rate_mul) (defBody s_Rate_mul) (defScope s_Rate_mul) .none kV_Rate_mul dc_Rate_mul pm_Rate_mul an_Rate_mul cd_Rate_mul ct_Rate_mul), sl_Rate_mul⟩)
    (c_Rate_mul : PySem.W.codeIn K cd_Rate_mul "Rate.__mul__" = true)
    (k_Rate_mul : PySem.W.keepIn K (.ref f_Rate_mul) = true)
    (a_law_pen : PySem.W.nsIn K mainGlobals "_law_pen" = some (some (.ref f_law_pen)))
    (l_law_pen : K.lookup f_law_pen = some ⟨oc_law_pen, od_law_pen, .func (PySem.W.fnOf "_law_pen" "_law_pen" (defArgs s_law_pen) (defBody s_law_pen) (defScope s_law_pen) .none kV_law_pen dc_law_pen pm_law_pen an_law_pen cd_law_pen ct_law_pen), sl_law_pen⟩)
    (c_law_pen : PySem.W.codeIn K cd_law_pen "_law_pen" = true)
    (k_law_pen : PySem.W.keepIn K (.ref f_law_pen) = true)
    (a_law_draw : PySem.W.nsIn K mainGlobals "_law_draw" = some (some (.ref f_law_draw)))
    (l_law_draw : K.lookup f_law_draw = some ⟨oc_law_draw, od_law_draw, .func (PySem.W.fnOf "_law_draw" "_law_draw" (defArgs s_law_draw) (defBody s_law_draw) (defScope s_law_draw) .none kV_law_draw dc_law_draw pm_law_draw an_law_draw cd_law_draw ct_law_draw), sl_law_draw⟩)
    (c_law_draw : PySem.W.codeIn K cd_law_draw "_law_draw" = true)
    (k_law_draw : PySem.W.keepIn K (.ref f_law_draw) = true)
    (a_law_pick : PySem.W.nsIn K mainGlobals "_law_pick" = some (some (.ref f_law_pick)))
    (l_law_pick : K.lookup f_law_pick = some ⟨oc_law_pick, od_law_pick, .func (PySem.W.fnOf "_law_pick" "_law_pick" (defArgs s_law_pick) (defBody s_law_pick) (defScope s_law_pick) .none kV_law_pick dc_law_pick pm_law_pick an_law_pick cd_law_pick ct_law_pick), sl_law_pick⟩)
    (c_law_pick : PySem.W.codeIn K cd_law_pick "_law_pick" = true)
    (k_law_pick : PySem.W.keepIn K (.ref f_law_pick) = true)
    (a_law_number : PySem.W.nsIn K mainGlobals "_law_number" = some (some (.ref f_law_number)))
    (l_law_number : K.lookup f_law_number = some ⟨oc_law_number, od_law_number, .func (PySem.W.fnOf "_law_number" "_law_number" (defArgs s_law_number) (defBody s_law_number) (defScope s_law_number) .none kV_law_number dc_law_number pm_law_number an_law_number cd_law_number ct_law_number), sl_law_number⟩)
    (c_law_number : PySem.W.codeIn K cd_law_number "_law_number" = true)
    (k_law_number : PySem.W.keepIn K (.ref f_law_number) = true)
    (a_law_divisor : PySem.W.nsIn K mainGlobals "_law_divisor" = some (some (.ref f_law_divisor)))
    (l_law_divisor : K.lookup f_law_divisor = some ⟨oc_law_divisor, od_law_divisor, .func (PySem.W.fnOf "_law_divisor" "_law_divisor" (defArgs s_law_divisor) (defBody s_law_divisor) (defScope s_law_divisor) .none kV_law_divisor dc_law_divisor pm_law_divisor an_law_divisor cd_law_divisor ct_law_divisor), sl_law_divisor⟩)
    (c_law_divisor : PySem.W.codeIn K cd_law_divisor "_law_divisor" = true)
    (k_law_divisor : PySem.W.keepIn K (.ref f_law_divisor) = true)
    (a_law_is : PySem.W.nsIn K mainGlobals "_law_is" = some (some (.ref f_law_is)))
    (l_law_is : K.lookup f_law_is = some ⟨oc_law_is, od_law_is, .func (PySem.W.fnOf "_law_is" "_law_is" (defArgs s_law_is) (defBody s_law_is) (defScope s_law_is) .none kV_law_is dc_law_is pm_law_is an_law_is cd_law_is ct_law_is), sl_law_is⟩)
    (c_law_is : PySem.W.codeIn K cd_law_is "_law_is" = true)
    (k_law_is : PySem.W.keepIn K (.ref f_law_is) = true)
    (a_law_sums_right : PySem.W.nsIn K mainGlobals "_law_sums_right" = some (some (.ref f_law_sums_right)))
    (l_law_sums_right : K.lookup f_law_sums_right = some ⟨oc_law_sums_right, od_law_sums_right, .func (PySem.W.fnOf "_law_sums_right" "_law_sums_right" (defArgs s_law_sums_right) (defBody s_law_sums_right) (defScope s_law_sums_right) .none kV_law_sums_right dc_law_sums_right pm_law_sums_right an_law_sums_right cd_law_sums_right ct_law_sums_right), sl_law_sums_right⟩)
    (c_law_sums_right : PySem.W.codeIn K cd_law_sums_right "_law_sums_right" = true)
    (k_law_sums_right : PySem.W.keepIn K (.ref f_law_sums_right) = true)
    (a_law_whole_right : PySem.W.nsIn K mainGlobals "_law_whole_right" = some (some (.ref f_law_whole_right)))
    (l_law_whole_right : K.lookup f_law_whole_right = some ⟨oc_law_whole_right, od_law_whole_right, .func (PySem.W.fnOf "_law_whole_right" "_law_whole_right" (defArgs s_law_whole_right) (defBody s_law_whole_right) (defScope s_law_whole_right) .none kV_law_whole_right dc_law_whole_right pm_law_whole_right an_law_whole_right cd_law_whole_right ct_law_whole_right), sl_law_whole_right⟩)
    (c_law_whole_right : PySem.W.codeIn K cd_law_whole_right "_law_whole_right" = true)
    (k_law_whole_right : PySem.W.keepIn K (.ref f_law_whole_right) = true)
    (a_law : PySem.W.nsIn K mainGlobals "law" = some (some (.ref f_law)))
    (l_law : K.lookup f_law = some ⟨oc_law, od_law, .func (PySem.W.fnOf "law" "law" (defArgs s_law) (defBody s_law) (defScope s_law) .none kV_law dc_law pm_law an_law cd_law ct_law), sl_law⟩)
    (c_law : PySem.W.codeIn K cd_law "law" = true)
    (k_law : PySem.W.keepIn K (.ref f_law) = true)
    (pg_Rate : PySem.W.plainGet K c_Rate Str.empty = true)
    (hd_Rate : PySem.W.hasDictIn K c_Rate = true)
    (po_Rate : PySem.W.plainOver K c_Rate = true)
    (sa_Rate : PySem.W.findIn K (.ref c_Rate) "__setattr__" = some (some (.builtin "object.__setattr__")))
    (mk_Rate : PySem.W.makesIn K c_Rate = true)
    (kc_Rate : PySem.W.keepIn K (.ref c_Rate) = true)
    (na_up : PySem.W.findIn K (.ref c_Rate) "upper" = some none)
    (na_lo : PySem.W.findIn K (.ref c_Rate) "lower" = some none)
    (ha : PySem.W.findIn K (.ref c_Rate) "__class__" = some (some (.builtin "object.__class__")))
    (hn : PySem.W.specialIn K (.builtin "object.__class__") "__get__" = some (some (.builtin "getset_descriptor.__get__")))
    (htk : PySem.W.takesIn K (.builtin "object.__class__") = some true)
    (hm : PySem.W.mroIn K c_Rate (.type "object") = some true)
    (isC : PySem.W.isClsIn K c_Rate = true)
    (tyC : PySem.W.typeIn K (.ref c_Rate) = some (.type "type"))
    (nr : PySem.W.notFirst K c_Rate (.ref c_Rate) = true)
    (xr_int : PySem.W.subIn K (.type "int") (.ref c_Rate) = some false)
    (xr_bool : PySem.W.subIn K (.type "bool") (.ref c_Rate) = some false)
    (xr_NoneType : PySem.W.subIn K (.type "NoneType") (.ref c_Rate) = some false)
    (xr_str : PySem.W.subIn K (.type "str") (.ref c_Rate) = some false)
    (xr_list : PySem.W.subIn K (.type "list") (.ref c_Rate) = some false)
    (xr_tuple : PySem.W.subIn K (.type "tuple") (.ref c_Rate) = some false)
    (xr_dict : PySem.W.subIn K (.type "dict") (.ref c_Rate) = some false)
    (nx_int : PySem.W.notFirst K c_Rate (.type "int") = true)
    (nx_bool : PySem.W.notFirst K c_Rate (.type "bool") = true)
    (nx_NoneType : PySem.W.notFirst K c_Rate (.type "NoneType") = true)
    (nx_str : PySem.W.notFirst K c_Rate (.type "str") = true)
    (nx_list : PySem.W.notFirst K c_Rate (.type "list") = true)
    (nx_tuple : PySem.W.notFirst K c_Rate (.type "tuple") = true)
    (nx_dict : PySem.W.notFirst K c_Rate (.type "dict") = true)
    (sf : PySem.W.selfFirst K c_Rate = true)
    (subi : PySem.W.subIn K (.type "int") (.ref c_Rate) = some false)
    (subr : PySem.W.subIn K (.ref c_Rate) (.type "int") = some false)
    (nrmul : PySem.W.findIn K (.ref c_Rate) "__rmul__" = some none)
    (hcd : PySem.W.clsIn K c_Rate = some cd)
    (rf_hmro : cd.mro = [.ref c_Rate, .type "object"])
    (niadd : PySem.W.findIn K (.ref c_Rate) "__iadd__" = some none)
    (nisub : PySem.W.findIn K (.ref c_Rate) "__isub__" = some none)
    (lC : K.lookup c_Rate = some (excClassObj nmC qC c_Rate NC bsC [.type "object"] hdctC snC subC abC colC ddC k0C k1C k2C k3C k5C newIdC))
    (lN : K.lookup NC = some ⟨ocN, odN, .dict esN nN, slN⟩)
    (rf_nsk : (esN.toList.all fun e => match e.key with | .str _ _ => true | _ => false) = true)
    (eqC : PySem.W.nsIn K NC "__eq__" = some (some (.ref f_Rate_eq)))
    (rf_ocEq : oc_Rate_eq = .type "function")
    (neC : PySem.W.nsIn K NC "__ne__" = some none)
    (zb_abs : PySem.W.nsIn K mainGlobals "abs" = some none)
    (zb_bool : PySem.W.nsIn K mainGlobals "bool" = some none)
    (zb_int : PySem.W.nsIn K mainGlobals "int" = some none)
    (zb_isinstance : PySem.W.nsIn K mainGlobals "isinstance" = some none)
    (zb_len : PySem.W.nsIn K mainGlobals "len" = some none)
    (zb_list : PySem.W.nsIn K mainGlobals "list" = some none)
    (zb_range : PySem.W.nsIn K mainGlobals "range" = some none)
    (zb_repr : PySem.W.nsIn K mainGlobals "repr" = some none)
    : ∃ fd : FuncData, (∀ (s : Shared) (v : Value), BindsTo s fd ⟨[v], []⟩ [("_law_script", v)]) ∧ ∀ base : Heap, K.In base → base.Ns mainGlobals mg → FnG l.prog w K mg base CX0 13 fa fd ["_law_script"] (spLaw K) := by
  have e := hfa.symm.trans (PySem.W.mg_of X G a_law)
  cases e
  have F_is_integer := fun_mk (st := s_is_integer) l_is_integer c_is_integer k_is_integer
  have B_is_integer := F_is_integer.binds (ps := ["value"]) fun _ _ _ _ _ _ us hl => match us, hl with | [_], _ => rfl
  have F_divisor := fun_mk (st := s_divisor) l_divisor c_divisor k_divisor
  have B_divisor := F_divisor.binds (ps := ["one", "other"]) fun _ _ _ _ _ _ us hl => match us, hl with | [_, _], _ => rfl
  have F_Rate_init := funD_mk (st := s_Rate_init) (dvs := [.int 1]) (its := [.int 1 tk0_Rate_init]) l_Rate_init lT_Rate_init (.cons ⟨_, rfl⟩ .nil) (by simp) c_Rate_init k_Rate_init
  have F_as_rate := fun_mk (st := s_as_rate) l_as_rate c_as_rate k_as_rate
  have B_as_rate := F_as_rate.binds (ps := ["value"]) fun _ _ _ _ _ _ us hl => match us, hl with | [_], _ => rfl
  have F_Rate_floor := fun_mk (st := s_Rate_floor) l_Rate_floor c_Rate_floor k_Rate_floor
  have B_Rate_floor := F_Rate_floor.binds (ps := ["self"]) fun _ _ _ _ _ _ us hl => match us, hl with | [_], _ => rfl
  have F_Rate_eq := fun_mk (st := s_Rate_eq) l_Rate_eq c_Rate_eq k_Rate_eq
  have B_Rate_eq := F_Rate_eq.binds (ps := ["self", "other"]) fun _ _ _ _ _ _ us hl => match us, hl with | [_, _], _ => rfl
  have F_Rate_lt := fun_mk (st := s_Rate_lt) l_Rate_lt c_Rate_lt k_Rate_lt
  have B_Rate_lt := F_Rate_lt.binds (ps := ["self", "other"]) fun _ _ _ _ _ _ us hl => match us, hl with | [_, _], _ => rfl
  have F_Rate_le := fun_mk (st := s_Rate_le) l_Rate_le c_Rate_le k_Rate_le
  have B_Rate_le := F_Rate_le.binds (ps := ["self", "other"]) fun _ _ _ _ _ _ us hl => match us, hl with | [_, _], _ => rfl
  have F_Rate_gt := fun_mk (st := s_Rate_gt) l_Rate_gt c_Rate_gt k_Rate_gt
  have B_Rate_gt := F_Rate_gt.binds (ps := ["self", "other"]) fun _ _ _ _ _ _ us hl => match us, hl with | [_, _], _ => rfl
  have F_Rate_ge := fun_mk (st := s_Rate_ge) l_Rate_ge c_Rate_ge k_Rate_ge
  have B_Rate_ge := F_Rate_ge.binds (ps := ["self", "other"]) fun _ _ _ _ _ _ us hl => match us, hl with | [_, _], _ => rfl
  have F_Rate_neg := fun_mk (st := s_Rate_neg) l_Rate_neg c_Rate_neg k_Rate_neg
  have B_Rate_neg := F_Rate_neg.binds (ps := ["self"]) fun _ _ _ _ _ _ us hl => match us, hl with | [_], _ => rfl
  have F_Rate_add := fun_mk (st := s_Rate_add) l_Rate_add c_Rate_add k_Rate_add
  have B_Rate_add := F_Rate_add.binds (ps := ["self", "other"]) fun _ _ _ _ _ _ us hl => match us, hl with | [_, _], _ => rfl
  have F_Rate_radd := fun_mk (st := s_Rate_radd) l_Rate_radd c_Rate_radd k_Rate_radd
  have B_Rate_radd := F_Rate_radd.binds (ps := ["self", "other"]) fun _ _ _ _ _ _ us hl => match us, hl with | [_, _], _ => rfl
  have F_Rate_sub := fun_mk (st := s_Rate_sub) l_Rate_sub c_Rate_sub k_Rate_sub
  have B_Rate_sub := F_Rate_sub.binds (ps := ["self", "other"]) fun _ _ _ _ _ _ us hl => match us, hl with | [_, _], _ => rfl
  have F_Rate_rsub := fun_mk (st := s_Rate_rsub) l_Rate_rsub c_Rate_rsub k_Rate_rsub
  have B_Rate_rsub := F_Rate_rsub.binds (ps := ["self", "other"]) fun _ _ _ _ _ _ us hl => match us, hl with | [_, _], _ => rfl
  have F_Rate_mul := fun_mk (st := s_Rate_mul) l_Rate_mul c_Rate_mul k_Rate_mul
  have B_Rate_mul := F_Rate_mul.binds (ps := ["self", "k"]) fun _ _ _ _ _ _ us hl => match us, hl with | [_, _], _ => rfl
  have F_law_pen := fun_mk (st := s_law_pen) l_law_pen c_law_pen k_law_pen
  have B_law_pen := F_law_pen.binds (ps := ["_law_script"]) fun _ _ _ _ _ _ us hl => match us, hl with | [_], _ => rfl
  have F_law_draw := fun_mk (st := s_law_draw) l_law_draw c_law_draw k_law_draw
  have B_law_draw := F_law_draw.binds (ps := ["_law_pen_here", "_law_many"]) fun _ _ _ _ _ _ us hl => match us, hl with | [_, _], _ => rfl
  have F_law_pick := fun_mk (st := s_law_pick) l_law_pick c_law_pick k_law_pick
  have B_law_pick := F_law_pick.binds (ps := ["_law_pen_here", "_law_some"]) fun _ _ _ _ _ _ us hl => match us, hl with | [_, _], _ => rfl
  have F_law_number := fun_mk (st := s_law_number) l_law_number c_law_number k_law_number
  have B_law_number := F_law_number.binds (ps := ["_law_pen_here"]) fun _ _ _ _ _ _ us hl => match us, hl with | [_], _ => rfl
  have F_law_divisor := fun_mk (st := s_law_divisor) l_law_divisor c_law_divisor k_law_divisor
  have B_law_divisor := F_law_divisor.binds (ps := ["_law_one", "_law_other"]) fun _ _ _ _ _ _ us hl => match us, hl with | [_, _], _ => rfl
  have F_law_is := fun_mk (st := s_law_is) l_law_is c_law_is k_law_is
  have B_law_is := F_law_is.binds (ps := ["_law_rate", "_law_upper", "_law_lower"]) fun _ _ _ _ _ _ us hl => match us, hl with | [_, _, _], _ => rfl
  have F_law_sums_right := fun_mk (st := s_law_sums_right) l_law_sums_right c_law_sums_right k_law_sums_right
  have B_law_sums_right := F_law_sums_right.binds (ps := ["_law_one", "_law_other", "_law_a", "_law_b", "_law_c", "_law_d"]) fun _ _ _ _ _ _ us hl => match us, hl with | [_, _, _, _, _, _], _ => rfl
  have F_law_whole_right := fun_mk (st := s_law_whole_right) l_law_whole_right c_law_whole_right k_law_whole_right
  have B_law_whole_right := F_law_whole_right.binds (ps := ["_law_one", "_law_a", "_law_b", "_law_k"]) fun _ _ _ _ _ _ us hl => match us, hl with | [_, _, _, _], _ => rfl
  have F_law := fun_mk (st := s_law) l_law c_law k_law
  have B_Rate_init : Binds K (PySem.W.fnOf "__init__" "Rate.__init__" (defArgs s_Rate_init) (defBody s_Rate_init) (defScope s_Rate_init) (.ref T_Rate_init) kV_Rate_init dc_Rate_init pm_Rate_init an_Rate_init cd_Rate_init ct_Rate_init) ["self", "upper", "lower"] [] := by
    obtain ⟨ds, v, b⟩ := F_Rate_init.binds1 (ps := ["self", "upper", "lower"]) 3 1 (by simp) rfl fun _ _ _ _ _ _ _ us its h1 h2 => match us, its, h1, h2 with | [_, _, _], [_], _, _ => ⟨_, rfl, rfl⟩
    cases v
    exact b
  have cl_Rate : Cls K c_Rate := ⟨pg_Rate, hd_Rate, po_Rate, sa_Rate⟩
  let A : Ad := { c_Rate := c_Rate, p_Rate_floor := p_Rate_floor, f_is_integer := f_is_integer, f_divisor := f_divisor, f_Rate_init := f_Rate_init, f_as_rate := f_as_rate, f_Rate_floor := f_Rate_floor, f_Rate_eq := f_Rate_eq, f_Rate_lt := f_Rate_lt, f_Rate_le := f_Rate_le, f_Rate_gt := f_Rate_gt, f_Rate_ge := f_Rate_ge, f_Rate_neg := f_Rate_neg, f_Rate_add := f_Rate_add, f_Rate_radd := f_Rate_radd, f_Rate_sub := f_Rate_sub, f_Rate_rsub := f_Rate_rsub, f_Rate_mul := f_Rate_mul, f_law_pen := f_law_pen, f_law_draw := f_law_draw, f_law_pick := f_law_pick, f_law_number := f_law_number, f_law_divisor := f_law_divisor, f_law_is := f_law_is, f_law_sums_right := f_law_sums_right, f_law_whole_right := f_law_whole_right, f_law := fa, d_is_integer := PySem.W.fnOf "is_integer" "is_integer" (defArgs s_is_integer) (defBody s_is_integer) (defScope s_is_integer) .none kV_is_integer dc_is_integer pm_is_integer an_is_integer cd_is_integer ct_is_integer, d_divisor := PySem.W.fnOf "divisor" "divisor" (defArgs s_divisor) (defBody s_divisor) (defScope s_divisor) .none kV_divisor dc_divisor pm_divisor an_divisor cd_divisor ct_divisor, d_Rate_init := PySem.W.fnOf "__init__" "Rate.__init__" (defArgs s_Rate_init) (defBody s_Rate_init) (defScope s_Rate_init) (.ref T_Rate_init) kV_Rate_init dc_Rate_init pm_Rate_init an_Rate_init cd_Rate_init ct_Rate_init, d_as_rate := PySem.W.fnOf "as_rate" "as_rate" (defArgs s_as_rate) (defBody s_as_rate) (defScope s_as_rate) .none kV_as_rate dc_as_rate pm_as_rate an_as_rate cd_as_rate ct_as_rate, d_Rate_floor := PySem.W.fnOf "floor" "Rate.floor" (defArgs s_Rate_floor) (defBody s_Rate_floor) (defScope s_Rate_floor) .none kV_Rate_floor dc_Rate_floor pm_Rate_floor an_Rate_floor cd_Rate_floor ct_Rate_floor, d_Rate_eq := PySem.W.fnOf "__eq__" "Rate.__eq__" (defArgs s_Rate_eq) (defBody s_Rate_eq) (defScope s_Rate_eq) .none kV_Rate_eq dc_Rate_eq pm_Rate_eq an_Rate_eq cd_Rate_eq ct_Rate_eq, d_Rate_lt := PySem.W.fnOf "__lt__" "Rate.__lt__" (defArgs s_Rate_lt) (defBody s_Rate_lt) (defScope s_Rate_lt) .none kV_Rate_lt dc_Rate_lt pm_Rate_lt an_Rate_lt cd_Rate_lt ct_Rate_lt, d_Rate_le := PySem.W.fnOf "__le__" "Rate.__le__" (defArgs s_Rate_le) (defBody s_Rate_le) (defScope s_Rate_le) .none kV_Rate_le dc_Rate_le pm_Rate_le an_Rate_le cd_Rate_le ct_Rate_le, d_Rate_gt := PySem.W.fnOf "__gt__" "Rate.__gt__" (defArgs s_Rate_gt) (defBody s_Rate_gt) (defScope s_Rate_gt) .none kV_Rate_gt dc_Rate_gt pm_Rate_gt an_Rate_gt cd_Rate_gt ct_Rate_gt, d_Rate_ge := PySem.W.fnOf "__ge__" "Rate.__ge__" (defArgs s_Rate_ge) (defBody s_Rate_ge) (defScope s_Rate_ge) .none kV_Rate_ge dc_Rate_ge pm_Rate_ge an_Rate_ge cd_Rate_ge ct_Rate_ge, d_Rate_neg := PySem.W.fnOf "__neg__" "Rate.__neg__" (defArgs s_Rate_neg) (defBody s_Rate_neg) (defScope s_Rate_neg) .none kV_Rate_neg dc_Rate_neg pm_Rate_neg an_Rate_neg cd_Rate_neg ct_Rate_neg, d_Rate_add := PySem.W.fnOf "__add__" "Rate.__add__" (defArgs s_Rate_add) (defBody s_Rate_add) (defScope s_Rate_add) .none kV_Rate_add dc_Rate_add pm_Rate_add an_Rate_add cd_Rate_add ct_Rate_add, d_Rate_radd := PySem.W.fnOf "__radd__" "Rate.__radd__" (defArgs s_Rate_radd) (defBody s_Rate_radd) (defScope s_Rate_radd) .none kV_Rate_radd dc_Rate_radd pm_Rate_radd an_Rate_radd cd_Rate_radd ct_Rate_radd, d_Rate_sub := PySem.W.fnOf "__sub__" "Rate.__sub__" (defArgs s_Rate_sub) (defBody s_Rate_sub) (defScope s_Rate_sub) .none kV_Rate_sub dc_Rate_sub pm_Rate_sub an_Rate_sub cd_Rate_sub ct_Rate_sub, d_Rate_rsub := PySem.W.fnOf "__rsub__" "Rate.__rsub__" (defArgs s_Rate_rsub) (defBody s_Rate_rsub) (defScope s_Rate_rsub) .none kV_Rate_rsub dc_Rate_rsub pm_Rate_rsub an_Rate_rsub cd_Rate_rsub ct_Rate_rsub, d_Rate_mul := PySem.W.fnOf "__mul__" "Rate.__mul__" (defArgs s_Rate_mul) (defBody s_Rate_mul) (defScope s_Rate_mul) .none kV_Rate_mul dc_Rate_mul pm_Rate_mul an_Rate_mul cd_Rate_mul ct_Rate_mul, d_law_pen := PySem.W.fnOf "_law_pen" "_law_pen" (defArgs s_law_pen) (defBody s_law_pen) (defScope s_law_pen) .none kV_law_pen dc_law_pen pm_law_pen an_law_pen cd_law_pen ct_law_pen, d_law_draw := PySem.W.fnOf "_law_draw" "_law_draw" (defArgs s_law_draw) (defBody s_law_draw) (defScope s_law_draw) .none kV_law_draw dc_law_draw pm_law_draw an_law_draw cd_law_draw ct_law_draw, d_law_pick := PySem.W.fnOf "_law_pick" "_law_pick" (defArgs s_law_pick) (defBody s_law_pick) (defScope s_law_pick) .none kV_law_pick dc_law_pick pm_law_pick an_law_pick cd_law_pick ct_law_pick, d_law_number := PySem.W.fnOf "_law_number" "_law_number" (defArgs s_law_number) (defBody s_law_number) (defScope s_law_number) .none kV_law_number dc_law_number pm_law_number an_law_number cd_law_number ct_law_number, d_law_divisor := PySem.W.fnOf "_law_divisor" "_law_divisor" (defArgs s_law_divisor) (defBody s_law_divisor) (defScope s_law_divisor) .none kV_law_divisor dc_law_divisor pm_law_divisor an_law_divisor cd_law_divisor ct_law_divisor, d_law_is := PySem.W.fnOf "_law_is" "_law_is" (defArgs s_law_is) (defBody s_law_is) (defScope s_law_is) .none kV_law_is dc_law_is pm_law_is an_law_is cd_law_is ct_law_is, d_law_sums_right := PySem.W.fnOf "_law_sums_right" "_law_sums_right" (defArgs s_law_sums_right) (defBody s_law_sums_right) (defScope s_law_sums_right) .none kV_law_sums_right dc_law_sums_right pm_law_sums_right an_law_sums_right cd_law_sums_right ct_law_sums_right, d_law_whole_right := PySem.W.fnOf "_law_whole_right" "_law_whole_right" (defArgs s_law_whole_right) (defBody s_law_whole_right) (defScope s_law_whole_right) .none kV_law_whole_right dc_law_whole_right pm_law_whole_right an_law_whole_right cd_law_whole_right ct_law_whole_right, d_law := PySem.W.fnOf "law" "law" (defArgs s_law) (defBody s_law) (defScope s_law) .none kV_law dc_law pm_law an_law cd_law ct_law }
  have T : Txt K mg A := {
    kf := ⟨⟨pg_Rate, hd_Rate, po_Rate, sa_Rate⟩, na_up, na_lo, ⟨⟨pg_Rate, hd_Rate, po_Rate, sa_Rate⟩, ha, hn, htk, hm⟩, kit_rt (by decide +kernel) subr, kit_rr, by simp only [List.forall_mem_cons]; exact ⟨kit_tr isC tyC xr_int, kit_tr isC tyC xr_bool, kit_tr isC tyC xr_NoneType, kit_tr isC tyC xr_str, kit_tr isC tyC xr_list, kit_tr isC tyC xr_tuple, kit_tr isC tyC xr_dict, fun _ z => (List.not_mem_nil z).elim⟩, nr, by simp only [List.forall_mem_cons]; exact ⟨nx_int, nx_bool, nx_NoneType, nx_str, nx_list, nx_tuple, nx_dict, fun _ z => (List.not_mem_nil z).elim⟩⟩
    b_abs := PySem.W.mg_none_of X G zb_abs
    b_bool := PySem.W.mg_none_of X G zb_bool
    b_int := PySem.W.mg_none_of X G zb_int
    b_isinstance := PySem.W.mg_none_of X G zb_isinstance
    b_len := PySem.W.mg_none_of X G zb_len
    b_list := PySem.W.mg_none_of X G zb_list
    b_range := PySem.W.mg_none_of X G zb_range
    b_repr := PySem.W.mg_none_of X G zb_repr
    g_Rate := PySem.W.mg_of X G aC_Rate
    M_Rate := ⟨mk_Rate, a_Rate_init, i_Rate_init, kc_Rate⟩
    cl_Rate := cl_Rate
    g_is_integer := PySem.W.mg_of X G a_is_integer
    F_is_integer := F_is_integer
    B_is_integer := B_is_integer
    g_divisor := PySem.W.mg_of X G a_divisor
    F_divisor := F_divisor
    B_divisor := B_divisor
    F_Rate_init := F_Rate_init
    B_Rate_init := B_Rate_init
    g_as_rate := PySem.W.mg_of X G a_as_rate
    F_as_rate := F_as_rate
    B_as_rate := B_as_rate
    F_Rate_floor := F_Rate_floor
    B_Rate_floor := B_Rate_floor
    F_Rate_eq := F_Rate_eq
    B_Rate_eq := B_Rate_eq
    F_Rate_lt := F_Rate_lt
    B_Rate_lt := B_Rate_lt
    F_Rate_le := F_Rate_le
    B_Rate_le := B_Rate_le
    F_Rate_gt := F_Rate_gt
    B_Rate_gt := B_Rate_gt
    F_Rate_ge := F_Rate_ge
    B_Rate_ge := B_Rate_ge
    F_Rate_neg := F_Rate_neg
    B_Rate_neg := B_Rate_neg
    F_Rate_add := F_Rate_add
    B_Rate_add := B_Rate_add
    F_Rate_radd := F_Rate_radd
    B_Rate_radd := B_Rate_radd
    F_Rate_sub := F_Rate_sub
    B_Rate_sub := B_Rate_sub
    F_Rate_rsub := F_Rate_rsub
    B_Rate_rsub := B_Rate_rsub
    F_Rate_mul := F_Rate_mul
    B_Rate_mul := B_Rate_mul
    g_law_pen := PySem.W.mg_of X G a_law_pen
    F_law_pen := F_law_pen
    B_law_pen := B_law_pen
    g_law_draw := PySem.W.mg_of X G a_law_draw
    F_law_draw := F_law_draw
    B_law_draw := B_law_draw
    g_law_pick := PySem.W.mg_of X G a_law_pick
    F_law_pick := F_law_pick
    B_law_pick := B_law_pick
    g_law_number := PySem.W.mg_of X G a_law_number
    F_law_number := F_law_number
    B_law_number := B_law_number
    g_law_divisor := PySem.W.mg_of X G a_law_divisor
    F_law_divisor := F_law_divisor
    B_law_divisor := B_law_divisor
    g_law_is := PySem.W.mg_of X G a_law_is
    F_law_is := F_law_is
    B_law_is := B_law_is
    g_law_sums_right := PySem.W.mg_of X G a_law_sums_right
    F_law_sums_right := F_law_sums_right
    B_law_sums_right := B_law_sums_right
    g_law_whole_right := PySem.W.mg_of X G a_law_whole_right
    F_law_whole_right := F_law_whole_right
    B_law_whole_right := B_law_whole_right
    F_law := F_law
    o_Rate_add := binF_mk (nm := "__add__") (by decide +kernel) sf a_Rate_add i_Rate_add ⟨_, by rw [show dunderR Operator.Add.info.2 = ("__radd__" : Str) from by decide +kernel]; exact a_Rate_radd, .inr ⟨_, rfl⟩⟩ (by show (fastLookup "int" _).isSome = true; decide +kernel) (by show (fastLookup "int" _).isSome = true; decide +kernel) subi
    i_Rate_add := inpF_mk (nm := "__add__") (by decide +kernel) sf a_Rate_add i_Rate_add hcd rf_hmro (by rw [show dunderI Operator.Add.info.2 = ("__iadd__" : Str) from by decide +kernel]; exact niadd) (by show fastLookup "object" _ = some none; decide +kernel)
    r_Rate_radd := reflF_mk (nm := "__add__") (nr := "__radd__") (by decide +kernel) (by decide +kernel) sf a_Rate_add a_Rate_radd i_Rate_radd subr int_fo_Add
    o_Rate_sub := binF_mk (nm := "__sub__") (by decide +kernel) sf a_Rate_sub i_Rate_sub ⟨_, by rw [show dunderR Operator.Sub.info.2 = ("__rsub__" : Str) from by decide +kernel]; exact a_Rate_rsub, .inr ⟨_, rfl⟩⟩ (by show (fastLookup "int" _).isSome = true; decide +kernel) (by show (fastLookup "int" _).isSome = true; decide +kernel) subi
    i_Rate_sub := inpF_mk (nm := "__sub__") (by decide +kernel) sf a_Rate_sub i_Rate_sub hcd rf_hmro (by rw [show dunderI Operator.Sub.info.2 = ("__isub__" : Str) from by decide +kernel]; exact nisub) (by show fastLookup "object" _ = some none; decide +kernel)
    r_Rate_rsub := reflF_mk (nm := "__sub__") (nr := "__rsub__") (by decide +kernel) (by decide +kernel) sf a_Rate_sub a_Rate_rsub i_Rate_rsub subr int_fo_Sub
    o_Rate_mul := binF_mk (nm := "__mul__") (by decide +kernel) sf a_Rate_mul i_Rate_mul ⟨_, by rw [show dunderR Operator.Mult.info.2 = ("__rmul__" : Str) from by decide +kernel]; exact nrmul, .inl rfl⟩ (by show (fastLookup "int" _).isSome = true; decide +kernel) (by show (fastLookup "int" _).isSome = true; decide +kernel) subi
    q_Rate_lt := ⟨a_Rate_lt, i_Rate_lt⟩
    q_Rate_le := ⟨a_Rate_le, i_Rate_le⟩
    q_Rate_gt := ⟨a_Rate_gt, i_Rate_gt⟩
    q_Rate_ge := ⟨a_Rate_ge, i_Rate_ge⟩
    q_Rate_eq := ⟨a_Rate_eq, i_Rate_eq⟩
    n_Rate := ⟨⟨_, _, _, _, _, _, _, _, _, _, _, _, _, _, _, _, lC, nsOk_mk lN rf_nsk, eqC, neC⟩, ⟨_, l_Rate_eq, rf_ocEq⟩⟩
    u_Rate_neg := ⟨a_Rate_neg, i_Rate_neg⟩
    p_Rate_floor := ⟨a_Rate_floor, pG_Rate_floor, pT_Rate_floor, _, pR_Rate_floor⟩
    D1_Rate := F_Rate_init.binds1 (ps := ["self", "upper", "lower"]) 2 0 (by simp) rfl fun _ _ _ _ _ _ _ us its h1 h2 => match us, its, h1, h2 with | [_, _], [_], _, _ => ⟨_, rfl, rfl⟩
    KW_Rate := (by obtain ⟨its, h⟩ := F_Rate_init.kbindsD (ps := ["self", "upper", "lower"]) 1 ["lower", "upper"] (fun us its ws => us ++ (ws.drop 1 ++ ws.take 1)) (by simp) (fun r1 r2 r3 => r1.append ((r3.drop 1).append (r3.take 1))) (fun _ _ _ _ _ _ _ us its ws h1 h2 h3 => match us, its, ws, h1, h2, h3 with | [_], [_], [_, _], _, _, _ => ⟨_, rfl, rfl⟩); exact ⟨_, h⟩)
  }
  exact ⟨_, fun s v => .of_eq rfl, fun base _ _ => ok_all T⟩

theorem walk {l : PySem.W.OpenLaw} {q : Program} {loose : List Str} {XP : (Str → Option Value) → Heap → Prop} {YP : World → Heap → Prop} {d : DefRec} {K : Params → PySem.W.Frag} (hn : l.most = some 63) (hdf : d.params.defaults = [])
    (hY : ∀ (w : World) (h : Heap), YP w h → (K w.params).In h)
    (F : ∀ (w : World) (mg : Str → Option Value) (fa : Addr) (h : Heap), (K w.params).In h → h.Ns mainGlobals mg → mg d.name = some (.ref fa) →
      ∃ fd : FuncData, (∀ (s : Shared) (u : Value), BindsTo s fd ⟨[u], []⟩ [("_law_script", u)]) ∧ ∀ base : Heap, (K w.params).In base → base.Ns mainGlobals mg → FnG l.prog w (K w.params) mg base CX0 13 fa fd ["_law_script"] (spLaw (K w.params))) :
    PySem.W.WalkO q loose XP YP l.row.toRowW d [] (fun f vs => PySem.call f vs) :=
  walkG (n := 63) (k := 13) (x := "_law_script") (CX := fun _ => CX0) (sp := fun w => spLaw (K w.params)) hn (by decide) hdf ⟨rfl, by decide, by decide⟩ hY F (fun w H a ns hl hS hH => ⟨⟨ns, hS⟩, fun _ => rfl⟩) fun _ _ _ _ _ z => z

end HG

open PySem PySem.W PyProof.Rows
set_option maxRecDepth 100000 in
set_option maxHeartbeats 0 in
theorem PySem.Challenge.cw_headgap_k31_rates_made_and_reckoned_holds : PySem.Challenge.rw_headgap_k31_rates_made_and_reckoned.Holds := by
  w_on; o_law; k_head; (case hw => w_witness2)
  k_fill
  refine HG.walk (l := PySem.Challenge.rw_headgap_k31_rates_made_and_reckoned) rfl rfl (fun w h Y => PySem.W.kIn_of Y) ?F
  case F =>
    intro w mg fa h KX G hmg
    refine' HG.all_mk KX G hmg ?aC_Rate ?a_is_integer ?l_is_integer ?c_is_integer ?k_is_integer ?a_divisor ?l_divisor ?c_divisor ?k_divisor ?a_Rate_init ?i_Rate_init ?l_Rate_init ?lT_Rate_init ?c_Rate_init ?k_Rate_init ?a_as_rate ?l_as_rate ?c_as_rate ?k_as_rate ?a_Rate_floor ?pG_Rate_floor ?pT_Rate_floor ?pR_Rate_floor ?l_Rate_floor ?c_Rate_floor ?k_Rate_floor ?a_Rate_eq ?i_Rate_eq ?l_Rate_eq ?c_Rate_eq ?k_Rate_eq ?a_Rate_lt ?i_Rate_lt ?l_Rate_lt ?c_Rate_lt ?k_Rate_lt ?a_Rate_le ?i_Rate_le ?l_Rate_le ?c_Rate_le ?k_Rate_le ?a_Rate_gt ?i_Rate_gt ?l_Rate_gt ?c_Rate_gt ?k_Rate_gt ?a_Rate_ge ?i_Rate_ge ?l_Rate_ge ?c_Rate_ge ?k_Rate_ge ?a_Rate_neg ?i_Rate_neg ?l_Rate_neg ?c_Rate_neg ?k_Rate_neg ?a_Rate_add ?i_Rate_add ?l_Rate_add ?c_Rate_add ?k_Rate_add ?a_Rate_radd ?i_Rate_radd ?l_Rate_radd ?c_Rate_radd ?k_Rate_radd ?a_Rate_sub ?i_Rate_sub ?l_Rate_sub ?c_Rate_sub ?k_Rate_sub ?a_Rate_rsub ?i_Rate_rsub ?l_Rate_rsub ?c_Rate_rsub ?k_Rate_rsub ?a_Rate_mul ?i_Rate_mul ?l_Rate_mul ?c_Rate_mul ?k_Rate_mul ?a_law_pen ?l_law_pen ?c_law_pen ?k_law_pen ?a_law_draw ?l_law_draw ?c_law_draw ?k_law_draw ?a_law_pick ?l_law_pick ?c_law_pick ?k_law_pick ?a_law_number ?l_law_number ?c_law_number ?k_law_number ?a_law_divisor ?l_law_divisor ?c_law_divisor ?k_law_divisor ?a_law_is ?l_law_is ?c_law_is ?k_law_is ?a_law_sums_right ?l_law_sums_right ?c_law_sums_right ?k_law_sums_right ?a_law_whole_right ?l_law_whole_right ?c_law_whole_right ?k_law_whole_right ?a_law ?l_law ?c_law ?k_law ?pg_Rate ?hd_Rate ?po_Rate ?sa_Rate ?mk_Rate ?kc_Rate ?na_up ?na_lo ?ha ?hn ?htk ?hm ?isC ?tyC ?nr ?xr_int ?xr_bool ?xr_NoneType ?xr_str ?xr_list ?xr_tuple ?xr_dict ?nx_int ?nx_bool ?nx_NoneType ?nx_str ?nx_list ?nx_tuple ?nx_dict ?sf ?subi ?subr ?nrmul ?hcd ?rf_hmro ?niadd ?nisub ?lC ?lN ?rf_nsk ?eqC ?rf_ocEq ?neC ?zb_abs ?zb_bool ?zb_int ?zb_isinstance ?zb_len ?zb_list ?zb_range ?zb_repr
    (case aC_Rate => k_is)
    (case a_is_integer => k_is)
    (case l_is_integer => k_is)
    (case c_is_integer => k_is)
    (case k_is_integer => k_is)
    (case a_divisor => k_is)
    (case l_divisor => k_is)
    (case c_divisor => k_is)
    (case k_divisor => k_is)
    (case a_Rate_init => k_is)
    (case i_Rate_init => k_is)
    (case l_Rate_init => k_is)
    (case lT_Rate_init => k_is)
    (case c_Rate_init => k_is)
    (case k_Rate_init => k_is)
    (case a_as_rate => k_is)
    (case l_as_rate => k_is)
    (case c_as_rate => k_is)
    (case k_as_rate => k_is)
    (case a_Rate_floor => k_is)
    (case pG_Rate_floor => k_is)
    (case pT_Rate_floor => k_is)
    (case pR_Rate_floor => k_is)
    (case l_Rate_floor => k_is)
    (case c_Rate_floor => k_is)
    (case k_Rate_floor => k_is)
    (case a_Rate_eq => k_is)
    (case i_Rate_eq => k_is)
    (case l_Rate_eq => k_is)
    (case c_Rate_eq => k_is)
    (case k_Rate_eq => k_is)
    (case a_Rate_lt => k_is)
    (case i_Rate_lt => k_is)
    (case l_Rate_lt => k_is)
    (case c_Rate_lt => k_is)
    (case k_Rate_lt => k_is)
    (case a_Rate_le => k_is)
    (case i_Rate_le => k_is)
    (case l_Rate_le => k_is)
    (case c_Rate_le => k_is)
    (case k_Rate_le => k_is)
    (case a_Rate_gt => k_is)
    (case i_Rate_gt => k_is)
    (case l_Rate_gt => k_is)
    (case c_Rate_gt => k_is)
    (case k_Rate_gt => k_is)
    (case a_Rate_ge => k_is)
    (case i_Rate_ge => k_is)
    (case l_Rate_ge => k_is)
    (case c_Rate_ge => k_is)
    (case k_Rate_ge => k_is)
    (case a_Rate_neg => k_is)
    (case i_Rate_neg => k_is)
    (case l_Rate_neg => k_is)
    (case c_Rate_neg => k_is)
    (case k_Rate_neg => k_is)
    (case a_Rate_add => k_is)
    (case i_Rate_add => k_is)
    (case l_Rate_add => k_is)
    (case c_Rate_add => k_is)
    (case k_Rate_add => k_is)
    (case a_Rate_radd => k_is)
    (case i_Rate_radd => k_is)
    (case l_Rate_radd => k_is)
    (case c_Rate_radd => k_is)
    (case k_Rate_radd => k_is)
    (case a_Rate_sub => k_is)
    (case i_Rate_sub => k_is)
    (case l_Rate_sub => k_is)
    (case c_Rate_sub => k_is)
    (case k_Rate_sub => k_is)
    (case a_Rate_rsub => k_is)
    (case i_Rate_rsub => k_is)
    (case l_Rate_rsub => k_is)
    (case c_Rate_rsub => k_is)
    (case k_Rate_rsub => k_is)
    (case a_Rate_mul => k_is)
    (case i_Rate_mul => k_is)
    (case l_Rate_mul => k_is)
    (case c_Rate_mul => k_is)
    (case k_Rate_mul => k_is)
    (case a_law_pen => k_is)
    (case l_law_pen => k_is)
    (case c_law_pen => k_is)
    (case k_law_pen => k_is)
    (case a_law_draw => k_is)
    (case l_law_draw => k_is)
    (case c_law_draw => k_is)
    (case k_law_draw => k_is)
    (case a_law_pick => k_is)
    (case l_law_pick => k_is)
    (case c_law_pick => k_is)
    (case k_law_pick => k_is)
    (case a_law_number => k_is)
    (case l_law_number => k_is)
    (case c_law_number => k_is)
    (case k_law_number => k_is)
    (case a_law_divisor => k_is)
    (case l_law_divisor => k_is)
    (case c_law_divisor => k_is)
    (case k_law_divisor => k_is)
    (case a_law_is => k_is)
    (case l_law_is => k_is)
    (case c_law_is => k_is)
    (case k_law_is => k_is)
    (case a_law_sums_right => k_is)
    (case l_law_sums_right => k_is)
    (case c_law_sums_right => k_is)
    (case k_law_sums_right => k_is)
    (case a_law_whole_right => k_is)
    (case l_law_whole_right => k_is)
    (case c_law_whole_right => k_is)
    (case k_law_whole_right => k_is)
    (case a_law => k_is)
    (case l_law => k_is)
    (case c_law => k_is)
    (case k_law => k_is)
    (case pg_Rate => k_is)
    (case hd_Rate => k_is)
    (case po_Rate => k_is)
    (case sa_Rate => k_is)
    (case mk_Rate => k_is)
    (case kc_Rate => k_is)
    (case na_up => k_is)
    (case na_lo => k_is)
    (case ha => k_is)
    (case hn => k_is)
    (case htk => k_is)
    (case hm => k_is)
    (case isC => k_is)
    (case tyC => k_is)
    (case nr => k_is)
    (case xr_int => k_is)
    (case xr_bool => k_is)
    (case xr_NoneType => k_is)
    (case xr_str => k_is)
    (case xr_list => k_is)
    (case xr_tuple => k_is)
    (case xr_dict => k_is)
    (case nx_int => k_is)
    (case nx_bool => k_is)
    (case nx_NoneType => k_is)
    (case nx_str => k_is)
    (case nx_list => k_is)
    (case nx_tuple => k_is)
    (case nx_dict => k_is)
    (case sf => k_is)
    (case subi => k_is)
    (case subr => k_is)
    (case nrmul => k_is)
    (case hcd => k_is)
    (case rf_hmro => rfl)
    (case niadd => k_is)
    (case nisub => k_is)
    (case lC => k_is)
    (case lN => k_is)
    (case rf_nsk => rfl)
    (case eqC => k_is)
    (case rf_ocEq => rfl)
    (case neC => k_is)
    (case zb_abs => k_is)
    (case zb_bool => k_is)
    (case zb_int => k_is)
    (case zb_isinstance => k_is)
    (case zb_len => k_is)
    (case zb_list => k_is)
    (case zb_range => k_is)
    (case zb_repr => k_is)


