import PyProof.Rows.All
import Wide.All
import OpenK.AllK
import Wide.FinOn
import HandS.ForMost
import HandS.ForExc
import HandS.Wide
import HandS.IsInst
import KE.KOpsOwn
import KE.KIsAll
import HandS.Property
import HandS.Defaults
import HandS.MakeKw
import HandS.Style
import PyProof.TwoTypes
import PyProof.InstNe
import HandS.EndBits
import PyProof.ReprRoads
import PyProof.ReprLen
import HandS.RaiseMore
import HandS.MakeKwOnly
import HandS.Deep
import HandS.TupAny
import HandS.List
import OpenK.KMeth
import KE.KCallOwn
import HandS.Star
import HandS.Text
import PyProof.Rows.ReprOcc
import HandS.Lambda
import HandS.Nested
import HandS.EndTab
import HandS.Conv
import HandS.ExcInit
import HandS.ExcField
import HandS.ExcIs
import KE.KExcSuper
import HandS.Exc
import KE.KExcIs
import HandS.SortKw
import KE.DataMinMax
import KE.GoesEnum
import HandS.Iter
import PyProof.LongRange
import HandS.DictComp
import PyProof.DictFindH
import HandS.More
import OpenK.KCls
import HandS.Steps
import PyProof.ListStr
import HandS.Head0
import HandS.Head1
import HandS.Head2
import PySem.Challenge.RW_headgap_k52_arrays_of_texts
set_option Elab.async false
set_option linter.all false
set_option maxRecDepth 100000
set_option maxHeartbeats 4000000
set_option exponentiation.threshold 3000
namespace HG
open PySem L2
section
variable {X : Cx}
theorem opImp {f : Value → Value → Sem Value} {r r' : R2} (h : OpR X f r) (hi : ∀ x y H Q, r' x y H Q → r x y H Q) : OpR X f r' :=
  fun pins s σ H x y v u Q I rx ry q => h pins s σ H x y v u Q I rx ry (hi x y H Q q)
theorem callImp {f : Value} {r r' : List V → Hp → VK → Prop} (h : CallR X f r) (hi : ∀ xs H Q, r' xs H Q → r xs H Q) : CallR X f r' :=
  fun pins s σ H xs us Q I rx q => h pins s σ H xs us Q I rx (hi xs H Q q)

/-! ### operators, by the kinds of the values -/
def oAdd : R2 := fun x y H Q => match x, y with
  | .int i, .int j => Q (.int (i + j)) H
  | .str a, .str b => a.length + b.length ≤ sizeLine ∧ Q (.str (a ++ b)) H
  | .ref l, .ref b => match H l, H b with
    | some (.lst xs), some (.lst zs) => xs.length + zs.length ≤ sizeLine ∧ ∀ p, H p = none → Q (.ref p) (upd H p (.lst (xs ++ zs)))
    | _, _ => False
  | _, _ => False
theorem op_addU : OpR X (binaryOp .Add) oAdd := opImp (op_add.or (op_add_str.or op_cat)) fun x y H Q h => by
  unfold oAdd at h
  split at h
  · exact .inl ⟨_, _, rfl, rfl, h⟩
  · exact .inr (.inl ⟨_, _, rfl, rfl, h.1, h.2⟩)
  · split at h
    · rename_i e1 e2
      exact .inr (.inr ⟨_, _, _, _, rfl, rfl, e1, e2, h.1, h.2⟩)
    · exact h.elim
  · exact h.elim
def oSub : R2 := fun x y H Q => match x, y with
  | .int i, .int j => Q (.int (i - j)) H
  | _, _ => False
theorem op_subU : OpR X (binaryOp .Sub) oSub := opImp op_sub fun x y H Q h => by
  unfold oSub at h
  split at h
  · exact ⟨_, _, rfl, rfl, h⟩
  · exact h.elim
def oMul : R2 := fun x y H Q => match x, y with
  | .int i, .int j => IntMulOk i j ∧ Q (.int (i * j)) H
  | .ref l, .int k => match H l with
    | some (.lst xs) => -(2 ^ 63) ≤ k ∧ k < 2 ^ 63 ∧ xs.length * k.toNat ≤ sizeLine ∧ ∀ p, H p = none → Q (.ref p) (upd H p (.lst (List.replicate k.toNat xs).flatten))
    | _ => False
  | _, _ => False
theorem op_mulOk : OpR X (binaryOp .Mult) (rI IntMulOk fun i j => .int (i * j)) := opI fun _ _ _ _ _ _ _ hc q => PyProof.Rows.mul_int q hc
theorem op_mulU : OpR X (binaryOp .Mult) oMul := opImp (op_mulOk.or op_rep) fun x y H Q h => by
  unfold oMul at h
  split at h
  · exact .inl ⟨_, _, rfl, rfl, h.1, h.2⟩
  · split at h
    · rename_i e
      exact .inr ⟨_, _, _, rfl, rfl, e, h.1, h.2.1, h.2.2.1, h.2.2.2⟩
    · exact h.elim
  · exact h.elim
def oFdiv : R2 := fun x y H Q => match x, y with
  | .int i, .int j => CDivW i j ∧ Q (.int (i / j)) H
  | _, _ => False
theorem op_fdivU : OpR X (binaryOp .FloorDiv) oFdiv := opImp op_fdivW fun x y H Q h => by
  unfold oFdiv at h
  split at h
  · exact ⟨_, _, rfl, rfl, h.1, h.2⟩
  · exact h.elim
def oMod : R2 := fun x y H Q => match x, y with
  | .int i, .int j => 0 < j ∧ Q (.int (i % j)) H
  | _, _ => False
theorem op_modU : OpR X (binaryOp .Mod) oMod := opImp op_mod fun x y H Q h => by
  unfold oMod at h
  split at h
  · exact ⟨_, _, rfl, rfl, h.1, h.2⟩
  · exact h.elim
def oPow : R2 := fun x y H Q => match x, y with
  | .int i, .int j => CPow i j ∧ Q (.int (i ^ j.toNat)) H
  | _, _ => False
theorem op_powU : OpR X (binaryOp .Pow) oPow := opImp op_pow fun x y H Q h => by
  unfold oPow at h
  split at h
  · exact ⟨_, _, rfl, rfl, h.1, h.2⟩
  · exact h.elim
def uNeg : V → Hp → VK → Prop := fun x H Q => match x with
  | .int i => Q (.int (-i)) H
  | _ => False
theorem un_negU : UnR X (unaryOp .USub) uNeg := fun pins s σ H x v Q I rx h => by
  refine un_neg pins s σ H x v Q I rx ?_
  unfold uNeg at h
  split at h
  · exact ⟨_, rfl, h⟩
  · exact h.elim
def oLt : R2 := fun x y H Q => match x, y with
  | .int i, .int j => Q (.bl (decide (i < j))) H
  | _, _ => False
theorem op_ltU : OpR X (compareOp .Lt) oLt := opImp op_lt fun x y H Q h => by
  unfold oLt at h
  split at h
  · exact ⟨_, _, rfl, rfl, h⟩
  · exact h.elim
def oLe : R2 := fun x y H Q => match x, y with
  | .int i, .int j => Q (.bl (decide (i ≤ j))) H
  | _, _ => False
theorem op_leU : OpR X (compareOp .LtE) oLe := opImp op_le fun x y H Q h => by
  unfold oLe at h
  split at h
  · exact ⟨_, _, rfl, rfl, h⟩
  · exact h.elim
def oGt : R2 := fun x y H Q => match x, y with
  | .int i, .int j => Q (.bl (decide (j < i))) H
  | _, _ => False
theorem op_gtU : OpR X (compareOp .Gt) oGt := opImp op_gt fun x y H Q h => by
  unfold oGt at h
  split at h
  · exact ⟨_, _, rfl, rfl, h⟩
  · exact h.elim
def oGe : R2 := fun x y H Q => match x, y with
  | .int i, .int j => Q (.bl (decide (j ≤ i))) H
  | _, _ => False
theorem op_geU : OpR X (compareOp .GtE) oGe := opImp op_ge fun x y H Q h => by
  unfold oGe at h
  split at h
  · exact ⟨_, _, rfl, rfl, h⟩
  · exact h.elim
/-! ### data, read off the abstract heap -/
def dataL (f : V → Option PyData) : List V → Option (List PyData)
  | [] => some []
  | x :: xs => match f x with
    | some d => match dataL f xs with
      | some ds => some (d :: ds)
      | none => none
    | none => none
def dataF : Nat → Hp → V → Option PyData
  | _, _, .non => some .none
  | _, _, .bl b => some (.bool b)
  | _, _, .int i => some (.int i)
  | _, _, .str x => some (.str x)
  | n + 1, H, .ref a => match H a with
    | some (.lst xs) => (dataL (dataF n H) xs).map .list
    | some (.tup xs) => (dataL (dataF n H) xs).map .tuple
    | _ => none
  | _, _, _ => none
theorem dpAll_of {K : PySem.W.Frag} {H : Hp} {f : V → Option PyData} (hf : ∀ x d, f x = some d → Dp K H x d) : ∀ {xs : List V} {ds : List PyData}, dataL f xs = some ds → DpAll K H xs ds
  | [], ds, h => by
    cases h
    exact .nil
  | x :: xs, ds, h => by
    simp only [dataL] at h
    split at h
    · rename_i d e
      split at h
      · rename_i ds' e'
        cases h
        exact .cons (hf x d e) (dpAll_of hf e')
      · cases h
    · cases h
theorem dp_of {K : PySem.W.Frag} {H : Hp} : ∀ {n : Nat} {x : V} {d : PyData}, dataF n H x = some d → Dp K H x d
  | n, .non, d, h => by
    have e : some PyData.none = some d := by rw [← h]; cases n <;> rfl
    cases e
    exact .non
  | n, .bl b, d, h => by
    have e : some (PyData.bool b) = some d := by rw [← h]; cases n <;> rfl
    cases e
    exact .bl b
  | n, .int i, d, h => by
    have e : some (PyData.int i) = some d := by rw [← h]; cases n <;> rfl
    cases e
    exact .int i
  | n, .str i, d, h => by
    have e : some (PyData.str i) = some d := by rw [← h]; cases n <;> rfl
    cases e
    exact .str i
  | n, .byt i, d, h => by cases n <;> cases h
  | n, .flt i, d, h => by cases n <;> cases h
  | n, .ty i, d, h => by cases n <;> cases h
  | 0, .ref a, d, h => by cases h
  | n + 1, .ref a, d, h => by
    simp only [dataF] at h
    split at h
    · rename_i xs e
      obtain ⟨ds, e1, rfl⟩ := Option.map_eq_some_iff.mp h
      exact .lst (SqL.of e) (dpAll_of (fun x d q => dp_of q) e1)
    · rename_i xs e
      obtain ⟨ds, e1, rfl⟩ := Option.map_eq_some_iff.mp h
      exact .tup (SqT.of e) (dpAll_of (fun x d q => dp_of q) e1)
    · cases h
def oEq (K : PySem.W.Frag) : R2 := fun x y H Q => match x, y with
  | .int i, .int j => Q (.bl (decide (i = j))) H
  | .str i, .str j => Q (.bl (decide (i = j))) H
  | .bl i, .bl j => Q (.bl (decide (i = j))) H
  | x, y => match dataF 8 H x, dataF 8 H y with
    | some d, some e => SeqAt.shaped d = true ∧ SeqAt.shaped e = true ∧ Q (.bl (PyData.eqv d e)) H
    | _, _ => False
theorem dec_V {α : Type} [DecidableEq α] {f : α → V} (inj : ∀ a b, f a = f b → a = b) (a b : α) : decide (f a = f b) = decide (a = b) := by
  by_cases h : a = b
  · subst h; simp
  · rw [decide_eq_false h, decide_eq_false fun q => h (inj a b q)]
theorem op_eqU (hu : X.A.units + 64 < cLine) : OpR X (compareOp .Eq) (oEq X.K) := opImp (op_eq.or (op_eqD hu)) fun x y H Q h => by
  unfold oEq at h
  split at h
  · exact .inl ⟨rfl, by rw [dec_V (f := V.int) (fun _ _ q => by injection q)]; exact h⟩
  · exact .inl ⟨rfl, by rw [dec_V (f := V.str) (fun _ _ q => by injection q)]; exact h⟩
  · exact .inl ⟨rfl, by rw [dec_V (f := V.bl) (fun _ _ q => by injection q)]; exact h⟩
  · split at h
    · rename_i e1 e2
      exact .inr ⟨_, _, dp_of e1, dp_of e2, h.1, h.2.1, h.2.2⟩
    · exact h.elim
def oNe (K : PySem.W.Frag) : R2 := fun x y H Q => match x, y with
  | .int i, .int j => Q (.bl (!decide (i = j))) H
  | .str i, .str j => Q (.bl (!decide (i = j))) H
  | .bl i, .bl j => Q (.bl (!decide (i = j))) H
  | x, y => match dataF 8 H x, dataF 8 H y with
    | some d, some e => SeqAt.shaped d = true ∧ SeqAt.shaped e = true ∧ Q (.bl (!PyData.eqv d e)) H
    | _, _ => False
theorem op_neU (hu : X.A.units + 64 < cLine) : OpR X (compareOp .NotEq) (oNe X.K) := opImp (op_ne.or (op_neD hu)) fun x y H Q h => by
  unfold oNe at h
  split at h
  · exact .inl ⟨rfl, by rw [dec_V (f := V.int) (fun _ _ q => by injection q)]; exact h⟩
  · exact .inl ⟨rfl, by rw [dec_V (f := V.str) (fun _ _ q => by injection q)]; exact h⟩
  · exact .inl ⟨rfl, by rw [dec_V (f := V.bl) (fun _ _ q => by injection q)]; exact h⟩
  · split at h
    · rename_i e1 e2
      exact .inr ⟨_, _, dp_of e1, dp_of e2, h.1, h.2.1, h.2.2⟩
    · exact h.elim

/-! ### sequences -/
/-- the items of the list or tuple at p -/
def rdSeq (K : PySem.W.Frag) (H : Hp) (p : Addr) (k : List V → Prop) : Prop := match H p with
  | some (.lst xs) => k xs
  | some (.tup xs) => k xs
  | _ => ∃ xs, (SqL K H p xs ∨ SqT K H p xs) ∧ k xs
theorem rdSeq_out {K : PySem.W.Frag} {H : Hp} {p : Addr} {k : List V → Prop} (h : rdSeq K H p k) : ∃ xs, (SqL K H p xs ∨ SqT K H p xs) ∧ k xs := by
  unfold rdSeq at h
  split at h
  · rename_i e; exact ⟨_, .inl (SqL.of e), h⟩
  · rename_i e; exact ⟨_, .inr (SqT.of e), h⟩
  · exact h
theorem rdSeq_of {K : PySem.W.Frag} {H : Hp} {p : Addr} {k : List V → Prop} {xs : List V} (h : SqL K H p xs) (hp : H p = none ∨ (∃ o u, H p = some (.frz o u)) ∨ H p = some (.lst xs)) (hk : k xs) : rdSeq K H p k := by
  unfold rdSeq
  rcases hp with e | ⟨o, u, e⟩ | e
  · rw [e]; exact ⟨xs, .inl h, hk⟩
  · rw [e]; exact ⟨xs, .inl h, hk⟩
  · rw [e]; exact hk
theorem rdSeq_lst {K : PySem.W.Frag} {H : Hp} {p : Addr} {k : List V → Prop} {xs : List V} (h : H p = some (.lst xs)) : rdSeq K H p k = k xs := by
  unfold rdSeq; rw [h]
theorem rdSeq_tup {K : PySem.W.Frag} {H : Hp} {p : Addr} {k : List V → Prop} {xs : List V} (h : H p = some (.tup xs)) : rdSeq K H p k = k xs := by
  unfold rdSeq; rw [h]
/-! ### built-in functions -/
def cLen (K : PySem.W.Frag) : List V → Hp → VK → Prop := fun xs H Q => match xs with
  | [.ref p] => rdSeq K H p fun ys => Q (.int ys.length) H
  | [.str z] => z.length ≤ sizeLine ∧ Q (.int z.length) H
  | _ => False
theorem call_lenU : CallR X (.builtin "len") (cLen X.K) := callImp (call_len_seq.or call_len_str) fun xs H Q h => by
  unfold cLen at h
  split at h
  · obtain ⟨ys, h1, h2⟩ := rdSeq_out h
    exact .inl ⟨_, ys, rfl, h1, h2⟩
  · exact .inr ⟨_, rfl, h.1, h.2⟩
  · exact h.elim
def cAbs : List V → Hp → VK → Prop := fun xs H Q => match xs with
  | [.int i] => Q (.int (if i < 0 then -i else i)) H
  | _ => False
theorem call_absU : CallR X (.builtin "abs") cAbs := callImp call_abs fun xs H Q h => by
  unfold cAbs at h
  split at h
  · exact ⟨_, rfl, h⟩
  · exact h.elim
def cInt : List V → Hp → VK → Prop := fun xs H Q => match xs with
  | [.int i] => Q (.int i) H
  | [.bl b] => Q (.int (if b then 1 else 0)) H
  | [.str a] => ∃ n, PySem.intText? a = some n ∧ a.length ≤ 640 ∧ Q (.int n) H
  | _ => False
theorem call_intU : CallR X (.type "int") cInt := callImp (call_int1.or call_int_str) fun xs H Q h => by
  unfold cInt at h
  split at h
  · exact .inl (.inl ⟨_, rfl, h⟩)
  · exact .inl (.inr ⟨_, rfl, h⟩)
  · obtain ⟨n, h1, h2, h3⟩ := h
    exact .inr ⟨_, n, rfl, h1, h2, h3⟩
  · exact h.elim
def cList (K : PySem.W.Frag) : List V → Hp → VK → Prop := fun xs H Q => match xs with
  | [.ref p] => rdSeq K H p fun ys => ∀ l, H l = none → Q (.ref l) (upd H l (.lst ys))
  | _ => False
theorem call_listU : CallR X (.type "list") (cList X.K) := callImp call_list_of fun xs H Q h => by
  unfold cList at h
  split at h
  · obtain ⟨ys, h1, h2⟩ := rdSeq_out h
    exact ⟨_, ys, rfl, h1, h2⟩
  · exact h.elim
def iIx (K : PySem.W.Frag) : R2 := fun x y H Q => match x, y with
  | .ref p, .int i => rdSeq K H p fun xs => match atI xs i with
    | some v => Q v H
    | none => False
  | .str z, .int i => z.length ≤ sizeLine ∧ match atI z.cps.toList i with
    | some c => Q (.str ⟨#[c]⟩) H
    | none => False
  | _, _ => False
theorem ix_U : IxR X (iIx X.K) := fun value slice pins s σ H x y v u Q I rx ry h hs => by
  refine ix_seq value slice pins s σ H x y v u Q I rx ry ?_ hs
  unfold iIx at h
  split at h
  · obtain ⟨xs, h1, h2⟩ := rdSeq_out h
    split at h2
    · rename_i e
      rcases h1 with h1 | h1
      · exact .inl ⟨_, xs, _, _, rfl, rfl, h1, e, h2⟩
      · exact .inr (.inl ⟨_, xs, _, _, rfl, rfl, h1, e, h2⟩)
    · exact h2.elim
  · obtain ⟨h1, h2⟩ := h
    split at h2
    · rename_i e
      exact .inr (.inr ⟨_, _, _, rfl, rfl, h1, e, h2⟩)
    · exact h2.elim
  · exact h.elim
def setI (xs : List V) (k : Int) (v : V) : Option (List V) := (ixN xs.length k).map fun j => xs.set j v
def stL : V → V → V → Hp → (Hp → Prop) → Prop := fun o i v H Q => match o, i with
  | .ref p, .int k => match H p with
    | some (.lst xs) => match setI xs k v with
      | some ys => Q (upd H p (.lst ys))
      | none => False
    | _ => False
  | _, _ => False
theorem set_U : PSet X stL := fun pins s σ H o i v ov iv u Q I ro ri rv h => by
  refine set_list pins s σ H o i v ov iv u Q I ro ri rv ?_
  unfold stL at h
  split at h
  · split at h
    · rename_i e
      split at h
      · rename_i e2
        unfold setI at e2
        obtain ⟨j, e3, e4⟩ := Option.map_eq_some_iff.mp e2
        subst e4
        exact ⟨_, _, _, _, rfl, rfl, e, e3, h⟩
      · exact h.elim
    · exact h.elim
  · exact h.elim
end
theorem atI_0 {x : V} {xs : List V} : atI (x :: xs) 0 = some x := by
  simp [atI, ixN]
theorem atI_1 {x y : V} {xs : List V} : atI (x :: y :: xs) 1 = some y := by
  have h : (1 : Int) < ((x :: y :: xs).length : Int) := by simp; omega
  simp only [atI, ixN]
  rw [if_pos (by decide), if_pos h]
  rfl
theorem atI_2 {x y z : V} {xs : List V} : atI (x :: y :: z :: xs) 2 = some z := by
  have h : (2 : Int) < ((x :: y :: z :: xs).length : Int) := by simp; omega
  simp only [atI, ixN]
  rw [if_pos (by decide), if_pos h]
  rfl
theorem setI_1 {x y v : V} {xs : List V} : setI (x :: y :: xs) 1 v = some (x :: v :: xs) := by
  have h : (1 : Int) < ((x :: y :: xs).length : Int) := by simp; omega
  simp only [setI, ixN]
  rw [if_pos (by decide), if_pos h]
  rfl
theorem setI_2 {x y z v : V} {xs : List V} : setI (x :: y :: z :: xs) 2 v = some (x :: y :: v :: xs) := by
  have h : (2 : Int) < ((x :: y :: z :: xs).length : Int) := by simp; omega
  simp only [setI, ixN]
  rw [if_pos (by decide), if_pos h]
  rfl
theorem atI_nat' {xs : List V} {i : Int} {v : V} (h0 : 0 ≤ i) (h : xs[i.toNat]? = some v) : atI xs i = some v := by
  have hl : i.toNat < xs.length := (List.getElem?_eq_some_iff.mp h).1
  simp only [atI, ixN]
  rw [if_pos h0, if_pos (by omega)]
  exact h
theorem ite_dec {c A B : Prop} [Decidable c] (h1 : c → A) (h2 : ¬ c → B) : if decide c = true then A else B := by
  by_cases h : c
  · rw [if_pos (decide_eq_true h)]; exact h1 h
  · rw [if_neg (by simp [h])]; exact h2 h
theorem ite_ndec {c A B : Prop} [Decidable c] (h1 : ¬ c → A) (h2 : c → B) : if (!decide c) = true then A else B := by
  by_cases h : c
  · rw [if_neg (by simp [h])]; exact h2 h
  · rw [if_pos (by simp [h])]; exact h1 h
theorem ite_b {b : Bool} {A B : Prop} (h1 : b = true → A) (h2 : b = false → B) : if b = true then A else B := by
  cases b with
  | true => rw [if_pos rfl]; exact h1 rfl
  | false => rw [if_neg (by decide)]; exact h2 rfl
end HG

namespace HG
open PySem L2
section
variable {σ : L2.St} {H : Hp} {D : Ends} {te tv : TE} {t u : TS} {c : TT} {g : TG} {Q : VK}
theorem evE (P : VK → Prop) (h : ∀ Q, P Q → te σ H Q) (hq : P Q) : te σ H Q := h Q hq
theorem evA {ta : TA} {Q : List V → Hp → Prop} (P : (List V → Hp → Prop) → Prop) (h : ∀ Q, P Q → ta σ H Q) (hq : P Q) : ta σ H Q := h Q hq
theorem evT {Q : Bool → Hp → Prop} (P : (Bool → Hp → Prop) → Prop) (h : ∀ Q, P Q → c σ H Q) (hq : P Q) : c σ H Q := h Q hq
theorem evG {v : V} {Q : L2.St → Hp → Prop} (P : (L2.St → Hp → Prop) → Prop) (h : ∀ Q, P Q → g v σ H Q) (hq : P Q) : g v σ H Q := h Q hq
theorem st_next (h : D.nx σ H) : tNext D σ H := h
theorem st_seq (h : t { D with nx := u D } σ H) : tSeq t u D σ H := h
theorem st_asg (h : te σ H fun x H1 => g x σ H1 D.nx) : tAsg te g D σ H := h
theorem st_if (h : c σ H fun b H1 => if b = true then t D σ H1 else u D σ H1) : tIfS c t u D σ H := h
theorem st_ret (h : te σ H D.rt) : tRet te D σ H := h
theorem st_drop (h : te σ H fun _ H1 => D.nx σ H1) : tDrop te D σ H := h
theorem st_par {i j : Nat} {ta : TA} (h : tPar i j ta D σ H) : tPar i j ta D σ H := h
end
end HG
namespace HG
open PySem L2
/-! ### lists of ints as data -/
theorem dpAll_ints {K : PySem.W.Frag} {H : Hp} : ∀ ns : List Int, DpAll K H (ns.map V.int) (ns.map PyData.int)
  | [] => .nil
  | n :: r => .cons (.int n) (dpAll_ints r)
theorem canLay_ints : ∀ ns : List Int, PyData.canLayAll0 (ns.map PyData.int) = true
  | [] => rfl
  | n :: r => by
    show (PyData.canLay0 (PyData.int n) && PyData.canLayAll0 (r.map PyData.int)) = true
    rw [canLay_ints r]; rfl
theorem depth_ints : ∀ ns : List Int, PyData.depthAll (ns.map PyData.int) = 0
  | [] => rfl
  | n :: r => by
    show max (PyData.depth (PyData.int n)) (PyData.depthAll (r.map PyData.int)) = 0
    rw [depth_ints r]; rfl
theorem shaped_ints (ns : List Int) : SeqAt.shaped (.list (ns.map PyData.int)) = true := by
  show (PyData.canLayAll0 (ns.map PyData.int) && decide (PyData.depthAll (ns.map PyData.int) + 1 ≤ 64)) = true
  rw [canLay_ints, depth_ints]; rfl
theorem eqv_nil (ns : List Int) : PyData.eqv (.list (ns.map PyData.int)) (.list []) = ns.isEmpty := by
  cases ns with
  | nil => rfl
  | cons a r => rfl
theorem dataL_ints {f : V → Option PyData} (hf : ∀ i, f (.int i) = some (.int i)) : ∀ ns : List Int, dataL f (ns.map V.int) = some (ns.map PyData.int)
  | [] => rfl
  | n :: r => by
    show (match f (.int n) with | some d => (match dataL f (r.map V.int) with | some ds => some (d :: ds) | none => none) | none => none) = _
    rw [hf, dataL_ints hf r]
    rfl
theorem dataF_int {n : Nat} {H : Hp} {i : Int} : dataF n H (.int i) = some (.int i) := by cases n <;> rfl
theorem dataF_ints {n : Nat} {H : Hp} {l : Addr} {ns : List Int} (h : H l = some (.lst (ns.map V.int))) : dataF (n + 1) H (.ref l) = some (.list (ns.map PyData.int)) := by
  simp only [dataF, h]
  rw [dataL_ints (fun i => dataF_int)]
  rfl
/-- a list of ints is unequal to the empty one -/
theorem ne_nil {K : PySem.W.Frag} {H : Hp} {l q : Addr} {ns : List Int} {Q : VK} (hl : H l = some (.lst (ns.map V.int))) (hq : H q = some (.lst [])) (h : Q (.bl (!ns.isEmpty)) H) : oNe K (.ref l) (.ref q) H Q := by
  have e1 : dataF 8 H (.ref l) = some (.list (ns.map PyData.int)) := dataF_ints hl
  have e2 : dataF 8 H (.ref q) = some (.list []) := dataF_ints (ns := []) hq
  simp only [oNe, e1, e2]
  exact ⟨shaped_ints ns, shaped_ints [], by rw [eqv_nil]; exact h⟩
def Keep (p : Addr) (H H' : Hp) : Prop := ∀ b o, b ≠ p → H b = some o → H' b = some o
theorem mod_range {x m : Int} (h : 0 < m) : 0 ≤ x % m ∧ x % m < m := ⟨Int.emod_nonneg _ (by omega), Int.emod_lt_of_pos _ h⟩
theorem log2_small {n : Int} (h : n.natAbs < 2 ^ 8999) : n.natAbs.log2 < 9000 := by
  by_cases h0 : n.natAbs = 0
  · rw [h0]; decide
  · exact Nat.lt_succ_of_lt ((Nat.log2_lt h0).mpr h)
end HG
namespace HG
open PySem L2
/-! ### the draw's arithmetic -/
theorem mulok_left {i j : Int} (h1 : -(2 ^ 64) < i) (h2 : i < 2 ^ 64) : IntMulOk i j := .of_left (intBits_le_64 h1 h2)
theorem draw_pow1 {x t a c : Int} (hx0 : 0 ≤ x) (hx : x < 2147483648) (ht0 : 0 ≤ t) (ht : t ≤ 1000000) (ha0 : 0 ≤ a) (ha : a ≤ 1000000) (hc0 : 0 ≤ c) (hc : c ≤ 1000000) : (x + a * t + c).natAbs < 2 ^ 64 := by
  have h : a * t ≤ 1000000 * 1000000 := Int.mul_le_mul ha ht ht0 (by decide)
  have h0 : 0 ≤ a * t := Int.mul_nonneg ha0 ht0
  omega
theorem draw_pow2 {x t a b c : Int} (hx0 : 0 ≤ x) (hx : x < 2147483648) (ht0 : 0 ≤ t) (ht : t ≤ 1000000) (ha0 : 0 ≤ a) (ha : a ≤ 1000000) (hb0 : 0 ≤ b) (hb : b ≤ 1000000) (hc0 : 0 ≤ c) (hc : c ≤ 1000000) :
    (x * (2 * t + a) + b * t * t + c).natAbs < 2 ^ 64 := by
  have h1 : x * (2 * t + a) ≤ 2147483648 * 3000000 := Int.mul_le_mul (by omega) (by omega) (by omega) (by decide)
  have h10 : 0 ≤ x * (2 * t + a) := Int.mul_nonneg hx0 (by omega)
  have h2 : b * t ≤ 1000000 * 1000000 := Int.mul_le_mul hb ht ht0 (by decide)
  have h20 : 0 ≤ b * t := Int.mul_nonneg hb0 ht0
  have h3 : b * t * t ≤ (1000000 * 1000000) * 1000000 := Int.mul_le_mul h2 ht ht0 (by decide)
  have h30 : 0 ≤ b * t * t := Int.mul_nonneg h20 ht0
  omega
theorem draw_bt {t b : Int} (ht0 : 0 ≤ t) (ht : t ≤ 1000000) (hb0 : 0 ≤ b) (hb : b ≤ 1000000) : IntMulOk (b * t) t := by
  have h2 : b * t ≤ 1000000 * 1000000 := Int.mul_le_mul hb ht ht0 (by decide)
  have h20 : 0 ≤ b * t := Int.mul_nonneg hb0 ht0
  exact mulok_left (by omega) (by omega)
end HG
namespace HG
open PySem L2
section
variable {K : PySem.W.Frag} {H : Hp} {Q : VK} {i j : Int} {a b : Str} {c d : Bool}
theorem oEq_int : oEq K (.int i) (.int j) H Q = Q (.bl (decide (i = j))) H := rfl
theorem oEq_str : oEq K (.str a) (.str b) H Q = Q (.bl (decide (a = b))) H := rfl
theorem oEq_bl : oEq K (.bl c) (.bl d) H Q = Q (.bl (decide (c = d))) H := rfl
theorem oNe_int : oNe K (.int i) (.int j) H Q = Q (.bl (!decide (i = j))) H := rfl
theorem oNe_str : oNe K (.str a) (.str b) H Q = Q (.bl (!decide (a = b))) H := rfl
theorem oNe_bl : oNe K (.bl c) (.bl d) H Q = Q (.bl (!decide (c = d))) H := rfl
end
end HG
namespace HG
open PySem L2
/-! ### the readings at values whose kinds are seen -/
section
variable {K : PySem.W.Frag} {H : Hp} {Q : VK} {i j : Int} {a b : Str} {c d : Bool} {p s : Addr} {v : V} {QH : Hp → Prop}
theorem oAdd_int : oAdd (.int i) (.int j) H Q = Q (.int (i + j)) H := rfl
theorem oAdd_str : oAdd (.str a) (.str b) H Q = (a.length + b.length ≤ sizeLine ∧ Q (.str (a ++ b)) H) := rfl
theorem oAdd_lst {xs zs : List V} (h1 : H p = some (.lst xs)) (h2 : H s = some (.lst zs)) : oAdd (.ref p) (.ref s) H Q = (xs.length + zs.length ≤ sizeLine ∧ ∀ p, H p = none → Q (.ref p) (upd H p (.lst (xs ++ zs)))) := by simp only [oAdd, h1, h2]
theorem oSub_int : oSub (.int i) (.int j) H Q = Q (.int (i - j)) H := rfl
theorem oMul_int : oMul (.int i) (.int j) H Q = (IntMulOk i j ∧ Q (.int (i * j)) H) := rfl
theorem oFdiv_int : oFdiv (.int i) (.int j) H Q = (CDivW i j ∧ Q (.int (i / j)) H) := rfl
theorem oMod_int : oMod (.int i) (.int j) H Q = (0 < j ∧ Q (.int (i % j)) H) := rfl
theorem oPow_int : oPow (.int i) (.int j) H Q = (CPow i j ∧ Q (.int (i ^ j.toNat)) H) := rfl
theorem uNeg_int : uNeg (.int i) H Q = Q (.int (-i)) H := rfl
theorem oLt_int : oLt (.int i) (.int j) H Q = Q (.bl (decide (i < j))) H := rfl
theorem oLe_int : oLe (.int i) (.int j) H Q = Q (.bl (decide (i ≤ j))) H := rfl
theorem oGt_int : oGt (.int i) (.int j) H Q = Q (.bl (decide (j < i))) H := rfl
theorem oGe_int : oGe (.int i) (.int j) H Q = Q (.bl (decide (j ≤ i))) H := rfl
theorem cLen_ref : cLen K [.ref p] H Q = rdSeq K H p fun ys => Q (.int ys.length) H := rfl
theorem cLen_str : cLen K [.str a] H Q = (a.length ≤ sizeLine ∧ Q (.int a.length) H) := rfl
theorem cAbs_int : cAbs [.int i] H Q = Q (.int (if i < 0 then -i else i)) H := rfl
theorem cInt_int : cInt [.int i] H Q = Q (.int i) H := rfl
theorem cInt_bl : cInt [.bl c] H Q = Q (.int (if c then 1 else 0)) H := rfl
theorem cInt_str : cInt [.str a] H Q = ∃ n, PySem.intText? a = some n ∧ a.length ≤ 640 ∧ Q (.int n) H := rfl
theorem cList_ref : cList K [.ref p] H Q = rdSeq K H p fun ys => ∀ l, H l = none → Q (.ref l) (upd H l (.lst ys)) := rfl
theorem iIx_ref : iIx K (.ref p) (.int i) H Q = rdSeq K H p fun xs => match atI xs i with
    | some v => Q v H
    | none => False := rfl
theorem iIx_str : iIx K (.str a) (.int i) H Q = (a.length ≤ sizeLine ∧ match atI a.cps.toList i with
    | some c => Q (.str ⟨#[c]⟩) H
    | none => False) := rfl
theorem stL_ref : stL (.ref p) (.int i) v H QH = (match H p with
    | some (.lst xs) => match setI xs i v with
      | some ys => QH (upd H p (.lst ys))
      | none => False
    | _ => False) := rfl
end
end HG
namespace HG
theorem if_yes {A B : Prop} (h : A) : if true = true then A else B := by rw [if_pos rfl]; exact h
theorem if_no {A B : Prop} (h : B) : if false = true then A else B := by rw [if_neg (by decide)]; exact h
end HG

namespace HG
open PySem L2
/-! ### kinds of values -/
/-- the type of a value, by the abstract heap -/
def tyF (H : Hp) : V → Option Value
  | .non => some (.type "NoneType")
  | .bl _ => some (.type "bool")
  | .int _ => some (.type "int")
  | .str _ => some (.type "str")
  | .ref a => match H a with
    | some (.lst _) => some (.type "list")
    | some (.tup _) => some (.type "tuple")
    | some (.dK _) => some (.type "dict")
    | some (.dT _) => some (.type "dict")
    | some (.ins C _ _) => some (.ref C)
    | _ => none
  | _ => none
/-- what isinstance asks of a class of the text -/
structure InsTy (K : PySem.W.Frag) (C : Addr) : Prop where
  cl : Cls K C
  ha : PySem.W.findIn K (.ref C) "__class__" = some (some (.builtin "object.__class__"))
  hn : PySem.W.specialIn K (.builtin "object.__class__") "__get__" = some (some (.builtin "getset_descriptor.__get__"))
  htk : PySem.W.takesIn K (.builtin "object.__class__") = some true
  hm : PySem.W.mroIn K C (.type "object") = some true
def tyOk (K : PySem.W.Frag) : Value → Prop
  | .ref C => InsTy K C
  | _ => True
theorem tyX_of {K : PySem.W.Frag} {H : Hp} {x : V} {t : Value} (h : tyF H x = some t) (ok : tyOk K t) : TyX K H x t := by
  cases x with
  | non => cases h; exact .base .non
  | bl b => cases h; exact .base (.bl b)
  | int i => cases h; exact .base (.int i)
  | str z => cases h; exact .base (.str z)
  | byt z => cases h
  | flt z => cases h
  | ty z => cases h
  | ref a =>
    simp only [tyF] at h
    split at h
    · rename_i e; cases h; exact .base (.lst e)
    · rename_i e; cases h; exact .base (.tup e)
    · rename_i e; cases h; exact .base (.dK e)
    · rename_i e; cases h; exact .base (.dT e)
    · rename_i e; cases h; exact .base (.ins e ok.cl ok.ha ok.hn ok.htk ok.hm)
    · cases h
/-- isinstance(x, c) -/
def cIsi (K : PySem.W.Frag) : List V → Hp → VK → Prop := fun xs H Q => match xs with
  | [x, .ty n] => match tyF H x with
    | some t => tyOk K t ∧ match PySem.W.kitOne K t (.type n) with
      | some b => Q (.bl b) H
      | none => False
    | none => False
  | [x, .ref C] => match tyF H x with
    | some t => tyOk K t ∧ match PySem.W.kitOne K t (.ref C) with
      | some b => Q (.bl b) H
      | none => False
    | none => False
  | _ => False
theorem call_isiU {X : Cx} : CallR X (.builtin "isinstance") (cIsi X.K) := callImp call_isi fun xs H Q h => by
  unfold cIsi at h
  split at h
  · split at h
    · rename_i e
      obtain ⟨h1, h2⟩ := h
      split at h2
      · rename_i e2
        exact ⟨_, _, _, _, _, rfl, .ty _, tyX_of e h1, e2, h2⟩
      · exact h2.elim
    · exact h.elim
  · split at h
    · rename_i e
      obtain ⟨h1, h2⟩ := h
      split at h2
      · rename_i e2
        exact ⟨_, _, _, _, _, rfl, .own _, tyX_of e h1, e2, h2⟩
      · exact h2.elim
    · exact h.elim
  · exact h.elim
theorem kit_tt {K : PySem.W.Frag} : PySem.W.kitOne K (.type "int") (.type "int") = some true := kit_ty (by decide +kernel)
theorem kit_ib {K : PySem.W.Frag} : PySem.W.kitOne K (.type "int") (.type "bool") = some false := kit_ty (by decide +kernel)
theorem kit_bi {K : PySem.W.Frag} : PySem.W.kitOne K (.type "bool") (.type "int") = some true := kit_ty (by decide +kernel)
theorem kit_bb {K : PySem.W.Frag} : PySem.W.kitOne K (.type "bool") (.type "bool") = some true := kit_ty (by decide +kernel)
theorem kit_ni {K : PySem.W.Frag} : PySem.W.kitOne K (.type "NoneType") (.type "int") = some false := kit_ty (by decide +kernel)
theorem kit_si {K : PySem.W.Frag} : PySem.W.kitOne K (.type "str") (.type "int") = some false := kit_ty (by decide +kernel)
theorem kit_li {K : PySem.W.Frag} : PySem.W.kitOne K (.type "list") (.type "int") = some false := kit_ty (by decide +kernel)
theorem kit_ui {K : PySem.W.Frag} : PySem.W.kitOne K (.type "tuple") (.type "int") = some false := kit_ty (by decide +kernel)
theorem kit_di {K : PySem.W.Frag} : PySem.W.kitOne K (.type "dict") (.type "int") = some false := kit_ty (by decide +kernel)
/-! ### operators of a class of the text -/
theorem cmpBack {X : Cx} {pins : List (Addr × Obj)} {σ : L2.St} {Q : VK} {u : Value} {s : Shared} (h : EP X pins σ Q u s) : PySem.W.CmpBack (EP X pins σ Q) u s := by
  obtain ⟨v, H', I, r, q⟩ := h
  cases u with
  | notImplemented =>
    cases v with
    | non => cases r
    | bl b => cases r
    | int i => obtain ⟨t, e⟩ := r; cases e
    | str i => obtain ⟨t, e⟩ := r; cases e
    | byt i => obtain ⟨t, e⟩ := r; cases e
    | flt i => obtain ⟨t, e⟩ := r; cases e
    | ref a => cases r
    | ty n => cases r
  | _ => exact ⟨v, H', I, r, q⟩
def isIns (C : Addr) (H : Hp) : V → Prop
  | .ref a => match H a with
    | some (.ins D _ _) => D = C
    | _ => False
  | _ => False
theorem isIns_out {C : Addr} {H : Hp} {x : V} (h : isIns C H x) : ∃ a dx fs, x = .ref a ∧ H a = some (.ins C dx fs) := by
  cases x with
  | ref a =>
    unfold isIns at h
    simp only at h
    split at h
    · rename_i e; subst h; exact ⟨a, _, _, rfl, e⟩
    · exact h.elim
  | _ => exact h.elim
/-- a def f of the text, called on values at X.A -/
structure Own (X : Cx) (k : Nat) (f : Addr) (sp : Sp) : Prop where
  run : ∀ {pins : List (Addr × Obj)} {σ : L2.St} {H : Hp} {s : Shared} {Q : VK} {us : List Value} {vs : List V}, Inv X pins σ H s → Vals vs us → sp vs H Q E0 → wpAny (model X.prog X.w) X.A (call (.ref f) us) (EP X pins σ Q) X.xe s
theorem own_of {X : Cx} {CX : CXT} {k : Nat} {f : Addr} {fd : FuncData} {ps : List Str} {sp : Sp} (F : FnOk X.prog X.w X.K X.mg X.base CX k f fd ps sp) (hr : Room k X.A) (hb : Binds X.K fd ps []) (hx : Passes CX X E0) : Own X k f sp :=
  ⟨fun {pins σ H s Q us vs} I r h => run_fn (dvs := []) (ds := []) (E := E0) F hr hb .nil hx I r (by rw [List.append_nil]; exact h)⟩
/-- x op y, x of the class at C, y of the same or an int -/
structure BinF (K : PySem.W.Frag) (C f : Addr) (op : Operator) : Prop where
  sf : PySem.W.selfFirst K C = true
  fn : PySem.W.findIn K (.ref C) (PySem.dunder op.info.2) = some (some (.ref f))
  isf : PySem.W.isFn K (.ref f) = true
  rc : ∃ rc, PySem.W.findIn K (.ref C) (dunderR op.info.2) = some rc ∧ (rc = none ∨ ∃ g : Addr, rc = some (.ref g))
  i1 : ∃ fo, PySem.W.findIn K (.type "int") (PySem.dunder op.info.2) = some fo
  i2 : ∃ ro, PySem.W.findIn K (.type "int") (dunderR op.info.2) = some ro
  sub : PySem.W.subIn K (.type "int") (.ref C) = some false
def rBinL (C : Addr) (sp : Sp) : R2 := fun x y H Q => isIns C H x ∧ (isIns C H y ∨ ∃ i, y = .int i) ∧ sp [x, y] H Q E0
theorem op_binL {X : Cx} {k : Nat} {C f : Addr} {op : Operator} {sp : Sp} (B : BinF X.K C f op) (O : Own X k f sp) : OpR X (binaryOp op) (rBinL C sp) := by
  intro pins s σ H x y v u Q I rx ry h
  obtain ⟨h1, h2, h3⟩ := h
  obtain ⟨a, dx, fs, rfl, ea⟩ := isIns_out h1
  cases rx
  obtain ⟨mA, J, _⟩ := ins_get I.hok ea
  obtain ⟨od, J, _⟩ := J.look
  obtain ⟨m, hF⟩ := I.fr
  rcases h2 with h2 | ⟨i, rfl⟩
  · obtain ⟨b, dy, gs, rfl, eb⟩ := isIns_out h2
    cases ry
    obtain ⟨mB, J', _⟩ := ins_get I.hok eb
    obtain ⟨od', J', _⟩ := J'.look
    exact PySem.W.binop_K hF I.ok.mod.kin J J'.type B.sf B.fn B.isf (thn (O.run (vs := [.ref a, .ref b]) I (.cons rfl (.cons rfl .nil)) h3) fun _ _ z => cmpBack z)
  · obtain ⟨t, rfl⟩ := ry
    obtain ⟨rc, hr, hp⟩ := B.rc
    obtain ⟨fo, h4⟩ := B.i1
    obtain ⟨ro, h5⟩ := B.i2
    exact PySem.W.ksp_binT hF I.ok.mod.kin J rfl B.sf B.fn B.isf hr hp h4 h5 B.sub (thn (O.run (vs := [.ref a, .int i]) I (.cons rfl (.cons ⟨_, rfl⟩ .nil)) h3) fun _ _ z => cmpBack z)
/-- x cmp y, x of the class at C -/
structure CmpF (K : PySem.W.Frag) (C f : Addr) (op : CmpOp) : Prop where
  fn : PySem.W.findIn K (.ref C) (cmpInfo op).2.1 = some (some (.ref f))
  isf : PySem.W.isFn K (.ref f) = true
def rCmp (K : PySem.W.Frag) (C : Addr) (sp : Sp) : R2 := fun x y H Q => isIns C H x ∧ (∃ t, tyF H y = some t ∧ tyOk K t ∧ PySem.W.notFirst K C t = true) ∧ sp [x, y] H Q E0
theorem op_cmp {X : Cx} {k : Nat} {C f : Addr} {op : CmpOp} {sp : Sp} (B : CmpF X.K C f op) (O : Own X k f sp) (hu : X.A.units < cLine) (hop : ∀ a b, compareOp op a b = richCompare op a b := by intros; rfl) : OpR X (compareOp op) (rCmp X.K C sp) := by
  intro pins s σ H x y v u Q I rx ry h
  obtain ⟨h1, ⟨t, h2, h4, h5⟩, h3⟩ := h
  obtain ⟨a, dx, fs, rfl, ea⟩ := isIns_out h1
  cases rx
  obtain ⟨mA, J, _⟩ := ins_get I.hok ea
  obtain ⟨od, J, _⟩ := J.look
  obtain ⟨m, hF⟩ := I.fr
  rw [hop]
  obtain ⟨P, Z, p, _⟩ := kit_of I ry (tyX_of h2 h4)
  exact PySem.W.cmp_K hu hF I.ok.mod.kin J (Z.ty _ _ I.kIn p) h5 B.fn B.isf (thn (O.run (vs := [.ref a, y]) I (.cons rfl (.cons ry .nil)) h3) fun _ _ z => cmpBack z)
end HG

namespace HG
open PySem L2
open PySem.W in
/-- n op y where an int declines: y's own reflected method -/
theorem refl_K {prog : Program} {w : World} {A : Around} {E : Value → Shared → Prop} {s : Shared} {K : Frag} {y C f g : Addr} {oy : Obj} {od : Option Obj} {op : Operator} {i : Int} {t : Tok} {Q : Value → Shared → Prop}
    (X : K.In s.heap) (I : InstAt s.heap y oy C od) (hc : selfFirst K C = true)
    (hs : findIn K (.ref C) (PySem.dunder op.info.2) = some (some (.ref f))) (hr : findIn K (.ref C) (dunderR op.info.2) = some (some (.ref g))) (hg : isFn K (.ref g) = true)
    (hsub : subIn K (.ref C) (.type "int") = some false)
    (hleft : Looks (model prog w) s.heap (fillsNumberSlot (.type "int") op.info.2) true)
    (hdec : ∀ Q : Option Value → Shared → Prop, Q none s → wpAny (model prog w) A (tryMethod (.int i t) (PySem.dunder op.info.2) (.ref y)) Q E s)
    (h : wpAny (model prog w) A (call (.ref g) [.ref y, .int i t]) (CmpBack Q) E s) : wpAny (model prog w) A (binaryOp op (.int i t) (.ref y)) Q E s := by
  obtain ⟨cd, rest, hcd, hm⟩ := ksp_first hc
  rcases hi : op.info with ⟨sym, nm'⟩
  rw [hi] at hs hr hleft hdec
  dsimp only at hs hr hleft hdec
  have one := ksp_try X I hr hg h
  have L1 : Looks (model prog w) s.heap (typeOf (.ref y)) (.ref C) := I.type
  have L3 : Looks (model prog w) s.heap (fillsNumberSlot (.ref C) nm') true := fills_K X hcd hm hs
  have L5 : Looks (model prog w) s.heap (isSubtype (.ref C) (.type "int")) false := looks_subIn X hsub
  have hne : (Value.type "int" == Value.ref C) = false := Bool.eq_false_iff.mpr fun q => by cases beq_iff_eq.mp q
  simp only [binaryOp, hi]
  refine wpAny_holding (wpAny_bind ?_)
  unfold binaryOp1
  refine wpAny_bind (wpAny_of_eq (a := Value.type "int") rfl (wpAny_bind (L1.here (wpAny_bind (hleft.here ?_)))))
  simp only [hne, Bool.false_eq_true, if_false]
  refine wpAny_bind (L3.here ?_)
  simp only [Bool.and_self, if_true]
  refine wpAny_bind (L5.here ?_)
  simp only [Bool.false_eq_true, if_false]
  refine wpAny_bind (wpAny_pure ?_)
  simp only [Bool.false_eq_true, if_false, Bool.not_false, Bool.and_self, if_true]
  refine wpAny_bind (hdec _ ?_)
  simp only
  refine wpAny_bind (wpAny_mono one (fun r s' hr' => ?_) fun _ _ e => e)
  obtain ⟨v, rfl, hq⟩ := hr'
  simp only
  exact wpAny_bind (wpAny_rule (wpAny_pure (wpAny_pure hq)))

/-! ### n + y, n - y -/
theorem asInt_ins {M : Model} {A : Around} {E : Value → Shared → Prop} {s : Shared} {y C : Addr} {dx : Addr} {Q : Option Int → Shared → Prop} (h : s.heap.get? y = some (PySem.W.instObj C dx)) (q : Q none s) : wpAny M A (asInt? (.ref y)) Q E s := by
  unfold asInt?
  exact wpAny_bind (wpAny_load h (wpAny_pure q))
theorem dec_add {prog : Program} {w : World} {A : Around} {E : Value → Shared → Prop} {s : Shared} {y C dx : Addr} {i : Int} {t : Tok} (h : s.heap.get? y = some (PySem.W.instObj C dx)) (Q : Option Value → Shared → Prop) (q : Q none s) :
    wpAny (model prog w) A (tryMethod (.int i t) (PySem.dunder "add") (.ref y)) Q E s := by
  refine wpAny_tryMethod_declines (T := "int") (id := "int.__add__") (hT := ?hT1) (h := ?hs1) (hc := ?hc1)
  case hT1 => exact typeIs_int s i t
  case hs1 => exact PySem.F.slot_int_add
  refine wpAny_call_entry (T := "int") (name := PySem.dunder "add") (b := Builtin.«int.__add__») (ha := ?ha) (hb := ?hb) (h := ?hs) (hT := ?hT) (hc := ?hc)
  case hs => exact PySem.F.slot_int_add
  case hb => exact PySem.F.entry_int_add
  case hT => exact typeIs_int s i t
  case ha => exact PySem.F.args_int_add_2 _ _
  case hc =>
    unfold Builtin.«int.__add__» Builtin.Int.intBinary
    refine wpAny_bind (wpAny_of_eq (a := (.int i t, [.ref y])) rfl ?_)
    refine wpAny_bind (wpAny_of_eq (a := i) rfl ?_)
    exact wpAny_bind (asInt_ins h (wpAny_bind (wpAny_rule (wpAny_pure ⟨_, rfl, rfl, q⟩))))
theorem dec_sub {prog : Program} {w : World} {A : Around} {E : Value → Shared → Prop} {s : Shared} {y C dx : Addr} {i : Int} {t : Tok} (h : s.heap.get? y = some (PySem.W.instObj C dx)) (Q : Option Value → Shared → Prop) (q : Q none s) :
    wpAny (model prog w) A (tryMethod (.int i t) (PySem.dunder "sub") (.ref y)) Q E s := by
  refine wpAny_tryMethod_declines (T := "int") (id := "int.__sub__") (hT := ?hT1) (h := ?hs1) (hc := ?hc1)
  case hT1 => exact typeIs_int s i t
  case hs1 => exact PySem.F.slot_int_sub
  refine wpAny_call_entry (T := "int") (name := PySem.dunder "sub") (b := Builtin.«int.__sub__») (ha := ?ha) (hb := ?hb) (h := ?hs) (hT := ?hT) (hc := ?hc)
  case hs => exact PySem.F.slot_int_sub
  case hb => exact PySem.F.entry_int_sub
  case hT => exact typeIs_int s i t
  case ha => exact PySem.F.args_int_sub_2 _ _
  case hc =>
    unfold Builtin.«int.__sub__» Builtin.Int.intBinary
    refine wpAny_bind (wpAny_of_eq (a := (.int i t, [.ref y])) rfl ?_)
    refine wpAny_bind (wpAny_of_eq (a := i) rfl ?_)
    exact wpAny_bind (asInt_ins h (wpAny_bind (wpAny_rule (wpAny_pure ⟨_, rfl, rfl, q⟩))))
structure ReflF (K : PySem.W.Frag) (C f g : Addr) (op : Operator) : Prop where
  sf : PySem.W.selfFirst K C = true
  fn : PySem.W.findIn K (.ref C) (PySem.dunder op.info.2) = some (some (.ref f))
  rn : PySem.W.findIn K (.ref C) (dunderR op.info.2) = some (some (.ref g))
  isf : PySem.W.isFn K (.ref g) = true
  sub : PySem.W.subIn K (.ref C) (.type "int") = some false
  fo : ∃ fo ro, PySem.W.findIn K (.type "int") (PySem.dunder op.info.2) = some fo ∧ PySem.W.findIn K (.type "int") (dunderR op.info.2) = some ro ∧ ((fo.isSome && !isSeqSlot fo) || (ro.isSome && !isSeqSlot ro)) = true
def rBinR (C : Addr) (sp : Sp) : R2 := fun x y H Q => (∃ i, x = .int i) ∧ isIns C H y ∧ sp [y, x] H Q E0
theorem op_binR {X : Cx} {k : Nat} {C f g : Addr} {op : Operator} {sp : Sp} (B : ReflF X.K C f g op) (O : Own X k g sp)
    (dec : ∀ (s : Shared) (y dx : Addr) (i : Int) (t : Tok), s.heap.get? y = some (PySem.W.instObj C dx) → ∀ Q : Option Value → Shared → Prop, Q none s → wpAny (model X.prog X.w) X.A (tryMethod (.int i t) (PySem.dunder op.info.2) (.ref y)) Q X.xe s) :
    OpR X (binaryOp op) (rBinR C sp) := by
  intro pins s σ H x y v u Q I rx ry h
  obtain ⟨⟨i, rfl⟩, h2, h3⟩ := h
  obtain ⟨b, dy, gs, rfl, eb⟩ := isIns_out h2
  obtain ⟨t, rfl⟩ := rx
  cases ry
  obtain ⟨mB, J, _⟩ := ins_get I.hok eb
  have hob := J.obj
  obtain ⟨od, J, _⟩ := J.look
  obtain ⟨fo, ro, f1, f2, f3⟩ := B.fo
  have hl := PySem.W.ksp_fillsT (M := model X.prog X.w) (h := s.heap) I.kIn f1 f2
  rw [f3] at hl
  exact refl_K I.kIn J B.sf B.fn B.rn B.isf B.sub hl (dec s b dy i t hob) (thn (O.run (vs := [.ref b, .int i]) I (.cons rfl (.cons ⟨_, rfl⟩ .nil)) h3) fun _ _ z => cmpBack z)

open PySem.W in
/-- x op y of one class, the first try -/
theorem bin1_K {prog : Program} {w : World} {A : Around} {E : Value → Shared → Prop} {s : Shared} {K : Frag} {x C f : Addr} {ox : Obj} {od : Option Obj} {nm : String} {b : Value} {Q : Option Value → Shared → Prop} (X : K.In s.heap) (I : InstAt s.heap x ox C od)
    (hb : Looks (model prog w) s.heap (typeOf b) (.ref C)) (hc : selfFirst K C = true) (hs : findIn K (.ref C) (PySem.dunder nm) = some (some (.ref f))) (hf : isFn K (.ref f) = true)
    (h : wpAny (model prog w) A (call (.ref f) [.ref x, b]) (CmpBack fun v s' => Q (some v) s') E s) : wpAny (model prog w) A (binaryOp1 nm (.ref x) b) Q E s := by
  obtain ⟨cd, rest, hcd, hm⟩ := ksp_first hc
  unfold binaryOp1
  refine wpAny_bind (I.type.here (wpAny_bind (hb.here (wpAny_bind ((fills_K X hcd hm hs).here ?_)))))
  simp only [beq_self_eq_true, if_true]
  refine wpAny_bind (wpAny_pure ?_)
  simp only [Bool.and_false, Bool.false_eq_true, if_false, Bool.false_and]
  refine wpAny_bind (wpAny_pure ?_)
  simp only [Bool.false_eq_true, if_false]
  refine wpAny_bind (m := tryMethod (.ref x) _ b) ?_
  unfold tryMethod
  refine wpAny_bind (special_fn X I hs (beq_iff_eq.mp hf) (wpAny_mono h (fun v s' hv => ?_) fun _ _ e => e))
  cases v <;> first | exact hv.elim | exact wpAny_pure (wpAny_pure hv)
structure InpF (K : PySem.W.Frag) (C f : Addr) (op : Operator) : Prop where
  sf : PySem.W.selfFirst K C = true
  fn : PySem.W.findIn K (.ref C) (PySem.dunder op.info.2) = some (some (.ref f))
  isf : PySem.W.isFn K (.ref f) = true
  no : ∀ (M : Model) (h : Heap), K.In h → PySem.W.Looks M h (fillsInplaceSlot (.ref C) op.info.2 (op == .Add)) false
def rInp (C : Addr) (sp : Sp) : R2 := fun x y H Q => isIns C H x ∧ isIns C H y ∧ sp [x, y] H Q E0
theorem op_inp {X : Cx} {k : Nat} {C f : Addr} {op : Operator} {sp : Sp} (B : InpF X.K C f op) (O : Own X k f sp) : OpR X (inplaceOp op) (rInp C sp) := by
  intro pins s σ H x y v u Q I rx ry h
  obtain ⟨h1, h2, h3⟩ := h
  obtain ⟨a, dx, fs, rfl, ea⟩ := isIns_out h1
  cases rx
  obtain ⟨mA, J, _⟩ := ins_get I.hok ea
  obtain ⟨od, J, _⟩ := J.look
  obtain ⟨b, dy, gs, rfl, eb⟩ := isIns_out h2
  cases ry
  obtain ⟨mB, J', _⟩ := ins_get I.hok eb
  obtain ⟨od', J', _⟩ := J'.look
  unfold inplaceOp
  refine wpAny_holding (wpAny_bind (J.type.here ?_))
  refine wpAny_bind ((B.no _ _ I.kIn).here ?_)
  simp only [Bool.false_eq_true, if_false]
  refine wpAny_bind (bin1_K I.kIn J J'.type B.sf B.fn B.isf (thn (O.run (vs := [.ref a, .ref b]) I (.cons rfl (.cons rfl .nil)) h3) fun v s' z => ?_))
  obtain ⟨v', H', I', r', q'⟩ := z
  have z := cmpBack (X := X) (pins := pins) (σ := σ) (Q := Q) ⟨v', H', I', r', q'⟩
  cases v <;> first | exact z.elim | exact wpAny_pure ⟨v', H', I', r', q'⟩
theorem pip_of {X : Cx} {op : Operator} {r : R2} (h : OpR X (inplaceOp op) r) : PIp X op r := h
theorem ns_some {K : PySem.W.Frag} {h : Heap} {N : Addr} {mg : Str → Option Value} {n : Str} {v : Value} (X : K.In h) (G : h.Ns N mg) (e : PySem.W.nsIn K N n = some (some v)) : mg n = some v := by
  obtain ⟨o, es, ep, ho, hd, _, hf⟩ := G
  unfold PySem.W.nsIn at e
  split at e
  · rename_i c d es' n' sl q
    have z := X _ _ q
    rw [ho] at z
    cases z
    cases hd
    split at e
    · rename_i en he
      cases e
      rw [← hf]
      unfold nsFind findBy
      rw [← Array.find?_toList, he]
      rfl
    · split at e <;> cases e
  · cases e
/-! ### x != y by the text's == -/
structure NeF (K : PySem.W.Frag) (C f : Addr) : Prop where
  cls : ∃ nm q N bs hdct sn sub ab col dd k0 k1 k2 k3 k5 newId, K.lookup C = some (excClassObj nm q C N bs [.type "object"] hdct sn sub ab col dd k0 k1 k2 k3 k5 newId) ∧ PySem.W.nsOkIn K N = true ∧ PySem.W.nsIn K N "__eq__" = some (some (.ref f)) ∧ PySem.W.nsIn K N "__ne__" = some none
  fn : ∃ of, K.lookup f = some of ∧ of.cls = .type "function"
/-- a def of the text, called one builtin deeper -/
structure Own1 (X : Cx) (k : Nat) (f : Addr) (sp : Sp) : Prop where
  run : ∀ {pins : List (Addr × Obj)} {σ : L2.St} {H : Hp} {s : Shared} {Q : VK} {us : List Value} {vs : List V}, Inv X pins σ H s → Vals vs us → sp vs H Q E0 → wpAny (model X.prog X.w) X.A.in1 (call (.ref f) us) (EP X pins σ Q) X.xe s
theorem own1_of {X : Cx} {CX : CXT} {k : Nat} {f : Addr} {fd : FuncData} {ps : List Str} {sp : Sp} (F : FnOk X.prog X.w X.K X.mg X.base CX k f fd ps sp) (hr : Room (k + 1) X.A) (hb : Binds X.K fd ps []) (hx : Passes CX X E0) : Own1 X k f sp := by
  refine ⟨fun {pins σ H s Q us vs} I r h => ?_⟩
  have hl : us.length = ps.length := by rw [← r.length]; exact F.len _ _ _ _ h
  have hb' := hb s us I.kIn (by rw [List.append_nil]; exact hl)
  rw [List.append_nil] at hb'
  refine wpAny_call (codeAny_mono (F.run X.A.in1 X.stack s H ⟨us, []⟩ us vs Q E0 hr.in1 I.env0.in1 hb' r h) fun r s' hq => ?_)
  cases r with
  | error e => exact hx pins σ H s e s' I hq
  | ok fl =>
    cases fl with
    | ret u => exact I.after hq
    | next => exact False.elim hq
    | brk => exact False.elim hq
    | cont => exact False.elim hq
def rNeO (C : Addr) (sp : Sp) : R2 := fun x y H Q => isIns C H x ∧ isIns C H y ∧ sp [x, y] H (fun v H' => match v with | .bl b => Q (.bl (!b)) H' | _ => False) E0
theorem op_neO {X : Cx} {k : Nat} {C f : Addr} {sp : Sp} (B : NeF X.K C f) (O : Own1 X k f sp) (hu : X.A.units + 1 < cLine) : OpR X (compareOp .NotEq) (rNeO C sp) := by
  intro pins s σ H x y v u Q I rx ry h
  obtain ⟨h1, h2, h3⟩ := h
  obtain ⟨a, dx, fs, rfl, ea⟩ := isIns_out h1
  cases rx
  obtain ⟨b, dy, gs, rfl, eb⟩ := isIns_out h2
  cases ry
  obtain ⟨mA, J, _⟩ := ins_get I.hok ea
  obtain ⟨mB, J', _⟩ := ins_get I.hok eb
  obtain ⟨nm, q, N, bs, hdct, sn, sub, ab, col, dd, k0, k1, k2, k3, k5, newId, hC, hN, hE, hNe⟩ := B.cls
  obtain ⟨of, hf, hfc⟩ := B.fn
  have kin := I.kIn
  have run := O.run (vs := [.ref a, .ref b]) (us := [.ref a, .ref b]) I (.cons rfl (.cons rfl .nil)) h3
  have hns : s.heap.Ns N (s.heap.nsMap N) := .of_isNs (PySem.W.isNs_of_in kin hN)
  have heq : s.heap.nsMap N "__eq__" = some (.ref f) := ns_some kin hns hE
  have hne : s.heap.nsMap N "__ne__" = none := PySem.W.nsMap_none_of_in kin hN hNe
  obtain ⟨hp, g, d, tk, os⟩ := s
  have Y : hp.OwnEqNoNe a C f "object" [.type "object"] :=
    ⟨_, of, nm, q, N, bs, hdct, sn, sub, ab, col, dd, k0, k1, k2, k3, k5, newId, _, _, J.obj, rfl, kin _ _ hC, hns, heq, kin _ _ hf, hfc, F.cmp_object.mro, F.cmp_object.eq.lookup, hne⟩
  refine compareOp_ne_ownEq F.cmp_object Y J'.obj rfl hu (thn run fun v s' z => ?_)
  obtain ⟨v', H', I', r', q'⟩ := z
  cases v' with
  | bl c =>
    cases r'
    exact ⟨c, rfl, .bl (!c), H', I', rfl, q'⟩
  | _ => exact q'.elim
end HG

/-! Defs of the text, called where no repr is under way (GA): what the hand layer says of a def (FnOk), with this one premise more. -/
namespace HG
open PySem L2 PyProof.Rows
abbrev GA (A : Around) : Prop := A.guards = some []
structure FnG (P : Program) (w : World) (K : PySem.W.Frag) (mg : Str → Option Value) (base : Heap) (CX : CXT) (k : Nat) (f : Addr) (fd : FuncData) (ps : List Str) (sp : Sp) : Prop where
  len : ∀ vs H Q E, sp vs H Q E → vs.length = ps.length
  run : ∀ (A : Around) (outer : List Env) (s : Shared) (H : Hp) (args : Args) (us : List Value) (vs : List V) (Q : VK) (E : XK), Room k A → GA A → Env0 P w K mg base A outer s H → BindsTo s fd args (ps.zip us) → Vals vs us → sp vs H Q E →
    codeAny (model P w) A (.call (.ref f) args) (CR CX outer P w H s Q E) s
section
variable {P : Program} {w : World} {K : PySem.W.Frag} {mg : Str → Option Value} {base : Heap} {CX : CXT} {j k : Nat} {f : Addr} {fd : FuncData} {ps : List Str} {sp : Sp}
theorem FnG.up (F : FnG P w K mg base CX j f fd ps sp) (h : j ≤ k) : FnG P w K mg base CX k f fd ps sp := ⟨F.len, fun A outer s H args us vs Q E hr => F.run A outer s H args us vs Q E (hr.mono h)⟩
theorem ga_deeper {A : Around} {env : Env} (h : GA A) : GA (A.deeper env) := h
theorem ga_in1 {A : Around} (h : GA A) : GA A.in1 := h
theorem ga_make {A : Around} (C : Addr) (us : List Value) (kw : List (Str × Value)) (h : GA A) : GA (A.under (.builtin "type.__call__" ⟨.ref C :: us, kw⟩)) := by
  have e : (Code.builtin "type.__call__" ⟨.ref C :: us, kw⟩).isGuard = false := by
    show guardIds.contains "type.__call__" = false
    decide +kernel
  have g : (A.under (.builtin "type.__call__" ⟨.ref C :: us, kw⟩)).guards = pushGuards (Code.builtin "type.__call__" ⟨.ref C :: us, kw⟩).guards A.guards := rfl
  unfold GA
  rw [g]
  unfold Code.guards
  rw [e, show A.guards = some [] from h]
  rfl
/-- a def by its body -/
theorem fnG_of {name qual : Str} {params : Arguments} {body : List Stmt} {scope : Scope} {dV kV doc pm cdv ct oc : Value} {an od : Option Addr} {osl : Array (Option Value)} {N : List Str}
    (lk : K.lookup f = some ⟨oc, od, .func (PySem.W.fnOf name qual params body scope dV kV doc pm an cdv ct), osl⟩) (hcd : PySem.W.codeIn K cdv qual = true) (S : FnScope N ps scope) (len : ∀ vs H Q E, sp vs H Q E → vs.length = ps.length)
    (hbody : ∀ (A : Around) (outer : List Env) (s : Shared) (H : Hp) (vs : List V) (Q : VK) (E : XK), Room k (A.deeper (envOfC qual scope s.heap.objs.size f cdv)) → GA (A.deeper (envOfC qual scope s.heap.objs.size f cdv)) → sp vs H Q E →
      ∃ t, PSs (cxOf CX P w K mg base N qual scope f cdv A outer s H E) body t ∧ t { nx := fun _ H' => Q .non H', rt := Q } (L2.start N vs) H) :
    FnG P w K mg base CX (k + 1) f (PySem.W.fnOf name qual params body scope dV kV doc pm an cdv ct) ps sp := by
  refine ⟨len, fun A outer s H args us vs Q E hr hG e0 hb r hsp => ?_⟩
  have F : FnOk P w K mg base CX (k + 1) f (PySem.W.fnOf name qual params body scope dV kV doc pm an cdv ct) ps sp → codeAny (model P w) A (.call (.ref f) args) (CR CX outer P w H s Q E) s := fun F => F.run A outer s H args us vs Q E hr e0 hb r hsp
  have KX : K.In s.heap := e0.mod.kin.keeps fun b o e => (e0.bs b o e).1
  have lim : s.heap.NoLimit := e0.mod.nolimit.keeps fun b o e => (e0.bs b o e).1
  refine codeAny_call_function hr.depth (KX _ _ lk) rfl S.co S.gen rfl (PySem.W.codeRec_of KX hcd) (hb _ _ _ _ ?_)
  refine wpAny_newFunctionEnv_cells S.kind (fun y hy => ?_) fun env he s1 x => ?_
  · rcases S.par y.1 (List.of_mem_zip hy).1 with q | q
    · exact .inl q
    · exact .inr ⟨q, PySem.W.cellsFrom_some _ _ _ (.inl q)⟩
  · subst he
    refine ⟨lim.keeps x.toInCall.keep, codeAny_func ?_⟩
    obtain ⟨t, ht, hq⟩ := hbody A outer s H vs Q E (hr.deeper _) (ga_deeper hG) hsp
    have I := inv_start (CX := CX) (E := E) S hr.hd e0 (len _ _ _ _ hsp) r x
    refine wpAny_mono (ht.run [] s1 (L2.start N vs) H _ I hq) (fun fl s' hs => ?_) fun e s' hs => hs
    cases fl with
    | ret u =>
      obtain ⟨v, σ', H', J, rv, q⟩ := hs
      exact ⟨v, H', J.os, J.bare, J.base, J.hok, rv, q⟩
    | next =>
      obtain ⟨σ', H', J, q⟩ := hs
      exact ⟨.non, H', J.os, J.bare, J.base, J.hok, rfl, q⟩
    | brk => exact hs.elim fun _ z => z.elim fun _ z => z.2.elim
    | cont => exact hs.elim fun _ z => z.elim fun _ z => z.2.elim
theorem okG {x qual : Str} {st : Stmt} {N : List Str} (F : Fun K x qual st f fd) (S : FnScope N ps (defScope st)) (len : ∀ vs H Q E, sp vs H Q E → vs.length = ps.length)
    (hbody : ∀ (cdv : Value) (A : Around) (outer : List Env) (s : Shared) (H : Hp) (vs : List V) (Q : VK) (E : XK), Room k (A.deeper (envOfC qual (defScope st) s.heap.objs.size f cdv)) → GA (A.deeper (envOfC qual (defScope st) s.heap.objs.size f cdv)) → sp vs H Q E →
      ∃ t, PSs (cxOf CX P w K mg base N qual (defScope st) f cdv A outer s H E) (defBody st) t ∧ t { nx := fun _ H' => Q .non H', rt := Q } (L2.start N vs) H) : FnG P w K mg base CX (k + 1) f fd ps sp := by
  obtain ⟨oc, od, kV, doc, pm, an, cdv, ct, osl, rfl, lk, hcd⟩ := F.ex
  exact fnG_of lk hcd S len fun A outer s H vs Q E hr hG h => hbody cdv A outer s H vs Q E hr hG h
theorem okDG {x qual : Str} {st : Stmt} {dvs : List V} {kws : List (Str × V)} {N : List Str} (F : FunD K x qual (defArgs st) (defBody st) (defScope st) dvs kws f fd) (S : FnScope N ps (defScope st)) (len : ∀ vs H Q E, sp vs H Q E → vs.length = ps.length)
    (hbody : ∀ (cdv : Value) (A : Around) (outer : List Env) (s : Shared) (H : Hp) (vs : List V) (Q : VK) (E : XK), Room k (A.deeper (envOfC qual (defScope st) s.heap.objs.size f cdv)) → GA (A.deeper (envOfC qual (defScope st) s.heap.objs.size f cdv)) → sp vs H Q E →
      ∃ t, PSs (cxOf CX P w K mg base N qual (defScope st) f cdv A outer s H E) (defBody st) t ∧ t { nx := fun _ H' => Q .non H', rt := Q } (L2.start N vs) H) : FnG P w K mg base CX (k + 1) f fd ps sp := by
  obtain ⟨oc, od, dV, kV, doc, pm, an, cdv, ct, osl, rfl, lk, hcd, _, _⟩ := F.ex
  exact fnG_of lk hcd S len fun A outer s H vs Q E hr hG h => hbody cdv A outer s H vs Q E hr hG h
end
section
variable {X : Cx} {CX : CXT} {k : Nat} {f C : Addr} {fd : FuncData} {ps : List Str} {sp : Sp} {dvs : List V} {ds : List Value} {E : XK} {x m : Str} {p pos apos : Pos} {e o : Expr} {es : List Expr} {ta : TE} {t : TA}
/-- what lies behind the run of a callee -/
theorem behind {pins : List (Addr × Obj)} {σ : L2.St} {H : Hp} {s s' : Shared} {Q : VK} {r : Result} (hx : Passes CX X E) (I : Inv X pins σ H s) (h : CR CX X.stack X.prog X.w H s Q E r s') : wants (EP X pins σ Q) X.xe r s' := by
  cases r with
  | error e => exact hx pins σ H s e s' I h
  | ok fl =>
    cases fl with
    | ret u => exact I.after h
    | next => exact h.elim
    | brk => exact h.elim
    | cont => exact h.elim
theorem runG {pins : List (Addr × Obj)} {σ : L2.St} {H : Hp} {s : Shared} {Q : VK} {us : List Value} {vs : List V} (F : FnG X.prog X.w X.K X.mg X.base CX k f fd ps sp) (hr : Room k X.A) (hG : GA X.A) (hb : Binds X.K fd ps ds) (hd : Vals dvs ds) (hx : Passes CX X E)
    (I : Inv X pins σ H s) (r : Vals vs us) (h : sp (vs ++ dvs) H Q E) : wpAny (model X.prog X.w) X.A (call (.ref f) us) (EP X pins σ Q) X.xe s := by
  have r2 := Vals.append r hd
  have hl : (us ++ ds).length = ps.length := r2.length.symm.trans (F.len _ _ _ _ h)
  exact wpAny_call (codeAny_mono (F.run X.A X.stack s H ⟨us, []⟩ (us ++ ds) (vs ++ dvs) Q E hr hG I.env0 (hb s us I.kIn hl) r2 h) fun r s' hq => behind hx I hq)
theorem run1G {pins : List (Addr × Obj)} {σ : L2.St} {H : Hp} {s : Shared} {Q : VK} {us : List Value} {vs : List V} (F : FnG X.prog X.w X.K X.mg X.base CX k f fd ps sp) (hr : Room (k + 1) X.A) (hG : GA X.A) (hb : Binds X.K fd ps ds) (hd : Vals dvs ds) (hx : Passes CX X E)
    (I : Inv X pins σ H s) (r : Vals vs us) (h : sp (vs ++ dvs) H Q E) : wpAny (model X.prog X.w) X.A.in1 (call (.ref f) us) (EP X pins σ Q) X.xe s := by
  have r2 := Vals.append r hd
  have hl : (us ++ ds).length = ps.length := r2.length.symm.trans (F.len _ _ _ _ h)
  exact wpAny_call (codeAny_mono (F.run X.A.in1 X.stack s H ⟨us, []⟩ (us ++ ds) (vs ++ dvs) Q E hr.in1 (ga_in1 hG) I.env0.in1 (hb s us I.kIn hl) r2 h) fun r s' hq => behind hx I hq)
theorem ownG (F : FnG X.prog X.w X.K X.mg X.base CX k f fd ps sp) (hr : Room k X.A) (hG : GA X.A) (hb : Binds X.K fd ps []) (hx : Passes CX X E0) : Own X k f sp :=
  ⟨fun {pins σ H s Q us vs} I r h => runG (dvs := []) (ds := []) F hr hG hb .nil hx I r (by rw [List.append_nil]; exact h)⟩
theorem own1G (F : FnG X.prog X.w X.K X.mg X.base CX k f fd ps sp) (hr : Room (k + 1) X.A) (hG : GA X.A) (hb : Binds X.K fd ps []) (hx : Passes CX X E0) : Own1 X k f sp :=
  ⟨fun {pins σ H s Q us vs} I r h => run1G (dvs := []) (ds := []) F hr hG hb .nil hx I r (by rw [List.append_nil]; exact h)⟩
theorem pe_callG (F : FnG X.prog X.w X.K X.mg X.base CX k f fd ps sp) (hr : Room k X.A) (hG : GA X.A) (hg : Gl X x) (hm : X.mg x = some (.ref f)) (hk : PySem.W.keepIn X.K (.ref f) = true) (hb : Binds X.K fd ps ds) (hd : Vals dvs ds) (hx : Passes CX X E)
    (ha : PA X (e :: es) t) (hdb : (x == ("__debug__" : Str)) = false := by decide) (he : starEach (e :: es) X.env = (false, eval e X.env) :: starEach es X.env := by rfl) (hpl : (backTo pos (starEach es X.env)).any (·.1) = false := by rfl) :
    PE X (.Call (.Name x p) (e :: es) [] pos) (tCall sp dvs E t) :=
  ⟨fun pins s σ H Q I h => wpAny_Call_Name_kw (ld_glob I hg hm (PySem.W.callWith_K (h₀ := X.base) I.ok.mod.kin hk (thn (ha.run pos pins s σ H _ I h) fun us s1 z => by
    obtain ⟨vs, H1, I1, r, q⟩ := z
    exact ⟨I1.kIn, runG F hr hG hb hd hx I1 r q⟩) he hpl) hdb)⟩
theorem pe_callG0 (F : FnG X.prog X.w X.K X.mg X.base CX k f fd ps sp) (hr : Room k X.A) (hG : GA X.A) (hg : Gl X x) (hm : X.mg x = some (.ref f)) (hk : PySem.W.keepIn X.K (.ref f) = true) (hb : Binds X.K fd ps ds) (hd : Vals dvs ds) (hx : Passes CX X E)
    (hdb : (x == ("__debug__" : Str)) = false := by decide) : PE X (.Call (.Name x p) [] [] pos) (tCall sp dvs E tNil) :=
  ⟨fun pins s σ H Q I h => wpAny_Call_Name_kw (ld_glob I hg hm (PySem.W.callWith_K0 I.kIn hk (runG (us := []) F hr hG hb hd hx I .nil h)) hdb)⟩
/-- how the values of a call with keywords stand in the parameters' order -/
structure KwB (K : PySem.W.Frag) (fd : FuncData) (ps : List Str) (n : Nat) (ks : List Str) (gV : List V → List V → List V) : Prop where
  to : ∀ (s : Shared) {vs zs : List V} {us ws : List Value}, K.In s.heap → Vals vs us → Vals zs ws → vs.length = n → zs.length = ks.length → ∃ as, BindsTo s fd ⟨us, ks.zip ws⟩ (ps.zip as) ∧ Vals (gV vs zs) as
/-- a new instance, then __init__ -/
theorem makeG {pins : List (Addr × Obj)} {σ : L2.St} {H : Hp} {s : Shared} {Q : VK} {us ws as : List Value} {ks : List Str} {vs : List V} (M : Mk X.K C f) (F : FnG X.prog X.w X.K X.mg X.base CX k f fd ps sp) (hr : Room (k + 1) X.A) (hG : GA X.A) (hx : Passes CX X E)
    (I : Inv X pins σ H s)
    (hb : ∀ s', X.K.In s'.heap → BindsTo s' fd ⟨Value.ref (s.heap.objs.size + 1) :: us, ks.zip ws⟩ (ps.zip as)) (r : Vals vs as)
    (h : sp vs (upd (upd H s.heap.objs.size (.own (s.heap.objs.size + 1))) (s.heap.objs.size + 1) (.ins C s.heap.objs.size [])) (fun v H2 => v = .non ∧ Q (.ref (s.heap.objs.size + 1)) H2) E) :
    wpAny (model X.prog X.w) X.A (call (.ref C) us (ks.zip ws)) (EP X pins σ Q) X.xe s := by
  have I2 := Inv.made (C := C) I
  refine wpAny_call (make_map (f := f) I.kIn M.makes M.init (beq_iff_eq.mp M.fn) (codeAny_mono (F.run _ X.stack _ _ _ as vs _ E (hr.make C us (ks.zip ws)) (ga_make C us (ks.zip ws) hG) (I2.env0.make C us (ks.zip ws)) (hb _ I2.kIn) r h) fun r s' hq => ?_))
  cases r with
  | error e => exact hx pins σ _ _ e s' I2 hq
  | ok fl =>
    cases fl with
    | ret u =>
      obtain ⟨v, H', I3, rv, ev, q3⟩ := I2.after hq
      subst ev
      exact ⟨rv, .ref (s.heap.objs.size + 1), H', I3, rfl, q3⟩
    | next => exact hq.elim
    | brk => exact hq.elim
    | cont => exact hq.elim
theorem pe_makeG (M : Mk X.K C f) (F : FnG X.prog X.w X.K X.mg X.base CX k f fd ps sp) (hr : Room (k + 1) X.A) (hG : GA X.A) (hg : Gl X x) (hm : X.mg x = some (.ref C)) (hb : Binds X.K fd ps ds) (hd : Vals dvs ds) (hx : Passes CX X E)
    (ha : PA X (e :: es) t) (hdb : (x == ("__debug__" : Str)) = false := by decide) (he : starEach (e :: es) X.env = (false, eval e X.env) :: starEach es X.env := by rfl) (hpl : (backTo pos (starEach es X.env)).any (·.1) = false := by rfl) :
    PE X (.Call (.Name x p) (e :: es) [] pos) (tMake C sp dvs E t) := by
  refine ⟨fun pins s σ H Q I h => wpAny_Call_Name_kw (ld_glob I hg hm (PySem.W.callWith_K (h₀ := X.base) I.ok.mod.kin M.kp (thn (ha.run pos pins s σ H _ I h) fun us s1 z => ?_) he hpl) hdb)⟩
  obtain ⟨vs, H1, I1, r, q⟩ := z
  refine ⟨I1.kIn, ?_⟩
  have hq := q (s1.heap.objs.size + 1) s1.heap.objs.size (I1.hok.fresh (Nat.le_succ _)) (I1.hok.fresh (Nat.le_refl _)) (Nat.ne_of_lt (Nat.lt_succ_self _))
  have r2 : Vals (V.ref (s1.heap.objs.size + 1) :: (vs ++ dvs)) (Value.ref (s1.heap.objs.size + 1) :: (us ++ ds)) := .cons rfl (r.append hd)
  have hl : (Value.ref (s1.heap.objs.size + 1) :: us ++ ds).length = ps.length := r2.length.symm.trans (F.len _ _ _ _ hq)
  exact makeG (ks := []) (ws := []) M F hr hG hx I1 (fun s' kin => hb s' (Value.ref (s1.heap.objs.size + 1) :: us) kin hl) r2 hq
theorem pe_makeG0 (M : Mk X.K C f) (F : FnG X.prog X.w X.K X.mg X.base CX k f fd ps sp) (hr : Room (k + 1) X.A) (hG : GA X.A) (hg : Gl X x) (hm : X.mg x = some (.ref C)) (hb : Binds X.K fd ps ds) (hd : Vals dvs ds) (hx : Passes CX X E)
    (hdb : (x == ("__debug__" : Str)) = false := by decide) : PE X (.Call (.Name x p) [] [] pos) (tMake C sp dvs E tNil) := by
  refine ⟨fun pins s σ H Q I h => wpAny_Call_Name_kw (ld_glob I hg hm (PySem.W.callWith_K0 I.kIn M.kp ?_) hdb)⟩
  have hq := h (s.heap.objs.size + 1) s.heap.objs.size (I.hok.fresh (Nat.le_succ _)) (I.hok.fresh (Nat.le_refl _)) (Nat.ne_of_lt (Nat.lt_succ_self _))
  have r2 : Vals (V.ref (s.heap.objs.size + 1) :: ([] ++ dvs)) (Value.ref (s.heap.objs.size + 1) :: ([] ++ ds)) := .cons rfl hd
  have hl : (Value.ref (s.heap.objs.size + 1) :: [] ++ ds).length = ps.length := r2.length.symm.trans (F.len _ _ _ _ hq)
  exact makeG (us := []) (ks := []) (ws := []) M F hr hG hx I (fun s' kin => hb s' [Value.ref (s.heap.objs.size + 1)] kin hl) r2 hq
/-- o.m(..) -/
theorem pe_methG {pl : Sem Bool} (he : PE X o ta) (c : Cls X.K C) (hm : Meth X.K C m f) (F : FnG X.prog X.w X.K X.mg X.base CX k f fd ps sp) (hr : Room k X.A) (hG : GA X.A) (hb : Binds X.K fd ps ds) (hd : Vals dvs ds) (hx : Passes CX X E) (ha : PA X (e :: es) t)
    (hst : starEach (e :: es) X.env = (false, eval e X.env) :: starEach es X.env := by rfl) (hpl : (backTo pos (starEach es X.env)).any (·.1) = false := by rfl)
    (ht : eval (.Call (.Attribute o m apos) (e :: es) [] pos) X.env = (do
      let ov ← eval o X.env
      standAt apos.atName
      let (f, first) ← holding [ov] (getMethod ov m pl)
      callWith pos f first (backTo pos (starEach (e :: es) X.env)) (backToKw pos (keywordEach [] X.env))) := by rfl) :
    PE X (.Call (.Attribute o m apos) (e :: es) [] pos) (tMeth C m sp dvs E ta t) := by
  refine ⟨fun pins s σ H Q I h => PySem.W.methodCall_KW (pl := pl) (thn (he.run pins s σ H _ I h) fun u s1 z => ?_) ht⟩
  obtain ⟨v, H1, I1, rx, a, dx, fs, rfl, ea, l, q⟩ := z
  cases rx
  refine getmeth_ok I1 ea c hm l (PySem.W.callWith_K (first := [.ref a]) (h₀ := X.base) I.ok.mod.kin hm.kp (thn (ha.run pos pins s1 σ H1 _ I1 q) fun us s2 z => ?_) hst hpl)
  obtain ⟨vs, H2, I2, r, q2⟩ := z
  exact ⟨I2.kIn, runG (us := .ref a :: us) (vs := .ref a :: vs) F hr hG hb hd hx I2 (.cons rfl r) q2⟩
end
/-! ### the law's end -/
/-- the law's def at an abstract heap in which at most the script is tracked -/
theorem lawAt {P : Program} {w : World} {K : PySem.W.Frag} {mg mb : Str → Option Value} {CX : CXT} {k : Nat} {fa a : Addr} {fd : FuncData} {x : Str} {sp : Sp} {s₁ : Shared} {H : Hp}
    (KX : K.In s₁.heap) (hns : s₁.heap.Ns mainGlobals mg) (hb : s₁.heap.Ns builtinsNs mb) (hbb : ∀ x : Str, x ≠ "__name__" → mb x = bootBuiltins x) (hlim : s₁.heap.NoLimit) (hg : s₁.gens = #[]) (hr : Room k callerA)
    (F : ∀ base : Heap, K.In base → base.Ns mainGlobals mg → FnG P w K mg base CX k fa fd [x] sp) (hbind : ∀ (s : Shared) (u : Value), BindsTo s fd ⟨[u], []⟩ [(x, u)])
    (hsp : sp [.ref a] H (fun v _ => v = .bl true) E0) (hCX : ∀ e s', CX [] H s₁ E0 e s' → False)
    (hok : HOk P w H s₁.heap) (free : ∀ b o, s₁.heap.get? b = some o → (∃ es ep, o.data = .dict es ep) ∨ (K.lookup b).isSome = true → H b = none)
    (frz : ∀ b u, H b = some u → ∃ ob xs, u = .frz ob xs) :
    codeAny (model P w) callerA (.call (.ref fa) ⟨[.ref a], []⟩) (fun r s' => r = .ok (.ret (.bool true)) ∧ OldK s₁.heap s'.heap ∧ s'.os = s₁.os ∧ AllBare s'.gens) s₁ := by
  have ns : ∀ {b : Addr} {m : Str → Option Value}, s₁.heap.Ns b m → (hidT s₁.heap H).Ns b m := fun {b m} z => by
    obtain ⟨o, es, ep, e, d, r⟩ := z
    exact ⟨o, es, ep, hidT_get e (free b o e (.inl ⟨es, ep, d⟩)), d, r⟩
  have kb : K.In (hidT s₁.heap H) := fun b o e => hidT_get (KX b o e) (free b o (KX b o e) (.inr (by rw [e]; rfl)))
  have md : Mod K mg (hidT s₁.heap H) := by
    obtain ⟨mc, h1, h2⟩ := hlim
    exact ⟨kb, ns hns, ⟨mb, ns hb, hbb⟩, mc, ns h1, h2⟩
  have e0 : Env0 P w K mg (hidT s₁.heap H) callerA [] s₁ H :=
    { frames := rfl, mod := md, bs := fun b o e => of_hidT e, bsz := Nat.le_of_eq (hidT_size _ _), funs := trivial, frf := fun b z => (List.not_mem_nil z).elim, hok := hok, bare := .of_eq hg }
  refine codeAny_mono ((F _ kb (ns hns)).run callerA [] s₁ H ⟨[.ref a], []⟩ [.ref a] [.ref a] _ _ hr rfl e0 (hbind s₁ (.ref a)) (.cons rfl .nil) hsp) fun r s' h => ?_
  match r, h with
  | .error e, h => exact (hCX e s' h).elim
  | .ok .next, h => exact h.elim
  | .ok .brk, h => exact h.elim
  | .ok .cont, h => exact h.elim
  | .ok (.ret u), h =>
    obtain ⟨v, H', os, bare, un, hok', rv, q⟩ := h
    have q' : v = .bl true := q
    subst q'
    cases rv
    refine ⟨rfl, OldK.of_keep fun b o e => ?_, os, bare⟩
    cases eb : H b with
    | none => exact un.keep b o e eb (fun z => (List.not_mem_nil z).elim) (fun z => (List.not_mem_nil z).elim)
    | some u =>
      obtain ⟨ob, xs, rfl⟩ := frz b u eb
      have e1 := (hok b _ eb).1
      rw [e] at e1
      cases e1
      exact (hok' b _ (un.frzs b _ xs eb)).1
theorem walkG {l : PySem.W.OpenLaw} {n k : Nat} {q : Program} {loose : List Str} {XP : (Str → Option Value) → Heap → Prop} {YP : World → Heap → Prop} {d : DefRec} {K : Params → PySem.W.Frag} {CX : World → CXT} {sp : World → Sp} {x : Str}
    (hn : l.most = some n) (hn2 : n ≤ sizeLine) (hdf : d.params.defaults = []) (hr : Room k callerA)
    (hY : ∀ (w : World) (h : Heap), YP w h → (K w.params).In h)
    (F : ∀ (w : World) (mg : Str → Option Value) (fa : Addr) (h : Heap), (K w.params).In h → h.Ns mainGlobals mg → mg d.name = some (.ref fa) →
      ∃ fd : FuncData, (∀ (s : Shared) (u : Value), BindsTo s fd ⟨[u], []⟩ [(x, u)]) ∧
        ∀ base : Heap, (K w.params).In base → base.Ns mainGlobals mg → FnG l.prog w (K w.params) mg base (CX w) k fa fd [x] (sp w))
    (hsp : ∀ (w : World) (H : Hp) (a : Addr) (ns : List Int), ns.length ≤ n → SqL (K w.params) H a (ns.map V.int) → (H a = none ∨ (∃ o u, H a = some (.frz o u)) ∨ H a = some (.lst (ns.map V.int))) → sp w [.ref a] H (fun v _ => v = .bl true) E0)
    (hCX : ∀ (w : World) (H : Hp) (s : Shared) (e : Value) (s' : Shared), CX w [] H s E0 e s' → False) :
    PySem.W.WalkO q loose XP YP l.row.toRowW d [] (fun f vs => PySem.call f vs) := by
  refine Att.attach_call hn hdf fun w s₀ s₁ mg mb fa o pm cd doc a vs ns G Y ho hd hcd hmg hobj hints hlen hg => ?_
  have KX := hY w _ Y
  obtain ⟨fd, hb, hF⟩ := F w mg fa _ KX G.T.g hmg
  have rv := vals_ints hints
  have lv := hints.length
  have hl : ns.length ≤ sizeLine := Nat.le_trans hlen hn2
  cases hk : (K w.params).lookup a with
  | some ob =>
    have e := KX a ob hk
    rw [hobj] at e
    cases e
    have sq : SqL (K w.params) (fun _ => none) a (ns.map V.int) := .inr ⟨_, vs.toArray, _, hk, rfl, rfl, rfl, by rw [List.size_toArray, lv]; exact hl, by simpa using rv⟩
    exact lawAt (H := fun _ => none) KX G.T.g G.T.b G.T.builtins G.T.nolimit hg hr hF hb (hsp w _ a ns hlen sq (.inl rfl)) (fun e s' => hCX w _ s₁ e s') (fun b u z => by cases z) (fun _ _ _ _ => rfl) (fun b u z => by cases z)
  | none =>
    let Hs : Hp := fun b => if b = a then some (.frz { cls := .type "list", data := .seq vs.toArray } (.lst (ns.map V.int))) else none
    have ha : Hs a = some (.frz { cls := .type "list", data := .seq vs.toArray } (.lst (ns.map V.int))) := if_pos rfl
    have only : ∀ b u, Hs b = some u → b = a ∧ u = .frz { cls := .type "list", data := .seq vs.toArray } (.lst (ns.map V.int)) := fun b u z => by
      by_cases hb : b = a
      · have z' := (if_pos hb).symm.trans z
        exact ⟨hb, (Option.some.inj z').symm⟩
      · have z' := (if_neg hb).symm.trans z
        cases z'
    have sq : SqL (K w.params) Hs a (ns.map V.int) := .inl (.inr ⟨_, ha⟩)
    refine lawAt (H := Hs) KX G.T.g G.T.b G.T.builtins G.T.nolimit hg hr hF hb (hsp w _ a ns hlen sq (.inr (.inl ⟨_, _, ha⟩))) (fun e s' => hCX w _ s₁ e s') (fun b u z => ?_) (fun b o e z => ?_) (fun b u z => ?_)
    · obtain ⟨rfl, rfl⟩ := only b u z
      exact ⟨hobj, by rw [List.length_map]; exact hl, vs, _, rv, hobj⟩
    · by_cases hb : b = a
      · subst hb
        rcases z with ⟨es, ep, z⟩ | z
        · rw [hobj] at e
          cases e
          cases z
        · rw [hk] at z
          cases z
      · exact if_neg hb
    · obtain ⟨_, rfl⟩ := only b u z
      exact ⟨_, _, rfl⟩
end HG

namespace HG
open PySem L2
theorem never0 {CX : CXT} {P : Program} {w : World} {K : PySem.W.Frag} {mg : Str → Option Value} {base : Heap} {N : List Str} {qual : Str} {scope : Scope} {f : Addr} {cdv : Value} {A : Around} {outer : List Env} {s : Shared} {H : Hp} {E : XK} :
    PassesOwn (model (cxOf CX P w K mg base N qual scope f cdv A outer s H E).prog (cxOf CX P w K mg base N qual scope f cdv A outer s H E).w) (cxOf CX P w K mg base N qual scope f cdv A outer s H E).A (cxOf CX P w K mg base N qual scope f cdv A outer s H E).env (cxOf CX P w K mg base N qual scope f cdv A outer s H E).xe :=
  PassesOwn.leaving
end HG

namespace HG
open PySem L2
mutual
theorem dp_noDict {K : PySem.W.Frag} {H : Hp} : ∀ {x : V} {d : PyData}, Dp K H x d → d.hasDict = false
  | _, _, .non => rfl
  | _, _, .bl _ => rfl
  | _, _, .int _ => rfl
  | _, _, .str _ => rfl
  | _, _, .lst _ h => dpAll_noDict h
  | _, _, .tup _ h => dpAll_noDict h
theorem dpAll_noDict {K : PySem.W.Frag} {H : Hp} : ∀ {xs : List V} {ds : List PyData}, DpAll K H xs ds → PyData.hasDictAll ds = false
  | _, _, .nil => rfl
  | _, _, .cons (d := d) (ds := ds) h t => by
    have h1 := dp_noDict h
    have h2 := dpAll_noDict t
    show (d.hasDict || PyData.hasDictAll ds) = false
    rw [h1, h2]
    rfl
end
/-- repr(x): a whole number, or data -/
def cRepr (K : PySem.W.Frag) : List V → Hp → VK → Prop := fun xs H Q => match xs with
  | [.int i] => i.natAbs.log2 < 1920 ∧ Q (.str (toString i)) H
  | [.ref a] => match dataF 8 H (.ref a) with
    | some d => d.showable = true ∧ d.depth ≤ 60 ∧ d.shown.length ≤ sizeLine ∧ Q (.str d.shown) H
    | none => False
  | _ => False
theorem call_reprU {X : Cx} (hG : GA X.A) (hu : X.A.units + 64 < cLine) : CallR X (.builtin "repr") (cRepr X.K) := by
  intro pins s σ H xs us Q I r h
  unfold cRepr at h
  split at h
  · exact SkE.call_repr_int pins s σ H _ us Q I r ⟨_, rfl, h.1, h.2⟩
  · rename_i a
    split at h
    · rename_i d e
      obtain ⟨h1, h2, h3, h4⟩ := h
      have D : Dp X.K H (.ref a) d := dp_of e
      have nd := dp_noDict D
      cases r with
      | cons r1 rn =>
        cases rn
        cases r1
        obtain ⟨as, rd⟩ := Dp.reads I d (.ref a) (.ref a) D rfl
        exact repr_of_reads' rd h1 (fun z => by rw [nd] at z; cases z) hG (by omega) (fun _ _ e => e) (fun h' u tk hk => ⟨.str d.shown, H, I.kept hk, ⟨_, rfl⟩, h4⟩) h3
    · exact h.elim
  · exact h.elim
end HG

namespace HG
open PySem L2
/-- by what stands on the left, on the right -/
def onIns (r1 r2 : R2) : R2 := fun x y H Q => match x with
  | .ref a => match H a with
    | some (.ins _ _ _) => r1 (.ref a) y H Q
    | _ => r2 (.ref a) y H Q
  | x => r2 x y H Q
theorem op_onIns {X : Cx} {f : Value → Value → Sem Value} {r1 r2 : R2} (h1 : OpR X f r1) (h2 : OpR X f r2) : OpR X f (onIns r1 r2) := opImp (h1.or h2) fun x y H Q h => by
  unfold onIns at h
  split at h
  · split at h
    · exact .inl h
    · exact .inr h
  · exact .inr h
def onInsR (r1 r2 : R2) : R2 := fun x y H Q => match y with
  | .ref a => match H a with
    | some (.ins _ _ _) => r1 x (.ref a) H Q
    | _ => r2 x (.ref a) H Q
  | y => r2 x y H Q
theorem op_onInsR {X : Cx} {f : Value → Value → Sem Value} {r1 r2 : R2} (h1 : OpR X f r1) (h2 : OpR X f r2) : OpR X f (onInsR r1 r2) := opImp (h1.or h2) fun x y H Q h => by
  unfold onInsR at h
  split at h
  · split at h
    · exact .inl h
    · exact .inr h
  · exact .inr h
theorem onIns_yes {r1 r2 : R2} {a : Addr} {y : V} {H : Hp} {Q : VK} {C dx : Addr} {fs : List (Str × V)} (h : H a = some (.ins C dx fs)) : onIns r1 r2 (.ref a) y H Q = r1 (.ref a) y H Q := by
  simp only [onIns, h]
theorem onIns_int {r1 r2 : R2} {i : Int} {y : V} {H : Hp} {Q : VK} : onIns r1 r2 (.int i) y H Q = r2 (.int i) y H Q := rfl
theorem onIns_str {r1 r2 : R2} {i : Str} {y : V} {H : Hp} {Q : VK} : onIns r1 r2 (.str i) y H Q = r2 (.str i) y H Q := rfl
theorem onIns_lst {r1 r2 : R2} {a : Addr} {y : V} {H : Hp} {Q : VK} {xs : List V} (h : H a = some (.lst xs)) : onIns r1 r2 (.ref a) y H Q = r2 (.ref a) y H Q := by
  simp only [onIns, h]
theorem onInsR_yes {r1 r2 : R2} {a : Addr} {x : V} {H : Hp} {Q : VK} {C dx : Addr} {fs : List (Str × V)} (h : H a = some (.ins C dx fs)) : onInsR r1 r2 x (.ref a) H Q = r1 x (.ref a) H Q := by
  simp only [onInsR, h]
theorem onInsR_int {r1 r2 : R2} {x : V} {i : Int} {H : Hp} {Q : VK} : onInsR r1 r2 x (.int i) H Q = r2 x (.int i) H Q := rfl
/-- -x -/
structure NegF (K : PySem.W.Frag) (C f : Addr) : Prop where
  fn : PySem.W.findIn K (.ref C) "__neg__" = some (some (.ref f))
  isf : PySem.W.isFn K (.ref f) = true
def uNegO (C : Addr) (sp : Sp) : V → Hp → VK → Prop := fun x H Q => match x with
  | .int i => Q (.int (-i)) H
  | x => isIns C H x ∧ sp [x] H Q E0
theorem un_negO {X : Cx} {k : Nat} {C f : Addr} {sp : Sp} (B : NegF X.K C f) (O : Own X k f sp) : UnR X (unaryOp .USub) (uNegO C sp) := by
  intro pins s σ H x v Q I rx h
  unfold uNegO at h
  split at h
  · exact un_neg pins s σ H _ v Q I rx ⟨_, rfl, h⟩
  · obtain ⟨h1, h3⟩ := h
    obtain ⟨a, dx, fs, rfl, ea⟩ := isIns_out h1
    cases rx
    obtain ⟨mA, J, _⟩ := ins_get I.hok ea
    obtain ⟨od, J, _⟩ := J.look
    obtain ⟨m, hF⟩ := I.fr
    exact PySem.W.ksp_neg hF I.ok.mod.kin J B.fn B.isf (O.run (vs := [.ref a]) I (.cons rfl .nil) h3)
/-! C(k = v, ..) -/
section
variable {X : Cx} {CX : CXT} {k : Nat} {f C : Addr} {fd : FuncData} {ps ks : List Str} {sp : Sp} {E : XK} {x : Str} {p pos : Pos} {kws : List Keyword} {tk : TA} {g : List Value → List Value → List Value} {gV : List V → List V → List V}
theorem pe_makeKG0 {n : Nat} (M : Mk X.K C f) (F : FnG X.prog X.w X.K X.mg X.base CX k f fd ps sp) (hr : Room (k + 1) X.A) (hG : GA X.A) (hg : Gl X x) (hm : X.mg x = some (.ref C)) (hb : KBn X.K fd ps 1 ks g gV) (hx : Passes CX X E) (hkw : PK X kws tk)
    (hall : (backToKw pos (keywordEach kws X.env)).all (·.1.isSome) = true := by rfl) (hks : (backToKw pos (keywordEach kws X.env)).filterMap (·.1) = ks := by rfl) (hdb : (x == ("__debug__" : Str)) = false := by decide)
    (hpl : ((backTo pos (starEach [] X.env)).any (·.1) || (backToKw pos (keywordEach kws X.env)).any (·.1.isNone)) = false := by rfl)
    (hnl : ks.length = n := by rfl) : PE X (.Call (.Name x p) [] kws pos) (tMakeK C 0 n sp gV E tNil tk) := by
  subst hnl
  refine ⟨fun pins s σ H Q I h => wpAny_Call_Name_kw (ld_glob I hg hm (PySem.W.callWith_KW0 (h₀ := X.base) I.ok.mod.kin M.kp hall (thn (hkw.run pos pins s σ H _ I h) fun ws s2 z => ?_) hpl) hdb)⟩
  obtain ⟨zs, H2, I2, rz, l1, l2, q2⟩ := z
  refine ⟨I2.kIn, ?_⟩
  rw [hks]
  have hq := q2 (s2.heap.objs.size + 1) s2.heap.objs.size (I2.hok.fresh (Nat.le_succ _)) (I2.hok.fresh (Nat.le_refl _)) (Nat.ne_of_lt (Nat.lt_succ_self _))
  have r1 : Vals [V.ref (s2.heap.objs.size + 1)] [Value.ref (s2.heap.objs.size + 1)] := .cons rfl .nil
  exact makeG (us := []) M F hr hG hx I2 (fun s' kin => hb.to s' [Value.ref (s2.heap.objs.size + 1)] ws kin rfl (rz.length.symm.trans l2)) (hb.rel r1 rz) hq
/-- e.f, a property -/
theorem pe_propG {p' g' : Addr} {f' : Str} {e : Expr} {ta : TE} (he : PE X e ta) (c : Cls X.K C) (hp : PropOf X.K C f' p' f) (F : FnG X.prog X.w X.K X.mg X.base CX k f fd ps sp) (hr : Room (k + 1) X.A) (hG : GA X.A) (hb : Binds X.K fd ps []) (hx : Passes CX X.nox E0)
    (hab : attributeBase e f' X.env (eval e X.env) = eval e X.env) : PE X (.Attribute e f' pos) (tProp C sp [] E0 ta) := by
  refine ⟨fun pins s σ H Q I h => attr_of hab (thn (he.run pins s σ H _ I h) fun u s1 z => ?_)⟩
  obtain ⟨v, H1, I1, rx, a, dx, fs, rfl, ea, q⟩ := z
  cases rx
  obtain ⟨mA, O, _⟩ := ins_get I1.hok ea
  obtain ⟨od, J, _⟩ := O.look
  obtain ⟨rest, hrec⟩ := hp.rec_
  have hc : (PySem.W.clsIn X.K C).isSome = true := by
    obtain ⟨cd, hc, _⟩ := PySem.W.any_some c.hd
    rw [hc]
    rfl
  have I2 := I1.tok (s1.toks + 1)
  refine PySem.W.get_bind I1.kIn J (PySem.W.plainGet_of (c.get f')).1 (PySem.W.findObj_data hc hp.at_ hp.get hp.tak) (PySem.W.plainGet_of (c.get f')).2 (wpAny_call (PySem.W.prop_get (s := { s1 with toks := s1.toks + 1 }) I1.kIn hrec ?_))
  have hl : [Value.ref a].length = ps.length := F.len _ _ _ _ q
  have hb' := hb { s1 with toks := s1.toks + 1 } [Value.ref a] I2.kIn (by simpa using hl)
  rw [List.append_nil] at hb'
  refine codeAny_mono (F.run X.A.in1 X.stack { s1 with toks := s1.toks + 1 } H1 ⟨[.ref a], []⟩ [.ref a] [.ref a] Q E0 hr.in1 (ga_in1 hG) I2.env0.in1 hb' (.cons rfl .nil) q) fun r s' hq => ?_
  cases r with
  | error er => exact (hx pins σ H1 _ er s' (I2.wish _) hq).elim
  | ok fl =>
    cases fl with
    | ret u =>
      obtain ⟨v, H', I3, rv, q3⟩ := I2.after hq
      show wpAny _ _ (handedOut u) _ _ _
      rw [PySem.W.handedOut_of (handed_of rv)]
      exact wpAny_pure ⟨v, H', I3, rv, q3⟩
    | next => exact hq.elim
    | brk => exact hq.elim
    | cont => exact hq.elim
end
end HG
namespace HG
theorem _root_.L2.Room.units1 {k : Nat} {A : PySem.Around} (r : L2.Room k A) : A.units + 1 < PySem.cLine := by have := r.un; omega
end HG
namespace HG
open PySem L2
/-! ### attributes -/
def fldR (K : PySem.W.Frag) (x : V) (f : Str) (H1 : Hp) (Q : VK) : Prop := ∃ a C dx fs v, x = .ref a ∧ H1 a = some (.ins C dx fs) ∧ Cls K C ∧ NoAttr K C f ∧ fs.lookup f = some v ∧ Q v H1
theorem tFld_eq {K : PySem.W.Frag} {ta : TE} {f : Str} {σ : L2.St} {H : Hp} {Q : VK} : tFld K ta f σ H Q = ta σ H fun x H1 => fldR K x f H1 Q := rfl
theorem fldR_eq {K : PySem.W.Frag} {a C dx : Addr} {f : Str} {fs : List (Str × V)} {v : V} {H : Hp} {Q : VK} (h : H a = some (.ins C dx fs)) (c : Cls K C) (n : NoAttr K C f) (l : fs.lookup f = some v) : fldR K (.ref a) f H Q = Q v H := by
  refine propext ⟨?_, fun q => ⟨a, C, dx, fs, v, rfl, h, c, n, l, q⟩⟩
  rintro ⟨a', C', dx', fs', v', e1, e2, _, _, e3, q⟩
  cases e1
  rw [h] at e2
  cases e2
  rw [l] at e3
  cases e3
  exact q
theorem st_fld {K : PySem.W.Frag} {ta tv : TE} {f : Str} {D : Ends} {σ : L2.St} {H : Hp} (h : tv σ H fun y H1 => ta σ H1 fun x H2 => ∃ a C dx fs, x = .ref a ∧ H2 a = some (.ins C dx fs) ∧ Cls K C ∧ NoAttr K C f ∧ fs.length < 1000 ∧ D.nx σ (upd H2 a (.ins C dx (putF f y fs)))) : sFld K ta tv f D σ H := h
theorem isIns_of {C a dx : Addr} {H : Hp} {fs : List (Str × V)} (h : H a = some (.ins C dx fs)) : isIns C H (.ref a) := by
  simp only [isIns, h]
end HG

/-! Sizes of numbers; fractions in lowest terms. No program in sight. -/
namespace HG
open PySem L2
def Bn (m : Nat) (x : Int) : Prop := x.natAbs < 2 ^ m
section
variable {m n : Nat} {x y : Int}
theorem Bn.bits (h : Bn m x) : Builtin.Int.intBits x ≤ m := intBits_le_iff.mpr h
theorem Bn.of_bits (h : Builtin.Int.intBits x ≤ m) : Bn m x := intBits_le_iff.mp h
theorem Bn.up (h : Bn m x) (q : m ≤ n) : Bn n x := Nat.lt_of_lt_of_le h (Nat.pow_le_pow_right (by decide) q)
theorem Bn.mul (h : Bn m x) (q : Bn n y) : Bn (m + n) (x * y) := .of_bits (intBits_mul_le h.bits q.bits)
theorem Bn.add (h : Bn m x) (q : Bn m y) : Bn (m + 1) (x + y) := by have z := intBits_add_le h.bits q.bits; rw [Nat.max_self] at z; exact .of_bits z
theorem Bn.sub (h : Bn m x) (q : Bn m y) : Bn (m + 1) (x - y) := by have z := intBits_sub_le h.bits q.bits; rw [Nat.max_self] at z; exact .of_bits z
theorem Bn.neg (h : Bn m x) : Bn m (0 - x) := by unfold Bn at *; rw [Int.zero_sub, Int.natAbs_neg]; exact h
theorem Bn.le (h : Bn m x) (q : y.natAbs ≤ x.natAbs) : Bn m y := Nat.lt_of_le_of_lt q h
theorem Bn.mulok (h : Bn m x) (q : Bn n y) (l : m + n ≤ 134217728 := by decide) : IntMulOk x y := .of_le h.bits q.bits l
theorem Bn.log (h : Bn (m + 1) x) : x.natAbs.log2 ≤ m := by
  by_cases h0 : x.natAbs = 0
  · rw [h0]; exact Nat.zero_le _
  · exact Nat.le_of_lt_succ ((Nat.log2_lt h0).mpr h)
theorem Bn.div (h : Bn m x) : Bn m (x / y) := h.le (Int.natAbs_ediv_le_natAbs x y)
end
/-- lowest terms -/
def ru (p q : Int) : Int := p / (Int.gcd p q : Int)
def rl (p q : Int) : Int := q / (Int.gcd p q : Int)
section
variable {p q k r s : Int}
theorem gcd_pos (h : 0 < q) : 0 < (Int.gcd p q : Int) := by
  have : 0 < Int.gcd p q := Int.gcd_pos_of_ne_zero_right _ (by omega)
  omega
theorem gcd_pos_ne (h : q ≠ 0) : 0 < (Int.gcd p q : Int) := by
  have : 0 < Int.gcd p q := Int.gcd_pos_of_ne_zero_right _ h
  omega
theorem ru_mul : (Int.gcd p q : Int) * ru p q = p := Int.mul_ediv_cancel' (Int.gcd_dvd_left _ _)
theorem rl_mul : (Int.gcd p q : Int) * rl p q = q := Int.mul_ediv_cancel' (Int.gcd_dvd_right _ _)
theorem rl_pos (h : 0 < q) : 0 < rl p q := by
  have h1 := gcd_pos (p := p) h
  have h2 := rl_mul (p := p) (q := q)
  by_cases z : 0 < rl p q
  · exact z
  · have := Int.mul_nonpos_of_nonneg_of_nonpos (Int.le_of_lt h1) (Int.not_lt.mp z)
    omega
theorem r_scale (hk : 0 < k) : ru (k * p) (k * q) = ru p q ∧ rl (k * p) (k * q) = rl p q := by
  unfold ru rl
  rw [Int.gcd_mul_left]
  have e : ((k.natAbs * Int.gcd p q : Nat) : Int) = k * (Int.gcd p q : Int) := by
    rw [Int.natCast_mul, Int.natAbs_of_nonneg (Int.le_of_lt hk)]
  rw [e]
  exact ⟨Int.mul_ediv_mul_of_pos _ _ hk, Int.mul_ediv_mul_of_pos _ _ hk⟩
theorem r_one : ru k 1 = k ∧ rl k 1 = 1 := by
  unfold ru rl
  rw [Int.gcd_one]
  exact ⟨Int.ediv_one _, rfl⟩
theorem bn_ru {m : Nat} (h : Bn m p) : Bn m (ru p q) := h.div
theorem bn_rl {m : Nat} (h : Bn m q) : Bn m (rl p q) := h.div
/-- sums of fractions in lowest terms -/
theorem r_add (hq : 0 < q) (hs : 0 < s) : ru (ru p q * rl r s + ru r s * rl p q) (rl p q * rl r s) = ru (p * s + r * q) (q * s) ∧ rl (ru p q * rl r s + ru r s * rl p q) (rl p q * rl r s) = rl (p * s + r * q) (q * s) := by
  have g1 := gcd_pos (p := p) hq
  have g2 := gcd_pos (p := r) hs
  have e1 := ru_mul (p := p) (q := q)
  have e2 := rl_mul (p := p) (q := q)
  have e3 := ru_mul (p := r) (q := s)
  have e4 := rl_mul (p := r) (q := s)
  generalize ru p q = a at *
  generalize rl p q = b at *
  generalize ru r s = c at *
  generalize rl r s = d at *
  generalize (Int.gcd p q : Int) = g at *
  generalize (Int.gcd r s : Int) = h at *
  subst e1 e2 e3 e4
  have hk : 0 < g * h := Int.mul_pos g1 g2
  have z := r_scale (p := a * d + c * b) (q := b * d) hk
  have y1 : g * h * (a * d + c * b) = g * a * (h * d) + h * c * (g * b) := by
    rw [Int.mul_add]; ac_rfl
  have y2 : g * h * (b * d) = g * b * (h * d) := by ac_rfl
  rw [y1, y2] at z
  exact ⟨z.1.symm, z.2.symm⟩
theorem r_neg (hq : 0 < q) : ru (0 - ru p q) (rl p q) = ru (0 - p) q ∧ rl (0 - ru p q) (rl p q) = rl (0 - p) q := by
  have g1 := gcd_pos (p := p) hq
  have e1 := ru_mul (p := p) (q := q)
  have e2 := rl_mul (p := p) (q := q)
  generalize ru p q = a at *
  generalize rl p q = b at *
  generalize (Int.gcd p q : Int) = g at *
  subst e1 e2
  have z := r_scale (p := 0 - a) (q := b) g1
  have y : g * (0 - a) = 0 - g * a := by rw [Int.mul_sub, Int.mul_zero]
  rw [y] at z
  exact ⟨z.1.symm, z.2.symm⟩
theorem r_mul (hq : 0 < q) : ru (ru p q * k) (rl p q) = ru (p * k) q ∧ rl (ru p q * k) (rl p q) = rl (p * k) q := by
  have g1 := gcd_pos (p := p) hq
  have e1 := ru_mul (p := p) (q := q)
  have e2 := rl_mul (p := p) (q := q)
  generalize ru p q = a at *
  generalize rl p q = b at *
  generalize (Int.gcd p q : Int) = g at *
  subst e1 e2
  have z := r_scale (p := a * k) (q := b) g1
  rw [← Int.mul_assoc] at z
  exact ⟨z.1.symm, z.2.symm⟩
theorem r_lt (hq : 0 < q) (hs : 0 < s) : (ru p q * rl r s < ru r s * rl p q) ↔ p * s < r * q := by
  have g1 := gcd_pos (p := p) hq
  have g2 := gcd_pos (p := r) hs
  have e1 := ru_mul (p := p) (q := q)
  have e2 := rl_mul (p := p) (q := q)
  have e3 := ru_mul (p := r) (q := s)
  have e4 := rl_mul (p := r) (q := s)
  generalize ru p q = a at *
  generalize rl p q = b at *
  generalize ru r s = c at *
  generalize rl r s = d at *
  generalize (Int.gcd p q : Int) = g at *
  generalize (Int.gcd r s : Int) = h at *
  subst e1 e2 e3 e4
  have hk : 0 < g * h := Int.mul_pos g1 g2
  have y1 : g * a * (h * d) = g * h * (a * d) := by ac_rfl
  have y2 : h * c * (g * b) = g * h * (c * b) := by ac_rfl
  rw [y1, y2]
  exact ⟨fun z => Int.mul_lt_mul_of_pos_left z hk, fun z => Int.lt_of_mul_lt_mul_left z (Int.le_of_lt hk)⟩
theorem r_le (hq : 0 < q) (hs : 0 < s) : (ru p q * rl r s ≤ ru r s * rl p q) ↔ p * s ≤ r * q := by
  have z := r_lt (p := r) (q := s) (r := p) (s := q) hs hq
  constructor
  · intro h
    refine Int.not_lt.mp fun y => ?_
    have := z.mpr y
    omega
  · intro h
    refine Int.not_lt.mp fun y => ?_
    have := z.mp y
    omega
theorem r_eq (hq : 0 < q) (hs : 0 < s) : (ru p q = ru r s ∧ rl p q = rl r s) ↔ p * s = r * q := by
  constructor
  · rintro ⟨h1, h2⟩
    have e1 := ru_mul (p := p) (q := q)
    have e2 := rl_mul (p := p) (q := q)
    have e3 := ru_mul (p := r) (q := s)
    have e4 := rl_mul (p := r) (q := s)
    generalize ru p q = a at *
    generalize rl p q = b at *
    generalize ru r s = c at *
    generalize rl r s = d at *
    generalize (Int.gcd p q : Int) = g at *
    generalize (Int.gcd r s : Int) = h at *
    subst h1 h2 e1 e2 e3 e4
    ac_rfl
  · intro h
    have z1 := r_scale (p := p) (q := q) hs
    have z2 := r_scale (p := r) (q := s) hq
    have y1 : s * p = q * r := by rw [Int.mul_comm s p, h, Int.mul_comm]
    have y2 : s * q = q * s := Int.mul_comm _ _
    rw [y1, y2] at z1
    exact ⟨z1.1.symm.trans z2.1, z1.2.symm.trans z2.2⟩
end
/-- one step of the divisor's loop -/
theorem gcd_step {a b : Int} (h : 0 < b) : Int.gcd b (a % b) = Int.gcd a b := by
  rw [Int.gcd_comm a b, Int.emod_def, Int.gcd_sub_mul_left_right]
end HG

/-! The pen of the laws' scripts: what the laws' drawing defs are asked. -/
namespace HG
open PySem L2
/-- the pen at p, at most n cells used -/
def Pen (H : Hp) (p : Addr) (n : Nat) : Prop := ∃ (l : Addr) (cells : List Int) (turn rest : Int), H p = some (.lst [.ref l, .int turn, .int rest]) ∧ H l = some (.lst (cells.map V.int)) ∧ cells.length ≤ 63 ∧ 0 ≤ turn ∧ turn ≤ n ∧ 0 ≤ rest
def Grow (H H' : Hp) : Prop := ∀ b o, H b = some o → H' b = some o
theorem Grow.refl {H : Hp} : Grow H H := fun _ _ h => h
theorem Grow.trans {H H1 H2 : Hp} (h : Grow H H1) (q : Grow H1 H2) : Grow H H2 := fun b o e => q b o (h b o e)
theorem Grow.new {H : Hp} {p : Addr} {o : HO} (h : H p = none) : Grow H (upd H p o) := fun b u e => by
  rw [upd_ne (fun z => by rw [z, h] at e; cases e)]; exact e
theorem Grow.keep {p : Addr} {H H' : Hp} (h : Grow H H') : Keep p H H' := fun b o _ e => h b o e
theorem Keep.refl {p : Addr} {H : Hp} : Keep p H H := fun _ _ _ e => e
theorem Keep.trans {p : Addr} {H H1 H2 : Hp} (h : Keep p H H1) (q : Keep p H1 H2) : Keep p H H2 := fun b o n e => q b o n (h b o n e)
theorem Pen.grow {H H' : Hp} {p : Addr} {n : Nat} (h : Pen H p n) (g : Grow H H') : Pen H' p n := by
  obtain ⟨l, c, t, r, h1, h2, h3⟩ := h
  exact ⟨l, c, t, r, g _ _ h1, g _ _ h2, h3⟩
theorem Pen.up {H : Hp} {p : Addr} {m n : Nat} (h : Pen H p m) (g : m ≤ n) : Pen H p n := by
  obtain ⟨l, c, t, r, h1, h2, h3, h4, h5, h6⟩ := h
  exact ⟨l, c, t, r, h1, h2, h3, h4, by omega, h6⟩
theorem Pen.lst {H : Hp} {p : Addr} {n : Nat} (h : Pen H p n) : ∃ xs, H p = some (.lst xs) := by
  obtain ⟨l, c, t, r, h1, h2, h3⟩ := h
  exact ⟨_, h1⟩
/-- what is no list is not the pen -/
theorem Pen.other {H : Hp} {p b : Addr} {n : Nat} {C dx : Addr} {fs : List (Str × V)} (h : Pen H p n) (q : H b = some (.ins C dx fs)) : b ≠ p := by
  obtain ⟨xs, e⟩ := h.lst
  rintro rfl
  rw [e] at q
  cases q
theorem Pen.fresh {H : Hp} {p b : Addr} {n : Nat} (h : Pen H p n) (q : H b = none) : b ≠ p := by
  obtain ⟨xs, e⟩ := h.lst
  rintro rfl
  rw [e] at q
  cases q
def spPen (K : PySem.W.Frag) : Sp := fun vs H Q _ => match vs with
  | [.ref a] => ∃ ns : List Int, SqL K H a (ns.map V.int) ∧ ∀ p H', Pen H' p 0 → Grow H H' → Q (.ref p) H'
  | _ => False
def spDraw : Sp := fun vs H Q _ => match vs with
  | [.ref p, .int many] => ∃ n : Nat, Pen H p n ∧ n ≤ 999999 ∧ 0 < many ∧ many.natAbs.log2 < 9000 ∧ ∀ (d : Int) (H' : Hp), 0 ≤ d → d < many → Pen H' p (n + 1) → Keep p H H' → Q (.int d) H'
  | _ => False
def spPick : Sp := fun vs H Q _ => match vs with
  | [.ref p, .ref s] => ∃ (n : Nat) (xs : List V), Pen H p n ∧ n ≤ 999999 ∧ H s = some (.lst xs) ∧ s ≠ p ∧ xs ≠ [] ∧ xs.length ≤ 100000 ∧ ∀ (x : V) (H' : Hp), x ∈ xs → Pen H' p (n + 1) → Keep p H H' → Q x H'
  | _ => False
theorem log_small {m : Int} (h0 : 0 < m) (h : m ≤ 1000000) : m.natAbs.log2 < 9000 := by
  have h1 : m.natAbs < 2 ^ 20 := by omega
  have h2 : m.natAbs.log2 < 20 := (Nat.log2_lt (by omega)).mpr h1
  omega
end HG
namespace HG
open PySem L2
/-- the law's def -/
def spLaw (K : PySem.W.Frag) : Sp := fun vs H Q _ => match vs with
  | [.ref a] => (∃ ns : List Int, SqL K H a (ns.map V.int)) ∧ ∀ H', Q (.bl true) H'
  | _ => False
end HG

namespace HG
open PySem L2
theorem shown_int_len {i : Int} {m : Nat} (h : Bn (m + 1) i) : (PyData.shown (.int i)).length ≤ m + 2 := by
  have e := int_text_length_le (a := i) (k := m + 1) (by omega) (Nat.lt_succ_of_le h.log)
  show (Str.ofString (toString i)).length ≤ m + 2
  rw [ofString_length]; exact e
theorem showable_int {i : Int} (h : Bn 1900 i) : PyData.showable (.int i) = true := by
  have := Bn.log (m := 1899) h
  show decide (i.natAbs.log2 < 1920) = true
  exact decide_eq_true (by omega)
theorem weight_int {i : Int} (h : Bn 1900 i) : PyData.weight (.int i) ≤ 1900 := by
  have := Bn.log (m := 1899) h
  show (if i == 0 then 0 else i.natAbs.log2 + 1) ≤ 1900
  split <;> omega
theorem leaves_ints : ∀ ns : List Int, (∀ n ∈ ns, Bn 1900 n) → PyData.leavesShortAll 1901 (ns.map PyData.int) = true ∧ PyData.showableAll (ns.map PyData.int) = true ∧ PyData.weightAll (ns.map PyData.int) ≤ 1901 * ns.length
  | [], _ => ⟨rfl, rfl, Nat.le_refl _⟩
  | n :: r, h => by
    obtain ⟨h1, h2, h3⟩ := leaves_ints r fun m hm => h m (List.mem_cons_of_mem _ hm)
    have hn := h n (List.mem_cons_self ..)
    have e1 : PyData.leavesShort 1901 (.int n) = true := decide_eq_true (shown_int_len (m := 1899) hn)
    have e2 := showable_int hn
    have e3 := weight_int hn
    refine ⟨?_, ?_, ?_⟩
    · show (PyData.leavesShort 1901 (.int n) && PyData.leavesShortAll 1901 (r.map PyData.int)) = true
      rw [e1, h1]; rfl
    · show (PyData.showable (.int n) && PyData.showableAll (r.map PyData.int)) = true
      rw [e2, h2]; rfl
    · show PyData.weight (.int n) + 1 + PyData.weightAll (r.map PyData.int) ≤ 1901 * (r.length + 1)
      omega
theorem repr_ints {K : PySem.W.Frag} {H : Hp} {r : Addr} {ns : List Int} {Q : VK} (h : H r = some (.lst (ns.map V.int))) (hb : ∀ n ∈ ns, Bn 1900 n) (hl : ns.length ≤ 4) (k : Q (.str (PyData.shown (.list (ns.map PyData.int)))) H) : cRepr K [.ref r] H Q := by
  have e : dataF 8 H (.ref r) = some (.list (ns.map PyData.int)) := dataF_ints h
  obtain ⟨h1, h2, h3⟩ := leaves_ints ns hb
  simp only [cRepr, e]
  refine ⟨h2, ?_, ?_, k⟩
  · show PyData.depthAll (ns.map PyData.int) + 1 ≤ 60
    rw [depth_ints]; decide
  · have z := PyData.shown_le 1901 (by decide) (.list (ns.map PyData.int)) h1
    have w : PyData.weight (.list (ns.map PyData.int)) ≤ 1901 * 4 := by
      show PyData.weightAll _ ≤ _
      omega
    have e : (1901 + 2) * PyData.weight (.list (ns.map PyData.int)) ≤ (1901 + 2) * (1901 * 4) := Nat.mul_le_mul_left _ w
    have : sizeLine = 16777216 := rfl
    omega
theorem data_bools {n : Nat} {H : Hp} : ∀ bs : List Bool, dataL (dataF n H) (bs.map V.bl) = some (bs.map PyData.bool)
  | [] => rfl
  | b :: r => by
    have e : dataF n H (.bl b) = some (.bool b) := by cases n <;> rfl
    show (match dataF n H (.bl b) with | some d => (match dataL (dataF n H) (r.map V.bl) with | some ds => some (d :: ds) | none => none) | none => none) = _
    rw [e, data_bools r]
    rfl
theorem leaves_bools : ∀ bs : List Bool, PyData.leavesShortAll 8 (bs.map PyData.bool) = true ∧ PyData.showableAll (bs.map PyData.bool) = true ∧ PyData.weightAll (bs.map PyData.bool) = bs.length ∧ PyData.depthAll (bs.map PyData.bool) = 0
  | [] => ⟨rfl, rfl, rfl, rfl⟩
  | b :: r => by
    obtain ⟨h1, h2, h3, h4⟩ := leaves_bools r
    refine ⟨?_, ?_, ?_, ?_⟩
    · show (PyData.leavesShort 8 (.bool b) && PyData.leavesShortAll 8 (r.map PyData.bool)) = true
      rw [h1]; rfl
    · show (PyData.showable (.bool b) && PyData.showableAll (r.map PyData.bool)) = true
      rw [h2]; rfl
    · show PyData.weight (.bool b) + 1 + PyData.weightAll (r.map PyData.bool) = r.length + 1
      rw [h3]
      show 0 + 1 + r.length = r.length + 1
      omega
    · show max (PyData.depth (.bool b)) (PyData.depthAll (r.map PyData.bool)) = 0
      rw [h4]; rfl
theorem repr_bools {K : PySem.W.Frag} {H : Hp} {r : Addr} {bs : List Bool} {Q : VK} (h : H r = some (.lst (bs.map V.bl))) (hl : bs.length ≤ 1000) (k : Q (.str (PyData.shown (.list (bs.map PyData.bool)))) H) : cRepr K [.ref r] H Q := by
  have e : dataF 8 H (.ref r) = some (.list (bs.map PyData.bool)) := by
    simp only [dataF, h]
    rw [data_bools]
    rfl
  obtain ⟨h1, h2, h3, h4⟩ := leaves_bools bs
  simp only [cRepr, e]
  refine ⟨h2, ?_, ?_, k⟩
  · show PyData.depthAll (bs.map PyData.bool) + 1 ≤ 60
    rw [h4]; decide
  · have z := PyData.shown_le 8 (by decide) (.list (bs.map PyData.bool)) h1
    have w : PyData.weight (.list (bs.map PyData.bool)) = bs.length := h3
    have : sizeLine = 16777216 := rfl
    omega
end HG

namespace HG
open PySem L2
/-! ### new instances, properties: folded readings -/
def MKf (C : Addr) (sp : Sp) (E : XK) (f : V → List V) (H : Hp) (Q : VK) : Prop := ∀ x dx, H x = none → H dx = none → dx ≠ x → sp (f (.ref x)) (upd (upd H dx (.own x)) x (.ins C dx [])) (fun v H2 => v = .non ∧ Q (.ref x) H2) E
theorem tMake_eq {C : Addr} {sp : Sp} {dvs : List V} {E : XK} {t : TA} {σ : L2.St} {H : Hp} {Q : VK} : tMake C sp dvs E t σ H Q = t σ H fun vs H1 => MKf C sp E (fun r => r :: (vs ++ dvs)) H1 Q := rfl
theorem tMakeK_eq {C : Addr} {n m : Nat} {sp : Sp} {gV : List V → List V → List V} {E : XK} {t tk : TA} {σ : L2.St} {H : Hp} {Q : VK} : tMakeK C n m sp gV E t tk σ H Q = t σ H fun vs H1 => tk σ H1 fun zs H2 => vs.length = n ∧ zs.length = m ∧ MKf C sp E (fun r => gV (r :: vs) zs) H2 Q := rfl
def PRf (C : Addr) (sp : Sp) (dvs : List V) (E : XK) (x : V) (H : Hp) (Q : VK) : Prop := ∃ a dx fs, x = .ref a ∧ H a = some (.ins C dx fs) ∧ sp (.ref a :: dvs) H Q E
theorem tProp_eq {C : Addr} {sp : Sp} {dvs : List V} {E : XK} {t : TE} {σ : L2.St} {H : Hp} {Q : VK} : tProp C sp dvs E t σ H Q = t σ H fun x H1 => PRf C sp dvs E x H1 Q := rfl
theorem cRepr_int {K : PySem.W.Frag} {i : Int} {H : Hp} {Q : VK} : cRepr K [.int i] H Q = (i.natAbs.log2 < 1920 ∧ Q (.str (toString i)) H) := rfl
/-! ### a comprehension over a list -/
def LcK (K : PySem.W.Frag) (g : TG) (tt : TT) (te : TE) (vs : List Nat) (σ : L2.St) (Q : VK) : VK := fun x H1 => ∃ a, x = .ref a ∧ (∃ xs, SqL K H1 a xs) ∧ ∀ D, H1 D = none → ∃ W : Nat → Nat → Hp → Prop, (∃ m, W 0 m (upd H1 D (.lst []))) ∧ ∀ i m H, W i m H →
      ((Itl K a).stop i H ∧ Q (.ref D) H) ∨ ((Itl K a).go i H ∧ ∃ Nx : Hp → Prop, (∀ H', Nx H' → ∃ m', m' < m ∧ W (i + 1) m' H') ∧ ∀ x H', (Itl K a).yld i H x H' → g x (wipe σ vs) H' fun σ2 H2 => wipe σ2 vs = wipe σ vs ∧ tt σ2 H2 fun b H3 =>
        if b = true then te σ2 H3 fun y H4 => ∃ acc, H4 D = some (.lst acc) ∧ acc.length < sizeLine ∧ Nx (upd H4 D (.lst (acc ++ [y]))) else Nx H3)
theorem lc_go {K : PySem.W.Frag} {tl te : TE} {g : TG} {tt : TT} {vs : List Nat} {σ : L2.St} {H : Hp} {Q : VK} (h : tl σ H (LcK K g tt te vs σ Q)) : tLc (iList K tl) g tt te vs σ H Q := h
/-- one whose test lets nothing through -/
theorem lc_empty {K : PySem.W.Frag} {te : TE} {i : Nat} {tt : TT} {σ : L2.St} {H1 : Hp} {Q : VK} {a : Addr} {xs : List V} (ha : H1 a = some (.lst xs))
    (q : ∀ D, H1 D = none → (∀ x ∈ xs, ∀ H', Grow (upd H1 D (.lst [])) H' → ∀ R : Bool → Hp → Prop, (∀ H2, Grow H' H2 → R false H2) → tt ((wipe σ [i]).set i (some x)) H' R) ∧ ∀ H', Grow (upd H1 D (.lst [])) H' → Q (.ref D) H')
    (hw : ∀ x, wipe ((wipe σ [i]).set i (some x)) [i] = wipe σ [i]) : LcK K (gName i) tt te [i] σ Q (.ref a) H1 := by
  refine ⟨a, rfl, ⟨xs, SqL.of ha⟩, fun D hD => ?_⟩
  obtain ⟨q1, q2⟩ := q D hD
  have g0 : Grow H1 (upd H1 D (.lst [])) := Grow.new hD
  refine ⟨fun j m H' => m = xs.length - j ∧ Grow (upd H1 D (.lst [])) H', ⟨_, rfl, .refl⟩, fun j m H' ⟨hm, g⟩ => ?_⟩
  have ha' := g _ _ (g0 _ _ ha)
  by_cases hj : xs.length ≤ j
  · exact .inl ⟨⟨xs, SqL.of ha', hj⟩, q2 _ g⟩
  · refine .inr ⟨⟨xs, xs[j], SqL.of ha', List.getElem?_eq_getElem (by omega)⟩, fun H'' => Grow (upd H1 D (.lst [])) H'', fun H'' g' => ⟨xs.length - (j + 1), by omega, rfl, g'⟩, ?_⟩
    rintro x H'' ⟨rfl, e⟩
    have ex := e xs (SqL.of ha')
    refine ⟨hw x, q1 x (List.mem_of_getElem? ex) _ g _ fun H2 g2 => ?_⟩
    rw [if_neg (by decide)]
    exact g.trans g2
theorem st_ifcmp {r : R2} {ta tb : TE} {t u : TS} {D : Ends} {σ : L2.St} {H : Hp} (h : ta σ H fun x H1 => tb σ H1 fun y H2 => r x y H2 fun z H3 => ∃ k, z = .bl k ∧ if k = true then t D σ H3 else u D σ H3) : tIfS (tTest (tOp r ta tb)) t u D σ H := h
end HG

/-! What the top has written, in the forms that the rules want. -/
namespace HG
open PySem L2 PyProof.Rows
open PySem.W in
theorem fillsI_no {K : Frag} {M : Model} {h : Heap} {C : Addr} {cd : ClassData} {nm : String} {add : Bool} (X : K.In h) (hc : clsIn K C = some cd) (hm : cd.mro = [.ref C, .type "object"]) (hs : findIn K (.ref C) (dunderI nm) = some none)
    (ho : findIn K (.type "object") (dunderI nm) = some none) : Looks M h (fillsInplaceSlot (.ref C) nm add) false := by
  intro A Q E s k q
  have Lm : Looks M h (mroOf (.ref C)) cd.mro := (looks_clsIn X hc).andThen (f := fun cd => pure cd.mro) .now
  have Lm' := Lm.keeps k
  obtain ⟨hh, g, d, tt, os⟩ := s
  have X' : K.In hh := X.keeps k
  have L1 : Looks M hh (typeLookup (.ref C) (dunderI nm)) none := looks_findIn X' hs
  have L2 : Looks M hh (typeLookup (.type "object") (dunderI nm)) none := looks_findIn X' ho
  unfold fillsInplaceSlot
  refine wpAny_bind (Lm'.at ?_)
  rw [hm, List.anyM_cons]
  refine wpAny_bind (wpAny_bind (L1.at (wpAny_pure ?_)))
  simp only [Bool.false_eq_true, if_false]
  rw [List.anyM_cons]
  refine wpAny_bind (wpAny_bind (L2.at (wpAny_pure ?_)))
  simp only [Bool.false_eq_true, if_false, List.anyM_nil]
  exact wpAny_pure q
section
variable {K : PySem.W.Frag} {C f g : Addr} {op : Operator} {nm : Str}
theorem isSomeE {α : Type} {o : Option α} (h : o.isSome = true) : ∃ x, o = some x := Option.isSome_iff_exists.mp h
theorem binF_mk (d : PySem.dunder op.info.2 = nm) (sf : PySem.W.selfFirst K C = true) (fn : PySem.W.findIn K (.ref C) nm = some (some (.ref f))) (isf : PySem.W.isFn K (.ref f) = true)
    (rc : ∃ rc, PySem.W.findIn K (.ref C) (dunderR op.info.2) = some rc ∧ (rc = none ∨ ∃ g : Addr, rc = some (.ref g))) (i1 : (PySem.W.findIn K (.type "int") (PySem.dunder op.info.2)).isSome = true) (i2 : (PySem.W.findIn K (.type "int") (dunderR op.info.2)).isSome = true)
    (sub : PySem.W.subIn K (.type "int") (.ref C) = some false) : BinF K C f op := ⟨sf, by rw [d]; exact fn, isf, rc, isSomeE i1, isSomeE i2, sub⟩
theorem reflF_mk {nr : Str} (d : PySem.dunder op.info.2 = nm) (dr : dunderR op.info.2 = nr) (sf : PySem.W.selfFirst K C = true) (fn : PySem.W.findIn K (.ref C) nm = some (some (.ref f))) (rn : PySem.W.findIn K (.ref C) nr = some (some (.ref g))) (isf : PySem.W.isFn K (.ref g) = true)
    (sub : PySem.W.subIn K (.ref C) (.type "int") = some false) (fo : ∃ fo ro, PySem.W.findIn K (.type "int") (PySem.dunder op.info.2) = some fo ∧ PySem.W.findIn K (.type "int") (dunderR op.info.2) = some ro ∧ ((fo.isSome && !isSeqSlot fo) || (ro.isSome && !isSeqSlot ro)) = true) : ReflF K C f g op :=
  ⟨sf, by rw [d]; exact fn, by rw [dr]; exact rn, isf, sub, fo⟩
theorem inpF_mk {cd : ClassData} (d : PySem.dunder op.info.2 = nm) (sf : PySem.W.selfFirst K C = true) (fn : PySem.W.findIn K (.ref C) nm = some (some (.ref f))) (isf : PySem.W.isFn K (.ref f) = true) (hc : PySem.W.clsIn K C = some cd) (hm : cd.mro = [.ref C, .type "object"])
    (hs : PySem.W.findIn K (.ref C) (dunderI op.info.2) = some none) (ho : PySem.W.findIn K (.type "object") (dunderI op.info.2) = some none) : InpF K C f op := ⟨sf, by rw [d]; exact fn, isf, fun M h X => fillsI_no X hc hm hs ho⟩
end
theorem funD_mk {K : PySem.W.Frag} {x qual : Str} {st : Stmt} {f T : Addr} {oc oc2 : Value} {od od2 an : Option Addr} {osl osl2 : Array (Option Value)} {kV doc pm cdv ct : Value} {its : List Value} {dvs : List V} {n : Nat}
    (l : K.lookup f = some ⟨oc, od, .func (PySem.W.fnOf x qual (defArgs st) (defBody st) (defScope st) (.ref T) kV doc pm an cdv ct), osl⟩) (lT : K.lookup T = some ⟨oc2, od2, .seq its.toArray n, osl2⟩) (r : Vals dvs its) (ne : dvs ≠ [])
    (c : PySem.W.codeIn K cdv qual = true) (k : PySem.W.keepIn K (.ref f) = true) : FunD K x qual (defArgs st) (defBody st) (defScope st) dvs [] f (PySem.W.fnOf x qual (defArgs st) (defBody st) (defScope st) (.ref T) kV doc pm an cdv ct) :=
  ⟨⟨oc, od, .ref T, kV, doc, pm, an, cdv, ct, osl, rfl, l, c, .inr ⟨ne, T, _, its, n, rfl, lT, rfl, r⟩, .inl rfl⟩, k⟩
end HG
namespace HG
open PySem L2
theorem int_fo_Add {K : PySem.W.Frag} : ∃ fo ro, PySem.W.findIn K (.type "int") (PySem.dunder Operator.Add.info.2) = some fo ∧ PySem.W.findIn K (.type "int") (dunderR Operator.Add.info.2) = some ro ∧ ((fo.isSome && !isSeqSlot fo) || (ro.isSome && !isSeqSlot ro)) = true :=
  ⟨some (.builtin "int.__add__"), some (.builtin "int.__radd__"), by show fastLookup "int" _ = _; decide +kernel, by show fastLookup "int" _ = _; decide +kernel, by decide +kernel⟩
theorem int_fo_Sub {K : PySem.W.Frag} : ∃ fo ro, PySem.W.findIn K (.type "int") (PySem.dunder Operator.Sub.info.2) = some fo ∧ PySem.W.findIn K (.type "int") (dunderR Operator.Sub.info.2) = some ro ∧ ((fo.isSome && !isSeqSlot fo) || (ro.isSome && !isSeqSlot ro)) = true :=
  ⟨some (.builtin "int.__sub__"), some (.builtin "int.__rsub__"), by show fastLookup "int" _ = _; decide +kernel, by show fastLookup "int" _ = _; decide +kernel, by decide +kernel⟩
end HG
namespace HG
open PySem L2
theorem kit_tr {K : PySem.W.Frag} {C : Addr} {t : String} {b : Bool} (hc : PySem.W.isClsIn K C = true) (ht : PySem.W.typeIn K (.ref C) = some (.type "type")) (hs : PySem.W.subIn K (.type t) (.ref C) = some b) : PySem.W.kitOne K (.type t) (.ref C) = some b := by
  have hne : (Value.type t == Value.ref C) = false := Bool.eq_false_iff.mpr fun q => by cases beq_iff_eq.mp q
  have hc' : (PySem.W.clsIn K C).isSome = true := hc
  unfold PySem.W.kitOne PySem.W.kitCls
  simp only [hne, hc', ht, hs, Bool.false_eq_true, if_false, beq_self_eq_true, Bool.and_self, if_true]
theorem kit_rt {K : PySem.W.Frag} {C : Addr} {T : String} {b : Bool} (hm : PySem.W.kitMeta T = true) (hs : PySem.W.subIn K (.ref C) (.type T) = some b) : PySem.W.kitOne K (.ref C) (.type T) = some b := by
  have hne : (Value.ref C == Value.type T) = false := Bool.eq_false_iff.mpr fun q => by cases beq_iff_eq.mp q
  unfold PySem.W.kitOne PySem.W.kitCls
  simp only [hne, hm, hs, Bool.false_eq_true, if_false, if_true]
theorem kit_rr {K : PySem.W.Frag} {C : Addr} : PySem.W.kitOne K (.ref C) (.ref C) = some true := by
  unfold PySem.W.kitOne
  simp only [beq_self_eq_true, if_true]
theorem nsOk_mk {K : PySem.W.Frag} {N : Addr} {oc : Value} {od : Option Addr} {es : Array DictEntry} {n : Nat} {sl : Array (Option Value)} (h : K.lookup N = some ⟨oc, od, .dict es n, sl⟩) (e : (es.toList.all fun e => match e.key with | .str _ _ => true | _ => false) = true) : PySem.W.nsOkIn K N = true := by
  unfold PySem.W.nsOkIn
  rw [h]
  show (es.all _) = true
  rw [← Array.all_toList]
  exact e
end HG

namespace HG
open PySem L2 PyProof.Rows
section
variable {X : Cx}
/-! ### in, by data -/
def oIn (K : PySem.W.Frag) : R2 := fun x y H Q => match dataF 8 H x, dataF 8 H y with
  | some d, some (.list ds) => SeqAt.shaped d = true ∧ SeqAt.shaped (.list ds) = true ∧ Q (.bl (ds.any fun z => PyData.eqv z d)) H
  | _, _ => False
theorem op_inU (hu : X.A.units + 65 < cLine) : OpR X (compareOp .In) (oIn X.K) := opImp (op_inD hu) fun x y H Q h => by
  unfold oIn at h
  split at h
  · rename_i e1 e2
    exact ⟨_, _, dp_of e1, dp_of e2, h.1, h.2.1, h.2.2⟩
  · exact h.elim
def oNotIn (K : PySem.W.Frag) : R2 := fun x y H Q => match dataF 8 H x, dataF 8 H y with
  | some d, some (.list ds) => SeqAt.shaped d = true ∧ SeqAt.shaped (.list ds) = true ∧ Q (.bl (!ds.any fun z => PyData.eqv z d)) H
  | _, _ => False
theorem op_notInU (hu : X.A.units + 65 < cLine) : OpR X (compareOp .NotIn) (oNotIn X.K) := opImp (op_notInD hu) fun x y H Q h => by
  unfold oNotIn at h
  split at h
  · rename_i e1 e2
    exact ⟨_, _, dp_of e1, dp_of e2, h.1, h.2.1, h.2.2⟩
  · exact h.elim
theorem _root_.L2.Room.units65 {k : Nat} {A : Around} (r : Room k A) : A.units + 65 < cLine := by have := r.un; omega
/-! ### is None -/
def oIs : R2 := fun x y H Q => match y with
  | .non => match x with
    | .non => Q (.bl true) H
    | _ => Q (.bl false) H
  | _ => False
theorem op_isU : OpR X (compareOp .Is) oIs := opImp op_isN fun x y H Q h => by
  unfold oIs at h
  split at h
  · refine ⟨rfl, ?_⟩
    split at h
    · exact h
    · rename_i hn
      rw [decide_eq_false (fun e => hn e)]
      exact h
  · exact h.elim
def oIsNot : R2 := fun x y H Q => match y with
  | .non => match x with
    | .non => Q (.bl false) H
    | _ => Q (.bl true) H
  | _ => False
theorem op_isNotU : OpR X (compareOp .IsNot) oIsNot := opImp op_notN fun x y H Q h => by
  unfold oIsNot at h
  split at h
  · refine ⟨rfl, ?_⟩
    split at h
    · exact h
    · rename_i hn
      rw [decide_eq_false (fun e => hn e)]
      exact h
  · exact h.elim
/-! ### built-ins over sequences -/
def cTuple (K : PySem.W.Frag) : List V → Hp → VK → Prop := fun xs H Q => match xs with
  | [.ref p] => match H p with
    | some (.lst ys) => ∀ l, H l = none → Q (.ref l) (upd H l (.tup ys))
    | some (.tup ys) => Q (.ref p) H
    | _ => ∃ ys, SqT K H p ys ∧ Q (.ref p) H
  | _ => False
theorem call_tupleU : CallR X (.type "tuple") (cTuple X.K) := callImp call_tuple_of fun xs H Q h => by
  unfold cTuple at h
  split at h
  · split at h
    · rename_i e
      exact ⟨_, _, rfl, .inl ⟨SqL.of e, h⟩⟩
    · rename_i e
      exact ⟨_, _, rfl, .inr ⟨SqT.of e, h⟩⟩
    · obtain ⟨ys, h1, h2⟩ := h
      exact ⟨_, ys, rfl, .inr ⟨h1, h2⟩⟩
  · exact h.elim
def isBls : List V → Option (List Bool)
  | [] => some []
  | .bl b :: r => (isBls r).map (b :: ·)
  | _ :: _ => none
theorem isBls_map : ∀ bs : List Bool, isBls (bs.map V.bl) = some bs
  | [] => rfl
  | b :: r => by
    show (isBls (r.map V.bl)).map (b :: ·) = _
    rw [isBls_map r]
    rfl
theorem isBls_of : ∀ {xs : List V} {bs : List Bool}, isBls xs = some bs → xs = bs.map V.bl
  | [], bs, h => by cases h; rfl
  | .bl b :: r, bs, h => by
    obtain ⟨cs, e, rfl⟩ := Option.map_eq_some_iff.mp h
    rw [isBls_of e]
    rfl
  | .non :: r, bs, h => by cases h
  | .int i :: r, bs, h => by cases h
  | .str i :: r, bs, h => by cases h
  | .byt i :: r, bs, h => by cases h
  | .flt i :: r, bs, h => by cases h
  | .ref i :: r, bs, h => by cases h
  | .ty i :: r, bs, h => by cases h
def cAll (K : PySem.W.Frag) : List V → Hp → VK → Prop := fun xs H Q => ∃ a bs, xs = [.ref a] ∧ H a = some (.lst (List.map V.bl bs)) ∧ Q (.bl (bs.all id)) H
theorem call_allU (hc : X.calm = true) : CallR X (.builtin "all") (cAll X.K) := callImp (cr_all hc) fun xs H Q h => by
  obtain ⟨a, bs, e1, e2, q⟩ := h
  exact ⟨a, bs, e1, SqL.of e2, q⟩
def cAny (K : PySem.W.Frag) : List V → Hp → VK → Prop := fun xs H Q => ∃ a bs, xs = [.ref a] ∧ H a = some (.lst (List.map V.bl bs)) ∧ Q (.bl (bs.any id)) H
theorem call_anyU (hc : X.calm = true) : CallR X (.builtin "any") (cAny X.K) := callImp (cr_any hc) fun xs H Q h => by
  obtain ⟨a, bs, e1, e2, q⟩ := h
  exact ⟨a, bs, e1, SqL.of e2, q⟩
/-- the greatest number of a list, of two -/
def cMax (K : PySem.W.Frag) : List V → Hp → VK → Prop := fun xs H Q => match xs with
  | [.int i, .int j] => Q (.int (if j > i then j else i)) H
  | [.ref a] => ∃ ns : List Int, H a = some (.lst (ns.map V.int)) ∧ ns ≠ [] ∧ ∀ m, m ∈ ns → (∀ y, y ∈ ns → y ≤ m) → Q (.int m) H
  | _ => False
theorem call_maxU (hc : X.calm = true) : CallR X (.builtin "max") (cMax X.K) := callImp ((call_max2 hc).or (cr_max hc)) fun xs H Q h => by
  unfold cMax at h
  split at h
  · exact .inl ⟨_, _, rfl, h⟩
  · obtain ⟨ns, h1, h2, h3⟩ := h
    exact .inr ⟨_, ns, rfl, SqL.of h1, List.length_pos_iff.mpr h2, h3⟩
  · exact h.elim
def cMin (K : PySem.W.Frag) : List V → Hp → VK → Prop := fun xs H Q => match xs with
  | [.int i, .int j] => Q (.int (if j < i then j else i)) H
  | [.ref a] => ∃ ns : List Int, H a = some (.lst (ns.map V.int)) ∧ ns ≠ [] ∧ ∀ m, m ∈ ns → (∀ y, y ∈ ns → m ≤ y) → Q (.int m) H
  | _ => False
theorem call_minU (hc : X.calm = true) : CallR X (.builtin "min") (cMin X.K) := callImp ((call_min2 hc).or (cr_min hc)) fun xs H Q h => by
  unfold cMin at h
  split at h
  · exact .inl ⟨_, _, rfl, h⟩
  · obtain ⟨ns, h1, h2, h3⟩ := h
    exact .inr ⟨_, ns, rfl, SqL.of h1, List.length_pos_iff.mpr h2, h3⟩
  · exact h.elim
/-! ### isinstance by a tuple of types -/
def tysOf : List V → Option (List Value)
  | [] => some []
  | .ty n :: r => (tysOf r).map (.type n :: ·)
  | .ref C :: r => (tysOf r).map (.ref C :: ·)
  | _ :: _ => none
theorem tysOf_paired : ∀ {xs : List V} {us : List Value}, tysOf xs = some us → Paired ClsV xs us
  | [], us, h => by cases h; exact .nil
  | .ty n :: r, us, h => by
    obtain ⟨cs, e, rfl⟩ := Option.map_eq_some_iff.mp h
    exact .cons (.ty _) (tysOf_paired e)
  | .ref C :: r, us, h => by
    obtain ⟨cs, e, rfl⟩ := Option.map_eq_some_iff.mp h
    exact .cons (.own _) (tysOf_paired e)
  | .non :: r, bs, h => by cases h
  | .int i :: r, bs, h => by cases h
  | .bl i :: r, bs, h => by cases h
  | .str i :: r, bs, h => by cases h
  | .byt i :: r, bs, h => by cases h
  | .flt i :: r, bs, h => by cases h
def cIsiT (K : PySem.W.Frag) : List V → Hp → VK → Prop := fun xs H Q => match xs with
  | [x, .ref tp] => match H tp with
    | some (.tup cs) => match tyF H x with
      | some t => tyOk K t ∧ match tysOf cs with
        | some us => match PySem.W.kitAny K t us with
          | some b => Q (.bl b) H
          | none => False
        | none => False
      | none => False
    | _ => False
  | _ => False
theorem call_isiTU : CallR X (.builtin "isinstance") (cIsiT X.K) := callImp call_isiT fun xs H Q h => by
  unfold cIsiT at h
  split at h
  · split at h
    · rename_i e0
      split at h
      · rename_i e1
        obtain ⟨h1, h2⟩ := h
        split at h2
        · rename_i e2
          split at h2
          · rename_i e3
            exact ⟨_, _, _, _, _, _, rfl, e0, tysOf_paired e2, tyX_of e1 h1, e3, h2⟩
          · exact h2.elim
        · exact h2.elim
      · exact h.elim
    · exact h.elim
  · exact h.elim
theorem kitLT_l {K : PySem.W.Frag} : PySem.W.kitAny K (.type "list") [.type "list", .type "tuple"] = some true := kitAny_cons (b := true) (kit_ty (by decide +kernel)) (fun z => by cases z) (fun _ => rfl)
theorem kitLT_t {K : PySem.W.Frag} : PySem.W.kitAny K (.type "tuple") [.type "list", .type "tuple"] = some true := kitAny_cons (b := false) (kit_ty (by decide +kernel)) (fun _ => kitAny_cons (b := true) (kit_ty (by decide +kernel)) (fun z => by cases z) (fun _ => rfl)) (fun z => by cases z)
/-! ### an attribute as a target -/
def gFld (K : PySem.W.Frag) (ta : TE) (f : Str) : TG := fun y σ H Q => ta σ H fun x H2 => ∃ a C dx fs, x = .ref a ∧ H2 a = some (.ins C dx fs) ∧ Cls K C ∧ NoAttr K C f ∧ fs.length < 1000 ∧ Q σ (upd H2 a (.ins C dx (putF f y fs)))
theorem pg_fld {o : Expr} {f : Str} {pos : Pos} {ta : TE} (ho : PE X o ta) : PG X (.Attribute o f pos) (gFld X.K ta f) := by
  refine ⟨fun pins s σ H v u Q I r h => ?_⟩
  rw [assign_Attribute]
  refine wpAny_bind (wpAny_holding (thn (ho.run pins s σ H _ I h) fun ov s1 ⟨x, H1, I1, r1, a, C, dx, fs, ex, ea, c, n, l, q1⟩ => ?_))
  subst ex
  obtain rfl : ov = Value.ref a := r1
  refine wpAny_bind (wpAny_standAt (wpAny_bind (wpAny_holding (setattr_ok I1 ea c n l r fun s3 I3 => ?_))))
  exact wpAny_release ⟨σ, _, I3, q1⟩
/-! ### for x in a list or a tuple -/
def iSeq (K : PySem.W.Frag) (tl : TE) : TI := fun σ H R => tl σ H fun x H1 => ∃ a, x = .ref a ∧ (((∃ xs, SqL K H1 a xs) ∧ R (Itl K a) H1) ∨ ((∃ xs, SqT K H1 a xs) ∧ R (Itt K a) H1))
theorem pi_seq {tg l : Expr} {tl : TE} (hl : PE X l tl) : PI X tg l (iSeq X.K tl) := by
  refine ⟨fun pins s σ H R I h => ?_⟩
  refine thn (hl.run pins s σ H _ I h) fun v s1 ⟨x, H1, I1, r1, q1⟩ => ?_
  obtain ⟨a, e, q1⟩ := q1
  subst e
  cases r1
  rcases q1 with ⟨⟨xs, hq⟩, q⟩ | ⟨⟨xs, hq⟩, q⟩
  · obtain ⟨its, rv, p, hz⟩ := I1.list hq
    refine wpAny_pyIter_list p.isList ?_
    refine ⟨s1.heap.objs.size, [s1.heap.objs.size], _, _, H1, rfl, I1.kept (t' := s1.toks) fun b o e => Heap.get?_push_of_some _ e, turn_list a _, ⟨_, Heap.get?_push_size _ rfl, rfl, rfl⟩, fun b hb => ?_, q⟩
    have e : b = s1.heap.objs.size := by simpa using hb
    subst e
    exact I1.fpOk (Nat.le_refl _) (I1.hok.fresh (Nat.le_refl _))
  · obtain ⟨its, rv, p, hz⟩ := I1.tuple hq
    refine wpAny_pyIter_tuple (show s1.heap.IsTuple a its.toArray from p) ?_
    refine ⟨s1.heap.objs.size, [s1.heap.objs.size], _, _, H1, rfl, I1.kept (t' := s1.toks) fun b o e => Heap.get?_push_of_some _ e, turn_tuple a _, ⟨_, Heap.get?_push_size _ rfl, rfl, rfl⟩, fun b hb => ?_, q⟩
    have e : b = s1.heap.objs.size := by simpa using hb
    subst e
    exact I1.fpOk (Nat.le_refl _) (I1.hok.fresh (Nat.le_refl _))
end
end HG

/-! Comprehensions over numbers and over sequences: what they make. -/
namespace HG
open PySem L2
/-- a comprehension's continuation at its iterator -/
def LcJ (g : TG) (tt : TT) (te : TE) (vs : List Nat) (σ : L2.St) (Q : VK) (J : It) (H1 : Hp) : Prop := ∀ D, H1 D = none → ∃ W : Nat → Nat → Hp → Prop, (∃ m, W 0 m (upd H1 D (.lst []))) ∧ ∀ i m H, W i m H →
      (J.stop i H ∧ Q (.ref D) H) ∨ (J.go i H ∧ ∃ Nx : Hp → Prop, (∀ H', Nx H' → ∃ m', m' < m ∧ W (i + 1) m' H') ∧ ∀ x H', J.yld i H x H' → g x (wipe σ vs) H' fun σ2 H2 => wipe σ2 vs = wipe σ vs ∧ tt σ2 H2 fun b H3 =>
        if b = true then te σ2 H3 fun y H4 => ∃ acc, H4 D = some (.lst acc) ∧ acc.length < sizeLine ∧ Nx (upd H4 D (.lst (acc ++ [y]))) else Nx H3)
theorem lc_ev {wi : TI} {g : TG} {tt : TT} {te : TE} {vs : List Nat} {σ : L2.St} {H : Hp} {Q : VK} (h : wi σ H (LcJ g tt te vs σ Q)) : tLc wi g tt te vs σ H Q := h
/-- the iterator hands out xs 0 .. xs (n - 1), as long as what stood stands -/
structure JOk (J : It) (H1 : Hp) (n : Nat) (xs : Nat → V) : Prop where
  go : ∀ H, Grow H1 H → ∀ j, j < n → J.go j H
  yld : ∀ H, Grow H1 H → ∀ j, j < n → ∀ x H', J.yld j H x H' → H' = H ∧ x = xs j
  stop : ∀ H, Grow H1 H → J.stop n H
theorem jok_rng {lo : Int} {n : Nat} {H1 : Hp} : JOk (Itr lo n) H1 n (fun j => .int (lo + j)) :=
  ⟨fun _ _ _ h => h, fun _ _ _ _ _ _ h => h, fun _ _ => Nat.le_refl _⟩
theorem jok_lst {K : PySem.W.Frag} {a : Addr} {H1 : Hp} {xs : List V} (h : H1 a = some (.lst xs)) : JOk (Itl K a) H1 xs.length (fun j => xs.getD j .non) := by
  refine ⟨fun H g j hj => ⟨xs, _, SqL.of (g _ _ h), List.getElem?_eq_getElem hj⟩, fun H g j hj x H' y => ⟨y.1, ?_⟩, fun H g => ⟨xs, SqL.of (g _ _ h), Nat.le_refl _⟩⟩
  have e := y.2 xs (SqL.of (g _ _ h))
  rw [List.getD_eq_getElem?_getD, e]
  rfl
theorem jok_tup {K : PySem.W.Frag} {a : Addr} {H1 : Hp} {xs : List V} (h : H1 a = some (.tup xs)) : JOk (Itt K a) H1 xs.length (fun j => xs.getD j .non) := by
  refine ⟨fun H g j hj => ⟨xs, _, SqT.of (g _ _ h), List.getElem?_eq_getElem hj⟩, fun H g j hj x H' y => ⟨y.1, ?_⟩, fun H g => ⟨xs, SqT.of (g _ _ h), Nat.le_refl _⟩⟩
  have e := y.2 xs (SqT.of (g _ _ h))
  rw [List.getD_eq_getElem?_getD, e]
  rfl
/-- the results of the first j turns -/
def resF (p : Nat → Bool) (f : Nat → V) (j : Nat) : List V := ((List.range j).filter p).map f
theorem resF_succ (p : Nat → Bool) (f : Nat → V) (j : Nat) : resF p f (j + 1) = if p j = true then resF p f j ++ [f j] else resF p f j := by
  unfold resF
  rw [List.range_succ, List.filter_append, List.map_append]
  by_cases h : p j = true
  · simp [h]
  · simp [h]
theorem resF_le (p : Nat → Bool) (f : Nat → V) (j : Nat) : (resF p f j).length ≤ j := by
  unfold resF
  rw [List.length_map]
  have := List.length_filter_le p (List.range j)
  rw [List.length_range] at this
  exact this
theorem lc_filter {J : It} {H1 : Hp} {n : Nat} {xs : Nat → V} {i : Nat} {tt : TT} {te : TE} {σ : L2.St} {Q : VK} (hJ : JOk J H1 n xs) (p : Nat → Bool) (f : Nat → V) (hn : n ≤ sizeLine)
    (ht : ∀ j, j < n → ∀ H', Grow H1 H' → ∀ R : Bool → Hp → Prop, (∀ H2, Grow H' H2 → R (p j) H2) → tt ((wipe σ [i]).set i (some (xs j))) H' R)
    (he : ∀ j, j < n → p j = true → ∀ H', Grow H1 H' → ∀ R : VK, (∀ H2, Grow H' H2 → R (f j) H2) → te ((wipe σ [i]).set i (some (xs j))) H' R)
    (k : ∀ D H', Grow H1 H' → H1 D = none → H' D = some (.lst (resF p f n)) → Q (.ref D) H')
    (hw : ∀ x, wipe ((wipe σ [i]).set i (some x)) [i] = wipe σ [i]) : LcJ (gName i) tt te [i] σ Q J H1 := by
  intro D hD
  have g0 : ∀ {H : Hp} {o : HO}, Grow H1 H → Grow H1 (upd H D o) := fun {H o} g b u e => by
    rw [upd_ne (fun z => by rw [z, hD] at e; cases e)]; exact g b u e
  refine ⟨fun j m H' => j ≤ n ∧ m = n - j ∧ Grow H1 H' ∧ H' D = some (.lst (resF p f j)), ⟨_, Nat.zero_le _, rfl, g0 .refl, upd_same⟩, fun j m H' ⟨hj, hm, g, hd⟩ => ?_⟩
  by_cases e : j = n
  · subst e
    exact .inl ⟨hJ.stop _ g, k D H' g hD hd⟩
  · have hj' : j < n := by omega
    refine .inr ⟨hJ.go _ g _ hj', fun H'' => Grow H1 H'' ∧ H'' D = some (.lst (resF p f (j + 1))), fun H'' ⟨g', hd'⟩ => ⟨n - (j + 1), by omega, by omega, rfl, g', hd'⟩, ?_⟩
    intro x H'' y
    obtain ⟨rfl, rfl⟩ := hJ.yld _ g _ hj' x H'' y
    refine ⟨hw _, ht j hj' _ g _ fun H2 g2 => ?_⟩
    by_cases hp : p j = true
    · rw [hp, if_pos rfl]
      refine he j hj' hp _ (g.trans g2) _ fun H3 g3 => ?_
      refine ⟨_, g3 _ _ (g2 _ _ hd), ?_, g0 ((g.trans g2).trans g3), ?_⟩
      · have := resF_le p f j
        omega
      · rw [upd_same, resF_succ, if_pos hp]
    · have hp' : p j = false := by simpa using hp
      rw [hp', if_neg (by decide)]
      refine ⟨g.trans g2, ?_⟩
      rw [resF_succ, if_neg hp]
      exact g2 _ _ hd
theorem resF_all (f : Nat → V) (n : Nat) : resF (fun _ => true) f n = (List.range n).map f := by
  unfold resF
  rw [List.filter_eq_self.mpr (fun _ _ => rfl)]
theorem lc_map {J : It} {H1 : Hp} {n : Nat} {xs : Nat → V} {i : Nat} {te : TE} {σ : L2.St} {Q : VK} (hJ : JOk J H1 n xs) (f : Nat → V) (hn : n ≤ sizeLine)
    (he : ∀ j, j < n → ∀ H', Grow H1 H' → ∀ R : VK, (∀ H2, Grow H' H2 → R (f j) H2) → te ((wipe σ [i]).set i (some (xs j))) H' R)
    (k : ∀ D H', Grow H1 H' → H1 D = none → H' D = some (.lst ((List.range n).map f)) → Q (.ref D) H')
    (hw : ∀ x, wipe ((wipe σ [i]).set i (some x)) [i] = wipe σ [i]) : LcJ (gName i) tYes te [i] σ Q J H1 :=
  lc_filter hJ (fun _ => true) f hn (fun j hj H' g R hR => hR _ .refl) (fun j hj _ H' g R hR => he j hj H' g R hR) (fun D H' g hD hd => k D H' g hD (by rw [resF_all] at hd; exact hd)) hw
end HG

/-! The pen, its list of cells named. -/
namespace HG
open PySem L2
/-- the pen at p with its cells at l, at most n cells used -/
def PenL (H : Hp) (p l : Addr) (n : Nat) : Prop := ∃ (cells : List Int) (turn rest : Int), H p = some (.lst [.ref l, .int turn, .int rest]) ∧ H l = some (.lst (cells.map V.int)) ∧ cells.length ≤ 63 ∧ 0 ≤ turn ∧ turn ≤ n ∧ 0 ≤ rest
section
variable {H H' : Hp} {p l b : Addr} {m n : Nat}
theorem PenL.grow (h : PenL H p l n) (g : Grow H H') : PenL H' p l n := by
  obtain ⟨c, t, r, h1, h2, h3⟩ := h
  exact ⟨c, t, r, g _ _ h1, g _ _ h2, h3⟩
theorem PenL.up (h : PenL H p l m) (g : m ≤ n) : PenL H p l n := by
  obtain ⟨c, t, r, h1, h2, h3, h4, h5, h6⟩ := h
  exact ⟨c, t, r, h1, h2, h3, h4, by omega, h6⟩
theorem PenL.lst (h : PenL H p l n) : ∃ xs, H p = some (.lst xs) := by
  obtain ⟨c, t, r, h1, h2, h3⟩ := h
  exact ⟨_, h1⟩
theorem PenL.fresh (h : PenL H p l n) (q : H b = none) : b ≠ p := by
  obtain ⟨xs, e⟩ := h.lst
  rintro rfl
  rw [e] at q
  cases q
theorem PenL.freshL (h : PenL H p l n) (q : H b = none) : b ≠ l := by
  obtain ⟨c, t, r, h1, h2, h3⟩ := h
  rintro rfl
  rw [h2] at q
  cases q
theorem PenL.upd {o : HO} (h : PenL H p l n) (h1 : b ≠ p) (h2 : b ≠ l) : PenL (L2.upd H b o) p l n := by
  obtain ⟨c, t, r, e1, e2, e3⟩ := h
  exact ⟨c, t, r, by rw [upd_ne h1.symm]; exact e1, by rw [upd_ne h2.symm]; exact e2, e3⟩
end
def spPenL (K : PySem.W.Frag) : Sp := fun vs H Q _ => match vs with
  | [.ref a] => ∃ ns : List Int, SqL K H a (ns.map V.int) ∧ ∀ p l H', PenL H' p l 0 → Grow H H' → H p = none → Q (.ref p) H'
  | _ => False
def spDrawL : Sp := fun vs H Q _ => match vs with
  | [.ref p, .int many] => ∃ (l : Addr) (n : Nat), PenL H p l n ∧ n ≤ 999999 ∧ 0 < many ∧ many.natAbs.log2 < 9000 ∧ ∀ (d : Int) (H' : Hp), 0 ≤ d → d < many → PenL H' p l (n + 1) → Keep p H H' → Q (.int d) H'
  | _ => False
def spPickL : Sp := fun vs H Q _ => match vs with
  | [.ref p, .ref s] => ∃ (l : Addr) (n : Nat) (xs : List V), PenL H p l n ∧ n ≤ 999999 ∧ H s = some (.lst xs) ∧ s ≠ p ∧ xs ≠ [] ∧ xs.length ≤ 100000 ∧ ∀ (x : V) (H' : Hp), x ∈ xs → PenL H' p l (n + 1) → Keep p H H' → Q x H'
  | _ => False
/-- a comprehension with draws: values of a kind P, c draws a turn -/
theorem lc_pen {J : It} {H1 : Hp} {n m : Nat} {p l : Addr} {xs : Nat → V} {i : Nat} {te : TE} {σ : L2.St} {Q : VK} (P : V → Prop) (c : Nat) (hp : PenL H1 p l m)
    (hgo : ∀ H, Keep p H1 H → ∀ j, j < n → J.go j H) (hyld : ∀ H, Keep p H1 H → ∀ j, j < n → ∀ x H', J.yld j H x H' → H' = H ∧ x = xs j) (hstop : ∀ H, Keep p H1 H → J.stop n H) (hn : n ≤ sizeLine)
    (he : ∀ j, j < n → ∀ H', PenL H' p l (m + c * j) → Keep p H1 H' → ∀ R : VK, (∀ v H2, P v → PenL H2 p l (m + c * (j + 1)) → Keep p H' H2 → R v H2) → te ((wipe σ [i]).set i (some (xs j))) H' R)
    (k : ∀ D H' vs, vs.length = n → (∀ v ∈ vs, P v) → PenL H' p l (m + c * n) → Keep p H1 H' → H1 D = none → H' D = some (.lst vs) → Q (.ref D) H')
    (hw : ∀ x, wipe ((wipe σ [i]).set i (some x)) [i] = wipe σ [i]) : LcJ (gName i) tYes te [i] σ Q J H1 := by
  intro D hD
  have hDp : D ≠ p := hp.fresh hD
  have hDl : D ≠ l := hp.freshL hD
  have g0 : ∀ {H : Hp} {o : HO}, Keep p H1 H → Keep p H1 (upd H D o) := fun {H o} g b u nb e => by
    rw [upd_ne (fun z => by rw [z, hD] at e; cases e)]; exact g b u nb e
  refine ⟨fun j q H' => j ≤ n ∧ q = n - j ∧ PenL H' p l (m + c * j) ∧ Keep p H1 H' ∧ ∃ vs, vs.length = j ∧ (∀ v ∈ vs, P v) ∧ H' D = some (.lst vs),
    ⟨_, Nat.zero_le _, rfl, (hp.up (by omega)).upd hDp hDl, g0 .refl, [], rfl, fun v hv => (List.not_mem_nil hv).elim, upd_same⟩, ?_⟩
  rintro j q H' ⟨hj, hq, hp', kp, vs, hl, hv, hd⟩
  by_cases e : j = n
  · subst e
    exact .inl ⟨hstop _ kp, k D H' vs hl hv hp' kp hD hd⟩
  · have hj' : j < n := by omega
    refine .inr ⟨hgo _ kp _ hj', fun H'' => PenL H'' p l (m + c * (j + 1)) ∧ Keep p H1 H'' ∧ ∃ vs, vs.length = j + 1 ∧ (∀ v ∈ vs, P v) ∧ H'' D = some (.lst vs), fun H'' z => ⟨n - (j + 1), by omega, by omega, rfl, z⟩, ?_⟩
    intro x H'' y
    obtain ⟨rfl, rfl⟩ := hyld _ kp _ hj' x H'' y
    refine ⟨hw _, ?_⟩
    simp only [tYes, if_true]
    refine he j hj' _ hp' kp _ fun v H2 hP hp2 k2 => ?_
    refine ⟨vs, k2 _ _ hDp hd, by omega, hp2.upd hDp hDl, g0 (kp.trans k2), vs ++ [v], by rw [List.length_append, hl]; rfl, ?_, upd_same⟩
    intro u hu
    rcases List.mem_append.mp hu with hu | hu
    · exact hv u hu
    · rw [List.mem_singleton] at hu
      subst hu
      exact hP
theorem keep_rng {p : Addr} {H1 : Hp} {lo : Int} {n : Nat} : (∀ H, Keep p H1 H → ∀ j, j < n → (Itr lo n).go j H) ∧ (∀ H, Keep p H1 H → ∀ j, j < n → ∀ x H', (Itr lo n).yld j H x H' → H' = H ∧ x = (fun j : Nat => V.int (lo + j)) j) ∧ ∀ H, Keep p H1 H → (Itr lo n).stop n H :=
  ⟨fun _ _ _ h => h, fun _ _ _ _ _ _ h => h, fun _ _ => Nat.le_refl _⟩
end HG

/-! Static methods, called off the class. -/
namespace HG
open PySem L2 PyProof.Rows
structure SMet (K : PySem.W.Frag) (C : Addr) (m : Str) (p g : Addr) : Prop where
  rd : ∃ mc, PySem.W.readsIn K C mc = true ∧ PySem.W.findCls K (.ref C) mc m = some (.get (.builtin "staticmethod.__get__") (.ref p) .none (.ref C))
  ga : PySem.W.specialIn K (.ref C) "__getattribute__" = some (some (.builtin "type.__getattribute__"))
  rc : ∃ rest, PySem.W.recIn K p "staticmethod" = some (.ref g :: rest)
  kp : PySem.W.keepIn K (.ref g) = true
def tSMeth (C : Addr) (sp : Sp) (dvs : List V) (E : XK) (ta : TE) (t : TA) : TE := fun σ H Q => ta σ H fun x H1 => x = .ref C ∧ t σ H1 fun vs H2 => sp (vs ++ dvs) H2 Q E
section
variable {X : Cx} {CX : CXT} {k : Nat} {f C p' : Addr} {fd : FuncData} {ps : List Str} {sp : Sp} {dvs : List V} {ds : List Value} {E : XK} {m : Str} {pos apos : Pos} {e o : Expr} {es : List Expr} {ta : TE} {t : TA} {pl : Sem Bool}
theorem getsm_ok {pins : List (Addr × Obj)} {σ : L2.St} {H : Hp} {s : Shared} {Q : Value × List Value → Shared → Prop} {E : Value → Shared → Prop} (I : Inv X pins σ H s) (M : SMet X.K C m p' f) (h : Q (.ref f, []) { s with toks := s.toks + 1 }) :
    wpAny (model X.prog X.w) X.A (getMethod (.ref C) m pl) Q E s := by
  obtain ⟨mc, hr, he⟩ := M.rd
  obtain ⟨rest, hp⟩ := M.rc
  exact PySem.W.method_cls I.kIn M.ga (PySem.W.cls_bind I.kIn hr he (wpAny_call (PySem.W.sm_get (s := { s with toks := s.toks + 1 }) I.kIn hp (PySem.W.handed_on rfl h))))
theorem pe_smethG (he : PE X o ta) (M : SMet X.K C m p' f) (F : FnG X.prog X.w X.K X.mg X.base CX k f fd ps sp) (hr : Room k X.A) (hG : GA X.A) (hb : Binds X.K fd ps ds) (hd : Vals dvs ds) (hx : Passes CX X E) (ha : PA X (e :: es) t)
    (hst : starEach (e :: es) X.env = (false, eval e X.env) :: starEach es X.env := by rfl) (hpl : (backTo pos (starEach es X.env)).any (·.1) = false := by rfl)
    (ht : eval (.Call (.Attribute o m apos) (e :: es) [] pos) X.env = (do
      let ov ← eval o X.env
      standAt apos.atName
      let (f, first) ← holding [ov] (getMethod ov m pl)
      callWith pos f first (backTo pos (starEach (e :: es) X.env)) (backToKw pos (keywordEach [] X.env))) := by rfl) :
    PE X (.Call (.Attribute o m apos) (e :: es) [] pos) (tSMeth C sp dvs E ta t) := by
  refine ⟨fun pins s σ H Q I h => PySem.W.methodCall_KW (pl := pl) (thn (he.run pins s σ H _ I h) fun u s1 z => ?_) ht⟩
  obtain ⟨v, H1, I1, rx, rfl, q⟩ := z
  cases rx
  have I2 := I1.tok (s1.toks + 1)
  refine getsm_ok I1 M (PySem.W.callWith_K (first := []) (h₀ := X.base) I.ok.mod.kin M.kp (thn (ha.run pos pins _ σ H1 _ I2 q) fun us s2 z => ?_) hst hpl)
  obtain ⟨vs, H2, I3, r, q2⟩ := z
  exact ⟨I3.kIn, runG (us := us) (vs := vs) F hr hG hb hd hx I3 r q2⟩
theorem pe_smethG0 (he : PE X o ta) (M : SMet X.K C m p' f) (F : FnG X.prog X.w X.K X.mg X.base CX k f fd ps sp) (hr : Room k X.A) (hG : GA X.A) (hb : Binds X.K fd ps ds) (hd : Vals dvs ds) (hx : Passes CX X E)
    (ht : eval (.Call (.Attribute o m apos) [] [] pos) X.env = (do
      let ov ← eval o X.env
      standAt apos.atName
      let (f, first) ← holding [ov] (getMethod ov m pl)
      callWith pos f first (backTo pos (starEach [] X.env)) (backToKw pos (keywordEach [] X.env))) := by rfl) :
    PE X (.Call (.Attribute o m apos) [] [] pos) (tSMeth C sp dvs E ta tNil) := by
  refine ⟨fun pins s σ H Q I h => PySem.W.methodCall_KW (pl := pl) (thn (he.run pins s σ H _ I h) fun u s1 z => ?_) ht⟩
  obtain ⟨v, H1, I1, rx, rfl, q⟩ := z
  cases rx
  have I2 := I1.tok (s1.toks + 1)
  exact getsm_ok I1 M (PySem.W.callWith_K0 I2.kIn M.kp (runG (us := []) (vs := []) F hr hG hb hd hx I2 .nil q))
/-- o.m(), no values -/
theorem pe_methG0 (he : PE X o ta) (c : Cls X.K C) (hm : Meth X.K C m f) (F : FnG X.prog X.w X.K X.mg X.base CX k f fd ps sp) (hr : Room k X.A) (hG : GA X.A) (hb : Binds X.K fd ps ds) (hd : Vals dvs ds) (hx : Passes CX X E)
    (ht : eval (.Call (.Attribute o m apos) [] [] pos) X.env = (do
      let ov ← eval o X.env
      standAt apos.atName
      let (f, first) ← holding [ov] (getMethod ov m pl)
      callWith pos f first (backTo pos (starEach [] X.env)) (backToKw pos (keywordEach [] X.env))) := by rfl) :
    PE X (.Call (.Attribute o m apos) [] [] pos) (tMeth C m sp dvs E ta tNil) := by
  refine ⟨fun pins s σ H Q I h => PySem.W.methodCall_KW (pl := pl) (thn (he.run pins s σ H _ I h) fun u s1 z => ?_) ht⟩
  obtain ⟨v, H1, I1, rx, a, dx, fs, rfl, ea, l, q⟩ := z
  cases rx
  exact getmeth_ok I1 ea c hm l (PySem.W.callWith_K0 I1.kIn hm.kp (runG (us := [.ref a]) (vs := [.ref a]) F hr hG hb hd hx I1 (.cons rfl .nil) q))
end
end HG

/-! Sequences by evidence: tracked lists and tuples, tuples of the written part. -/
namespace HG
open PySem L2
inductive Sq (K : PySem.W.Frag) (H : Hp) (p : Addr) (xs : List V) : Prop where
  | l (h : H p = some (.lst xs)) : Sq K H p xs
  | t (h : H p = some (.tup xs)) : Sq K H p xs
  | k (o : Obj) (its : Array Value) (n : Nat) (h : K.lookup p = some o) (c : o.cls = .type "tuple") (d : o.data = .seq its n) (z : its.size ≤ sizeLine) (r : Vals xs its.toList) : Sq K H p xs
inductive St (K : PySem.W.Frag) (H : Hp) (p : Addr) (xs : List V) : Prop where
  | t (h : H p = some (.tup xs)) : St K H p xs
  | k (o : Obj) (its : Array Value) (n : Nat) (h : K.lookup p = some o) (c : o.cls = .type "tuple") (d : o.data = .seq its n) (z : its.size ≤ sizeLine) (r : Vals xs its.toList) : St K H p xs
section
variable {K : PySem.W.Frag} {H H' : Hp} {p : Addr} {xs : List V} {Q : VK}
theorem St.sq (h : St K H p xs) : Sq K H p xs := by
  cases h with
  | t h => exact .t h
  | k o its n h c d z r => exact .k o its n h c d z r
theorem Sq.grow (h : Sq K H p xs) (g : Grow H H') : Sq K H' p xs := by
  cases h with
  | l h => exact .l (g _ _ h)
  | t h => exact .t (g _ _ h)
  | k o its n h c d z r => exact .k o its n h c d z r
theorem St.grow (h : St K H p xs) (g : Grow H H') : St K H' p xs := by
  cases h with
  | t h => exact .t (g _ _ h)
  | k o its n h c d z r => exact .k o its n h c d z r
theorem St.sqT (h : St K H p xs) : SqT K H p xs := by
  cases h with
  | t h => exact SqT.of h
  | k o its n h c d z r => exact .inr ⟨o, its, n, h, c, d, z, r⟩
theorem Sq.or (h : Sq K H p xs) : SqL K H p xs ∨ SqT K H p xs := by
  cases h with
  | l h => exact .inl (SqL.of h)
  | t h => exact .inr (SqT.of h)
  | k o its n h c d z r => exact .inr (.inr ⟨o, its, n, h, c, d, z, r⟩)
theorem Sq.ty (h : Sq K H p xs) : ∃ t, TyX K H (.ref p) t ∧ PySem.W.kitAny K t [.type "list", .type "tuple"] = some true := by
  cases h with
  | l h => exact ⟨_, .base (.lst h), kitLT_l⟩
  | t h => exact ⟨_, .base (.tup h), kitLT_t⟩
  | k o its n h c d z r => exact ⟨_, .kTuple h c, kitLT_t⟩
/-! readings by evidence -/
def cLenE (K : PySem.W.Frag) : List V → Hp → VK → Prop := fun xs H Q => ∃ p ys, xs = [.ref p] ∧ (SqL K H p ys ∨ SqT K H p ys) ∧ Q (.int ys.length) H
theorem call_lenE {X : Cx} : CallR X (.builtin "len") (cLenE X.K) := call_len_seq
theorem lenE (h : Sq K H p xs) (k : Q (.int xs.length) H) : cLenE K [.ref p] H Q := ⟨p, xs, rfl, h.or, k⟩
theorem ixE {i : Int} {v : V} (h : Sq K H p xs) (e : atI xs i = some v) (k : Q v H) : rIx K (.ref p) (.int i) H Q := by
  rcases h.or with h | h
  · exact .inl ⟨p, xs, i, v, rfl, rfl, h, e, k⟩
  · exact .inr (.inl ⟨p, xs, i, v, rfl, rfl, h, e, k⟩)
theorem isiE {tp : Addr} (h : Sq K H p xs) (ht : H tp = some (.tup [.ty "list", .ty "tuple"])) (k : Q (.bl true) H) : rIsiT K [.ref p, .ref tp] H Q := by
  obtain ⟨t, h1, h2⟩ := h.ty
  exact ⟨_, tp, _, t, _, true, rfl, ht, .cons (.ty _) (.cons (.ty _) .nil), h1, h2, k⟩
def cTupE (K : PySem.W.Frag) : List V → Hp → VK → Prop := fun xs H Q => ∃ p ys, xs = [.ref p] ∧ ((SqL K H p ys ∧ ∀ l, H l = none → Q (.ref l) (upd H l (.tup ys))) ∨ (SqT K H p ys ∧ Q (.ref p) H))
theorem call_tupE {X : Cx} : CallR X (.type "tuple") (cTupE X.K) := call_tuple_of
/-- tuple(x): a tuple with these items, the same or new -/
theorem tupE (h : Sq K H p xs) (k : ∀ q H', Grow H H' → St K H' q xs → Q (.ref q) H') : cTupE K [.ref p] H Q := by
  cases h with
  | l h => exact ⟨p, xs, rfl, .inl ⟨SqL.of h, fun l hl => k l _ (Grow.new hl) (.t upd_same)⟩⟩
  | t h => exact ⟨p, xs, rfl, .inr ⟨SqT.of h, k p H .refl (.t h)⟩⟩
  | k o its n h c d z r => exact ⟨p, xs, rfl, .inr ⟨.inr ⟨o, its, n, h, c, d, z, r⟩, k p H .refl (.k o its n h c d z r)⟩⟩
theorem jok_sq {a : Addr} {H1 : Hp} {R : It → Hp → Prop} (h : Sq K H1 a xs) (k : ∀ J, JOk J H1 xs.length (fun j => xs.getD j .non) → R J H1) : ∃ a', V.ref a = .ref a' ∧ (((∃ xs, SqL K H1 a' xs) ∧ R (Itl K a') H1) ∨ ((∃ xs, SqT K H1 a' xs) ∧ R (Itt K a') H1)) := by
  refine ⟨a, rfl, ?_⟩
  cases h with
  | l h => exact .inl ⟨⟨_, SqL.of h⟩, k _ (jok_lst h)⟩
  | t h => exact .inr ⟨⟨_, SqT.of h⟩, k _ (jok_tup h)⟩
  | k o its n h c d z r =>
    have sq : ∀ H, SqT K H a xs := fun H => .inr ⟨o, its, n, h, c, d, z, r⟩
    refine .inr ⟨⟨_, sq _⟩, k _ ⟨fun H g j hj => ⟨xs, _, sq H, List.getElem?_eq_getElem hj⟩, fun H g j hj x H' y => ⟨y.1, ?_⟩, fun H g => ⟨xs, sq H, Nat.le_refl _⟩⟩⟩
    have e := y.2 xs (sq H)
    rw [List.getD_eq_getElem?_getD, e]
    rfl
end
/-! ### numbers or None -/
def oV : Option Int → V
  | none => .non
  | some i => .int i
section
variable {K : PySem.W.Frag} {H : Hp} {Q : VK}
theorem oIs_oV {o : Option Int} : oIs (oV o) .non H Q = Q (.bl o.isNone) H := by cases o <;> rfl
theorem oIsNot_oV {o : Option Int} : oIsNot (oV o) .non H Q = Q (.bl o.isSome) H := by cases o <;> rfl
def eqO (a b : Option Int) : Bool := decide (a = b)
theorem oEq_oV {a b : Option Int} : oEq K (oV a) (oV b) H Q = Q (.bl (decide (a = b))) H ∨ (Q (.bl (decide (a = b))) H → oEq K (oV a) (oV b) H Q) := by
  right
  intro h
  cases a with
  | none =>
    cases b with
    | none => exact ⟨rfl, rfl, h⟩
    | some j => exact ⟨rfl, rfl, h⟩
  | some i =>
    cases b with
    | none => exact ⟨rfl, rfl, h⟩
    | some j =>
      show Q (.bl (decide (i = j))) H
      have e : decide (some i = some j) = decide (i = j) := decide_eq_decide.mpr ⟨fun z => Option.some.inj z, fun z => by rw [z]⟩
      rw [e] at h
      exact h
theorem eqE {a b : Option Int} (h : Q (.bl (decide (a = b))) H) : oEq K (oV a) (oV b) H Q := (oEq_oV (K := K) (H := H) (Q := Q)).elim (fun e => e ▸ h) (fun f => f h)
theorem data_oV {n : Nat} {o : Option Int} : dataF n H (oV o) = some (match o with | none => .none | some i => .int i) := by
  cases o <;> cases n <;> rfl
end
end HG
namespace HG
open PySem L2
section
variable {K : PySem.W.Frag} {H : Hp} {Q : VK} {p : Addr} {xs : List V}
theorem tupL (h : H p = some (.lst xs)) (k : ∀ l H', Grow H H' → H' l = some (.tup xs) → Q (.ref l) H') : cTupE K [.ref p] H Q :=
  ⟨p, xs, rfl, .inl ⟨SqL.of h, fun l hl => k l _ (Grow.new hl) upd_same⟩⟩
def oD : Option Int → PyData
  | none => .none
  | some i => .int i
theorem dataF_oV {n : Nat} {o : Option Int} : dataF n H (oV o) = some (oD o) := by cases o <;> cases n <;> rfl
theorem dataL_oVs {n : Nat} : ∀ os : List (Option Int), dataL (dataF n H) (os.map oV) = some (os.map oD)
  | [] => rfl
  | o :: r => by
    show (match dataF n H (oV o) with | some d => (match dataL (dataF n H) (r.map oV) with | some ds => some (d :: ds) | none => none) | none => none) = _
    rw [dataF_oV, dataL_oVs r]
    rfl
theorem shape_oVs : ∀ os : List (Option Int), PyData.canLayAll0 (os.map oD) = true ∧ PyData.depthAll (os.map oD) = 0
  | [] => ⟨rfl, rfl⟩
  | o :: r => by
    obtain ⟨h1, h2⟩ := shape_oVs r
    constructor
    · show (PyData.canLay0 (oD o) && PyData.canLayAll0 (r.map oD)) = true
      rw [h1]
      cases o <;> rfl
    · show max (PyData.depth (oD o)) (PyData.depthAll (r.map oD)) = 0
      rw [h2]
      cases o <;> rfl
theorem shaped_oVs (os : List (Option Int)) : SeqAt.shaped (.list (os.map oD)) = true ∧ SeqAt.shaped (.tuple (os.map oD)) = true := by
  obtain ⟨h1, h2⟩ := shape_oVs os
  constructor
  · show (PyData.canLayAll0 (os.map oD) && decide (PyData.depthAll (os.map oD) + 1 ≤ 64)) = true
    rw [h1, h2]; rfl
  · show (PyData.canLayAll0 (os.map oD) && decide (PyData.depthAll (os.map oD) + 1 ≤ 64)) = true
    rw [h1, h2]; rfl
theorem dataF_lst {n : Nat} {os : List (Option Int)} (h : H p = some (.lst (os.map oV))) : dataF (n + 1) H (.ref p) = some (.list (os.map oD)) := by
  simp only [dataF, h]
  rw [dataL_oVs]
  rfl
theorem dataF_tup {n : Nat} {os : List (Option Int)} (h : H p = some (.tup (os.map oV))) : dataF (n + 1) H (.ref p) = some (.tuple (os.map oD)) := by
  simp only [dataF, h]
  rw [dataL_oVs]
  rfl
theorem any_none : ∀ os : List (Option Int), ((os.map oD).any fun z => PyData.eqv z .none) = os.any (·.isNone)
  | [] => rfl
  | o :: r => by
    show (PyData.eqv (oD o) .none || (r.map oD).any fun z => PyData.eqv z .none) = (o.isNone || r.any (·.isNone))
    rw [any_none r]
    cases o <;> rfl
/-- None in a list of numbers and Nones -/
theorem inNone {os : List (Option Int)} (h : H p = some (.lst (os.map oV))) (k : Q (.bl (os.any (·.isNone))) H) : oIn K .non (.ref p) H Q := by
  have e1 : dataF 8 H (.ref p) = some (.list (os.map oD)) := dataF_lst h
  have e2 : dataF 8 H .non = some .none := rfl
  simp only [oIn, e1, e2]
  exact ⟨rfl, (shaped_oVs os).1, by rw [any_none]; exact k⟩
end
end HG

/-! x[i], v in x, str(x) by a class's own methods. -/
namespace HG
open PySem L2 PyProof.Rows
structure Own2 (X : Cx) (k : Nat) (f : Addr) (sp : Sp) : Prop where
  run : ∀ {pins : List (Addr × Obj)} {σ : L2.St} {H : Hp} {s : Shared} {Q : VK} {us : List Value} {vs : List V}, Inv X pins σ H s → Vals vs us → sp vs H Q E0 → wpAny (model X.prog X.w) X.A.in1.in1 (call (.ref f) us) (EP X pins σ Q) X.xe s
section
variable {X : Cx} {CX : CXT} {k : Nat} {f C : Addr} {fd : FuncData} {ps : List Str} {sp : Sp} {ta tb : TE} {a b : Expr} {pos : Pos}
theorem own2G (F : FnG X.prog X.w X.K X.mg X.base CX k f fd ps sp) (hr : Room (k + 2) X.A) (hG : GA X.A) (hb : Binds X.K fd ps []) (hx : Passes CX X E0) : Own2 X k f sp :=
  ⟨fun {pins σ H s Q us vs} I r h => by
    have hl : us.length = ps.length := r.length.symm.trans (F.len _ _ _ _ h)
    have hl' : (us ++ []).length = ps.length := by rw [List.append_nil]; exact hl
    have hb' := hb s us I.kIn hl'
    rw [List.append_nil] at hb'
    exact wpAny_call (codeAny_mono (F.run X.A.in1.in1 X.stack s H ⟨us, []⟩ us vs Q E0 hr.in1.in1 (ga_in1 (ga_in1 hG)) I.env0.in1.in1 hb' r h) fun r s' hq => behind hx I hq)⟩
/-- x[i] -/
structure IxF (K : PySem.W.Frag) (C f : Addr) : Prop where
  fn : PySem.W.findIn K (.ref C) "__getitem__" = some (some (.ref f))
  fi : PySem.W.fnIn K f = true
  isf : PySem.W.isFn K (.ref f) = true
def rIxO (C : Addr) (sp : Sp) : R2 := fun x y H Q => isIns C H x ∧ sp [x, y] H Q E0
theorem pe_ixO (B : IxF X.K C f) (O : Own1 X k f sp) (ha : PE X a ta) (hb : PE X b tb) (hs : ∀ (x : Addr) (i : Value), subscripted b true (.ref x) i = runValue (.builtin "lifetime.subscript" ⟨[.ref x, i], []⟩)) : PE X (.Subscript a b pos) (tOp (rIxO C sp) ta tb) := by
  refine ⟨fun pins s σ H Q I h => ?_⟩
  refine Subscript_ (binT ha hb I h fun v u s2 x y H2 I2 rx ry q => ?_)
  obtain ⟨h1, h3⟩ := q
  obtain ⟨p, dx, fs, rfl, ea⟩ := isIns_out h1
  cases rx
  obtain ⟨mA, J, _⟩ := ins_get I2.hok ea
  obtain ⟨od, J, _⟩ := J.look
  obtain ⟨m, hF⟩ := I2.fr
  exact PySem.W.sub_K hF I2.ok.mod.kin J B.fn B.fi B.isf (O.run (vs := [.ref p, y]) I2 (.cons rfl (.cons ry .nil)) h3) (hs _ _)
/-- v in x -/
structure InF (K : PySem.W.Frag) (C f : Addr) : Prop where
  fn : PySem.W.findIn K (.ref C) "__contains__" = some (some (.ref f))
  isf : PySem.W.isFn K (.ref f) = true
def rInO (C : Addr) (sp : Sp) : R2 := fun x y H Q => isIns C H y ∧ sp [y, x] H (fun v H' => ∃ b, v = .bl b ∧ Q (.bl b) H') E0
theorem op_inO (B : InF X.K C f) (O : Own X k f sp) : OpR X (compareOp .In) (rInO C sp) := by
  intro pins s σ H x y v u Q I rx ry h
  obtain ⟨h1, h3⟩ := h
  obtain ⟨p, dx, fs, rfl, ea⟩ := isIns_out h1
  cases ry
  obtain ⟨mA, J, _⟩ := ins_get I.hok ea
  obtain ⟨od, J, _⟩ := J.look
  obtain ⟨m, hF⟩ := I.fr
  refine PySem.W.in_K hF I.ok.mod.kin J B.fn B.isf (thn (O.run (vs := [.ref p, x]) I (.cons rfl (.cons rx .nil)) h3) fun r s' z => ?_)
  obtain ⟨w, H', I', rw', b, rfl, q⟩ := z
  cases rw'
  exact wpAny_of_eq (a := b) rfl ⟨.bl b, H', I', rfl, q⟩
def rNotInO (C : Addr) (sp : Sp) : R2 := fun x y H Q => isIns C H y ∧ sp [y, x] H (fun v H' => ∃ b, v = .bl b ∧ Q (.bl (!b)) H') E0
theorem op_notInO (B : InF X.K C f) (O : Own X k f sp) : OpR X (compareOp .NotIn) (rNotInO C sp) := by
  intro pins s σ H x y v u Q I rx ry h
  obtain ⟨h1, h3⟩ := h
  obtain ⟨p, dx, fs, rfl, ea⟩ := isIns_out h1
  cases ry
  obtain ⟨mA, J, _⟩ := ins_get I.hok ea
  obtain ⟨od, J, _⟩ := J.look
  obtain ⟨m, hF⟩ := I.fr
  refine PySem.W.notIn_K hF I.ok.mod.kin J B.fn B.isf (thn (O.run (vs := [.ref p, x]) I (.cons rfl (.cons rx .nil)) h3) fun r s' z => ?_)
  obtain ⟨w, H', I', rw', b, rfl, q⟩ := z
  cases rw'
  exact wpAny_of_eq (a := b) rfl ⟨.bl (!b), H', I', rfl, q⟩
/-- str(x) -/
structure StrF (K : PySem.W.Frag) (C f : Addr) : Prop where
  fn : PySem.W.findIn K (.ref C) "__str__" = some (some (.ref f))
  isf : PySem.W.isFn K (.ref f) = true
def rStrO (C : Addr) (sp : Sp) : List V → Hp → VK → Prop := fun xs H Q => ∃ x, xs = [x] ∧ isIns C H x ∧ sp [x] H (fun v H' => ∃ z, v = .str z ∧ Q (.str z) H') E0
theorem call_strO (B : StrF X.K C f) (O : Own2 X k f sp) (hu : X.A.in1.in1.units < cLine) : CallR X (.type "str") (rStrO C sp) := by
  intro pins s σ H xs us Q I rx h
  obtain ⟨x, rfl, h1, h3⟩ := h
  obtain ⟨p, dx, fs, rfl, ea⟩ := isIns_out h1
  cases rx with
  | cons r1 r2 =>
    cases r2
    cases r1
    obtain ⟨mA, J, _⟩ := ins_get I.hok ea
    obtain ⟨od, J, _⟩ := J.look
    refine PySem.W.kso_call hu I.kIn J B.fn B.isf (thn (O.run (vs := [.ref p]) I (.cons rfl .nil) h3) fun r s' z => ?_)
    obtain ⟨w, H', I', rw', z, rfl, q⟩ := z
    obtain ⟨t, rfl⟩ := rw'
    exact ⟨.str z, H', I', ⟨_, rfl⟩, q⟩
theorem _root_.L2.Room.units2 {k : Nat} {A : Around} (r : Room k A) : A.in1.in1.units < cLine := by
  have := r.un
  show A.units + 1 + 1 < cLine
  omega
end
end HG
namespace HG
open PySem L2
/-- a tracked list or tuple -/
inductive Sr (H : Hp) (p : Addr) (xs : List V) : Prop where
  | l (h : H p = some (.lst xs)) : Sr H p xs
  | t (h : H p = some (.tup xs)) : Sr H p xs
section
variable {K : PySem.W.Frag} {H H' : Hp} {p : Addr} {xs : List V} {Q : VK}
theorem Sr.sq (h : Sr H p xs) : Sq K H p xs := by
  cases h with
  | l h => exact .l h
  | t h => exact .t h
theorem Sr.grow (h : Sr H p xs) (g : Grow H H') : Sr H' p xs := by
  cases h with
  | l h => exact .l (g _ _ h)
  | t h => exact .t (g _ _ h)
theorem tupR (h : Sr H p xs) (k : ∀ q H', Grow H H' → H' q = some (.tup xs) → Q (.ref q) H') : cTupE K [.ref p] H Q := by
  cases h with
  | l h => exact ⟨p, xs, rfl, .inl ⟨SqL.of h, fun l hl => k l _ (Grow.new hl) upd_same⟩⟩
  | t h => exact ⟨p, xs, rfl, .inr ⟨SqT.of h, k p H .refl h⟩⟩
end
end HG
namespace HG
open PySem L2
/-! folded readings: str of a number or a text, join, append, list -/
def cStr (K : PySem.W.Frag) : List V → Hp → VK → Prop := fun xs H Q => match xs with
  | [.int i] => i.natAbs.log2 < 1920 ∧ Q (.str (toString i)) H
  | [.str a] => Q (.str a) H
  | _ => False
section
variable {X : Cx}
theorem call_strU : CallR X (.type "str") (cStr X.K) := callImp (call_str_int.or SkE.call_str_str) fun xs H Q h => by
  unfold cStr at h
  split at h
  · exact .inl ⟨_, rfl, h.1, h.2⟩
  · exact .inr ⟨_, rfl, h⟩
  · exact h.elim
/-- str of what stands: an instance, or else -/
def cStrO (K : PySem.W.Frag) (C : Addr) (sp : Sp) : List V → Hp → VK → Prop := fun xs H Q => match xs with
  | [.ref a] => rStrO C sp [.ref a] H Q
  | xs => cStr K xs H Q
theorem call_strB {k : Nat} {C f : Addr} {sp : Sp} (B : StrF X.K C f) (O : Own2 X k f sp) (hu : X.A.in1.in1.units < cLine) : CallR X (.type "str") (cStrO X.K C sp) := callImp ((call_strO B O hu).or call_strU) fun xs H Q h => by
  unfold cStrO at h
  split at h
  · exact .inl h
  · exact .inr h
def cListE (K : PySem.W.Frag) : List V → Hp → VK → Prop := fun xs H Q => cList K xs H Q
theorem call_listE : CallR X (.type "list") (cListE X.K) := call_listU
def stE : V → V → V → Hp → (Hp → Prop) → Prop := fun o i v H Q => stL o i v H Q
theorem set_E : PSet X stE := set_U
def rJoinE (K : PySem.W.Frag) : V → List V → Hp → VK → Prop := fun x xs H Q => ∃ a p, ∃ ys : List Str, x = .str a ∧ xs = [.ref p] ∧ (SqL K H p (ys.map V.str) ∨ SqT K H p (ys.map V.str)) ∧ (ys.map (·.length)).sum + ys.length * a.length ≤ 16777216 ∧ Q (.str (Txt.join a ys)) H
def tJoin (K : PySem.W.Frag) (to te : TE) : TE := tM1 (rJoinE K) to te
theorem pe_joinF {o e : Expr} {to te : TE} {apos pos : Pos} (ho : PE X o to) (he : PE X e te) (hs : starEach [e] X.env = [(false, eval e X.env)] := by rfl) (hbase : attributeBase o "join" X.env (eval o X.env) = eval o X.env := by rfl) (hline : (apos.endLine == pos.line) = true := by rfl) :
    PE X (.Call (.Attribute o "join" apos) [e] [] pos) (tJoin X.K to te) := pe_join ho he hs hbase hline
end
section
variable {K : PySem.W.Frag} {H : Hp} {p : Addr} {xs : List V} {Q : VK}
theorem joinE {a : Str} {ys : List Str} (h : Sr H p (ys.map V.str)) (hz : (ys.map (·.length)).sum + ys.length * a.length ≤ 16777216) (k : Q (.str (Txt.join a ys)) H) : rJoinE K (.str a) [.ref p] H Q := by
  cases h with
  | l h => exact ⟨a, p, ys, rfl, rfl, .inl (SqL.of h), hz, k⟩
  | t h => exact ⟨a, p, ys, rfl, rfl, .inr (SqT.of h), hz, k⟩
theorem listE (h : Sr H p xs) (k : ∀ l, H l = none → Q (.ref l) (upd H l (.lst xs))) : cListE K [.ref p] H Q := by
  show cList K [.ref p] H Q
  rw [cList_ref]
  cases h with
  | l h => rw [rdSeq_lst h]; exact k
  | t h => rw [rdSeq_tup h]; exact k
theorem appE {y : V} (h : H p = some (.lst xs)) (hz : xs.length < sizeLine) (k : Q .non (upd H p (.lst (xs ++ [y])))) : rAppend (.ref p) [y] H Q := ⟨p, xs, y, rfl, rfl, h, hz, k⟩
end
end HG

/-! Growths, plainly: values, normal forms. No program in sight. -/
namespace HG
/-- the value at n of told values and gains -/
def gv (told : List (Option Int)) (gains : List Int) (n : Nat) : Option Int :=
  if n < told.length then told.getD n none
  else (told.getD (n - ((n - told.length) / gains.length + 1) * gains.length) none).map (· + (((n - told.length) / gains.length + 1 : Nat) : Int) * gains.getD (n % gains.length) 0)
section
variable {told : List (Option Int)} {gains : List Int} {n : Nat}
theorem gv_lt (h : n < told.length) : gv told gains n = told.getD n none := if_pos h
theorem gv_rec (hp : 0 < gains.length) (hl : gains.length ≤ told.length) (h : told.length ≤ n) : gv told gains n = (gv told gains (n - gains.length)).map (· + gains.getD (n % gains.length) 0) := by
  have hn : ¬ n < told.length := by omega
  unfold gv
  rw [if_neg hn]
  generalize hL : told.length = L at *
  generalize hP : gains.length = p at *
  by_cases h2 : n - p < L
  · rw [if_pos h2]
    have e : (n - L) / p = 0 := Nat.div_eq_of_lt (by omega)
    rw [e]
    have e2 : n - (0 + 1) * p = n - p := by omega
    rw [e2]
    congr 1
    funext x
    show x + ((0 + 1 : Nat) : Int) * _ = x + _
    rw [Nat.zero_add, Int.natCast_one, Int.one_mul]
  · rw [if_neg h2]
    have e : (n - L) / p = (n - p - L) / p + 1 := by
      have : n - L = (n - p - L) + p := by omega
      rw [this, Nat.add_div_right _ hp]
    have e3 : (n - p) % p = n % p := by
      have : n = (n - p) + p := by omega
      rw [this, Nat.add_mod_right, Nat.add_sub_cancel]
    rw [e, e3]
    generalize (n - p - L) / p + 1 = t
    have e2 : n - (t + 1) * p = n - p - t * p := by rw [Nat.add_mul, Nat.one_mul]; omega
    rw [e2, Option.map_map]
    congr 1
    funext x
    show x + ((t + 1 : Nat) : Int) * _ = x + (t : Int) * _ + _
    rw [Int.natCast_add, Int.natCast_one, Int.add_mul, Int.one_mul, Int.add_assoc]
/-- f is the growth of told and gains -/
structure Gr (told : List (Option Int)) (gains : List Int) (f : Nat → Option Int) : Prop where
  pos : 0 < gains.length
  le : gains.length ≤ told.length
  lo : ∀ n, n < told.length → f n = told.getD n none
  hi : ∀ n, told.length ≤ n → f n = (f (n - gains.length)).map (· + gains.getD (n % gains.length) 0)
theorem gr_gv (hp : 0 < gains.length) (hl : gains.length ≤ told.length) : Gr told gains (gv told gains) := ⟨hp, hl, fun n h => gv_lt h, fun n h => gv_rec hp hl h⟩
theorem Gr.eq {f g : Nat → Option Int} (h : Gr told gains f) (k : Gr told gains g) : ∀ n, f n = g n := by
  intro n
  induction n using Nat.strongRecOn with
  | _ n ih =>
    by_cases hn : n < told.length
    · rw [h.lo n hn, k.lo n hn]
    · rw [h.hi n (by omega), k.hi n (by omega), ih (n - gains.length) (by have := h.pos; have := h.le; omega)]
/-- from the last period of the told values on: a step of one period -/
theorem Gr.step {f : Nat → Option Int} (h : Gr told gains f) (hn : told.length - gains.length ≤ n) : f (n + gains.length) = (f n).map (· + gains.getD (n % gains.length) 0) := by
  have := h.hi (n + gains.length) (by have := h.le; omega)
  rw [Nat.add_sub_cancel, Nat.add_mod_right] at this
  exact this
theorem Gr.none {f : Nat → Option Int} (h : Gr told gains f) (hn : told.length - gains.length ≤ n) : f (n + gains.length) = none ↔ f n = none := by
  rw [h.step hn, Option.map_eq_none_iff]
end
/-! ### steps, gains -/
def stepB : Option Int → Option Int → Option Int
  | none, none => some 0
  | some a, some b => some (b - a)
  | _, _ => none
def stepsOf (row : List (Option Int)) (p : Nat) : List (Option Int) := (List.range (row.length - p)).map fun i => stepB (row.getD i none) (row.getD (i + p) none)
def gainsOf (row : List (Option Int)) (origin p : Nat) : Option (List Int) :=
  if (stepsOf row p).any (·.isNone) = true ∨ ¬ (((List.range (stepsOf row p).length).map fun i => decide ((stepsOf row p).getD i none = (stepsOf row p).getD (i % p) none)).all id = true) then none
  else some ((List.range p).map fun r : Nat => ((stepsOf row p).getD (((r : Int) - (origin : Int)) % (p : Int)).toNat none).getD 0)
def leastG (row : List (Option Int)) (origin p : Nat) : Option (List Int) :=
  match (List.range (p - 1)).findSome? fun i => if p % (i + 1) = 0 then gainsOf row origin (i + 1) else none with
  | some g => some g
  | none => gainsOf row origin p
def trimN (told : List (Option Int)) (gains : List Int) : Nat → Nat
  | 0 => 0
  | m + 1 => if gains.length < m + 1 ∧ told.getD m none = (told.getD (m - gains.length) none).map (· + gains.getD (m % gains.length) 0) then trimN told gains m else m + 1
def rowOf (told : List (Option Int)) (gains : List Int) : List (Option Int) := (List.range (3 * gains.length)).map fun i => gv told gains (told.length + i)
def nfG (told : List (Option Int)) (gains : List Int) : List Int := (leastG (rowOf told gains) told.length gains.length).getD []
def nfT (told : List (Option Int)) (gains : List Int) : List (Option Int) := told.take (trimN told (nfG told gains) told.length)
section
variable {told : List (Option Int)} {gains : List Int} {f : Nat → Option Int}
/-! ### trimming keeps the values -/
theorem trimN_le : ∀ m, trimN told gains m ≤ m
  | 0 => Nat.le_refl _
  | m + 1 => by
    unfold trimN
    split
    · exact Nat.le_succ_of_le (trimN_le m)
    · exact Nat.le_refl _
theorem getD_take {α : Type} {l : List α} {m n : Nat} {d : α} (h : n < m) : (l.take m).getD n d = l.getD n d := by
  rw [List.getD_eq_getElem?_getD, List.getD_eq_getElem?_getD, List.getElem?_take_of_lt h]
theorem gr_trim : ∀ m, m ≤ told.length → gains.length ≤ m → Gr (told.take m) gains f → Gr (told.take (trimN told gains m)) gains f
  | 0, _, _, h => h
  | m + 1, hm, hg, h => by
    unfold trimN
    split
    · rename_i c
      refine gr_trim m (by omega) (by omega) ?_
      have l1 : (told.take (m + 1)).length = m + 1 := by rw [List.length_take]; omega
      have l2 : (told.take m).length = m := by rw [List.length_take]; omega
      refine ⟨h.pos, by omega, fun n hn => ?_, fun n hn => ?_⟩
      · rw [h.lo n (by omega), getD_take (by omega), getD_take (by omega)]
      · by_cases e : n = m
        · subst e
          rw [h.lo n (by omega), getD_take (by omega), c.2, h.lo (n - gains.length) (by have := h.pos; omega), getD_take (by omega)]
        · exact h.hi n (by omega)
    · exact h
theorem trimN_ge : ∀ m, gains.length ≤ m → gains.length ≤ trimN told gains m
  | 0, h => h
  | m + 1, h => by
    unfold trimN
    split
    · rename_i c
      exact trimN_ge m (by omega)
    · exact h

/-! ### the gains of a shorter period -/
theorem getD_map_range {α : Type} {n i : Nat} {g : Nat → α} {d : α} (h : i < n) : ((List.range n).map g).getD i d = g i := by
  rw [List.getD_eq_getElem?_getD, List.getElem?_map, List.getElem?_range h]
  rfl
theorem stepB_map {a b : Option Int} {c : Int} (h : stepB a b = some c) : b = a.map (· + c) := by
  cases a with
  | none =>
    cases b with
    | none => rfl
    | some y => cases h
  | some x =>
    cases b with
    | none => cases h
    | some y =>
      have e : y - x = c := Option.some.inj h
      show some y = some (x + c)
      congr 1
      omega
/-- what gainsOf finds -/
theorem gainsOf_spec {row : List (Option Int)} {L l : Nat} {g' : List Int} (hl : 0 < l) (h2 : 2 * l ≤ row.length) (h : gainsOf row L l = some g') :
    ∃ c : Nat → Int, (∀ i, i + l < row.length → row.getD (i + l) none = (row.getD i none).map (· + c (i % l))) ∧ g'.length = l ∧ ∀ n, L ≤ n → g'.getD (n % l) 0 = c ((n - L) % l) := by
  unfold gainsOf at h
  split at h
  · cases h
  · rename_i hc
    have h3 : ¬ (stepsOf row l).any (·.isNone) = true := fun z => hc (.inl z)
    have h4 : (((List.range (stepsOf row l).length).map fun i => decide ((stepsOf row l).getD i none = (stepsOf row l).getD (i % l) none)).all id = true) := Classical.byContradiction fun z => hc (.inr z)
    have eg := Option.some.inj h
    have len : (stepsOf row l).length = row.length - l := by unfold stepsOf; rw [List.length_map, List.length_range]
    have per : ∀ i, i < row.length - l → (stepsOf row l).getD i none = (stepsOf row l).getD (i % l) none := by
      intro i hi
      rw [List.all_map, List.all_eq_true] at h4
      have := h4 i (by rw [List.mem_range, len]; exact hi)
      exact of_decide_eq_true this
    have non : ∀ i, i < row.length - l → ∃ c, (stepsOf row l).getD i none = some c := by
      intro i hi
      cases e : (stepsOf row l).getD i none with
      | some c => exact ⟨c, rfl⟩
      | none =>
        exfalso
        apply h3
        rw [List.any_eq_true]
        refine ⟨none, ?_, rfl⟩
        rw [List.getD_eq_getElem?_getD, List.getElem?_eq_getElem (by omega)] at e
        have e' : (stepsOf row l)[i] = none := e
        rw [← e']
        exact List.getElem_mem _
    refine ⟨fun j => ((stepsOf row l).getD j none).getD 0, fun i hi => ?_, ?_, fun n hn => ?_⟩
    · have hi' : i < row.length - l := by omega
      obtain ⟨c, hc⟩ := non i hi'
      have hb : stepB (row.getD i none) (row.getD (i + l) none) = some c := by
        have : (stepsOf row l).getD i none = stepB (row.getD i none) (row.getD (i + l) none) := by
          unfold stepsOf
          rw [getD_map_range hi']
        rw [← this]
        exact hc
      have e : ((stepsOf row l).getD (i % l) none).getD 0 = c := by
        rw [← per i hi', hc]
        rfl
      show _ = Option.map (· + ((stepsOf row l).getD (i % l) none).getD 0) _
      rw [e]
      exact stepB_map hb
    · rw [← eg, List.length_map, List.length_range]
    · have hm : n % l < l := Nat.mod_lt _ hl
      rw [← eg, getD_map_range hm]
      have e : (((n % l : Nat) : Int) - (L : Int)) % (l : Int) = (((n - L) % l : Nat) : Int) := by
        have e1 : ((n - L : Nat) : Int) = (n : Int) - L := by omega
        rw [Int.natCast_emod, Int.natCast_emod, e1, Int.emod_sub_emod]
      rw [e, Int.toNat_natCast]
theorem gr_gains {row : List (Option Int)} {l : Nat} {g' : List Int} (h : Gr told gains f) (hrow : row.length = 3 * gains.length) (hr : ∀ i, i < row.length → row.getD i none = f (told.length + i)) (hl : 0 < l) (hd : l ∣ gains.length)
    (hg : gainsOf row told.length l = some g') : g'.length = l ∧ Gr told g' f := by
  have hp := h.pos
  have hpl := h.le
  have hle : l ≤ gains.length := Nat.le_of_dvd hp hd
  obtain ⟨c, hc, len, hgc⟩ := gainsOf_spec hl (by omega) hg
  generalize hL : told.length = L at *
  generalize hP : gains.length = p at *
  have st : ∀ n, L - p ≤ n → f (n + p) = (f n).map (· + gains.getD (n % p) 0) := by
    intro n hn
    have := h.step (n := n) (by rw [hL, hP]; exact hn)
    rw [hP] at this
    exact this
  have modp : ∀ i, (i + p) % l = i % l := by
    intro i
    obtain ⟨q, rfl⟩ := hd
    exact Nat.add_mul_mod_self_left i l q
  have win : ∀ i, i + l < 3 * p → f (L + i + l) = (f (L + i)).map (· + c (i % l)) := by
    intro i hi
    have := hc i (by omega)
    rw [hr (i + l) (by omega), hr i (by omega), ← Nat.add_assoc] at this
    exact this
  have P : ∀ i, f (L + i + l) = (f (L + i)).map (· + c (i % l)) ∧ (f (L + i) ≠ none → gains.getD ((L + i + l) % p) 0 = gains.getD ((L + i) % p) 0) := by
    intro i
    induction i using Nat.strongRecOn with
    | _ i ih =>
      by_cases hi : i < p
      · have w1 := win i (by omega)
        have w2 := win (i + p) (by omega)
        refine ⟨w1, fun hne => ?_⟩
        have s1 := st (L + i) (by omega)
        have s2 := st (L + i + l) (by omega)
        rw [modp] at w2
        have e1 : L + (i + p) + l = L + i + l + p := by omega
        have e2 : L + (i + p) = L + i + p := by omega
        rw [e1, e2, s1, s2, w1] at w2
        cases hv : f (L + i) with
        | none => exact absurd hv hne
        | some v =>
          rw [hv] at w2
          have z : v + c (i % l) + gains.getD ((L + i + l) % p) 0 = v + gains.getD ((L + i) % p) 0 + c (i % l) := Option.some.inj w2
          omega
      · obtain ⟨j, rfl⟩ : ∃ j, i = j + p := ⟨i - p, by omega⟩
        obtain ⟨q1, q2⟩ := ih j (by omega)
        have s1 := st (L + j) (by omega)
        have s2 := st (L + j + l) (by omega)
        have e1 : L + (j + p) + l = L + j + l + p := by omega
        have e2 : L + (j + p) = L + j + p := by omega
        rw [e1, e2, s1, s2, modp, Nat.add_mod_right, Nat.add_mod_right, q1]
        cases hv : f (L + j) with
        | none => exact ⟨rfl, fun z => absurd rfl z⟩
        | some v =>
          have q3 := q2 (by rw [hv]; intro z; cases z)
          refine ⟨?_, fun _ => q3⟩
          show some (v + c (j % l) + _) = some (v + _ + c (j % l))
          rw [q3]
          congr 1
          omega
  refine ⟨len, by omega, by omega, fun n hn => h.lo n (by omega), fun n hn => ?_⟩
  rw [hL] at hn
  rw [len, hgc n hn]
  by_cases hn2 : L + l ≤ n
  · obtain ⟨i, rfl⟩ : ∃ i, n = L + i + l := ⟨n - L - l, by omega⟩
    have e : (L + i + l - L) % l = i % l := by
      have : L + i + l - L = i + l := by omega
      rw [this, Nat.add_mod_right]
    rw [e, Nat.add_sub_cancel]
    exact (P i).1
  · obtain ⟨m, rfl⟩ : ∃ m, n = m + l := ⟨n - l, by omega⟩
    rw [Nat.add_sub_cancel]
    obtain ⟨q1, q2⟩ := P (m + p - L)
    have s1 := st m (by omega)
    have s2 := st (m + l) (by omega)
    have e1 : L + (m + p - L) + l = m + l + p := by omega
    have e2 : L + (m + p - L) = m + p := by omega
    rw [e1, e2] at q1
    rw [e1, e2] at q2
    have e3 : (m + p - L) % l = (m + l - L) % l := by
      have a : m + p - L + l = (m + l - L) + p := by omega
      have b := modp (m + l - L)
      rw [← a, Nat.add_mod_right] at b
      exact b
    rw [e3, s1, s2] at q1
    rw [s1, Nat.add_mod_right, Nat.add_mod_right] at q2
    cases hv : f m with
    | none =>
      rw [hv] at q1
      have : (f (m + l)).map (· + gains.getD ((m + l) % p) 0) = none := q1
      rw [Option.map_eq_none_iff] at this
      rw [this]
      rfl
    | some v =>
      rw [hv] at q1 q2
      have q3 := q2 (by intro z; cases z)
      cases hw : f (m + l) with
      | none => rw [hw] at q1; cases q1
      | some w =>
        rw [hw] at q1
        have := Option.some.inj q1
        show some w = some (v + _)
        congr 1
        have z : w + gains.getD ((m + l) % p) 0 = v + gains.getD (m % p) 0 + c ((m + l - L) % l) := this
        omega

theorem gainsOf_full {row : List (Option Int)} (h : Gr told gains f) (hrow : row.length = 3 * gains.length) (hr : ∀ i, i < row.length → row.getD i none = f (told.length + i)) : ∃ g', gainsOf row told.length gains.length = some g' := by
  have hp := h.pos
  have hpl := h.le
  generalize hL : told.length = L at *
  generalize hP : gains.length = p at *
  have st : ∀ n, L - p ≤ n → f (n + p) = (f n).map (· + gains.getD (n % p) 0) := by
    intro n hn
    have := h.step (n := n) (by rw [hL, hP]; exact hn)
    rw [hP] at this
    exact this
  have sv : ∀ i, i < 2 * p → (stepsOf row p).getD i none = (match f (L + i) with | none => some 0 | some _ => some (gains.getD ((L + i) % p) 0)) := by
    intro i hi
    unfold stepsOf
    rw [getD_map_range (by omega), hr i (by omega), hr (i + p) (by omega), ← Nat.add_assoc, st (L + i) (by omega)]
    cases f (L + i) with
    | none => rfl
    | some v =>
      show some (v + _ - v) = some _
      congr 1
      omega
  have len : (stepsOf row p).length = 2 * p := by unfold stepsOf; rw [List.length_map, List.length_range]; omega
  unfold gainsOf
  rw [if_neg]
  · exact ⟨_, rfl⟩
  · rintro (z | z)
    · rw [List.any_eq_true] at z
      obtain ⟨o, ho, hn⟩ := z
      obtain ⟨i, hi, e⟩ := List.getElem_of_mem ho
      have s := sv i (by omega)
      rw [List.getD_eq_getElem?_getD, List.getElem?_eq_getElem hi, e] at s
      cases o with
      | some c => cases hn
      | none =>
        have s' : none = (match f (L + i) with | none => some 0 | some _ => some (gains.getD ((L + i) % p) 0)) := s
        split at s' <;> cases s'
    · apply z
      rw [List.all_map, List.all_eq_true]
      intro i hi
      rw [List.mem_range, len] at hi
      show decide _ = true
      refine decide_eq_true ?_
      by_cases hi2 : i < p
      · rw [Nat.mod_eq_of_lt hi2]
      · obtain ⟨j, rfl⟩ : ∃ j, i = j + p := ⟨i - p, by omega⟩
        rw [Nat.add_mod_right, Nat.mod_eq_of_lt (by omega : j < p), sv _ hi, sv j (by omega)]
        have e : L + (j + p) = L + j + p := by omega
        rw [e, st (L + j) (by omega), Nat.add_mod_right]
        cases f (L + j) <;> rfl
theorem leastG_spec {row : List (Option Int)} (h : Gr told gains f) (hrow : row.length = 3 * gains.length) (hr : ∀ i, i < row.length → row.getD i none = f (told.length + i)) : ∃ g', leastG row told.length gains.length = some g' ∧ g'.length ∣ gains.length ∧ Gr told g' f := by
  unfold leastG
  cases e : (List.range (gains.length - 1)).findSome? fun i => if gains.length % (i + 1) = 0 then gainsOf row told.length (i + 1) else none with
  | none =>
    obtain ⟨g', hg⟩ := gainsOf_full h hrow hr
    have := gr_gains h hrow hr h.pos (Nat.dvd_refl _) hg
    exact ⟨g', hg, by rw [this.1]; exact Nat.dvd_refl _, this.2⟩
  | some g' =>
    obtain ⟨i, hi, q⟩ := List.exists_of_findSome?_eq_some e
    split at q
    · rename_i hd
      have := gr_gains h hrow hr (by omega) (Nat.dvd_of_mod_eq_zero hd) q
      exact ⟨g', rfl, by rw [this.1]; exact Nat.dvd_of_mod_eq_zero hd, this.2⟩
    · cases q
theorem rowOf_ok (h : Gr told gains f) : (rowOf told gains).length = 3 * gains.length ∧ ∀ i, i < (rowOf told gains).length → (rowOf told gains).getD i none = f (told.length + i) := by
  have l : (rowOf told gains).length = 3 * gains.length := by unfold rowOf; rw [List.length_map, List.length_range]
  refine ⟨l, fun i hi => ?_⟩
  unfold rowOf
  rw [getD_map_range (by omega)]
  exact (gr_gv h.pos h.le).eq h _
/-- the normal form keeps the values -/
theorem nf_spec (h : Gr told gains f) : leastG (rowOf told gains) told.length gains.length = some (nfG told gains) ∧ (nfG told gains).length ∣ gains.length ∧ Gr told (nfG told gains) f ∧ Gr (nfT told gains) (nfG told gains) f := by
  obtain ⟨l, r⟩ := rowOf_ok h
  obtain ⟨g', h1, h2, h3⟩ := leastG_spec h l r
  have e : nfG told gains = g' := by unfold nfG; rw [h1]; rfl
  rw [e]
  refine ⟨h1, h2, h3, ?_⟩
  unfold nfT
  rw [e]
  exact gr_trim told.length (Nat.le_refl _) h3.le (by rw [List.take_length]; exact h3)
end
end HG

/-! The normal form is the least one, and there is one alone. -/
namespace HG
/-- from N on, f goes on by l with the gains c, which repeat -/
structure Per (f : Nat → Option Int) (l N : Nat) (c : Nat → Int) : Prop where
  pos : 0 < l
  st : ∀ n, N ≤ n → f (n + l) = (f n).map (· + c n)
  cp : ∀ n, N ≤ n → c (n + l) = c n
  z : ∀ n, N ≤ n → f n = none → c n = 0
section
variable {f : Nat → Option Int} {l l1 l2 N M : Nat} {c c1 c2 : Nat → Int}
theorem Per.up (h : Per f l N c) (g : N ≤ M) : Per f l M c := ⟨h.pos, fun n hn => h.st n (by omega), fun n hn => h.cp n (by omega), fun n hn => h.z n (by omega)⟩
theorem Per.cps (h : Per f l N c) {n : Nat} (hn : N ≤ n) : ∀ k, c (n + k * l) = c n
  | 0 => by rw [Nat.zero_mul, Nat.add_zero]
  | k + 1 => by
    rw [Nat.add_mul, Nat.one_mul, ← Nat.add_assoc, h.cp _ (by omega), h.cps hn k]
theorem Per.sts (h : Per f l N c) {n : Nat} (hn : N ≤ n) : ∀ k : Nat, f (n + k * l) = (f n).map (· + (k : Int) * c n)
  | 0 => by
    rw [Nat.zero_mul, Nat.add_zero]
    cases f n with
    | none => rfl
    | some v => simp
  | k + 1 => by
    rw [Nat.add_mul, Nat.one_mul, ← Nat.add_assoc, h.st _ (by omega), h.cps hn k, h.sts hn k]
    cases f n with
    | none => rfl
    | some v =>
      simp only [Option.map_some, Option.some.injEq]
      rw [Int.natCast_add, Int.add_mul]
      omega
theorem Per.no (h : Per f l N c) {n : Nat} (hn : N ≤ n) : f (n + l) = none ↔ f n = none := by rw [h.st n hn, Option.map_eq_none_iff]
theorem Per.nos (h : Per f l N c) {n : Nat} (hn : N ≤ n) (k : Nat) : f (n + k * l) = none ↔ f n = none := by rw [h.sts hn k, Option.map_eq_none_iff]
theorem Per.both (h1 : Per f l1 N c1) (h2 : Per f l2 N c2) {n : Nat} (hn : N ≤ n) : (l2 : Int) * c1 n = (l1 : Int) * c2 n := by
  have e1 := h1.sts hn l2
  have e2 := h2.sts hn l1
  rw [Nat.mul_comm l1 l2] at e2
  rw [e1] at e2
  cases ef : f n with
  | none => rw [h1.z n hn ef, h2.z n hn ef, Int.mul_zero, Int.mul_zero]
  | some v =>
    rw [ef] at e2
    simp only [Option.map_some, Option.some.injEq] at e2
    omega
theorem mul_inj {a : Nat} {x y : Int} (ha : 0 < a) (h : (a : Int) * x = (a : Int) * y) : x = y := Int.eq_of_mul_eq_mul_left (by omega) h
theorem Per.sub (h1 : Per f l1 N c1) (h2 : Per f l2 N c2) (hl : l2 < l1) : ∃ c, Per f (l1 - l2) N c := by
  have e1 : ∀ n, N ≤ n → c1 (n + (l1 - l2)) = c1 n := fun n hn => by
    refine mul_inj h2.pos ?_
    rw [h1.both h2 (n := n + (l1 - l2)) (by omega), ← h2.cp (n + (l1 - l2)) (by omega), show n + (l1 - l2) + l2 = n + l1 from by omega, ← h1.both h2 (n := n + l1) (by omega), h1.cp n hn]
  have e2 : ∀ n, N ≤ n → c2 (n + (l1 - l2)) = c2 n := fun n hn => by
    refine mul_inj h1.pos ?_
    rw [← h2.cp (n + (l1 - l2)) (by omega), show n + (l1 - l2) + l2 = n + l1 from by omega, ← h1.both h2 (n := n + l1) (by omega), h1.cp n hn, h1.both h2 hn]
  have nn : ∀ n, N ≤ n → (f (n + (l1 - l2)) = none ↔ f n = none) := fun n hn => by
    rw [← h2.no (n := n + (l1 - l2)) (by omega), show n + (l1 - l2) + l2 = n + l1 from by omega, h1.no hn]
  refine ⟨fun n => if f n = none then 0 else c1 n - c2 n, by omega, fun n hn => ?_, fun n hn => ?_, fun n hn ef => by rw [if_pos ef]⟩
  · cases ef : f n with
    | none => exact (nn n hn).mpr ef
    | some v =>
      rw [if_neg (by simp)]
      have a1 := h1.st n hn
      rw [ef] at a1
      have a2 := h2.st (n + (l1 - l2)) (by omega)
      rw [show n + (l1 - l2) + l2 = n + l1 from by omega, a1, e2 n hn] at a2
      cases eg : f (n + (l1 - l2)) with
      | none => rw [(nn n hn).mp eg] at ef; cases ef
      | some w =>
        rw [eg] at a2
        simp only [Option.map_some, Option.some.injEq] at a2 ⊢
        omega
  · show (if f (n + (l1 - l2)) = none then 0 else c1 (n + (l1 - l2)) - c2 (n + (l1 - l2))) = if f n = none then 0 else c1 n - c2 n
    rw [e1 n hn, e2 n hn]
    by_cases ef : f n = none
    · rw [if_pos ef, if_pos ((nn n hn).mpr ef)]
    · rw [if_neg ef, if_neg (fun z => ef ((nn n hn).mp z))]
/-- the least period -/
def Lst (f : Nat → Option Int) (p : Nat) : Prop := ∀ l N c, Per f l N c → p ≤ l
theorem Per.dvd (h : Per f l1 N c1) (hm : Lst f l1) : ∀ l, (∃ M c, Per f l M c) → l1 ∣ l := by
  intro l
  induction l using Nat.strongRecOn with
  | _ l ih =>
    rintro ⟨M, c, k⟩
    have hle := hm _ _ _ k
    by_cases e : l = l1
    · rw [e]; exact Nat.dvd_refl _
    · have a := k.up (M := max N M) (by omega)
      have b := h.up (M := max N M) (by omega)
      obtain ⟨c', k'⟩ := a.sub b (by omega)
      have := ih (l - l1) (by have := h.pos; omega) ⟨_, _, k'⟩
      have h2 := Nat.dvd_add this (Nat.dvd_refl l1)
      rw [Nat.sub_add_cancel hle] at h2
      exact h2
theorem lst_ex : ∀ l, (∃ M c, Per f l M c) → ∃ l0, l0 ≤ l ∧ Lst f l0 ∧ ∃ M c, Per f l0 M c := by
  intro l
  induction l using Nat.strongRecOn with
  | _ l ih =>
    intro h
    by_cases e : ∃ l', l' < l ∧ ∃ M c, Per f l' M c
    · obtain ⟨l', h1, h2⟩ := e
      obtain ⟨l0, h3, h4⟩ := ih l' h1 h2
      exact ⟨l0, by omega, h4⟩
    · refine ⟨l, Nat.le_refl _, fun l' N c k => ?_, h⟩
      by_cases z : l ≤ l'
      · exact z
      · exact absurd ⟨l', by omega, N, c, k⟩ e
end
section
variable {told : List (Option Int)} {gains : List Int} {f : Nat → Option Int}
theorem gr_per (h : Gr told gains f) : Per f gains.length (told.length - gains.length) (fun n => if f n = none then 0 else gains.getD (n % gains.length) 0) := by
  have nn : ∀ n, told.length - gains.length ≤ n → (f (n + gains.length) = none ↔ f n = none) := fun n hn => h.none hn
  refine ⟨h.pos, fun n hn => ?_, fun n hn => ?_, fun n hn ef => by rw [if_pos ef]⟩
  · rw [h.step hn]
    cases ef : f n with
    | none => rfl
    | some v => rw [if_neg (by simp)]
  · show (if f (n + gains.length) = none then 0 else gains.getD ((n + gains.length) % gains.length) 0) = if f n = none then 0 else gains.getD (n % gains.length) 0
    rw [Nat.add_mod_right]
    by_cases ef : f n = none
    · rw [if_pos ef, if_pos ((nn n hn).mpr ef)]
    · rw [if_neg ef, if_neg (fun z => ef ((nn n hn).mp z))]
/-- a period that divides one which begins earlier begins there, too -/
theorem Per.back {p l M N : Nat} {C c : Nat → Int} (h : Per f p M C) (k : Per f l N c) (hd : l ∣ p) : Per f l M (fun n => c (n + N * p)) := by
  obtain ⟨q, rfl⟩ := hd
  have hp := h.pos
  have hq : 0 < q := by
    cases q with
    | zero => rw [Nat.mul_zero] at hp; omega
    | succ q => omega
  have big : ∀ n, N ≤ n + N * (l * q) := fun n => by
    have := Nat.le_mul_of_pos_right N hp
    omega
  refine ⟨k.pos, fun n hn => ?_, fun n hn => ?_, fun n hn ef => ?_⟩
  · have s1 := fun j => h.sts hn j
    have s2 := fun j => h.sts (n := n + l) (by omega) j
    have t0 := k.st (n + N * (l * q)) (big n)
    have t1 := k.st (n + (N + 1) * (l * q)) (by have := big n; rw [Nat.add_mul]; omega)
    have e1 : c (n + (N + 1) * (l * q)) = c (n + N * (l * q)) := by
      rw [Nat.add_mul, Nat.one_mul, ← Nat.add_assoc, Nat.mul_comm l q, k.cps (by rw [← Nat.mul_comm l q]; exact big n) q]
    rw [e1] at t1
    rw [show n + N * (l * q) + l = n + l + N * (l * q) from by omega, s1, s2] at t0
    rw [show n + (N + 1) * (l * q) + l = n + l + (N + 1) * (l * q) from by omega, s1, s2] at t1
    cases ef : f n with
    | none =>
      rw [ef] at t0
      simp only [Option.map_none, Option.map_eq_none_iff] at t0
      rw [t0]; rfl
    | some v =>
      rw [ef] at t0 t1
      cases eg : f (n + l) with
      | none => rw [eg] at t0; cases t0
      | some w =>
        rw [eg] at t0 t1
        simp only [Option.map_some, Option.some.injEq] at t0 t1 ⊢
        simp only [Int.natCast_add, Int.natCast_one, Int.add_mul, Int.one_mul] at t1
        have hC : C (n + l) = C n := by omega
        rw [hC] at t0
        omega
  · show c (n + l + N * (l * q)) = c (n + N * (l * q))
    rw [show n + l + N * (l * q) = n + N * (l * q) + l from by omega, k.cp _ (big n)]
  · exact k.z _ (big n) ((h.nos hn N).mpr ef)
/-- the gains that are found of a row with a period -/
theorem gainsOf_per {row : List (Option Int)} {L l M : Nat} {c : Nat → Int} (h : Per f l M c) (hM : M ≤ L) (h2 : 2 * l ≤ row.length) (hr : ∀ i, i < row.length → row.getD i none = f (L + i)) :
    gainsOf row L l = some ((List.range l).map fun r : Nat => c (L + (((r : Int) - (L : Int)) % (l : Int)).toNat)) := by
  have hl := h.pos
  have len : (stepsOf row l).length = row.length - l := by unfold stepsOf; rw [List.length_map, List.length_range]
  have sv : ∀ i, i < row.length - l → (stepsOf row l).getD i none = some (c (L + i)) := by
    intro i hi
    unfold stepsOf
    rw [getD_map_range hi, hr i (by omega), hr (i + l) (by omega), ← Nat.add_assoc, h.st (L + i) (by omega)]
    cases ef : f (L + i) with
    | none => rw [h.z _ (by omega) ef]; rfl
    | some v =>
      show some (v + c (L + i) - v) = some (c (L + i))
      congr 1
      omega
  unfold gainsOf
  rw [if_neg]
  · congr 1
    apply List.map_congr_left
    intro r hr'
    have hm := Int.emod_nonneg ((r : Int) - (L : Int)) (by omega : (l : Int) ≠ 0)
    have hm2 := Int.emod_lt_of_pos ((r : Int) - (L : Int)) (by omega : (0 : Int) < (l : Int))
    rw [sv _ (by omega)]
    rfl
  · rintro (z | z)
    · rw [List.any_eq_true] at z
      obtain ⟨x, hx, e⟩ := z
      obtain ⟨i, hi, rfl⟩ := List.getElem_of_mem hx
      have := sv i (by omega)
      rw [List.getD_eq_getElem?_getD, List.getElem?_eq_getElem hi] at this
      simp only [Option.getD_some] at this
      rw [this] at e
      cases e
    · apply z
      rw [List.all_map, List.all_eq_true]
      intro i hi
      rw [List.mem_range, len] at hi
      show decide _ = true
      have hm : i % l < l := Nat.mod_lt _ hl
      rw [sv i hi, sv (i % l) (by omega)]
      refine decide_eq_true ?_
      congr 1
      have e : L + i = L + i % l + i / l * l := by
        have := Nat.div_add_mod i l
        rw [Nat.mul_comm] at this
        omega
      rw [e, h.cps (by omega)]
theorem idx_mod {L l n : Nat} (hl : 0 < l) (hn : L ≤ n) : ∃ q : Nat, n = L + ((((n % l : Nat) : Int) - (L : Int)) % (l : Int)).toNat + q * l := by
  have hm := Int.emod_nonneg (((n % l : Nat) : Int) - (L : Int)) (by omega : (l : Int) ≠ 0)
  have hm2 := Int.emod_lt_of_pos (((n % l : Nat) : Int) - (L : Int)) (by omega : (0 : Int) < (l : Int))
  have e : (((n % l : Nat) : Int) - (L : Int)) % (l : Int) = (((n - L) % l : Nat) : Int) := by
    rw [Int.natCast_emod, Int.natCast_emod, Int.emod_sub_emod]
    congr 1
    omega
  rw [e, Int.toNat_natCast]
  refine ⟨(n - L) / l, ?_⟩
  have := Nat.div_add_mod (n - L) l
  rw [Nat.mul_comm] at this
  omega
/-- the gains found are those of the period -/
theorem gainsOf_at {L l M n : Nat} {c : Nat → Int} (h : Per f l M c) (hM : M ≤ L) (hn : L ≤ n) : ((List.range l).map fun r : Nat => c (L + (((r : Int) - (L : Int)) % (l : Int)).toNat)).getD (n % l) 0 = c n := by
  rw [getD_map_range (Nat.mod_lt _ h.pos)]
  obtain ⟨q, e⟩ := idx_mod (L := L) h.pos hn
  generalize ((((n % l : Nat) : Int) - (L : Int)) % (l : Int)).toNat = j at *
  rw [e, h.cps (by omega)]
/-- told and gains are the normal form of f -/
structure Nf (told : List (Option Int)) (gains : List Int) (f : Nat → Option Int) : Prop where
  gr : Gr told gains f
  lst : Lst f gains.length
  z : ∀ n, told.length - gains.length ≤ n → f n = none → gains.getD (n % gains.length) 0 = 0
  cut : gains.length < told.length → told.getD (told.length - 1) none ≠ (told.getD (told.length - 1 - gains.length) none).map (· + gains.getD ((told.length - 1) % gains.length) 0)
theorem gr_le {told' : List (Option Int)} {gains' : List Int} (h : Nf told gains f) (h' : Nf told' gains' f) (hg : gains = gains') : told'.length ≤ told.length := by
  by_cases z : told'.length ≤ told.length
  · exact z
  · exfalso
    subst hg
    have p := h.gr.le
    have pp := h.gr.pos
    refine h'.cut (by omega) ?_
    rw [← h'.gr.lo _ (by omega), ← h'.gr.lo _ (by omega)]
    exact h.gr.hi _ (by omega)
theorem Nf.uniq {told' : List (Option Int)} {gains' : List Int} (h : Nf told gains f) (h' : Nf told' gains' f) : told = told' ∧ gains = gains' := by
  have el : gains.length = gains'.length := Nat.le_antisymm (h.lst _ _ _ (gr_per h'.gr)) (h'.lst _ _ _ (gr_per h.gr))
  have eg : gains = gains' := by
    apply List.ext_getElem el
    intro i h1 h2
    have hp := h.gr.pos
    obtain ⟨n, hn1, hn2, hn3⟩ : ∃ n, told.length - gains.length ≤ n ∧ told'.length - gains'.length ≤ n ∧ n % gains.length = i := by
      refine ⟨i + (told.length + told'.length) * gains.length, ?_, ?_, ?_⟩
      · have := Nat.le_mul_of_pos_right (told.length + told'.length) hp; omega
      · have := Nat.le_mul_of_pos_right (told.length + told'.length) hp; omega
      · rw [Nat.add_mul_mod_self_right, Nat.mod_eq_of_lt h1]
    have g1 : gains.getD (n % gains.length) 0 = gains[i] := by rw [hn3, List.getD_eq_getElem?_getD, List.getElem?_eq_getElem h1]; rfl
    have g2 : gains'.getD (n % gains'.length) 0 = gains'[i] := by rw [← el, hn3, List.getD_eq_getElem?_getD, List.getElem?_eq_getElem h2]; rfl
    rw [← g1, ← g2]
    cases ef : f n with
    | none => rw [h.z n hn1 ef, h'.z n hn2 ef]
    | some v =>
      have s1 := h.gr.step hn1
      have s2 := h'.gr.step hn2
      rw [← el] at s2
      rw [s1, ef] at s2
      simp only [Option.map_some, Option.some.injEq] at s2
      rw [← el]
      omega
  refine ⟨?_, eg⟩
  have e2 : told.length = told'.length := Nat.le_antisymm (gr_le h' h eg.symm) (gr_le h h' eg)
  apply List.ext_getElem e2
  intro i h1 h2
  have a := h.gr.lo i h1
  have b := h'.gr.lo i h2
  rw [List.getD_eq_getElem?_getD, List.getElem?_eq_getElem h1] at a
  rw [List.getD_eq_getElem?_getD, List.getElem?_eq_getElem h2] at b
  exact (a.symm.trans b)
/-! ### what is found is the normal form -/
theorem leastG_lst {row : List (Option Int)} {L p M : Nat} {c : Nat → Int} {g : List Int} (h : Per f p M c) (hM : M ≤ L) (h2 : 3 * p ≤ row.length) (hr : ∀ i, i < row.length → row.getD i none = f (L + i)) (hg : leastG row L p = some g) :
    g.length ∣ p ∧ Lst f g.length ∧ ∃ c', Per f g.length M c' ∧ ∀ n, L ≤ n → g.getD (n % g.length) 0 = c' n := by
  have hp := h.pos
  obtain ⟨l0, h0, h1, N0, c0, k0⟩ := lst_ex (f := f) p ⟨_, _, h⟩
  have hd : l0 ∣ p := k0.dvd h1 p ⟨_, _, h⟩
  have kb := h.back k0 hd
  have l0p := k0.pos
  have found := gainsOf_per kb hM (by omega) hr
  have low : ∀ l g', l ∣ p → 0 < l → gainsOf row L l = some g' → l < l0 → False := by
    intro l g' hdl hl hg' hlt
    obtain ⟨cc, s1, s2, s3⟩ := gainsOf_spec hl (by have := Nat.le_of_dvd hp hdl; omega) hg'
    -- the row repeats with l, so f does
    have : Per f l L (fun n => if f n = none then 0 else cc ((n - L) % l)) := by
      have hle := Nat.le_of_dvd hp hdl
      have pl : Per f p L c := h.up hM
      have stp : ∀ n, L ≤ n → f (n + l) = (f n).map (· + cc ((n - L) % l)) := by
        intro n hn
        -- back into the row by periods p
        obtain ⟨i, q, hi, e⟩ : ∃ i q, i < p ∧ n = L + i + q * p := by
          refine ⟨(n - L) % p, (n - L) / p, Nat.mod_lt _ hp, ?_⟩
          have := Nat.div_add_mod (n - L) p
          rw [Nat.mul_comm] at this
          omega
        have r0 : f (L + i + l) = (f (L + i)).map (· + cc (i % l)) := by
          have := s1 i (by omega)
          rw [hr _ (by omega), hr _ (by omega), ← Nat.add_assoc] at this
          exact this
        have r1 : f (L + (i + p) + l) = (f (L + (i + p))).map (· + cc (i % l)) := by
          have := s1 (i + p) (by omega)
          rw [hr _ (by omega), hr _ (by omega), ← Nat.add_assoc] at this
          obtain ⟨z, rfl⟩ := hdl
          rw [Nat.add_mul_mod_self_left] at this
          exact this
        have em : (n - L) % l = i % l := by
          obtain ⟨z, rfl⟩ := hdl
          rw [e, show L + i + q * (l * z) - L = i + l * (z * q) from by rw [Nat.add_assoc, Nat.add_sub_cancel_left, Nat.mul_comm q, Nat.mul_assoc], Nat.add_mul_mod_self_left]
        rw [em, e]
        have a1 := pl.sts (n := L + i) (by omega) q
        have a2 := pl.sts (n := L + i + l) (by omega) q
        have b1 := pl.st (L + i) (by omega)
        have b2 := pl.st (L + i + l) (by omega)
        rw [show L + i + q * p + l = L + i + l + q * p from by omega, a1, a2]
        rw [show L + (i + p) + l = L + i + l + p from by omega, show L + (i + p) = L + i + p from by omega, b1, b2, r0] at r1
        rw [r0]
        cases ef : f (L + i) with
        | none => rfl
        | some v =>
          rw [ef] at r1
          simp only [Option.map_some, Option.some.injEq] at r1 ⊢
          have : c (L + i) = c (L + i + l) := by omega
          rw [this]
          omega
      refine ⟨hl, fun n hn => ?_, fun n hn => ?_, fun n hn ef => by rw [if_pos ef]⟩
      · rw [stp n hn]
        cases ef : f n with
        | none => rfl
        | some v => rw [if_neg (by simp)]
      · have nn : f (n + l) = none ↔ f n = none := by rw [stp n hn, Option.map_eq_none_iff]
        show (if f (n + l) = none then 0 else cc ((n + l - L) % l)) = if f n = none then 0 else cc ((n - L) % l)
        rw [show n + l - L = n - L + l from by omega, Nat.add_mod_right]
        by_cases ef : f n = none
        · rw [if_pos ef, if_pos (nn.mpr ef)]
        · rw [if_neg ef, if_neg (fun z => ef (nn.mp z))]
    have := h1 _ _ _ this
    omega
  have eg : g = (List.range l0).map fun r : Nat => (fun n => c0 (n + N0 * p)) (L + (((r : Int) - (L : Int)) % (l0 : Int)).toNat) := by
    unfold leastG at hg
    cases e : (List.range (p - 1)).findSome? fun i => if p % (i + 1) = 0 then gainsOf row L (i + 1) else none with
    | none =>
      rw [e] at hg
      have hlp : l0 = p := by
        by_cases z : l0 = p
        · exact z
        · exfalso
          have := List.findSome?_eq_none_iff.mp e (l0 - 1) (List.mem_range.mpr (by omega))
          rw [Nat.sub_add_cancel (by omega), if_pos (Nat.mod_eq_zero_of_dvd hd), found] at this
          cases this
      rw [hlp] at found ⊢
      simp only at hg
      rw [found] at hg
      exact (Option.some.inj hg).symm
    | some g1 =>
      rw [e] at hg
      have eg1 : g1 = g := Option.some.inj hg
      subst eg1
      obtain ⟨l1, i, l2, e1, e2, e3⟩ := List.findSome?_eq_some_iff.mp e
      have hip : i ∈ List.range (p - 1) := by rw [e1]; simp
      rw [List.mem_range] at hip
      by_cases hdi : p % (i + 1) = 0
      · rw [if_pos hdi] at e2
        have hge : ¬ i + 1 < l0 := fun z => low (i + 1) g1 (Nat.dvd_of_mod_eq_zero hdi) (by omega) e2 z
        have hle : ¬ l0 < i + 1 := by
          intro z
          have mem : l0 - 1 ∈ l1 := by
            have hm : l0 - 1 ∈ List.range (p - 1) := List.mem_range.mpr (by omega)
            have srt : (List.range (p - 1)).Pairwise (· < ·) := List.pairwise_lt_range
            rw [e1] at hm srt
            rcases List.mem_append.mp hm with hm | hm
            · exact hm
            · exfalso
              rw [List.pairwise_append] at srt
              rcases List.mem_cons.mp hm with hm | hm
              · omega
              · have := List.rel_of_pairwise_cons srt.2.1 hm
                omega
          have := e3 _ mem
          rw [Nat.sub_add_cancel (by omega), if_pos (Nat.mod_eq_zero_of_dvd hd), found] at this
          cases this
        have : i + 1 = l0 := by omega
        rw [this, found] at e2
        exact (Option.some.inj e2).symm
      · rw [if_neg hdi] at e2
        cases e2
  have lg : g.length = l0 := by rw [eg, List.length_map, List.length_range]
  rw [lg]
  refine ⟨hd, h1, _, kb, fun n hn => ?_⟩
  rw [eg]
  exact gainsOf_at kb hM hn
theorem trim_cut : ∀ m, m ≤ told.length → gains.length < trimN told gains m → told.getD (trimN told gains m - 1) none ≠ (told.getD (trimN told gains m - 1 - gains.length) none).map (· + gains.getD ((trimN told gains m - 1) % gains.length) 0)
  | 0, _, h => by exact absurd h (Nat.not_lt_zero _)
  | m + 1, hm, h => by
    unfold trimN at h ⊢
    by_cases c : gains.length < m + 1 ∧ told.getD m none = (told.getD (m - gains.length) none).map (· + gains.getD (m % gains.length) 0)
    · rw [if_pos c] at h ⊢
      exact trim_cut m (by omega) h
    · rw [if_neg c] at h ⊢
      intro z
      exact c ⟨h, z⟩
/-- the normal form is one -/
theorem nf_nf (h : Gr told gains f) : Nf (nfT told gains) (nfG told gains) f := by
  obtain ⟨n1, n2, n3, n4⟩ := nf_spec h
  obtain ⟨r1, r2⟩ := rowOf_ok h
  obtain ⟨d, l, c, pc, gc⟩ := leastG_lst (gr_per h) (Nat.sub_le _ _) (by omega) r2 n1
  have tl : (nfT told gains).length = trimN told (nfG told gains) told.length := by
    unfold nfT
    rw [List.length_take]
    have := trimN_le (told := told) (gains := nfG told gains) told.length
    omega
  refine ⟨n4, l, fun n hn ef => ?_, fun hc => ?_⟩
  · -- far enough on the gains are c
    have q := gr_per n4
    have hp := n4.pos
    have e1 := gc (n + told.length * (nfG told gains).length) (by have := Nat.le_mul_of_pos_right told.length hp; omega)
    rw [Nat.add_mul_mod_self_right] at e1
    rw [e1]
    refine pc.z _ ?_ ?_
    · have := Nat.le_mul_of_pos_right told.length hp; omega
    · exact (q.nos hn _).mpr ef
  · have ht := trim_cut (told := told) (gains := nfG told gains) told.length (Nat.le_refl _) (by rw [← tl]; exact hc)
    rw [← tl] at ht
    have hp := n4.pos
    intro z
    apply ht
    have g1 : ∀ i, i < (nfT told gains).length → (nfT told gains).getD i none = told.getD i none := fun i hi => by
      rw [tl] at hi
      unfold nfT
      exact getD_take hi
    rw [← g1 _ (by omega), ← g1 _ (by omega)]
    exact z
end
end HG

/-! Growths as functions: periods, bounds, sums and multiples. -/
namespace HG
section
variable {f g : Nat → Option Int} {l N M : Nat} {c : Nat → Int}
theorem per_of_row {L p less : Nat} {cc : Nat → Int} (h : Per f p M c) (hM : M ≤ L) (hd : less ∣ p) (hl : 0 < less) (hr : ∀ i, i < 2 * p → f (L + i + less) = (f (L + i)).map (· + cc (i % less))) : ∃ c', Per f less L c' := by
  have hp := h.pos
  have hle := Nat.le_of_dvd hp hd
  have pl : Per f p L c := h.up hM
  have stp : ∀ n, L ≤ n → f (n + less) = (f n).map (· + cc ((n - L) % less)) := by
    intro n hn
    obtain ⟨i, q, hi, e⟩ : ∃ i q, i < p ∧ n = L + i + q * p := by
      refine ⟨(n - L) % p, (n - L) / p, Nat.mod_lt _ hp, ?_⟩
      have := Nat.div_add_mod (n - L) p
      rw [Nat.mul_comm] at this
      omega
    have r0 := hr i (by omega)
    have r1 := hr (i + p) (by omega)
    have em : (i + p) % less = i % less := by
      obtain ⟨z, rfl⟩ := hd
      exact Nat.add_mul_mod_self_left ..
    rw [em] at r1
    have en : (n - L) % less = i % less := by
      obtain ⟨z, rfl⟩ := hd
      rw [e, show L + i + q * (less * z) - L = i + less * (z * q) from by rw [Nat.add_assoc, Nat.add_sub_cancel_left, Nat.mul_comm q, Nat.mul_assoc], Nat.add_mul_mod_self_left]
    rw [en, e]
    have a1 := pl.sts (n := L + i) (by omega) q
    have a2 := pl.sts (n := L + i + less) (by omega) q
    have b1 := pl.st (L + i) (by omega)
    have b2 := pl.st (L + i + less) (by omega)
    rw [show L + i + q * p + less = L + i + less + q * p from by omega, a1, a2]
    rw [show L + (i + p) + less = L + i + less + p from by omega, show L + (i + p) = L + i + p from by omega, b1, b2, r0] at r1
    rw [r0]
    cases ef : f (L + i) with
    | none => rfl
    | some v =>
      rw [ef] at r1
      simp only [Option.map_some, Option.some.injEq] at r1 ⊢
      have : c (L + i) = c (L + i + less) := by omega
      rw [this]
      omega
  refine ⟨fun n => if f n = none then 0 else cc ((n - L) % less), hl, fun n hn => ?_, fun n hn => ?_, fun n hn ef => by rw [if_pos ef]⟩
  · rw [stp n hn]
    cases ef : f n with
    | none => rfl
    | some v => rw [if_neg (by simp)]
  · have nn : f (n + less) = none ↔ f n = none := by rw [stp n hn, Option.map_eq_none_iff]
    show (if f (n + less) = none then 0 else cc ((n + less - L) % less)) = if f n = none then 0 else cc ((n - L) % less)
    rw [show n + less - L = n - L + less from by omega, Nat.add_mod_right]
    by_cases ef : f n = none
    · rw [if_pos ef, if_pos (nn.mpr ef)]
    · rw [if_neg ef, if_neg (fun z => ef (nn.mp z))]
/-! ### a function with a period is told by its first values -/
def gainsP (c : Nat → Int) (N l : Nat) : List Int := (List.range l).map fun r : Nat => c (N + (((r : Int) - (N : Int)) % (l : Int)).toNat)
def valsP (f : Nat → Option Int) (n : Nat) : List (Option Int) := (List.range n).map f
theorem gainsP_len : (gainsP c N l).length = l := by unfold gainsP; rw [List.length_map, List.length_range]
theorem valsP_len {n : Nat} : (valsP f n).length = n := by unfold valsP; rw [List.length_map, List.length_range]
theorem gr_of_per (h : Per f l N c) {n : Nat} (hn : N + l ≤ n) : Gr (valsP f n) (gainsP c N l) f := by
  have hl := h.pos
  refine ⟨by rw [gainsP_len]; exact hl, by rw [gainsP_len, valsP_len]; omega, fun i hi => ?_, fun i hi => ?_⟩
  · rw [valsP_len] at hi
    unfold valsP
    rw [getD_map_range hi]
  · rw [valsP_len] at hi
    rw [gainsP_len]
    have := gainsOf_at (n := i) h (Nat.le_refl _) (by omega)
    unfold gainsP
    rw [this]
    have e := h.st (i - l) (by omega)
    have e2 := h.cp (i - l) (by omega)
    rw [Nat.sub_add_cancel (by omega)] at e e2
    rw [e, e2]
/-- f is a growth within the bounds -/
def Okf (f : Nat → Option Int) : Prop := ∃ l N c, Per f l N c ∧ l ≤ 60 ∧ N + l ≤ 4000
theorem okf_of (h : Per f l N c) (h1 : l ≤ 60) (h2 : N + l ≤ 4000) : Okf f := ⟨l, N, c, h, h1, h2⟩
theorem nf_ex (h : Per f l N c) : ∃ told gains, Nf told gains f ∧ gains.length ∣ l ∧ told.length ≤ N + l := by
  have G := gr_of_per h (Nat.le_refl (N + l))
  refine ⟨_, _, nf_nf G, ?_, ?_⟩
  · have := (nf_spec G).2.1
    rw [gainsP_len] at this
    exact this
  · unfold nfT
    rw [List.length_take, valsP_len]
    omega
/-- the normal form of f is short if f has a short form -/
theorem Nf.short {told : List (Option Int)} {gains : List Int} (n : Nf told gains f) (h : Per f l N c) : gains.length ∣ l ∧ told.length ≤ N + l := by
  obtain ⟨t, g, k, h1, h2⟩ := nf_ex h
  obtain ⟨rfl, rfl⟩ := n.uniq k
  exact ⟨h1, h2⟩
theorem Nf.shortOk {told : List (Option Int)} {gains : List Int} (n : Nf told gains f) (h : Okf f) : gains.length ≤ 60 ∧ told.length ≤ 4000 := by
  obtain ⟨l, N, c, h, h1, h2⟩ := h
  obtain ⟨h3, h4⟩ := n.short h
  have := Nat.le_of_dvd h.pos h3
  exact ⟨by omega, by omega⟩
theorem Nf.okf {told : List (Option Int)} {gains : List Int} (n : Nf told gains f) (h1 : gains.length ≤ 60) (h2 : told.length ≤ 4000) : Okf f := by
  have := n.gr.le
  exact okf_of (gr_per n.gr) h1 (by omega)
/-! ### bounds of values -/
def FB (M : Nat) (f : Nat → Option Int) : Prop := ∀ n v, f n = some v → v.natAbs ≤ M * (n + 1)
theorem FB.up {M M' : Nat} (h : FB M f) (g : M ≤ M') : FB M' f := fun n v e => Nat.le_trans (h n v e) (Nat.mul_le_mul_right _ g)
theorem mod_place {L p r : Nat} (hp : 0 < p) (hr : r < p) (hL : p ≤ L) : ∃ n, L - p ≤ n ∧ n < L ∧ n % p = r := by
  -- n = L - 1 - (L - 1 - r) % p
  have h1 := Nat.mod_lt (L - 1 - r) hp
  have h2 := Nat.div_add_mod (L - 1 - r) p
  refine ⟨L - 1 - (L - 1 - r) % p, by omega, by omega, ?_⟩
  have e : L - 1 - (L - 1 - r) % p = r + p * ((L - 1 - r) / p) := by omega
  rw [e, Nat.add_mul_mod_self_left, Nat.mod_eq_of_lt hr]
theorem gains_le {told : List (Option Int)} {gains : List Int} {M : Nat} (n : Nf told gains f) (h : FB M f) : ∀ x ∈ gains, x.natAbs ≤ M * (3 * told.length) := by
  intro x hx
  obtain ⟨r, hr, rfl⟩ := List.getElem_of_mem hx
  have hp := n.gr.pos
  have hpl := n.gr.le
  obtain ⟨i, h1, h2, h3⟩ := mod_place (L := told.length) hp hr hpl
  have g1 : gains.getD (i % gains.length) 0 = gains[r] := by rw [h3, List.getD_eq_getElem?_getD, List.getElem?_eq_getElem hr]; rfl
  rw [← g1]
  cases ef : f i with
  | none => rw [n.z i h1 ef]; exact Nat.zero_le _
  | some v =>
    have s := n.gr.step h1
    rw [ef] at s
    have b1 := h _ _ ef
    have b2 : (v + gains.getD (i % gains.length) 0).natAbs ≤ M * (i + gains.length + 1) := h _ _ s
    have e1 : M * (i + 1) ≤ M * told.length := Nat.mul_le_mul_left _ (by omega)
    have e2 : M * (i + gains.length + 1) ≤ M * (2 * told.length) := Nat.mul_le_mul_left _ (by omega)
    have e3 : M * (3 * told.length) = M * told.length + M * (2 * told.length) := by rw [← Nat.mul_add]; congr 1; omega
    omega
theorem fb_gr {told : List (Option Int)} {gains : List Int} {B : Nat} (h : Gr told gains f) (ht : ∀ o ∈ told, ∀ i, o = some i → i.natAbs ≤ B) (hg : ∀ x ∈ gains, x.natAbs ≤ B) : FB B f := by
  intro n
  induction n using Nat.strongRecOn with
  | _ n ih =>
    intro v e
    by_cases hn : n < told.length
    · rw [h.lo n hn] at e
      have : told.getD n none ∈ told := by
        rw [List.getD_eq_getElem?_getD, List.getElem?_eq_getElem hn]
        exact List.getElem_mem hn
      have := ht _ this v e
      exact Nat.le_trans this (Nat.le_mul_of_pos_right _ (by omega))
    · have hp := h.pos
      have hpl := h.le
      rw [h.hi n (by omega)] at e
      obtain ⟨w, e1, e2⟩ := Option.map_eq_some_iff.mp e
      have b1 := ih (n - gains.length) (by omega) w e1
      have hm : n % gains.length < gains.length := Nat.mod_lt _ hp
      have : gains.getD (n % gains.length) 0 ∈ gains := by
        rw [List.getD_eq_getElem?_getD, List.getElem?_eq_getElem hm]
        exact List.getElem_mem hm
      have b2 := hg _ this
      have e3 : B * (n - gains.length + 1) + B ≤ B * (n + 1) := by
        rw [← Nat.mul_succ]
        exact Nat.mul_le_mul_left _ (by omega)
      omega
/-! ### sums -/
def oSum : Option Int → Option Int → Option Int
  | some a, some b => some (a + b)
  | _, _ => none
def oTimes (k : Int) (o : Option Int) : Option Int := o.map (k * ·)
def fSum (f g : Nat → Option Int) : Nat → Option Int := fun n => oSum (f n) (g n)
def fTimes (k : Int) (f : Nat → Option Int) : Nat → Option Int := fun n => oTimes k (f n)
theorem oSum_none {a b : Option Int} : oSum a b = none ↔ a = none ∨ b = none := by
  cases a <;> cases b <;> simp [oSum]
theorem per_mul {q : Nat} (h : Per f l N c) (hq : 0 < q) : Per f (q * l) N (fun n => (q : Int) * c n) := by
  refine ⟨Nat.mul_pos hq h.pos, fun n hn => h.sts hn q, fun n hn => ?_, fun n hn e => ?_⟩
  · show (q : Int) * c (n + q * l) = _
    rw [h.cps hn q]
  · show (q : Int) * c n = 0
    rw [h.z n hn e, Int.mul_zero]
theorem per_sum {c2 : Nat → Int} (h : Per f l N c) (k : Per g l N c2) : Per (fSum f g) l N (fun n => if fSum f g n = none then 0 else c n + c2 n) := by
  have st : ∀ n, N ≤ n → fSum f g (n + l) = (fSum f g n).map (· + (c n + c2 n)) := fun n hn => by
    unfold fSum
    rw [h.st n hn, k.st n hn]
    cases f n <;> cases g n <;> simp [oSum]
    omega
  have nn : ∀ n, N ≤ n → (fSum f g (n + l) = none ↔ fSum f g n = none) := fun n hn => by rw [st n hn, Option.map_eq_none_iff]
  refine ⟨h.pos, fun n hn => ?_, fun n hn => ?_, fun n hn e => by rw [if_pos e]⟩
  · rw [st n hn]
    cases e : fSum f g n with
    | none => rfl
    | some v => rw [if_neg (by simp)]
  · show (if fSum f g (n + l) = none then 0 else c (n + l) + c2 (n + l)) = if fSum f g n = none then 0 else c n + c2 n
    rw [h.cp n hn, k.cp n hn]
    by_cases e : fSum f g n = none
    · rw [if_pos e, if_pos ((nn n hn).mpr e)]
    · rw [if_neg e, if_neg (fun z => e ((nn n hn).mp z))]
theorem per_times (k : Int) (h : Per f l N c) : Per (fTimes k f) l N (fun n => k * c n) := by
  refine ⟨h.pos, fun n hn => ?_, fun n hn => ?_, fun n hn e => ?_⟩
  · unfold fTimes oTimes
    rw [h.st n hn]
    cases f n with
    | none => rfl
    | some v =>
      simp only [Option.map_some, Option.some.injEq]
      rw [Int.mul_add]
  · show k * c (n + l) = k * c n
    rw [h.cp n hn]
  · have : f n = none := by
      unfold fTimes oTimes at e
      exact Option.map_eq_none_iff.mp e
    show k * c n = 0
    rw [h.z n hn this, Int.mul_zero]
theorem gr_times {told : List (Option Int)} {gains : List Int} (k : Int) (h : Gr told gains f) : Gr (told.map (oTimes k)) (gains.map (k * ·)) (fTimes k f) := by
  refine ⟨by rw [List.length_map]; exact h.pos, by rw [List.length_map, List.length_map]; exact h.le, fun n hn => ?_, fun n hn => ?_⟩
  · rw [List.length_map] at hn
    unfold fTimes
    rw [h.lo n hn, List.getD_eq_getElem?_getD, List.getD_eq_getElem?_getD, List.getElem?_map, List.getElem?_eq_getElem hn]
    rfl
  · rw [List.length_map] at hn
    rw [List.length_map]
    have hm : n % gains.length < gains.length := Nat.mod_lt _ h.pos
    unfold fTimes
    rw [h.hi n hn, List.getD_eq_getElem?_getD, List.getD_eq_getElem?_getD, List.getElem?_map, List.getElem?_eq_getElem hm]
    unfold oTimes
    cases f (n - gains.length) with
    | none => rfl
    | some v =>
      simp only [Option.map_some, Option.some.injEq, Option.getD_some]
      rw [Int.mul_add]
theorem fb_sum {M M' : Nat} (h : FB M f) (k : FB M' g) : FB (M + M') (fSum f g) := by
  intro n v e
  unfold fSum at e
  cases e1 : f n with
  | none => rw [e1] at e; cases e
  | some a =>
    cases e2 : g n with
    | none => rw [e1, e2] at e; cases e
    | some b =>
      rw [e1, e2] at e
      cases e
      have := h n a e1
      have := k n b e2
      rw [Nat.add_mul]
      omega
theorem fb_times {M : Nat} {k : Int} (h : FB M f) : FB (k.natAbs * M) (fTimes k f) := by
  intro n v e
  unfold fTimes oTimes at e
  obtain ⟨w, e1, e2⟩ := Option.map_eq_some_iff.mp e
  rw [← e2, Int.natAbs_mul, Nat.mul_assoc]
  exact Nat.mul_le_mul_left _ (h n w e1)
end
end HG
namespace HG
section
variable {f g : Nat → Option Int} {l N M : Nat} {c : Nat → Int}
theorem leastG_some {row : List (Option Int)} {L p : Nat} (h : Per f p M c) (hM : M ≤ L) (h2 : 2 * p ≤ row.length) (hr : ∀ i, i < row.length → row.getD i none = f (L + i)) : ∃ g, leastG row L p = some g := by
  have := gainsOf_per h hM h2 hr
  unfold leastG
  cases (List.range (p - 1)).findSome? fun i => if p % (i + 1) = 0 then gainsOf row L (i + 1) else none with
  | some g => exact ⟨g, rfl⟩
  | none => exact ⟨_, this⟩
/-- values and gains that were found tell f -/
theorem gr_vals {gs : List Int} {L m : Nat} (h : Per f l N c) (hl : gs.length = l) (hg : ∀ n, L ≤ n → gs.getD (n % gs.length) 0 = c n) (hN : N ≤ L) (hm : L + l ≤ m) : Gr (valsP f m) gs f := by
  have lp := h.pos
  subst hl
  refine ⟨lp, by rw [valsP_len]; omega, fun i hi => ?_, fun i hi => ?_⟩
  · rw [valsP_len] at hi
    unfold valsP
    rw [getD_map_range hi]
  · rw [valsP_len] at hi
    have e := h.st (i - gs.length) (by omega)
    have e2 := hg (i - gs.length) (by omega)
    rw [Nat.sub_add_cancel (by omega)] at e
    have e3 : (i - gs.length) % gs.length = i % gs.length := by rw [Nat.mod_eq_sub_mod (by omega : i ≥ gs.length)]
    rw [e, ← e2, e3]
theorem found_le {gs : List Int} {L B : Nat} (h : Per f l N c) (hl : gs.length = l) (hg : ∀ n, L ≤ n → gs.getD (n % gs.length) 0 = c n) (hN : N ≤ L) (fb : FB B f) : ∀ x ∈ gs, x.natAbs ≤ B * (2 * (L + 2 * l + 1)) := by
  intro x hx
  subst hl
  obtain ⟨r, hr, rfl⟩ := List.getElem_of_mem hx
  obtain ⟨i, h1, h2, h3⟩ := mod_place (L := L + gs.length) h.pos hr (by omega)
  have g1 : gs.getD (i % gs.length) 0 = gs[r] := by rw [h3, List.getD_eq_getElem?_getD, List.getElem?_eq_getElem hr]; rfl
  rw [← g1, hg i (by omega)]
  cases ef : f i with
  | none => rw [h.z i (by omega) ef]; exact Nat.zero_le _
  | some v =>
    have s := h.st i (by omega)
    rw [ef] at s
    have b1 := fb _ _ ef
    have b2 : (v + c i).natAbs ≤ B * (i + gs.length + 1) := fb _ _ s
    have e1 : B * (i + 1) ≤ B * (L + 2 * gs.length + 1) := Nat.mul_le_mul_left _ (by omega)
    have e2 : B * (i + gs.length + 1) ≤ B * (L + 2 * gs.length + 1) := Nat.mul_le_mul_left _ (by omega)
    have e3 : B * (2 * (L + 2 * gs.length + 1)) = B * (L + 2 * gs.length + 1) + B * (L + 2 * gs.length + 1) := by rw [← Nat.mul_add]; congr 1; omega
    omega
/-- any two growths have a shared period -/
theorem per_dvd {q : Nat} (h : Per f l N c) (hd : l ∣ q) (hq : 0 < q) : ∃ c', Per f q N c' := by
  obtain ⟨z, rfl⟩ := hd
  have : 0 < z := by
    cases z with
    | zero => rw [Nat.mul_zero] at hq; omega
    | succ z => omega
  rw [Nat.mul_comm]
  exact ⟨_, per_mul h this⟩
theorem per_const (i : Int) {l N : Nat} (hl : 0 < l) : Per (fun _ => some i) l N (fun _ => 0) := ⟨hl, fun n _ => by simp, fun _ _ => rfl, fun n _ e => by cases e⟩
theorem okf_sum_const {i : Int} (h : Okf f) : Okf (fSum f fun _ => some i) := by
  obtain ⟨l, N, c, k, h1, h2⟩ := h
  exact ⟨l, N, _, per_sum k (per_const i k.pos), h1, h2⟩
theorem okf_times {k : Int} (h : Okf f) : Okf (fTimes k f) := by
  obtain ⟨l, N, c, z, h1, h2⟩ := h
  exact ⟨l, N, _, per_times k z, h1, h2⟩
theorem gr_const (i : Int) : Gr [some i] [0] (fun _ => some i) := by
  refine ⟨by decide, by show 1 ≤ 1; decide, fun n hn => ?_, fun n hn => ?_⟩
  · have : n = 0 := by simp at hn; exact hn
    rw [this]; rfl
  · have : n % [(0 : Int)].length = 0 := Nat.mod_one n
    rw [this]
    simp
theorem fb_const (i : Int) : FB i.natAbs (fun _ => some i) := fun n v e => by
  cases e
  exact Nat.le_mul_of_pos_right _ (by omega)
/-- the shared multiple of two numbers -/
theorem lcm_facts {a b : Nat} (ha : 0 < a) (hb : 0 < b) : ∃ q : Nat, (a : Int) / (Int.gcd a b : Int) * (b : Int) = (q : Int) ∧ a ∣ q ∧ b ∣ q ∧ 0 < q ∧ q ≤ a * b := by
  have hg : 0 < Nat.gcd a b := Nat.gcd_pos_of_pos_left _ ha
  obtain ⟨x, hx⟩ := Nat.gcd_dvd_left a b
  obtain ⟨y, hy⟩ := Nat.gcd_dvd_right a b
  have hax : a / Nat.gcd a b = x := by
    conv => lhs; lhs; rw [hx]
    exact Nat.mul_div_cancel_left _ hg
  have hx0 : 0 < x := by
    cases x with
    | zero => rw [Nat.mul_zero] at hx; omega
    | succ x => omega
  refine ⟨a / Nat.gcd a b * b, ?_, ?_, ?_, ?_, ?_⟩
  · rw [Int.natCast_mul, Int.natCast_ediv]
    rfl
  · rw [hax]
    conv => rhs; rhs; rw [hy]
    rw [← Nat.mul_assoc, Nat.mul_comm x, ← hx]
    exact Nat.dvd_mul_right _ _
  · exact Nat.dvd_mul_left _ _
  · rw [hax]; exact Nat.mul_pos hx0 hb
  · exact Nat.mul_le_mul_right _ (Nat.div_le_self _ _)
end
end HG

/-! Texts of growths, equality of rows. -/
namespace HG
open PySem L2
/-! ### rows of numbers and Nones compared -/
theorem eqvAll_oD : ∀ os ps : List (Option Int), PyData.eqvAll (os.map oD) (ps.map oD) = decide (os = ps)
  | [], [] => rfl
  | [], _ :: _ => by simp [PyData.eqvAll]
  | _ :: _, [] => by simp [PyData.eqvAll]
  | o :: os, p :: ps => by
    show (PyData.eqv (oD o) (oD p) && PyData.eqvAll (os.map oD) (ps.map oD)) = _
    rw [eqvAll_oD os ps]
    cases o with
    | none =>
      cases p with
      | none => show (true && decide (os = ps)) = _; simp
      | some j => show (false && decide (os = ps)) = _; simp
    | some i =>
      cases p with
      | none => show (false && decide (os = ps)) = _; simp
      | some j =>
        show (decide (i = j) && decide (os = ps)) = _
        by_cases h1 : i = j <;> by_cases h2 : os = ps <;> simp [h1, h2]
section
variable {K : PySem.W.Frag} {H : Hp} {p q : Addr} {Q : VK}
theorem eqT {os ps : List (Option Int)} (hl : H p = some (.tup (os.map oV))) (hq : H q = some (.tup (ps.map oV))) (h : Q (.bl (decide (os = ps))) H) : oEq K (.ref p) (.ref q) H Q := by
  have e1 : dataF 8 H (.ref p) = some (.tuple (os.map oD)) := dataF_tup hl
  have e2 : dataF 8 H (.ref q) = some (.tuple (ps.map oD)) := dataF_tup hq
  simp only [oEq, e1, e2]
  refine ⟨(shaped_oVs os).2, (shaped_oVs ps).2, ?_⟩
  show Q (.bl (PyData.eqvAll (os.map oD) (ps.map oD))) H
  rw [eqvAll_oD]
  exact h
theorem ints_oV (ns : List Int) : ns.map V.int = (ns.map some).map oV := by rw [List.map_map]; rfl
theorem eqG {os ps : List Int} (hl : H p = some (.tup (os.map V.int))) (hq : H q = some (.tup (ps.map V.int))) (h : Q (.bl (decide (os = ps))) H) : oEq K (.ref p) (.ref q) H Q := by
  rw [ints_oV] at hl hq
  refine eqT hl hq ?_
  have e : decide (os.map some = ps.map some) = decide (os = ps) := by
    refine decide_eq_decide.mpr ⟨fun z => ?_, fun z => by rw [z]⟩
    exact (List.map_inj_right (fun x y e => Option.some.inj e)).mp z
  rw [e]
  exact h
end
/-! ### texts -/
def oS : Option Int → Str
  | none => "-"
  | some i => toString i
def gWords (told : List (Option Int)) (gains : List Int) : List Str := told.map oS ++ ((";" : Str) :: gains.map fun i => (toString i : Str))
def gText (told : List (Option Int)) (gains : List Int) : Str := Txt.join " " (gWords told gains)
open TL in
def deN (l : List Nat) : Nat := l.foldl (fun a d => 10 * a + (d - 48)) 0
open TL in
theorem deN_num (n : Nat) : deN (numL n) = n := by
  induction n using Nat.strongRecOn with
  | _ n ih =>
    by_cases h : n < 10
    · rw [numL_lt h]
      show 10 * 0 + (48 + n - 48) = n
      omega
    · rw [numL_step (by omega)]
      unfold deN at *
      rw [List.foldl_append, ih (n / 10) (by omega)]
      show 10 * (n / 10) + (48 + n % 10 - 48) = n
      omega
open TL in
theorem numL_dig (n : Nat) : numL n ≠ [] ∧ ∀ d ∈ numL n, 48 ≤ d ∧ d ≤ 57 := by
  induction n using Nat.strongRecOn with
  | _ n ih =>
    by_cases h : n < 10
    · rw [numL_lt h]
      refine ⟨by simp, fun d hd => ?_⟩
      rw [List.mem_singleton] at hd
      omega
    · rw [numL_step (by omega)]
      obtain ⟨h1, h2⟩ := ih (n / 10) (by omega)
      refine ⟨by simp, fun d hd => ?_⟩
      rcases List.mem_append.mp hd with hd | hd
      · exact h2 d hd
      · rw [List.mem_singleton] at hd
        omega
open TL in
theorem tl_nat (n : Nat) : tl (Str.ofString (toString (Int.ofNat n))) = numL n := tl_num n
open TL in
theorem tl_neg (n : Nat) : tl (Str.ofString (toString (Int.negSucc n))) = 45 :: numL (n + 1) := by
  show (Str.ofString (toString (Int.negSucc n))).cps.toList = _
  have e : toString (Int.negSucc n) = "-" ++ Nat.repr (n + 1) := rfl
  rw [PyProof.Rows.signs_ofString, e, String.toList_append, List.map_append, Nat.toList_repr]
  rfl
open TL in
theorem tl_int (i : Int) : ∃ m : Nat, (i = Int.ofNat m ∧ tl (Str.ofString (toString i)) = numL m) ∨ (∃ m', i = Int.negSucc m' ∧ m = m' + 1 ∧ tl (Str.ofString (toString i)) = 45 :: numL m) := by
  cases i with
  | ofNat m => exact ⟨m, .inl ⟨rfl, tl_nat m⟩⟩
  | negSucc m => exact ⟨m + 1, .inr ⟨m, rfl, rfl, tl_neg m⟩⟩
open TL in
theorem oS_dash (i : Int) : (Str.ofString (toString i)) ≠ ("-" : Str) := by
  intro z
  have e : tl (Str.ofString (toString i)) = [45] := by rw [z]; rfl
  obtain ⟨m, ⟨_, h⟩ | ⟨m', _, _, h⟩⟩ := tl_int i
  · rw [h] at e
    have := (numL_dig m).2 45 (by rw [e]; simp)
    omega
  · rw [h] at e
    exact (numL_dig m).1 (List.cons.inj e).2
open TL in
theorem oS_semi (o : Option Int) : oS o ≠ (";" : Str) := by
  cases o with
  | none => decide
  | some i =>
    intro z
    have e : tl (Str.ofString (toString i)) = [59] := by
      show tl (oS (some i)) = _
      rw [z]; rfl
    obtain ⟨m, ⟨_, h⟩ | ⟨m', _, _, h⟩⟩ := tl_int i
    · rw [h] at e
      have := (numL_dig m).2 59 (by rw [e]; simp)
      omega
    · rw [h] at e
      have := (List.cons.inj e).1
      omega
open TL in
theorem text_inj {i j : Int} (h : Str.ofString (toString i) = Str.ofString (toString j)) : i = j := by
  have e : tl (Str.ofString (toString i)) = tl (Str.ofString (toString j)) := by rw [h]
  obtain ⟨m, ⟨h1, h2⟩ | ⟨m', h1, h3, h2⟩⟩ := tl_int i
  · obtain ⟨n, ⟨k1, k2⟩ | ⟨n', k1, k3, k2⟩⟩ := tl_int j
    · rw [h2, k2] at e
      have := deN_num m
      rw [e, deN_num] at this
      rw [h1, k1, this]
    · rw [h2, k2] at e
      have := (numL_dig m).2 45 (by rw [e]; simp)
      omega
  · obtain ⟨n, ⟨k1, k2⟩ | ⟨n', k1, k3, k2⟩⟩ := tl_int j
    · rw [h2, k2] at e
      have := (numL_dig n).2 45 (by rw [← e]; simp)
      omega
    · rw [h2, k2] at e
      have e := (List.cons.inj e).2
      have := deN_num m
      rw [e, deN_num] at this
      rw [h1, k1]
      congr 1
      omega
theorem oS_inj {o p : Option Int} (h : oS o = oS p) : o = p := by
  cases o with
  | none =>
    cases p with
    | none => rfl
    | some j => exact absurd h.symm (oS_dash j)
  | some i =>
    cases p with
    | none => exact absurd h (oS_dash i)
    | some j => rw [text_inj h]
theorem gWords_inj : ∀ {t t' : List (Option Int)} {A B : List Str}, t.map oS ++ ((";" : Str) :: A) = t'.map oS ++ ((";" : Str) :: B) → t = t' ∧ A = B
  | [], [], A, B, h => ⟨rfl, (List.cons.inj h).2⟩
  | [], p :: t', A, B, h => absurd (List.cons.inj h).1.symm (oS_semi p)
  | o :: t, [], A, B, h => absurd (List.cons.inj h).1 (oS_semi o)
  | o :: t, p :: t', A, B, h => by
    obtain ⟨h1, h2⟩ := List.cons.inj h
    obtain ⟨e1, e2⟩ := gWords_inj h2
    exact ⟨by rw [oS_inj h1, e1], e2⟩
open TL in
theorem word_free (told : List (Option Int)) (gains : List Int) : ∀ p ∈ gWords told gains, 32 ∉ tl p := by
  have num : ∀ i : Int, 32 ∉ tl (Str.ofString (toString i)) := fun i z => (PyProof.Rows.intText_free_32 i).mp z
  intro p hp
  unfold gWords at hp
  rcases List.mem_append.mp hp with hp | hp
  · obtain ⟨o, ho, rfl⟩ := List.mem_map.mp hp
    cases o with
    | none => decide
    | some i => exact num i
  · rcases List.mem_cons.mp hp with hp | hp
    · rw [hp]; decide
    · obtain ⟨i, hi, rfl⟩ := List.mem_map.mp hp
      exact num i
open TL in
theorem split_gText (told : List (Option Int)) (gains : List Int) : Txt.split (gText told gains) " " = gWords told gains :=
  split_join (y := " ") (s := 32) (S := []) (by decide) (by decide +kernel) (by unfold gWords; simp) (word_free told gains)
theorem gText_inj {t t' : List (Option Int)} {g g' : List Int} (h : gText t g = gText t' g') : t = t' ∧ g = g' := by
  have e : gWords t g = gWords t' g' := by rw [← split_gText, ← split_gText, h]
  obtain ⟨h1, h2⟩ := gWords_inj e
  exact ⟨h1, (List.map_inj_right (fun x y z => text_inj z)).mp h2⟩
theorem text_len {i : Int} {m : Nat} (h : Bn (m + 1) i) : (Str.ofString (toString i)).length ≤ m + 2 := by
  rw [PySem.ofString_length]
  have := PySem.int_text_length_le (a := i) (k := m + 1) (by omega) (Nat.lt_succ_of_le (Bn.log h))
  omega
/-- the room that a text takes -/
theorem gText_room {told : List (Option Int)} {gains : List Int} {m : Nat} (h1 : told.length ≤ 4000) (h2 : gains.length ≤ 60) (ht : ∀ o ∈ told, ∀ i, o = some i → Bn (m + 1) i) (hg : ∀ x ∈ gains, Bn (m + 1) x) (hm : m ≤ 2000) :
    ((gWords told gains).map (·.length)).sum + (gWords told gains).length * (" " : Str).length ≤ 16777216 := by
  have le : ∀ {l : List Nat} {b : Nat}, (∀ x ∈ l, x ≤ b) → l.sum ≤ l.length * b := by
    intro l b
    induction l with
    | nil => intro _; simp
    | cons x l ih =>
      intro h
      have h1 := h x (List.mem_cons_self ..)
      have h2 := ih fun y hy => h y (List.mem_cons_of_mem _ hy)
      rw [List.sum_cons, List.length_cons, Nat.add_mul, Nat.one_mul]
      omega
  have wl : (gWords told gains).length ≤ 4061 := by
    unfold gWords
    rw [List.length_append, List.length_map, List.length_cons, List.length_map]
    omega
  have ww : ∀ x ∈ (gWords told gains).map (·.length), x ≤ 2002 := by
    intro x hx
    obtain ⟨w, hw, rfl⟩ := List.mem_map.mp hx
    unfold gWords at hw
    rcases List.mem_append.mp hw with hw | hw
    · obtain ⟨o, ho, rfl⟩ := List.mem_map.mp hw
      cases o with
      | none => show (1 : Nat) ≤ 2002; decide
      | some i => exact Nat.le_trans (text_len (ht _ ho i rfl)) (by omega)
    · rcases List.mem_cons.mp hw with hw | hw
      · rw [hw]; show (1 : Nat) ≤ 2002; decide
      · obtain ⟨i, hi, rfl⟩ := List.mem_map.mp hw
        exact Nat.le_trans (text_len (hg _ hi)) (by omega)
  have s := le ww
  rw [List.length_map] at s
  have e1 : (gWords told gains).length * 2002 ≤ 4061 * 2002 := Nat.mul_le_mul_right _ wl
  have e2 : (" " : Str).length = 1 := by decide
  rw [e2]
  omega
open TL in
theorem joinL_mem {S : List Nat} {x : Nat} : ∀ {parts : List (List Nat)}, x ∈ joinL S parts → x ∈ S ∨ ∃ p ∈ parts, x ∈ p
  | [], h => by exact absurd h (List.not_mem_nil)
  | [p], h => .inr ⟨p, by simp, h⟩
  | p :: q :: r, h => by
    have h : x ∈ p ++ (S ++ joinL S (q :: r)) := h
    rcases List.mem_append.mp h with h | h
    · exact .inr ⟨p, by simp, h⟩
    · rcases List.mem_append.mp h with h | h
      · exact .inl h
      · rcases joinL_mem h with h | ⟨u, h1, h2⟩
        · exact .inl h
        · exact .inr ⟨u, List.mem_cons_of_mem _ h1, h2⟩
open TL in
theorem num_small (i : Int) : ∀ x ∈ tl (Str.ofString (toString i)), x < 128 := by
  intro x hx
  obtain ⟨m, ⟨_, h⟩ | ⟨m', _, _, h⟩⟩ := tl_int i
  · rw [h] at hx
    have := (numL_dig m).2 x hx
    omega
  · rw [h] at hx
    rcases List.mem_cons.mp hx with hx | hx
    · omega
    · have := (numL_dig m).2 x hx
      omega
open TL in
theorem gText_small (told : List (Option Int)) (gains : List Int) : ∀ x ∈ tl (gText told gains), x < 128 := by
  intro x hx
  unfold gText at hx
  rw [join_eq, tl_join] at hx
  rcases joinL_mem hx with hx | ⟨p, hp, hx⟩
  · have e : tl (" " : Str) = [32] := by decide
    rw [e, List.mem_singleton] at hx
    omega
  · obtain ⟨w, hw, rfl⟩ := List.mem_map.mp hp
    unfold gWords at hw
    rcases List.mem_append.mp hw with hw | hw
    · obtain ⟨o, ho, rfl⟩ := List.mem_map.mp hw
      cases o with
      | none =>
        have e : tl (oS none) = [45] := by decide
        rw [e, List.mem_singleton] at hx
        omega
      | some i => exact num_small i x hx
    · rcases List.mem_cons.mp hw with hw | hw
      · have e : tl (";" : Str) = [59] := by decide
        rw [hw, e, List.mem_singleton] at hx
        omega
      · obtain ⟨i, hi, rfl⟩ := List.mem_map.mp hw
        exact num_small i x hx
open TL in
theorem strOk_of {z : Str} (h : ∀ x ∈ tl z, x < 128) : PyData.strOk z = true := by
  unfold PyData.strOk
  rw [← Array.all_toList, List.all_eq_true]
  intro x hx
  have := h x hx
  exact decide_eq_true (by omega)
theorem gText_ok (told : List (Option Int)) (gains : List Int) : PyData.strOk (gText told gains) = true := strOk_of (gText_small told gains)
end HG

/-! Wide periods; pairs and triples compared. -/
namespace HG
open PySem L2
section
variable {f F : Nat → Option Int} {P N : Nat} {C : Nat → Int} {x : Int} {told : List (Option Int)} {gains g0 : List Int}
/-- a period with one rest whose gain is unlike all others is the least one -/
theorem lst_odd (h : Per F P N C) (h0 : ∀ n, N ≤ n → n % P = 0 → C n = x) (h1 : ∀ n, N ≤ n → n % P ≠ 0 → C n ≠ x) : Lst F P := by
  intro l M c k
  by_cases z : P ≤ l
  · exact z
  · exfalso
    have a := h.up (M := max N M) (by omega)
    have b := k.up (M := max N M) (by omega)
    have hp := h.pos
    have hl := k.pos
    have big : max N M ≤ (max N M) * P := Nat.le_mul_of_pos_right _ hp
    have e1 := a.both b (n := (max N M) * P) big
    have e2 := a.both b (n := (max N M) * P + l) (by omega)
    rw [b.cp _ big, ← e1] at e2
    have e3 : C ((max N M) * P + l) = C ((max N M) * P) := mul_inj hl e2
    rw [h0 ((max N M) * P) (by omega) (Nat.mul_mod_left _ _)] at e3
    refine h1 ((max N M) * P + l) (by omega) ?_ e3
    rw [Nat.mul_add_mod_self_right, Nat.mod_eq_of_lt (by omega)]
    omega
theorem gv_rest (hp : 0 < gains.length) (hl : gains.length = told.length) (n : Nat) : gv told gains n = none ↔ told.getD (n % gains.length) none = none := by
  have G := gr_gv hp (by omega : gains.length ≤ told.length)
  have := (gr_per G).nos (n := n % gains.length) (by omega) (n / gains.length)
  have e : n % gains.length + n / gains.length * gains.length = n := by
    have := Nat.div_add_mod n gains.length
    rw [Nat.mul_comm] at this
    omega
  rw [e] at this
  rw [this, gv_lt (by have := Nat.mod_lt n hp; omega)]
theorem wide_per (hp : 0 < gains.length) (hl : gains.length = told.length) (hz : ∀ i, i < told.length → told.getD i none = none → gains.getD i 0 = 0) : Per (gv told gains) gains.length 0 (fun n => gains.getD (n % gains.length) 0) := by
  have G := gr_gv hp (by omega : gains.length ≤ told.length)
  refine ⟨hp, fun n _ => G.step (by omega), fun n _ => by rw [Nat.add_mod_right], fun n _ e => ?_⟩
  exact hz _ (by have := Nat.mod_lt n hp; omega) ((gv_rest hp hl n).mp e)
theorem wide_nf {x : Int} (hp : 0 < gains.length) (hl : gains.length = told.length) (hz : ∀ i, i < told.length → told.getD i none = none → gains.getD i 0 = 0) (h0 : gains.getD 0 0 = x) (h1 : ∀ i, 0 < i → i < gains.length → gains.getD i 0 ≠ x) : Nf told gains (gv told gains) := by
  have G := gr_gv hp (by omega : gains.length ≤ told.length)
  refine ⟨G, lst_odd (wide_per hp hl hz) (x := x) (fun n _ e => by rw [e]; exact h0) (fun n _ e => h1 _ (by omega) (Nat.mod_lt _ hp)), fun n _ e => ?_, fun hc => absurd hc (by omega)⟩
  exact hz _ (by have := Nat.mod_lt n hp; omega) ((gv_rest hp hl n).mp e)
/-- other gains at rests that are None for ever -/
theorem wide_other (hp : 0 < gains.length) (hl : gains.length = told.length) (hg : g0.length = gains.length) (h : ∀ i, i < told.length → told.getD i none ≠ none → g0.getD i 0 = gains.getD i 0) : gv told g0 = gv told gains := by
  have G0 := gr_gv (by omega : 0 < g0.length) (by omega : g0.length ≤ told.length)
  have G : Gr told gains (gv told g0) := by
    refine ⟨hp, by omega, fun n hn => gv_lt hn, fun n hn => ?_⟩
    rw [G0.hi n hn, hg]
    cases e : gv told g0 (n - gains.length) with
    | none => rfl
    | some v =>
      have hm := Nat.mod_lt n hp
      have e2 : (n - gains.length) % gains.length = n % gains.length := by rw [Nat.mod_eq_sub_mod (by omega : n ≥ gains.length)]
      have : told.getD (n % gains.length) none ≠ none := fun z => by
        have := (gv_rest (told := told) (gains := g0) (by omega) (by omega) (n - gains.length)).mpr (by rw [hg, e2]; exact z)
        rw [this] at e
        cases e
      rw [h _ (by omega) this]
  funext n
  exact G.eq (gr_gv hp (by omega)) n
theorem sum_self (f : Nat → Option Int) : fSum f f = fTimes 2 f := by
  funext n
  unfold fSum fTimes oTimes
  cases f n with
  | none => rfl
  | some v =>
    show some (v + v) = some (2 * v)
    congr 1
    omega
end
/-! ### pairs and triples of rows -/
section
variable {K : PySem.W.Frag} {H : Hp} {p q x y x' y' : Addr} {Q : VK} {os ps : List (Option Int)} {gs hs : List Int} {u v : Str}
def pD (os : List (Option Int)) (gs : List Int) : List PyData := [.tuple (os.map oD), .tuple (gs.map PyData.int)]
theorem dataF_gs {n : Nat} (h : H p = some (.tup (gs.map V.int))) : dataF (n + 1) H (.ref p) = some (.tuple (gs.map PyData.int)) := by
  simp only [dataF, h]
  rw [dataL_ints (fun i => dataF_int)]
  rfl
theorem data_pair {n : Nat} (h : H p = some (.tup [.ref x, .ref y])) (hx : H x = some (.tup (os.map oV))) (hy : H y = some (.tup (gs.map V.int))) : dataF (n + 2) H (.ref p) = some (.tuple (pD os gs)) := by
  have e1 : dataF (n + 1) H (.ref x) = some (.tuple (os.map oD)) := dataF_tup hx
  have e2 : dataF (n + 1) H (.ref y) = some (.tuple (gs.map PyData.int)) := dataF_gs hy
  rw [dataF, h]
  simp only [dataL, e1, e2]
  rfl
theorem data_triple {n : Nat} (h : H p = some (.tup [.ref x, .ref y, .str u])) (hx : H x = some (.tup (os.map oV))) (hy : H y = some (.tup (gs.map V.int))) : dataF (n + 2) H (.ref p) = some (.tuple [.tuple (os.map oD), .tuple (gs.map PyData.int), .str u]) := by
  have e1 : dataF (n + 1) H (.ref x) = some (.tuple (os.map oD)) := dataF_tup hx
  have e2 : dataF (n + 1) H (.ref y) = some (.tuple (gs.map PyData.int)) := dataF_gs hy
  have e3 : dataF (n + 1) H (.str u) = some (.str u) := rfl
  rw [dataF, h]
  simp only [dataL, e1, e2, e3]
  rfl
theorem ints_oD (gs : List Int) : gs.map PyData.int = (gs.map some).map oD := by rw [List.map_map]; rfl
theorem shaped2 (a b : List (Option Int)) (c : List PyData) (hc : PyData.canLayAll0 c = true ∧ PyData.depthAll c ≤ 1) : SeqAt.shaped (.tuple (.tuple (a.map oD) :: .tuple (b.map oD) :: c)) = true := by
  obtain ⟨a1, a2⟩ := shape_oVs a
  obtain ⟨b1, b2⟩ := shape_oVs b
  show ((PyData.canLayAll0 (a.map oD) && (PyData.canLayAll0 (b.map oD) && PyData.canLayAll0 c)) && decide (max (PyData.depthAll (a.map oD) + 1) (max (PyData.depthAll (b.map oD) + 1) (PyData.depthAll c)) + 1 ≤ 64)) = true
  rw [a1, b1, hc.1, decide_eq_true (by rw [a2, b2]; omega)]
  rfl
theorem shaped_pair : SeqAt.shaped (.tuple (pD os gs)) = true := by
  unfold pD
  rw [ints_oD]
  exact shaped2 os (gs.map some) [] ⟨rfl, Nat.zero_le _⟩
theorem shaped_triple (hu : PyData.strOk u = true) : SeqAt.shaped (.tuple [.tuple (os.map oD), .tuple (gs.map PyData.int), .str u]) = true := by
  rw [ints_oD]
  exact shaped2 os (gs.map some) [.str u] ⟨by show (PyData.strOk u && true) = true; rw [hu]; rfl, by show max 0 0 ≤ 1; decide⟩
theorem eqvAll_int (gs hs : List Int) : PyData.eqvAll (gs.map PyData.int) (hs.map PyData.int) = decide (gs = hs) := by
  rw [ints_oD, ints_oD, eqvAll_oD]
  exact decide_eq_decide.mpr ⟨fun z => (List.map_inj_right (fun x y e => Option.some.inj e)).mp z, fun z => by rw [z]⟩
theorem eqv_pair : PyData.eqv (.tuple (pD os gs)) (.tuple (pD ps hs)) = (decide (os = ps) && decide (gs = hs)) := by
  show (PyData.eqvAll (os.map oD) (ps.map oD) && (PyData.eqvAll (gs.map PyData.int) (hs.map PyData.int) && true)) = _
  rw [eqvAll_oD, eqvAll_int, Bool.and_true]
theorem eqv_triple : PyData.eqv (.tuple [.tuple (os.map oD), .tuple (gs.map PyData.int), .str u]) (.tuple [.tuple (ps.map oD), .tuple (hs.map PyData.int), .str v]) = (decide (os = ps) && (decide (gs = hs) && decide (u = v))) := by
  show (PyData.eqvAll (os.map oD) (ps.map oD) && (PyData.eqvAll (gs.map PyData.int) (hs.map PyData.int) && (decide (u = v) && true))) = _
  rw [eqvAll_oD, eqvAll_int, Bool.and_true]
theorem nePair (h : H p = some (.tup [.ref x, .ref y])) (hx : H x = some (.tup (os.map oV))) (hy : H y = some (.tup (gs.map V.int))) (h' : H q = some (.tup [.ref x', .ref y'])) (hx' : H x' = some (.tup (ps.map oV))) (hy' : H y' = some (.tup (hs.map V.int)))
    (k : Q (.bl (!(decide (os = ps) && decide (gs = hs)))) H) : oNe K (.ref p) (.ref q) H Q := by
  have e1 : dataF 8 H (.ref p) = some (.tuple (pD os gs)) := data_pair h hx hy
  have e2 : dataF 8 H (.ref q) = some (.tuple (pD ps hs)) := data_pair h' hx' hy'
  simp only [oNe, e1, e2]
  exact ⟨shaped_pair, shaped_pair, by rw [eqv_pair]; exact k⟩
theorem eqPair (h : H p = some (.tup [.ref x, .ref y])) (hx : H x = some (.tup (os.map oV))) (hy : H y = some (.tup (gs.map V.int))) (h' : H q = some (.tup [.ref x', .ref y'])) (hx' : H x' = some (.tup (ps.map oV))) (hy' : H y' = some (.tup (hs.map V.int)))
    (k : Q (.bl (decide (os = ps) && decide (gs = hs))) H) : oEq K (.ref p) (.ref q) H Q := by
  have e1 : dataF 8 H (.ref p) = some (.tuple (pD os gs)) := data_pair h hx hy
  have e2 : dataF 8 H (.ref q) = some (.tuple (pD ps hs)) := data_pair h' hx' hy'
  simp only [oEq, e1, e2]
  exact ⟨shaped_pair, shaped_pair, by rw [eqv_pair]; exact k⟩
theorem neTriple (h : H p = some (.tup [.ref x, .ref y, .str u])) (hx : H x = some (.tup (os.map oV))) (hy : H y = some (.tup (gs.map V.int))) (h' : H q = some (.tup [.ref x', .ref y', .str v])) (hx' : H x' = some (.tup (ps.map oV))) (hy' : H y' = some (.tup (hs.map V.int)))
    (hu : PyData.strOk u = true) (hv : PyData.strOk v = true) (k : Q (.bl (!(decide (os = ps) && (decide (gs = hs) && decide (u = v))))) H) : oNe K (.ref p) (.ref q) H Q := by
  have e1 : dataF 8 H (.ref p) = some (.tuple [.tuple (os.map oD), .tuple (gs.map PyData.int), .str u]) := data_triple h hx hy
  have e2 : dataF 8 H (.ref q) = some (.tuple [.tuple (ps.map oD), .tuple (hs.map PyData.int), .str v]) := data_triple h' hx' hy'
  simp only [oNe, e1, e2]
  exact ⟨shaped_triple hu, shaped_triple hv, by rw [eqv_triple]; exact k⟩
end
end HG

/-! Lambdas handed to a def: the callee runs over a greater base, the whole heap at the call that nobody tracks. -/
namespace HG
open PySem L2 PyProof.Rows LamX
/-! ### the base at a moment -/
def baseOf (h : Heap) (H : Hp) (fs : List Addr) : Heap := PySem.W.hideAll h (trk h H ++ fs)
theorem baseOf_get {h : Heap} {H : Hp} {fs : List Addr} {b : Addr} {o : Obj} (e : h.get? b = some o) (n : H b = none) (f : b ∉ fs) : (baseOf h H fs).get? b = some o :=
  PySem.W.hideAll_get _ e fun hm => by
    rcases List.mem_append.mp hm with hm | hm
    · have q : (H b).isSome = true := (List.mem_filter.mp hm).2
      rw [n] at q; simp at q
    · exact f hm
theorem of_baseOf {h : Heap} {H : Hp} {fs : List Addr} {b : Addr} {o : Obj} (e : (baseOf h H fs).get? b = some o) : h.get? b = some o ∧ H b = none ∧ b ∉ fs := by
  have e' : h.get? b = some o := PySem.W.of_hideAll _ e
  refine ⟨e', ?_, fun hm => ?_⟩
  · cases q : H b with
    | none => rfl
    | some x =>
      have hm : b ∈ trk h H ++ fs := List.mem_append_left _ (List.mem_filter.mpr ⟨List.mem_range.mpr (Heap.lt_size e'), by simp [q]⟩)
      rw [baseOf, PySem.W.hideAll_none _ hm] at e
      cases e
  · have hm : b ∈ trk h H ++ fs := List.mem_append_right _ hm
    rw [baseOf, PySem.W.hideAll_none _ hm] at e
    cases e
section
variable {X : Cx} {pins : List (Addr × Obj)} {σ : L2.St} {H : Hp} {s : Shared}
theorem base_in (I : Inv X pins σ H s) : ∀ b o, X.base.get? b = some o → (baseOf s.heap H (frs X.stack)).get? b = some o := fun b o e => by
  have h := I.bs b o e
  refine baseOf_get h.1 h.2 fun z => ?_
  have := (I.env0.funs.mem z).1
  rw [e] at this
  cases this
theorem mod_base (I : Inv X pins σ H s) : Mod X.K X.mg (baseOf s.heap H (frs X.stack)) := by
  have k := base_in I
  have m := I.mod
  refine ⟨m.kin.keeps k, m.glob.keeps k, ?_, m.nolimit.keeps k⟩
  obtain ⟨mb, h1, h2⟩ := m.blt
  exact ⟨mb, h1.keeps k, h2⟩
theorem funs_base {h base base' : Heap} {l : List Env} (hl : h.FunFrames base l) (hn : ∀ b ∈ l.filterMap (·.frame), base'.get? b = none) : h.FunFrames base' l := by
  induction l with
  | nil => trivial
  | cons env rest ih =>
    obtain ⟨hk, ⟨L, o, hf, _, ho, hd⟩, hr⟩ := hl
    refine ⟨hk, ⟨L, o, hf, hn L (by rw [List.filterMap_cons, hf]; exact List.mem_cons_self ..), ho, hd⟩, ih hr fun b hb => hn b ?_⟩
    rw [List.filterMap_cons, hf]
    exact List.mem_cons_of_mem _ hb
theorem env0_base (I : Inv X pins σ H s) : Env0 X.prog X.w X.K X.mg (baseOf s.heap H (frs X.stack)) X.A X.stack s H := by
  have e0 := I.env0
  refine ⟨e0.frames, mod_base I, fun b o e => ⟨(of_baseOf e).1, (of_baseOf e).2.1⟩, Nat.le_of_eq (PySem.W.hideAll_size _ _), funs_base e0.funs fun b hb => ?_, e0.frf, e0.hok, e0.bare⟩
  cases e : (baseOf s.heap H (frs X.stack)).get? b with
  | none => rfl
  | some o => exact absurd hb (of_baseOf e).2.2
end
/-! ### function objects of a base -/
/-- the object at f in the base is a function that does as sp says -/
structure FnB (P : Program) (w : World) (K : PySem.W.Frag) (mg : Str → Option Value) (base : Heap) (CX : CXT) (k : Nat) (f : Addr) (sp : Sp) : Prop where
  at_ : ∀ h : Heap, (∀ b o, base.get? b = some o → h.get? b = some o) → PySem.W.FnAt f h
  run : ∀ (A : Around) (outer : List Env) (s : Shared) (H : Hp) (us : List Value) (vs : List V) (Q : VK) (E : XK), Room k A → GA A → Env0 P w K mg base A outer s H → Vals vs us → sp vs H Q E →
    codeAny (model P w) A (.call (.ref f) ⟨us, []⟩) (CR CX outer P w H s Q E) s
abbrev Lams := Addr → Option Sp
def LamsOk (P : Program) (w : World) (K : PySem.W.Frag) (mg : Str → Option Value) (base : Heap) (CX : CXT) (k : Nat) (L : Lams) : Prop := ∀ f sp, L f = some sp → FnB P w K mg base CX k f sp
/-- x(..), x a name that holds such a function -/
def tCallV (L : Lams) (i : Nat) (E : XK) (t : TA) : TE := fun σ H Q => ∃ f sp, σ[i]? = some (some (.ref f)) ∧ L f = some sp ∧ t σ H fun vs H1 => sp vs H1 Q E
section
variable {X : Cx} {CX : CXT} {k i : Nat} {E : XK} {a : Str} {p1 p2 : Pos} {e : Expr} {es : List Expr} {t : TA} {L : Lams}
theorem pe_callV (hL : LamsOk X.prog X.w X.K X.mg X.base CX k L) (hr : Room k X.A) (hG : GA X.A) (hx : Passes CX X E) (hN : X.N[i]? = some a) (hv : Vis X.env.scope a) (ha : PA X (e :: es) t) (hd : (a == ("__debug__" : Str)) = false := by decide) (hcd : (a == ("__classdict__" : Str)) = false := by decide)
    (he : starEach (e :: es) X.env = (false, eval e X.env) :: starEach es X.env := by rfl) (hpl : (backTo p2 (starEach es X.env)).any (·.1) = false := by rfl) : PE X (.Call (.Name a p1) (e :: es) [] p2) (tCallV L i E t) := by
  refine ⟨fun pins s σ H Q I h => ?_⟩
  obtain ⟨f, sp, hs, hl, ht⟩ := h
  have F := hL f sp hl
  refine wpAny_Call_Name_kw (thn ((pe_var (pos := p1) (i := i) hN hv hd hcd).run pins s σ H (fun v H1 => v = .ref f ∧ H1 = H) I ⟨.ref f, hs, rfl, rfl⟩) fun u s1 ⟨v, H1, I1, r1, q1⟩ => ?_)
  obtain ⟨ev, eH⟩ := q1
  subst ev
  rw [eH] at I1
  obtain rfl : u = Value.ref f := r1
  refine PySem.W.callWith_F (first := []) (F.at_ _ I1.bk) (thn (ha.run p2 pins s1 σ H _ I1 ht) fun us s2 z => ?_) he hpl
  obtain ⟨vs, H2, I2, r, q⟩ := z
  exact ⟨F.at_ _ I2.bk, wpAny_call (codeAny_mono (F.run X.A X.stack s2 H2 us vs Q E hr hG I2.env0 r q) fun r s' hq => behind hx I2 hq)⟩
theorem pe_callV0 (hL : LamsOk X.prog X.w X.K X.mg X.base CX k L) (hr : Room k X.A) (hG : GA X.A) (hx : Passes CX X E) (hN : X.N[i]? = some a) (hv : Vis X.env.scope a) (hd : (a == ("__debug__" : Str)) = false := by decide) (hcd : (a == ("__classdict__" : Str)) = false := by decide) : PE X (.Call (.Name a p1) [] [] p2) (tCallV L i E tNil) := by
  refine ⟨fun pins s σ H Q I h => ?_⟩
  obtain ⟨f, sp, hs, hl, ht⟩ := h
  have F := hL f sp hl
  refine wpAny_Call_Name_kw (thn ((pe_var (pos := p1) (i := i) hN hv hd hcd).run pins s σ H (fun v H1 => v = .ref f ∧ H1 = H) I ⟨.ref f, hs, rfl, rfl⟩) fun u s1 ⟨v, H1, I1, r1, q1⟩ => ?_)
  obtain ⟨ev, eH⟩ := q1
  subst ev
  rw [eH] at I1
  obtain rfl : u = Value.ref f := r1
  exact PySem.W.callWith_F0 (F.at_ _ I1.bk) (wpAny_call (codeAny_mono (F.run X.A X.stack s1 H [] [] Q E hr hG I1.env0 .nil ht) fun r s' hq => behind hx I1 hq))
end
theorem nd_inj {α : Type} {l : List α} (h : l.Nodup) {i j : Nat} {hi : i < l.length} {hj : j < l.length} (e : l[i] = l[j]) : i = j := by
  have p := List.pairwise_iff_getElem.mp h
  rcases Nat.lt_trichotomy i j with z | z | z
  · exact absurd e (p i j hi hj z)
  · exact z
  · exact absurd e.symm (p j i hj hi z)
/-! ### the lambda's own run -/
/-- the parameters are its only own names -/
structure LamP (sc scope : Scope) (ps : List Str) : Prop where
  kind : scope.kind = .function
  co : scope.isCoroutine = false
  gen : scope.isGenerator = false
  nocell : ∀ y ∈ scope.names, y.2 ≠ .cell
  loc : ∀ y ∈ scope.names, y.2 = .local → y.1 ∈ ps
  par : ∀ p ∈ ps, scope.names.lookup p = some .local
  free : ∀ y ∈ scope.names, y.2 = .free → sc.names.lookup y.1 = some .cell ∨ sc.names.lookup y.1 = some .free
def lamPB (sc scope : Scope) (ps : List Str) : Bool :=
  decide (scope.kind = .function) && !scope.isCoroutine && !scope.isGenerator && (scope.names.all fun y => !decide (y.2 = .cell) && (!decide (y.2 = .local) || ps.contains y.1) && (!decide (y.2 = .free) || decide (sc.names.lookup y.1 = some .cell) || decide (sc.names.lookup y.1 = some .free))) && ps.all fun p => decide (scope.names.lookup p = some .local)
theorem lamP_by {sc scope : Scope} {ps : List Str} (h : lamPB sc scope ps = true) : LamP sc scope ps := by
  unfold lamPB at h
  simp only [Bool.and_eq_true, Bool.or_eq_true, Bool.not_eq_true', decide_eq_true_eq, decide_eq_false_iff_not, List.all_eq_true, List.contains_iff_mem] at h
  obtain ⟨⟨⟨⟨h1, h2⟩, h3⟩, h4⟩, h5⟩ := h
  refine ⟨h1, h2, h3, fun y hy => (h4 y hy).1.1, fun y hy e => ?_, h5, fun y hy e => ?_⟩
  · rcases (h4 y hy).1.2 with z | z
    · exact absurd e z
    · exact z
  · rcases (h4 y hy).2 with (z | z) | z
    · exact absurd e z
    · exact .inl z
    · exact .inr z
abbrev lamEnvB (X : Cx) (scope : Scope) (L f c' : Addr) : Env := PySem.W.envX (X.env.qual ++ "<lambda>") scope L f (.ref c') (cloFrom X.env.cells scope.names [])
/-- the context of the lambda's body, entered at s from the frames outer, over a base -/
def lamCxB (X : Cx) (base : Heap) (CX : CXT) (A : Around) (outer : List Env) (s : Shared) (H : Hp) (E : XK) (scope : Scope) (f c' : Addr) : Cx where
  prog := X.prog
  w := X.w
  K := X.K
  mg := X.mg
  base := base
  A := A.deeper (lamEnvB X scope s.heap.objs.size f c')
  N := X.N
  s_0 := s
  H_0 := H
  env := lamEnvB X scope s.heap.objs.size f c'
  outer := outer
  stack := lamEnvB X scope s.heap.objs.size f c' :: outer
  ex := []
  fn := fun _ => false
  calm := true
  pn := []
  xe := fun e s' => wpAny (model X.prog X.w) (A.deeper (lamEnvB X scope s.heap.objs.size f c')) (leaving (lamEnvB X scope s.heap.objs.size f c') e) (fun _ s'' => CX outer H s E e s'') (fun e' s'' => CX outer H s E e' s'') s'
section
variable {X : Cx} {pins : List (Addr × Obj)} {σ : L2.St} {H : Hp} {s : Shared} {CX : CXT}
theorem cell_nofr (I : Inv X pins σ H s) (hfn : ∀ x, X.fn x = true) {y : Str} {c : Addr} (hc : X.env.cells.lookup y = some c) : c ∉ frs X.stack := by
  obtain ⟨v, o, ho, hd⟩ := I.cell y c hc
  have noO : c ∉ X.fs := fun z => by
    obtain ⟨_, o', ho', _⟩ := I.ok.funs.mem z
    have h1 := Heap.lt_size ho'
    have h2 := I.ok.cab y c (hfn y) hc
    exact absurd (Nat.lt_of_lt_of_le h1 h2) (Nat.lt_irrefl _)
  rcases I.ok.stk with e | ⟨e, ef⟩
  · rw [e]; exact noO
  · rw [e]
    intro z
    have z : c ∈ (X.env :: X.outer).filterMap (·.frame) := z
    rw [List.filterMap_cons, ef] at z
    rcases List.mem_cons.mp z with z | z
    · obtain ⟨m, ⟨o2, es, ep, e2, hd2, _⟩, _⟩ := I.loc
      rw [← z, ho] at e2
      cases e2
      rw [hd] at hd2
      cases hd2
    · exact noO z
theorem lam_startB {A : Around} {outer : List Env} {E : XK} {scope : Scope} {ps : List Str} {f c' : Addr} {h₁ : Heap} {tk : Nat} {s1 : Shared} {HZ : Hp} {binds : List (Str × Value)} {σ' : L2.St} (I : Inv X pins σ H s) (hfn : ∀ x, X.fn x = true) (L : LamP X.env.scope scope ps)
    (e0 : Env0 X.prog X.w X.K X.mg (baseOf s.heap H (frs X.stack)) A outer s1 HZ) (hd : A.handled = none) (hns : h₁.Ns s1.heap.objs.size fun y => binds.reverse.lookup y) (kp : ∀ b o, s1.heap.get? b = some o → h₁.get? b = some o) (hl : σ'.length = X.N.length)
    (hfree : ∀ (i : Nat) (x : Str) (v : V), X.N[i]? = some x → σ'[i]? = some (some v) → scope.names.lookup x = some .free → σ[i]? = some (some v))
    (hloc : ∀ (i : Nat) (x : Str) (v : V), X.N[i]? = some x → σ'[i]? = some (some v) → scope.names.lookup x = some .local → ∃ u, RelV v u ∧ binds.reverse.lookup x = some u) :
    Inv (lamCxB X (baseOf s.heap H (frs X.stack)) CX A outer s1 HZ E scope f c') [] σ' HZ { s1 with heap := h₁, toks := tk } := by
  have hfr : ∀ y ∈ scope.names, y.2 = .free → ∃ c, X.env.cells.lookup y.1 = some c := fun y hy e => by
    rcases L.free y hy e with k | k
    · exact I.ok.has _ (.inl k)
    · exact I.ok.has _ (.inr k)
  have cm : ∀ {y c}, (cloFrom X.env.cells scope.names []).lookup y = some c → X.env.cells.lookup y = some c := fun {y c} e => by
    rcases cloFrom_mem (PySem.mem_of_lookup e) with hm | ⟨h1, h2⟩
    · cases hm
    · obtain ⟨c1, hc⟩ := hfr _ h1 rfl
      have hc : X.env.cells.lookup y = some c1 := hc
      have e2 : c = c1 := by
        rw [h2, hc] <;> rfl
      rw [e2]
      exact hc
  have look : ∀ {y}, scope.names.lookup y = some .free → ∃ c, (cloFrom X.env.cells scope.names []).lookup y = some c := fun {y} hl => by
    have hy : (y, NameKind.free) ∈ scope.names := PySem.mem_of_lookup hl
    exact mem_lookup (cloFrom_has (cells := X.env.cells) (acc := []) hy)
  have cellB : ∀ {y c v}, X.env.cells.lookup y = some c → s.heap.IsCell c v → h₁.IsCell c v ∧ HZ c = none := fun {y c v} hc ⟨o, ho, hd⟩ => by
    have hb := baseOf_get ho (I.freeC y c hc) (cell_nofr I hfn hc)
    exact ⟨⟨o, kp _ _ (e0.bs c o hb).1, hd⟩, (e0.bs c o hb).2⟩
  have noA : ∀ b : Addr, b ∉ (lamCxB X (baseOf s.heap H (frs X.stack)) CX A outer s1 HZ E scope f c').ex := fun b z => absurd (show b ∈ ([] : List Addr) from z) (by simp)
  refine ⟨⟨e0.mod, L.kind, rfl, rfl, Nat.le_refl _, fun y z c e1 e2 => I.ok.inj y z c (cm e1) (cm e2), fun y hy => ?_, fun y c z _ => ?_, fun _ => hd, Around.frames_deeper e0.frames, .inr ⟨rfl, rfl⟩, fun b z => absurd z (noA b), e0.bs, e0.bsz, fun b _ _ => noA b,
      fun b z => absurd z (noA b), e0.funs, e0.frf⟩,
    rfl, e0.bare, Un.kept kp, ⟨_, hns, fun i y v e1 e2 e3 => ?_⟩, fun y c e => ?_, e0.hok.fresh (Nat.le_refl _), fun y c e => ?_, fun q hq => absurd (show q ∈ ([] : List (Addr × Obj)) ++ [] from hq) (by simp), e0.hok.kept kp, hl⟩
  · have hy : scope.names.lookup y = some .cell ∨ scope.names.lookup y = some .free := hy
    rcases hy with hy | hy
    · exact absurd rfl (L.nocell _ (PySem.mem_of_lookup hy))
    · exact look hy
  · have z : false = true := z
    cases z
  · have e3 : Vis scope y := e3
    rcases e3 with k | k | k
    · obtain ⟨u, r, q⟩ := hloc i y v e1 e2 k
      exact ⟨u, r, .inl ⟨k, q⟩⟩
    · exact absurd rfl (L.nocell _ (PySem.mem_of_lookup k))
    · obtain ⟨m, hn, hl⟩ := I.loc
      have hvis : Vis X.env.scope y := (L.free _ (PySem.mem_of_lookup k) rfl).elim (fun k => .inr (.inl k)) (fun k => .inr (.inr k))
      obtain ⟨w', r, q⟩ := hl i y v e1 (hfree i y v e1 e2 k) hvis
      obtain ⟨c2, h2⟩ := look k
      refine ⟨w', r, .inr ⟨.inr k, c2, h2, ?_⟩⟩
      have c1 := cm h2
      rcases q with ⟨k', _⟩ | ⟨_, c3, e', z⟩
      · have k' : X.env.scope.names.lookup y = some .local := k'
        rcases L.free _ (PySem.mem_of_lookup k) rfl with k2 | k2 <;> rw [show X.env.scope.names.lookup y = _ from k2] at k' <;> cases k'
      · rw [c1] at e'
        cases e'
        exact (cellB c1 z).1
  · obtain ⟨w', z⟩ := I.cell y c (cm e)
    exact ⟨w', (cellB (cm e) z).1⟩
  · obtain ⟨w', z⟩ := I.cell y c (cm e)
    exact (cellB (cm e) z).2
/-- what the lambda does, by the reading of its body, at the slots of its maker -/
def lamSp1 (c' : Addr) (q : Str) (tb : XK → TE) (σ : L2.St) (i : Nat) : Sp := fun vs H Q E => match vs with
  | [v] => H c' = some (CodeO c' q) ∧ tb E (σ.set i (some v)) H Q
  | _ => False
def lamSp0 (c' : Addr) (q : Str) (tb : XK → TE) (σ : L2.St) : Sp := fun vs H Q E => match vs with
  | [] => H c' = some (CodeO c' q) ∧ tb E σ H Q
  | _ => False
section
variable {k : Nat} {f c' : Addr} {pm ctv : Value} {params : Arguments} {body : Expr} {scope : Scope} {tb : XK → TE}
theorem fnB_lam1 {i : Nat} {x : Str} (I : Inv X pins σ H s) (hfn : ∀ x, X.fn x = true) (hN : X.N.Nodup) (hi : X.N[i]? = some x) (L : LamP X.env.scope scope [x])
    (hf : s.heap.get? f = some (PySem.W.kla_obj "<lambda>" (X.env.qual ++ "<lambda>") params body scope (cloFrom X.env.cells scope.names []) pm c' ctv)) (hH : H f = none) (hfr : f ∉ frs X.stack)
    (hbind : ∀ u : Value, bindArgs (PySem.W.kla_fn "<lambda>" (X.env.qual ++ "<lambda>") params body scope (cloFrom X.env.cells scope.names []) pm (.ref c') ctv) ⟨[u], []⟩ = pure [(x, u)])
    (hbody : ∀ (A : Around) (outer : List Env) (s1 : Shared) (HZ : Hp) (E : XK), Room k (A.deeper (lamEnvB X scope s1.heap.objs.size f c')) → GA (A.deeper (lamEnvB X scope s1.heap.objs.size f c')) → PE (lamCxB X (baseOf s.heap H (frs X.stack)) CX A outer s1 HZ E scope f c') body (tb E)) :
    FnB X.prog X.w X.K X.mg (baseOf s.heap H (frs X.stack)) CX (k + 1) f (lamSp1 c' (X.env.qual ++ "<lambda>") tb σ i) := by
  have hb := baseOf_get hf hH hfr
  refine ⟨fun h kp => ⟨_, _, _, _, kp _ _ hb⟩, fun A outer s1 HZ us vs Q E hr hG e0 r h => ?_⟩
  unfold lamSp1 at h
  split at h
  rotate_left
  · exact h.elim
  · rename_i v
    obtain ⟨hc, ht⟩ := h
    obtain ⟨u, rfl, ru⟩ := r.one
    obtain ⟨⟨oc, vs, t, hoc, hdc, hvc⟩, _, _⟩ := e0.hok c' _ hc
    refine PySem.W.kla_callFunE hr.depth (e0.bs f _ hb).1 rfl L.co L.gen rfl ⟨c', oc, vs, t, rfl, hoc, hdc, hvc⟩ ?_
    rw [hbind]
    have lim : s1.heap.NoLimit := e0.mod.nolimit.keeps fun b o e => (e0.bs b o e).1
    refine wpAny_pure (wpAny_newFunctionEnv (fun y hy => L.nocell y hy) (fun y hy => ?_) (fun h₁ hns hsb => ⟨lim.fresh _ hsb, ?_⟩) L.kind)
    · rw [List.mem_singleton] at hy
      rw [hy]
      exact L.par x (by simp)
    show codeAny _ _ (.expr body (lamEnvB X scope s1.heap.objs.size f c')) _ _
    have kp : ∀ b o, s1.heap.get? b = some o → h₁.get? b = some o := fun b o e => hsb.extBut b o (Nat.ne_of_lt (Heap.lt_size e)) (Heap.get?_push_of_some _ e)
    have il : i < X.N.length := (List.getElem?_eq_some_iff.mp hi).1
    have J : Inv (lamCxB X (baseOf s.heap H (frs X.stack)) CX A outer s1 HZ E scope f c') [] (σ.set i (some v)) HZ { s1 with heap := h₁, toks := s1.toks + [(x, u)].length } := by
      refine lam_startB I hfn L e0 hr.hd hns kp (by rw [List.length_set]; exact I.len) (fun j y w e1 e2 e3 => ?_) (fun j y w e1 e2 e3 => ?_)
      · have ne : i ≠ j := fun z => by
          rw [← z, hi] at e1
          cases e1
          rw [L.par x (by simp)] at e3
          cases e3
        rw [List.getElem?_set_ne ne] at e2
        exact e2
      · have hx : y ∈ [x] := L.loc _ (PySem.mem_of_lookup e3) rfl
        rw [List.mem_singleton] at hx
        subst hx
        have ej : j = i := by
          have hj := (List.getElem?_eq_some_iff.mp e1)
          have hii := (List.getElem?_eq_some_iff.mp hi)
          exact nd_inj hN (hj.2.trans hii.2.symm)
        subst ej
        rw [List.getElem?_set_self (by rw [I.len]; exact il)] at e2
        cases e2
        exact ⟨u, ru, by simp⟩
    refine PySem.W.kla_codeExpr (wpAny_mono ((hbody A outer s1 HZ E (hr.deeper _) (ga_deeper hG)).run [] _ _ HZ Q J ht) (fun v s' hq => ?_) fun e s' hq => hq)
    obtain ⟨w', H', J', rv, q⟩ := hq
    exact ⟨w', H', J'.os, J'.bare, J'.base, J'.hok, rv, q⟩
theorem fnB_lam0 (I : Inv X pins σ H s) (hfn : ∀ x, X.fn x = true) (L : LamP X.env.scope scope [])
    (hf : s.heap.get? f = some (PySem.W.kla_obj "<lambda>" (X.env.qual ++ "<lambda>") params body scope (cloFrom X.env.cells scope.names []) pm c' ctv)) (hH : H f = none) (hfr : f ∉ frs X.stack)
    (hbind : bindArgs (PySem.W.kla_fn "<lambda>" (X.env.qual ++ "<lambda>") params body scope (cloFrom X.env.cells scope.names []) pm (.ref c') ctv) ⟨[], []⟩ = pure [])
    (hbody : ∀ (A : Around) (outer : List Env) (s1 : Shared) (HZ : Hp) (E : XK), Room k (A.deeper (lamEnvB X scope s1.heap.objs.size f c')) → GA (A.deeper (lamEnvB X scope s1.heap.objs.size f c')) → PE (lamCxB X (baseOf s.heap H (frs X.stack)) CX A outer s1 HZ E scope f c') body (tb E)) :
    FnB X.prog X.w X.K X.mg (baseOf s.heap H (frs X.stack)) CX (k + 1) f (lamSp0 c' (X.env.qual ++ "<lambda>") tb σ) := by
  have hb := baseOf_get hf hH hfr
  refine ⟨fun h kp => ⟨_, _, _, _, kp _ _ hb⟩, fun A outer s1 HZ us vs Q E hr hG e0 r h => ?_⟩
  unfold lamSp0 at h
  split at h
  rotate_left
  · exact h.elim
  · obtain ⟨hc, ht⟩ := h
    cases r
    obtain ⟨⟨oc, vs, t, hoc, hdc, hvc⟩, _, _⟩ := e0.hok c' _ hc
    refine PySem.W.kla_callFunE hr.depth (e0.bs f _ hb).1 rfl L.co L.gen rfl ⟨c', oc, vs, t, rfl, hoc, hdc, hvc⟩ ?_
    rw [hbind]
    have lim : s1.heap.NoLimit := e0.mod.nolimit.keeps fun b o e => (e0.bs b o e).1
    refine wpAny_pure (wpAny_newFunctionEnv (fun y hy => L.nocell y hy) (fun y hy => absurd hy (by simp)) (fun h₁ hns hsb => ⟨lim.fresh _ hsb, ?_⟩) L.kind)
    show codeAny _ _ (.expr body (lamEnvB X scope s1.heap.objs.size f c')) _ _
    have kp : ∀ b o, s1.heap.get? b = some o → h₁.get? b = some o := fun b o e => hsb.extBut b o (Nat.ne_of_lt (Heap.lt_size e)) (Heap.get?_push_of_some _ e)
    have J : Inv (lamCxB X (baseOf s.heap H (frs X.stack)) CX A outer s1 HZ E scope f c') [] σ HZ { s1 with heap := h₁, toks := s1.toks + ([] : List (Str × Value)).length } := by
      refine lam_startB I hfn L e0 hr.hd hns kp I.len (fun j y w e1 e2 e3 => e2) (fun j y w e1 e2 e3 => ?_)
      have hx : y ∈ ([] : List Str) := L.loc _ (PySem.mem_of_lookup e3) rfl
      exact absurd hx (by simp)
    refine PySem.W.kla_codeExpr (wpAny_mono ((hbody A outer s1 HZ E (hr.deeper _) (ga_deeper hG)).run [] _ _ HZ Q J ht) (fun v s' hq => ?_) fun e s' hq => hq)
    obtain ⟨w', H', J', rv, q⟩ := hq
    exact ⟨w', H', J'.os, J'.bare, J'.base, J'.hok, rv, q⟩
end
end
end HG

/-! Calls of a def with a lambda among the values. -/
namespace HG
open PySem L2 PyProof.Rows LamX
def one (f : Addr) (sp : Sp) : Lams := fun a => if a = f then some sp else none
theorem one_at {f : Addr} {sp : Sp} : one f sp f = some sp := if_pos rfl
theorem one_ok {P : Program} {w : World} {K : PySem.W.Frag} {mg : Str → Option Value} {base : Heap} {CX : CXT} {k : Nat} {f : Addr} {sp : Sp} (F : FnB P w K mg base CX k f sp) : LamsOk P w K mg base CX k (one f sp) := by
  intro a s h
  by_cases e : a = f
  · subst e
    rw [one_at] at h
    cases h
    exact F
  · have : one f sp a = none := if_neg e
    rw [this] at h
    cases h
/-- x(a, lambda y: body, b) -/
def tLam3 (T : List (Addr × Str)) (q : Str) (spg : Lams → Sp) (tb : XK → TE) (i : Nat) (E : XK) (t1 t3 : TE) : TE := fun σ H Q => t1 σ H fun v1 H1 => Tabs T H1 ∧ ∀ f c' H2, ExtN H1 H2 → Tabs T H2 → H2 f = none → H2 c' = some (CodeO c' q) → t3 σ H2 fun v3 H3 => spg (one f (lamSp1 c' q tb σ i)) [v1, .ref f, v3] H3 Q E
/-- x(lambda: body) -/
def tLam1 (T : List (Addr × Str)) (q : Str) (spg : Lams → Sp) (tb : XK → TE) (E : XK) : TE := fun σ H Q => Tabs T H ∧ ∀ f c' H2, ExtN H H2 → Tabs T H2 → H2 f = none → H2 c' = some (CodeO c' q) → spg (one f (lamSp0 c' q tb σ)) [.ref f] H2 Q E
section
variable {X : Cx} {CX CXl : CXT} {k kg i : Nat} {g c P : Addr} {gd : FuncData} {ps : List Str} {spg : Lams → Sp} {E : XK} {x y q : Str} {T : List (Addr × Str)} {params : Arguments} {body e1 e3 : Expr} {scope : Scope} {tb : XK → TE} {t1 t3 : TE} {p lpos pos : Pos}
theorem Inv.pinOne {pins : List (Addr × Obj)} {σ : L2.St} {H : Hp} {s : Shared} {f : Addr} {o : Obj} (I : Inv X pins σ H s) (h1 : s.heap.get? f = some o) (h2 : H f = none) (h3 : f ≠ X.env.locals) (h4 : f ∉ X.fs) (h5 : ∀ v, o.data ≠ .cell v) : Inv X ((f, o) :: pins) σ H s := by
  refine ⟨I.ok, I.os, I.bare, I.base, I.loc, I.cell, I.free, I.freeC, fun p hp => ?_, I.hok, I.len⟩
  rcases List.mem_append.mp hp with hp | hp
  · exact I.pin p (List.mem_append_left _ hp)
  · rcases List.mem_cons.mp hp with hp | hp
    · rw [hp]; exact ⟨h1, h2, h3, h4, h5⟩
    · exact I.pin p (List.mem_append_right _ hp)
theorem Inv.unpin {pins : List (Addr × Obj)} {σ : L2.St} {H : Hp} {s : Shared} {p : Addr × Obj} (I : Inv X (p :: pins) σ H s) : Inv X pins σ H s := by
  refine ⟨I.ok, I.os, I.bare, I.base, I.loc, I.cell, I.free, I.freeC, fun r hr => I.pin r ?_, I.hok, I.len⟩
  rcases List.mem_append.mp hr with hr | hr
  · exact List.mem_append_left _ hr
  · exact List.mem_append_right _ (List.mem_cons_of_mem _ hr)
theorem pe_lam3 (hg : Gl X x) (hm : X.mg x = some (.ref g)) (hk : PySem.W.keepIn X.K (.ref g) = true) (hb : Binds X.K gd ps []) (Gh : ∀ (base' : Heap) (L' : Lams), LamsOk X.prog X.w X.K X.mg base' CXl (k + 1) L' → FnG X.prog X.w X.K X.mg base' CX kg g gd ps (spg L')) (hr : Room kg X.A) (hG : GA X.A) (hx : Passes CX X E)
    (TB : TabB X.base X.mg c P) (hcode : X.env.code = .ref c) (hmT : (P, q) ∈ T) (hu : ∀ p ∈ T, p.1 = P → p.2 = q) (hq : X.env.qual ++ "<lambda>" = q) (hfn : ∀ x, X.fn x = true) (hst : X.stack = X.env :: X.outer ∧ X.env.frame = some X.env.locals) (hN : X.N.Nodup) (hi : X.N[i]? = some y) (L : LamP X.env.scope scope [y])
    (hdef : defaultsOf params X.env = ([], [])) (hbind : ∀ (q : Str) (cl : List (Str × Addr)) (pm cv ctv : Value) (u : Value), bindArgs (PySem.W.kla_fn "<lambda>" q params body scope cl pm cv ctv) ⟨[u], []⟩ = pure [(y, u)])
    (hbody : ∀ (base' : Heap) (A : Around) (outer : List Env) (s1 : Shared) (HZ : Hp) (E : XK) (f c' : Addr), Room k (A.deeper (lamEnvB X scope s1.heap.objs.size f c')) → GA (A.deeper (lamEnvB X scope s1.heap.objs.size f c')) → PE (lamCxB X base' CXl A outer s1 HZ E scope f c') body (tb E))
    (ha : PE X e1 t1) (hc : PE X e3 t3) (hdb : (x == ("__debug__" : Str)) = false := by decide)
    (he : starEach [e1, .Lambda params body scope lpos, e3] X.env = [(false, eval e1 X.env), (false, eval (.Lambda params body scope lpos) X.env), (false, eval e3 X.env)] := by rfl) (he2 : starEach [.Lambda params body scope lpos, e3] X.env = [(false, eval (.Lambda params body scope lpos) X.env), (false, eval e3 X.env)] := by rfl) :
    PE X (.Call (.Name x p) [e1, .Lambda params body scope lpos, e3] [] pos) (tLam3 T q spg tb i E t1 t3) := by
  refine ⟨fun pins s σ H Q I h => wpAny_Call_Name_kw (ld_glob I hg hm ?_ hdb)⟩
  refine PySem.W.callWith_K (h₀ := X.base) I.ok.mod.kin hk ?_ (by rw [he, he2]) (by rw [he2]; rfl)
  show wpAny _ _ (spliced (backTo pos (starEach [e1, .Lambda params body scope lpos, e3] X.env))) _ _ s
  rw [he]
  refine Calls.spliced_cons (thn (ha.run pins s σ H _ I h) fun u1 s1 ⟨v1, H1, I1, r1, hT, q1⟩ => ?_)
  subst hq
  have hfr : ∀ y ∈ scope.names, y.2 = .free → ∃ c, X.env.cells.lookup y.1 = some c := fun y hy e => by
    rcases L.free y hy e with k | k
    · exact I.ok.has _ (.inl k)
    · exact I.ok.has _ (.inr k)
  refine Calls.spliced_cons (lam_make2 I1 TB hcode hmT hu hT hdef hfr fun f c' pm ctv H2 s2 I2 eN T2 hf hfN hfs hco => ?_)
  have hloc : f ≠ X.env.locals := fun z => hfs (by
    rw [hst.1]
    show f ∈ (X.env :: X.outer).filterMap (·.frame)
    rw [List.filterMap_cons, hst.2, z]
    exact List.mem_cons_self ..)
  have hfo : f ∉ X.fs := fun z => hfs (by
    rw [hst.1]
    show f ∈ (X.env :: X.outer).filterMap (·.frame)
    rw [List.filterMap_cons, hst.2]
    exact List.mem_cons_of_mem _ z)
  have I2' := Inv.pinOne I2 hf hfN hloc hfo (fun v z => by cases z)
  refine Calls.spliced_cons (thn (hc.run _ s2 σ H2 _ I2' (q1 f c' H2 eN T2 hfN hco)) fun u3 s3 ⟨v3, H3, I3, r3, q3⟩ => ?_)
  obtain ⟨f1, f2, _⟩ := I3.pin (f, _) (List.mem_append_right _ (List.mem_cons_self ..))
  have I3' := Inv.unpin I3
  refine Calls.spliced_nil ⟨I3'.kIn, ?_⟩
  have F := fnB_lam1 (k := k) (CX := CXl) I3' hfn hN hi L f1 f2 hfs (hbind _ _ _ _ _) fun A outer s1 HZ E hr hG => hbody _ A outer s1 HZ E f c' hr hG
  have G := Gh _ _ (one_ok F)
  have rv : Vals [v1, .ref f, v3] [u1, .ref f, u3] := .cons r1 (.cons rfl (.cons r3 .nil))
  have hl : ([u1, .ref f, u3] ++ ([] : List Value)).length = ps.length := by
    rw [List.append_nil]
    exact rv.length.symm.trans (G.len _ _ _ _ q3)
  have hb' := hb s3 [u1, .ref f, u3] I3'.kIn hl
  rw [List.append_nil] at hb'
  exact wpAny_call (codeAny_mono (G.run X.A X.stack s3 H3 ⟨[u1, .ref f, u3], []⟩ _ _ Q E hr hG (env0_base I3') hb' rv q3) fun r s' hq => behind hx I3' hq)
theorem pe_lam1 (hg : Gl X x) (hm : X.mg x = some (.ref g)) (hk : PySem.W.keepIn X.K (.ref g) = true) (hb : Binds X.K gd ps []) (Gh : ∀ (base' : Heap) (L' : Lams), LamsOk X.prog X.w X.K X.mg base' CXl (k + 1) L' → FnG X.prog X.w X.K X.mg base' CX kg g gd ps (spg L')) (hr : Room kg X.A) (hG : GA X.A) (hx : Passes CX X E)
    (TB : TabB X.base X.mg c P) (hcode : X.env.code = .ref c) (hmT : (P, q) ∈ T) (hu : ∀ p ∈ T, p.1 = P → p.2 = q) (hq : X.env.qual ++ "<lambda>" = q) (hfn : ∀ x, X.fn x = true) (L : LamP X.env.scope scope [])
    (hdef : defaultsOf params X.env = ([], [])) (hbind : ∀ (q : Str) (cl : List (Str × Addr)) (pm cv ctv : Value), bindArgs (PySem.W.kla_fn "<lambda>" q params body scope cl pm cv ctv) ⟨[], []⟩ = pure [])
    (hbody : ∀ (base' : Heap) (A : Around) (outer : List Env) (s1 : Shared) (HZ : Hp) (E : XK) (f c' : Addr), Room k (A.deeper (lamEnvB X scope s1.heap.objs.size f c')) → GA (A.deeper (lamEnvB X scope s1.heap.objs.size f c')) → PE (lamCxB X base' CXl A outer s1 HZ E scope f c') body (tb E))
    (hdb : (x == ("__debug__" : Str)) = false := by decide)
    (he : starEach [.Lambda params body scope lpos] X.env = [(false, eval (.Lambda params body scope lpos) X.env)] := by rfl) :
    PE X (.Call (.Name x p) [.Lambda params body scope lpos] [] pos) (tLam1 T q spg tb E) := by
  refine ⟨fun pins s σ H Q I h => wpAny_Call_Name_kw (ld_glob I hg hm ?_ hdb)⟩
  refine PySem.W.callWith_K (h₀ := X.base) I.ok.mod.kin hk ?_ (by rw [he]; rfl) (by rfl)
  show wpAny _ _ (spliced (backTo pos (starEach [.Lambda params body scope lpos] X.env))) _ _ s
  rw [he]
  obtain ⟨hT, q1⟩ := h
  subst hq
  have hfr : ∀ y ∈ scope.names, y.2 = .free → ∃ c, X.env.cells.lookup y.1 = some c := fun y hy e => by
    rcases L.free y hy e with k | k
    · exact I.ok.has _ (.inl k)
    · exact I.ok.has _ (.inr k)
  refine Calls.spliced_cons (lam_make2 I TB hcode hmT hu hT hdef hfr fun f c' pm ctv H2 s2 I2 eN T2 hf hfN hfs hco => ?_)
  refine Calls.spliced_nil ⟨I2.kIn, ?_⟩
  have q3 := q1 f c' H2 eN T2 hfN hco
  have F := fnB_lam0 (k := k) (CX := CXl) I2 hfn L hf hfN hfs (hbind _ _ _ _ _) fun A outer s1 HZ E hr hG => hbody _ A outer s1 HZ E f c' hr hG
  have G := Gh _ _ (one_ok F)
  have rv : Vals [.ref f] [.ref f] := .cons rfl .nil
  have hl : ([Value.ref f] ++ ([] : List Value)).length = ps.length := by
    rw [List.append_nil]
    exact rv.length.symm.trans (G.len _ _ _ _ q3)
  have hb' := hb s2 [.ref f] I2.kIn hl
  rw [List.append_nil] at hb'
  exact wpAny_call (codeAny_mono (G.run X.A X.stack s2 H2 ⟨[.ref f], []⟩ _ _ Q E hr hG (env0_base I2) hb' rv q3) fun r s' hq => behind hx I2 hq)
end
end HG

/-! The law's end where defs make lambdas: their code objects' tables are tracked. -/
namespace HG
open PySem L2 PyProof.Rows LamX
/-- a def of the top, its code object c, the table P of that -/
structure TabAt (K : PySem.W.Frag) (h : Heap) (c P : Addr) : Prop where
  tab : h.get? P = some { cls := .none, data := .fields #[] }
  no : K.lookup P = none
  code : PySem.W.CodeHd h c P
theorem lawAtT {P : Program} {w : World} {K : PySem.W.Frag} {mg mb : Str → Option Value} {CX : CXT} {k : Nat} {fa a : Addr} {fd : FuncData} {x : Str} {sp : Sp} {s₁ : Shared} {H : Hp} {cs : List (Addr × Addr)}
    (KX : K.In s₁.heap) (hns : s₁.heap.Ns mainGlobals mg) (hb : s₁.heap.Ns builtinsNs mb) (hbb : ∀ x : Str, x ≠ "__name__" → mb x = bootBuiltins x) (hlim : s₁.heap.NoLimit) (hg : s₁.gens = #[]) (hr : Room k callerA)
    (hT : ∀ p ∈ cs, TabAt K s₁.heap p.1 p.2)
    (hbm : ∃ (bm : Addr) (ob : Obj), mg "__builtins__" = some (.ref bm) ∧ bm ≠ builtinsNs ∧ s₁.heap.get? bm = some ob ∧ ob.cls = .type "module" ∧ ob.dict = some builtinsNs ∧ ob.data = .plain)
    (F : ∀ base : Heap, K.In base → base.Ns mainGlobals mg → (∀ p ∈ cs, TabB base mg p.1 p.2) → FnG P w K mg base CX k fa fd [x] sp) (hbind : ∀ (s : Shared) (u : Value), BindsTo s fd ⟨[u], []⟩ [(x, u)])
    (hsp : sp [.ref a] H (fun v _ => v = .bl true) E0) (hCX : ∀ e s', CX [] H s₁ E0 e s' → False)
    (hok : HOk P w H s₁.heap) (tr : ∀ b u, H b = some u → (∃ ob xs vs, u = .frz ob xs ∧ s₁.heap.get? b = some { cls := .type "list", data := .seq vs } ∧ K.lookup b = none) ∨ ∃ p ∈ cs, b = p.2 ∧ u = .tbl #[]) :
    codeAny (model P w) callerA (.call (.ref fa) ⟨[.ref a], []⟩) (fun r s' => r = .ok (.ret (.bool true)) ∧ OldK s₁.heap s'.heap ∧ s'.os = s₁.os ∧ AllBare s'.gens) s₁ := by
  -- what is no list and no empty table is not tracked
  have free : ∀ b o, s₁.heap.get? b = some o → (∀ vs n, o.data ≠ .seq vs n) → o.data ≠ .fields #[] → H b = none := fun b o e h1 h2 => by
    cases q : H b with
    | none => rfl
    | some u =>
      rcases tr b u q with ⟨_, _, vs, _, z, _⟩ | ⟨p, hp, rfl, _⟩
      · rw [e] at z
        cases z
        exact absurd rfl (h1 _ _)
      · rw [(hT p hp).tab] at e
        cases e
        exact absurd rfl h2
  have freeK : ∀ b, (K.lookup b).isSome = true → H b = none := fun b hb => by
    cases q : H b with
    | none => rfl
    | some u =>
      rcases tr b u q with ⟨_, _, vs, _, _, z⟩ | ⟨p, hp, rfl, _⟩
      · rw [z] at hb; cases hb
      · rw [(hT p hp).no] at hb; cases hb
  have ns : ∀ {b : Addr} {m : Str → Option Value}, s₁.heap.Ns b m → (hidT s₁.heap H).Ns b m := fun {b m} z => by
    obtain ⟨o, es, ep, e, d, r⟩ := z
    exact ⟨o, es, ep, hidT_get e (free b o e (fun vs n z => by rw [d] at z; cases z) (fun z => by rw [d] at z; cases z)), d, r⟩
  have kb : K.In (hidT s₁.heap H) := fun b o e => hidT_get (KX b o e) (freeK b (by rw [e]; rfl))
  have md : Mod K mg (hidT s₁.heap H) := by
    obtain ⟨mc, h1, h2⟩ := hlim
    exact ⟨kb, ns hns, ⟨mb, ns hb, hbb⟩, mc, ns h1, h2⟩
  have e0 : Env0 P w K mg (hidT s₁.heap H) callerA [] s₁ H :=
    { frames := rfl, mod := md, bs := fun b o e => of_hidT e, bsz := Nat.le_of_eq (hidT_size _ _), funs := trivial, frf := fun b z => (List.not_mem_nil z).elim, hok := hok, bare := .of_eq hg }
  have TB : ∀ p ∈ cs, TabB (hidT s₁.heap H) mg p.1 p.2 := fun p hp => by
    have t := hT p hp
    refine ⟨?_, ?_, fun z => ?_⟩
    · obtain ⟨o, us, file, tf, flags, tg, inF, text, tt, e1, r1, r2, r3, r⟩ := t.code
      refine ⟨o, us, file, tf, flags, tg, inF, text, tt, hidT_get e1 (free _ o e1 (fun vs n z => by rw [r2] at z; cases z) (fun z => ?_)), r1, r2, r3, r⟩
      rw [r2] at z
      cases z
      simp at r3
    · obtain ⟨bm, ob, b1, b2, b3, b4, b5, b6⟩ := hbm
      have nG : bm ≠ mainGlobals := fun q => by
        obtain ⟨o, es, ep, e, hd, _⟩ := hns
        rw [q, e] at b3
        cases b3
        rw [hd] at b6
        cases b6
      have nP : bm ≠ p.2 := fun q => by
        rw [q, t.tab] at b3
        cases b3
        cases b6
      exact ⟨bm, ob, b1, b2, nG, nP, hidT_get b3 (free _ ob b3 (fun vs n z => by rw [b6] at z; cases z) (fun z => by rw [b6] at z; cases z)), b4, b5, b6⟩
    · obtain ⟨o, es, ep, e, hd, _⟩ := hns
      rw [z, t.tab] at e
      cases e
      cases hd
  refine codeAny_mono ((F _ kb (ns hns) TB).run callerA [] s₁ H ⟨[.ref a], []⟩ [.ref a] [.ref a] _ _ hr rfl e0 (hbind s₁ (.ref a)) (.cons rfl .nil) hsp) fun r s' h => ?_
  match r, h with
  | .error e, h => exact (hCX e s' h).elim
  | .ok .next, h => exact h.elim
  | .ok .brk, h => exact h.elim
  | .ok .cont, h => exact h.elim
  | .ok (.ret u), h =>
    obtain ⟨v, H', os, bare, un, hok', rv, q⟩ := h
    have q' : v = .bl true := q
    subst q'
    cases rv
    have key : ∀ b o, (∀ p ∈ cs, b ≠ p.2) → s₁.heap.get? b = some o → s'.heap.get? b = some o := fun b o nb e => by
      cases eb : H b with
      | none => exact un.keep b o e eb (fun z => (List.not_mem_nil z).elim) (fun z => (List.not_mem_nil z).elim)
      | some u =>
        rcases tr b u eb with ⟨ob, xs, vs, rfl, _⟩ | ⟨p, hp, z, _⟩
        · have e1 := (hok b _ eb).1
          rw [e] at e1
          cases e1
          exact (hok' b _ (un.frzs b _ xs eb)).1
        · exact absurd z (nb p hp)
    have grown : ∀ p ∈ cs, H p.2 = some (.tbl #[]) → ∃ more : Array Value, s'.heap.get? p.2 = some { cls := .none, data := .fields more } := fun p hp hH => by
      obtain ⟨more, z⟩ := un.tbls p.2 #[] hH
      exact ⟨_, hok' p.2 _ z⟩
    have tabs : ∀ b o, s₁.heap.get? b = some o → (s'.heap.get? b = some o) ∨ ∃ p ∈ cs, b = p.2 ∧ ∃ more : Array Value, s'.heap.get? b = some { cls := .none, data := .fields more } := fun b o e => by
      cases eb : H b with
      | none => exact .inl (un.keep b o e eb (fun z => (List.not_mem_nil z).elim) (fun z => (List.not_mem_nil z).elim))
      | some u =>
        rcases tr b u eb with ⟨ob, xs, vs, rfl, _⟩ | ⟨p, hp, rfl, rfl⟩
        · have e1 := (hok b _ eb).1
          rw [e] at e1
          cases e1
          exact .inl (hok' b _ (un.frzs b _ xs eb)).1
        · exact .inr ⟨p, hp, rfl, grown p hp eb⟩
    refine ⟨rfl, ⟨fun b o e => ?_, fun b o e => ?_⟩, os, bare⟩
    · rcases tabs b o e with z | ⟨p, hp, rfl, more, hm⟩
      · exact .inl z
      · have t := hT p hp
        rw [t.tab] at e
        cases e
        exact .inr (.inl ⟨(t.code.tab t.tab).isCodeTable, rfl, #[], more, rfl, by rw [Array.empty_append]; exact hm⟩)
    · rcases tabs b o e with z | ⟨p, hp, rfl, more, hm⟩
      · exact ⟨o, z⟩
      · exact ⟨_, hm⟩
/-- what the top says of the tables of some defs -/
def TopTab (mg : Str → Option Value) (h : Heap) (names : List Str) : Prop := ∀ n ∈ names, ∃ a o fd c P, mg n = some (.ref a) ∧ h.get? a = some o ∧ o.data = .func fd ∧ fd.code = .ref c ∧ h.IsCode c P #[] ∧ h.TableAt c P #[]
/-- a def's table, by what K has of the def and of its code object -/
theorem tabAt_of {K : PySem.W.Frag} {mg : Str → Option Value} {h : Heap} {names : List Str} {n qual : Str} {f c P : Addr} {oc occ : Value} {od odc : Option Addr} {sl slc : Array (Option Value)} {vs : Array Value} {fd : FuncData} (KX : K.In h) (T : TopTab mg h names) (hn : n ∈ names) (hmg : mg n = some (.ref f))
    (l1 : K.lookup f = some ⟨oc, od, .func fd, sl⟩) (hc : fd.code = .ref c) (l2 : K.lookup c = some ⟨occ, odc, .fields vs, slc⟩) (hP : vs[11]? = some (.ref P)) (np : K.lookup P = none) : TabAt K h c P := by
  obtain ⟨a', o', fd', c', P', h1, h2, h3, h4, h5, h6⟩ := T n hn
  rw [hmg] at h1
  cases h1
  have g1 := KX _ _ l1
  rw [g1] at h2
  cases h2
  have h3 : Data.func fd = Data.func fd' := h3
  cases h3
  rw [hc] at h4
  cases h4
  have hcd := PySem.W.CodeHd.of h5 h6
  obtain ⟨⟨oc', vc, e1, _, e3, e4⟩, hP'⟩ := h6
  have g2 := KX _ _ l2
  rw [g2] at e1
  cases e1
  have e3 : Data.fields vs = Data.fields vc := e3
  cases e3
  rw [hP] at e4
  cases e4
  exact ⟨hP', np, hcd⟩
def spLawT (cs : List (Addr × Addr)) (K : PySem.W.Frag) : Sp := fun vs H Q _ => match vs with
  | [.ref a] => (∃ ns : List Int, SqL K H a (ns.map V.int)) ∧ (∀ p ∈ cs, H p.2 = some (.tbl #[])) ∧ ∀ H', Q (.bl true) H'
  | _ => False
theorem walkT {l : PySem.W.OpenLaw} {n k : Nat} {q : Program} {loose : List Str} {XP : (Str → Option Value) → Heap → Prop} {YP : World → Heap → Prop} {d : DefRec} {K : Params → PySem.W.Frag} {x : Str} {names : List Str}
    (hn : l.most = some n) (hn2 : n ≤ sizeLine) (hdf : d.params.defaults = []) (hr : Room k callerA) (hrec : (names.all fun n => (recsOf q).any fun e => e.name == n) = true)
    (hY : ∀ (w : World) (h : Heap), YP w h → (K w.params).In h)
    (F : ∀ (w : World) (mg : Str → Option Value) (fa : Addr) (h : Heap), (K w.params).In h → h.Ns mainGlobals mg → mg d.name = some (.ref fa) → TopTab mg h names →
      ∃ (fd : FuncData) (cs : List (Addr × Addr)), (∀ p ∈ cs, TabAt (K w.params) h p.1 p.2) ∧ (∀ (s : Shared) (u : Value), BindsTo s fd ⟨[u], []⟩ [(x, u)]) ∧
        ∀ base : Heap, (K w.params).In base → base.Ns mainGlobals mg → (∀ p ∈ cs, TabB base mg p.1 p.2) → FnG l.prog w (K w.params) mg base CX0 k fa fd [x] (spLawT cs (K w.params))) :
    PySem.W.WalkO q loose XP YP l.row.toRowW d [] (fun f vs => PySem.call f vs) := by
  refine Att.attach_call hn hdf fun w s₀ s₁ mg mb fa o pm cd doc a vs ns G Y ho hd hcd hmg hobj hints hlen hg => ?_
  have KX := hY w _ Y
  have TT : TopTab mg s₁.heap names := fun m hm => by
    obtain ⟨dL, h1, h2⟩ := List.any_eq_true.mp (List.all_eq_true.mp hrec m hm)
    have e : dL.name = m := beq_iff_eq.mp h2
    have := G.T.tab dL h1
    rw [e] at this
    exact this
  obtain ⟨fd, cs, hT, hb, hF⟩ := F w mg fa _ KX G.T.g hmg TT
  have rv := vals_ints hints
  have lv := hints.length
  have hl : ns.length ≤ sizeLine := Nat.le_trans hlen hn2
  have isT : ∀ p ∈ cs, p.2 ≠ a := fun p hp z => by
    have e := (hT p hp).tab
    rw [z, hobj] at e
    cases e
  let HT : Hp := fun b => if b ∈ cs.map (·.2) then some (.tbl #[]) else none
  have HTa : ∀ p ∈ cs, HT p.2 = some (.tbl #[]) := fun p hp => if_pos (List.mem_map.mpr ⟨p, hp, rfl⟩)
  have HTo : ∀ b u, HT b = some u → ∃ p ∈ cs, b = p.2 ∧ u = .tbl #[] := fun b u z => by
    by_cases hb : b ∈ cs.map (·.2)
    · have z' := (if_pos hb).symm.trans z
      obtain ⟨p, hp, e⟩ := List.mem_map.mp hb
      exact ⟨p, hp, e.symm, (Option.some.inj z').symm⟩
    · have z' := (if_neg hb).symm.trans z
      cases z'
  cases hk : (K w.params).lookup a with
  | some ob =>
    have e := KX a ob hk
    rw [hobj] at e
    cases e
    have sq : SqL (K w.params) HT a (ns.map V.int) := .inr ⟨_, vs.toArray, _, hk, rfl, rfl, rfl, by rw [List.size_toArray, lv]; exact hl, by simpa using rv⟩
    refine lawAtT (H := HT) KX G.T.g G.T.b G.T.builtins G.T.nolimit hg hr hT G.T.bmain hF hb ⟨⟨ns, sq⟩, HTa, fun _ => rfl⟩ (fun e s' z => z) (fun b u z => ?_) (fun b u z => .inr (HTo b u z))
    obtain ⟨p, hp, rfl, rfl⟩ := HTo b u z
    exact (hT p hp).tab
  | none =>
    let Hs : Hp := fun b => if b = a then some (.frz { cls := .type "list", data := .seq vs.toArray } (.lst (ns.map V.int))) else HT b
    have ha : Hs a = some (.frz { cls := .type "list", data := .seq vs.toArray } (.lst (ns.map V.int))) := if_pos rfl
    have hs : ∀ b u, Hs b = some u → (b = a ∧ u = .frz { cls := .type "list", data := .seq vs.toArray } (.lst (ns.map V.int))) ∨ HT b = some u := fun b u z => by
      by_cases hb : b = a
      · have z' := (if_pos hb).symm.trans z
        exact .inl ⟨hb, (Option.some.inj z').symm⟩
      · exact .inr ((if_neg hb).symm.trans z)
    have sq : SqL (K w.params) Hs a (ns.map V.int) := .inl (.inr ⟨_, ha⟩)
    refine lawAtT (H := Hs) KX G.T.g G.T.b G.T.builtins G.T.nolimit hg hr hT G.T.bmain hF hb ⟨⟨ns, sq⟩, fun p hp => (if_neg (isT p hp)).trans (HTa p hp), fun _ => rfl⟩ (fun e s' z => z) (fun b u z => ?_) (fun b u z => ?_)
    · rcases hs b u z with ⟨rfl, rfl⟩ | z
      · exact ⟨hobj, by rw [List.length_map]; exact hl, vs, _, rv, hobj⟩
      · obtain ⟨p, hp, rfl, rfl⟩ := HTo b u z
        exact (hT p hp).tab
    · rcases hs b u z with ⟨rfl, rfl⟩ | z
      · exact .inl ⟨_, _, _, rfl, hobj, hk⟩
      · exact .inr (HTo b u z)
end HG
namespace HG
open PySem L2 PyProof.Rows LamX
section
variable {P : Program} {w : World} {K : PySem.W.Frag} {mg : Str → Option Value} {base : Heap} {CX : CXT} {k : Nat} {f : Addr} {fd : FuncData} {ps : List Str} {sp : Sp}
/-- a def by its body, its code object told -/
theorem okGc {x qual : Str} {st : Stmt} {N : List Str} (F : Fun K x qual st f fd) (S : FnScope N ps (defScope st)) (len : ∀ vs H Q E, sp vs H Q E → vs.length = ps.length)
    (hbody : ∀ (cdv : Value), fd.code = cdv → ∀ (A : Around) (outer : List Env) (s : Shared) (H : Hp) (vs : List V) (Q : VK) (E : XK), Room k (A.deeper (envOfC qual (defScope st) s.heap.objs.size f cdv)) → GA (A.deeper (envOfC qual (defScope st) s.heap.objs.size f cdv)) → sp vs H Q E →
      ∃ t, PSs (cxOf CX P w K mg base N qual (defScope st) f cdv A outer s H E) (defBody st) t ∧ t { nx := fun _ H' => Q .non H', rt := Q } (L2.start N vs) H) : FnG P w K mg base CX (k + 1) f fd ps sp := by
  obtain ⟨oc, od, kV, doc, pm, an, cdv, ct, osl, rfl, lk, hcd⟩ := F.ex
  exact fnG_of lk hcd S len fun A outer s H vs Q E hr hG h => hbody cdv rfl A outer s H vs Q E hr hG h
end
/-! ### what stays where tables grow -/
section
variable {H H' H2 : Hp} {p l : Addr} {n : Nat}
theorem _root_.LamX.ExtN.lst (e : ExtN H H') {xs : List V} (h : H p = some (.lst xs)) : H' p = some (.lst xs) := e _ _ h fun _ z => by cases z
theorem _root_.LamX.ExtN.tup (e : ExtN H H') {xs : List V} (h : H p = some (.tup xs)) : H' p = some (.tup xs) := e _ _ h fun _ z => by cases z
theorem _root_.LamX.ExtN.ins (e : ExtN H H') {C dx : Addr} {fs : List (Str × V)} (h : H p = some (.ins C dx fs)) : H' p = some (.ins C dx fs) := e _ _ h fun _ z => by cases z
theorem _root_.LamX.ExtN.cod (e : ExtN H H') {c : Addr} {q : Str} (h : H p = some (CodeO c q)) : H' p = some (CodeO c q) := e _ _ h codeO_ne
theorem Grow.extN (g : Grow H H') : ExtN H H' := fun b o e _ => g b o e
theorem Grow.tabs (g : Grow H H') {T : List (Addr × Str)} (t : Tabs T H) : Tabs T H' := t.ext g
theorem PenL.extN (h : PenL H p l n) (e : ExtN H H') : PenL H' p l n := by
  obtain ⟨c, t, r, h1, h2, h3⟩ := h
  exact ⟨c, t, r, e.lst h1, e.lst h2, h3⟩
/-- all but the pen and the tables stays -/
def KeepT (p : Addr) (H H' : Hp) : Prop := ∀ b o, b ≠ p → H b = some o → (∀ ps, o ≠ .tbl ps) → H' b = some o
theorem KeepT.trans (a : KeepT p H H') (b : KeepT p H' H2) : KeepT p H H2 := fun c o n h t => b c o n (a c o n h t) t
theorem Keep.keepT (k : Keep p H H') : KeepT p H H' := fun b o n h _ => k b o n h
theorem _root_.LamX.ExtN.keepT (e : ExtN H H') : KeepT p H H' := fun b o _ h t => e b o h t
/-- the tables while a pen draws -/
theorem Keep.tabs (k : Keep p H H') (hp : PenL H p l n) {T : List (Addr × Str)} (t : Tabs T H) : Tabs T H' := by
  obtain ⟨xs, e⟩ := hp.lst
  have ne : ∀ b o, H b = some o → (∀ ys, o ≠ .lst ys) → H' b = some o := fun b o hb ho => k b o (fun z => by rw [z, e] at hb; cases hb; exact ho _ rfl) hb
  intro q hq
  obtain ⟨ps, h1, h2, h3⟩ := t q hq
  refine ⟨ps, ne _ _ h1 (fun _ z => by cases z), h2, fun pos cv hc => ?_⟩
  obtain ⟨c, e1, e2⟩ := h3 pos cv hc
  exact ⟨c, e1, ne _ _ e2 (fun _ z => by unfold CodeO at z; cases z)⟩
end
end HG

/-! x op= n, x of an own class, n an int. -/
namespace HG
open PySem L2 PyProof.Rows
open PySem.W in
theorem bin1_T {prog : Program} {w : World} {A : Around} {E : Value → Shared → Prop} {s : Shared} {K : Frag} {x C f : Addr} {ox : Obj} {od : Option Obj} {nm' : String} {b : Value} {T : String} {fo ro rc : Option Value} {Q : Option Value → Shared → Prop} (X : K.In s.heap) (I : InstAt s.heap x ox C od)
    (hb : typeOf b = pure (.type T)) (hc : selfFirst K C = true)
    (hs : findIn K (.ref C) (PySem.dunder nm') = some (some (.ref f))) (hf : isFn K (.ref f) = true) (hr : findIn K (.ref C) (dunderR nm') = some rc) (hp : rc = none ∨ ∃ g : Addr, rc = some (.ref g))
    (h1 : findIn K (.type T) (PySem.dunder nm') = some fo) (h2 : findIn K (.type T) (dunderR nm') = some ro) (hsub : subIn K (.type T) (.ref C) = some false)
    (h : wpAny (model prog w) A (call (.ref f) [.ref x, b]) (PySem.W.CmpBack fun v s' => Q (some v) s') E s) : wpAny (model prog w) A (binaryOp1 nm' (.ref x) b) Q E s := by
  obtain ⟨cd, rest, hcd, hm⟩ := ksp_first hc
  have one := ksp_try X I hs hf h
  obtain ⟨hh, g, d, tt, os⟩ := s
  have L1 : Looks (model prog w) hh (typeOf (.ref x)) (.ref C) := I.type
  have L2 : Looks (model prog w) hh (typeOf b) (.type T) := Looks.of_pure hb
  have L3 : Looks (model prog w) hh (fillsNumberSlot (.ref C) nm') true := fills_K X hcd hm hs
  have L4 : Looks (model prog w) hh (fillsNumberSlot (.type T) nm') ((fo.isSome && !isSeqSlot fo) || (ro.isSome && !isSeqSlot ro)) := ksp_fillsT X h1 h2
  have L5 : Looks (model prog w) hh (isSubtype (.type T) (.ref C)) false := looks_subIn X hsub
  have L6 : Looks (model prog w) hh (numberSlotInPython (.ref C) nm') true := ksp_inPy X hs hr hp
  have L7 : Looks (model prog w) hh (numberSlotInPython (.type T) nm') false := Looks.of_pure rfl
  have L8 : Looks (model prog w) hh (typeLookup (.type T) (dunderR nm')) ro := looks_findIn X h2
  generalize ((fo.isSome && !isSeqSlot fo) || (ro.isSome && !isSeqSlot ro)) = right at L4
  have hne : (Value.ref C == Value.type T) = false := Bool.eq_false_iff.mpr fun q => by cases beq_iff_eq.mp q
  unfold binaryOp1
  refine wpAny_bind (L1.at (wpAny_bind (L2.at (wpAny_bind (L3.at ?_)))))
  simp only [hne, Bool.false_eq_true, if_false]
  cases right with
  | false =>
    ksp_lk
    refine wpAny_mono one (fun r s' hr' => ?_) fun _ _ e => e
    obtain ⟨v, rfl, hq⟩ := hr'
    ksp_lk
    exact hq
  | true =>
    ksp_lk
    refine wpAny_mono one (fun r s' hr' => ?_) fun _ _ e => e
    obtain ⟨v, rfl, hq⟩ := hr'
    ksp_lk
    exact hq
/-- x op= y, y of the class or an int -/
theorem op_inpB {X : Cx} {k : Nat} {C f : Addr} {op : Operator} {sp : Sp} (B : InpF X.K C f op) (D : BinF X.K C f op) (O : Own X k f sp) : OpR X (inplaceOp op) (rBinL C sp) := by
  intro pins s σ H x y v u Q I rx ry h
  obtain ⟨h1, h2, h3⟩ := h
  rcases h2 with h2 | ⟨i, rfl⟩
  · exact op_inp B O pins s σ H x y v u Q I rx ry ⟨h1, h2, h3⟩
  · obtain ⟨a, dx, fs, rfl, ea⟩ := isIns_out h1
    cases rx
    obtain ⟨mA, J, _⟩ := ins_get I.hok ea
    obtain ⟨od, J, _⟩ := J.look
    obtain ⟨t, rfl⟩ := ry
    obtain ⟨rc, hr, hp⟩ := D.rc
    obtain ⟨fo, h4⟩ := D.i1
    obtain ⟨ro, h5⟩ := D.i2
    unfold inplaceOp
    refine wpAny_holding (wpAny_bind (J.type.here ?_))
    refine wpAny_bind ((B.no _ _ I.kIn).here ?_)
    simp only [Bool.false_eq_true, if_false]
    refine wpAny_bind (bin1_T I.kIn J (T := "int") rfl B.sf B.fn B.isf hr hp h4 h5 D.sub (thn (O.run (vs := [.ref a, .int i]) I (.cons rfl (.cons ⟨_, rfl⟩ .nil)) h3) fun v s' z => ?_))
    obtain ⟨v', H', I', r', q'⟩ := z
    have z := cmpBack (X := X) (pins := pins) (σ := σ) (Q := Q) ⟨v', H', I', r', q'⟩
    cases v <;> first | exact z.elim | exact wpAny_pure ⟨v', H', I', r', q'⟩
end HG
namespace HG
open PySem L2 PyProof.Rows
theorem dec_mul {prog : Program} {w : World} {A : Around} {E : Value → Shared → Prop} {s : Shared} {y C dx : Addr} {i : Int} {t : Tok} (h : s.heap.get? y = some (PySem.W.instObj C dx)) (Q : Option Value → Shared → Prop) (q : Q none s) :
    wpAny (model prog w) A (tryMethod (.int i t) (PySem.dunder "mul") (.ref y)) Q E s := by
  refine wpAny_tryMethod_declines (T := "int") (id := "int.__mul__") (hT := ?hT1) (h := ?hs1) (hc := ?hc1)
  case hT1 => exact typeIs_int s i t
  case hs1 => exact PySem.F.slot_int_mul
  refine wpAny_call_entry (T := "int") (name := PySem.dunder "mul") (b := Builtin.«int.__mul__») (ha := ?ha) (hb := ?hb) (h := ?hs) (hT := ?hT) (hc := ?hc)
  case hs => exact PySem.F.slot_int_mul
  case hb => exact PySem.F.entry_int_mul
  case hT => exact typeIs_int s i t
  case ha => exact PySem.F.args_int_mul_2 _ _
  case hc =>
    unfold Builtin.«int.__mul__» Builtin.Int.intBinary
    refine wpAny_bind (wpAny_of_eq (a := (.int i t, [.ref y])) rfl ?_)
    refine wpAny_bind (wpAny_of_eq (a := i) rfl ?_)
    exact wpAny_bind (asInt_ins h (wpAny_bind (wpAny_rule (wpAny_pure ⟨_, rfl, rfl, q⟩))))
theorem int_fo_Mult {K : PySem.W.Frag} : ∃ fo ro, PySem.W.findIn K (.type "int") (PySem.dunder Operator.Mult.info.2) = some fo ∧ PySem.W.findIn K (.type "int") (dunderR Operator.Mult.info.2) = some ro ∧ ((fo.isSome && !isSeqSlot fo) || (ro.isSome && !isSeqSlot ro)) = true :=
  ⟨some (.builtin "int.__mul__"), some (.builtin "int.__rmul__"), by show fastLookup "int" _ = _; decide +kernel, by show fastLookup "int" _ = _; decide +kernel, by decide +kernel⟩
end HG

/-! repr of None, of a bool; reading an optional whole number. -/
namespace HG
open PySem L2 PyProof.Rows
theorem call_repr_non {X : Cx} : CallR X (.builtin "repr") (fun xs H Q => xs = [.non] ∧ Q (.str "None") H) := by
  intro pins s σ H xs us Q I r h
  obtain ⟨rfl, q⟩ := h
  obtain ⟨u, rfl, rfl⟩ := vals1 r
  exact PySem.P.repr_of_none ⟨.str "None", H, I.tok _, ⟨_, rfl⟩, q⟩
/-- repr(x): None too -/
def cReprN (K : PySem.W.Frag) : List V → Hp → VK → Prop := fun xs H Q => match xs with
  | [.non] => Q (.str "None") H
  | xs => cRepr K xs H Q
theorem call_reprN {X : Cx} (hG : GA X.A) (hu : X.A.units + 64 < cLine) : CallR X (.builtin "repr") (cReprN X.K) := by
  intro pins s σ H xs us Q I r h
  unfold cReprN at h
  split at h
  · exact call_repr_non pins s σ H _ us Q I r ⟨rfl, h⟩
  · exact call_reprU hG hu pins s σ H _ us Q I r h
/-- the text of a value -/
def oRp : Option Int → Str
  | none => "None"
  | some i => toString i
theorem reprN_oV {K : PySem.W.Frag} {o : Option Int} {H : Hp} {Q : VK} (h : ∀ i, o = some i → Bn 1919 i) (k : Q (.str (oRp o)) H) : cReprN K [oV o] H Q := by
  cases o with
  | none => exact k
  | some i => exact ⟨Nat.lt_of_le_of_lt (Bn.log (m := 1918) (h i rfl)) (by decide), k⟩
theorem kit_uu {K : PySem.W.Frag} : PySem.W.kitOne K (.type "tuple") (.type "tuple") = some true := kit_ty (by decide +kernel)
theorem ty_tup {H : Hp} {a : Addr} {xs : List V} (h : H a = some (.tup xs)) : tyF H (.ref a) = some (.type "tuple") := by simp only [tyF, h]
theorem catE {H : Hp} {l b : Addr} {xs zs : List V} {Q : VK} (h1 : H l = some (.lst xs)) (h2 : H b = some (.lst zs)) (hl : xs.length + zs.length ≤ sizeLine) (k : ∀ p H', Grow H H' → H' p = some (.lst (xs ++ zs)) → Q (.ref p) H') : oAdd (.ref l) (.ref b) H Q := by
  simp only [oAdd, h1, h2]
  exact ⟨hl, fun p hp => k p _ (Grow.new hp) upd_same⟩
theorem tabS_nil {H : Hp} {P : Addr} {q : Str} (h : H P = some (.tbl #[])) : LamX.TabS H P q := ⟨#[], h, by trivial, fun pos cv z => by cases z⟩
/-- what a loop over J asks -/
def ForW (J : It) (g : TG) (tb : TS) (D : Ends) (σ : L2.St) (H1 : Hp) : Prop := ∃ W : Nat → Nat → L2.St → Hp → Prop, (∃ m, W 0 m σ H1) ∧ ∀ i m σ H, W i m σ H →
      (J.stop i H ∧ D.nx σ H) ∨ (J.go i H ∧ ∃ N : L2.St → Hp → Prop, (∀ σ' H', N σ' H' → ∃ m', m' < m ∧ W (i + 1) m' σ' H') ∧ ∀ x H', J.yld i H x H' → g x σ H' fun σ2 H2 => tb { D with nx := N, ct := N, bk := D.nx } σ2 H2)
/-- what is asked of x for a loop over a sequence -/
def SeqW (K : PySem.W.Frag) (x : V) (H1 : Hp) (R : It → Hp → Prop) : Prop := ∃ a, x = .ref a ∧ (((∃ xs, SqL K H1 a xs) ∧ R (Itl K a) H1) ∨ ((∃ xs, SqT K H1 a xs) ∧ R (Itt K a) H1))
theorem for_seq {K : PySem.W.Frag} {te : TE} {g : TG} {tb : TS} {D : Ends} {σ : L2.St} {H : Hp} (h : te σ H fun x H1 => SeqW K x H1 fun J H1 => ForW J g tb D σ H1) : tFor (iSeq K te) g tb D σ H := h
theorem seqW {K : PySem.W.Frag} {a : Addr} {H1 : Hp} {xs : List V} {R : It → Hp → Prop} (h : Sq K H1 a xs) (k : ∀ J, JOk J H1 xs.length (fun j => xs.getD j .non) → R J H1) : SeqW K (.ref a) H1 R := jok_sq h k
/-- a loop over items that stay -/
theorem for_jok {J : It} {H1 : Hp} {n : Nat} {xs : Nat → V} {g : TG} {tb : TS} {D : Ends} {σ : L2.St} (hJ : JOk J H1 n xs) (W : Nat → L2.St → Hp → Prop) (w0 : W 0 σ H1) (gr : ∀ i σ H, W i σ H → Grow H1 H) (fin : ∀ σ H, W n σ H → D.nx σ H)
    (step : ∀ i σ H, i < n → W i σ H → g (xs i) σ H fun σ2 H2 => tb { D with nx := W (i + 1), ct := W (i + 1), bk := D.nx } σ2 H2) : ForW J g tb D σ H1 := by
  refine ⟨fun i m σ H => i ≤ n ∧ m = n - i ∧ W i σ H, ⟨n, by omega, by omega, w0⟩, ?_⟩
  rintro i m σ H ⟨hi, hm, w⟩
  by_cases e : i = n
  · subst e
    exact .inl ⟨hJ.stop H (gr _ _ _ w), fin _ _ w⟩
  · have hl : i < n := by omega
    refine .inr ⟨hJ.go H (gr _ _ _ w) i hl, W (i + 1), fun σ' H' q => ⟨n - (i + 1), by omega, by omega, rfl, q⟩, fun x H' y => ?_⟩
    obtain ⟨rfl, rfl⟩ := hJ.yld H (gr _ _ _ w) i hl x H' y
    exact step i σ H' hl w
end HG

/-! An own exception class whose __init__ says super().__init__(text), then sets fields: its __init__ as a def. -/
namespace HG
open PySem L2 PyProof.Rows
/-- what is asked of the class C, its __init__'s code object and cell of the class -/
structure SupF (P : Program) (K : PySem.W.Frag) (C cda cc : Addr) : Prop where
  cls : OexC K C
  code : ∃ ccl cdd vs ccs file tf, K.lookup cda = some ⟨ccl, cdd, .fields vs, ccs⟩ ∧ vs[2]? = some (.str file tf) ∧ ((P.main.file : Str) == file) = true
  cell : ∃ cl cld csl, K.lookup cc = some ⟨cl, cld, .cell (some (.ref C)), csl⟩
  sup : PySem.W.ks_superIn K C C "__init__" = some (some (.builtin "ValueError.__init__"))
  self : PySem.W.mroIn K C (.ref C) = some true
  opq : PySem.W.nsIn K cStatics "thirdparty.any" = some none
  ve : PySem.W.subIn K (.ref C) (.type "ValueError") = some true
  top : (P.main.scope.names.lookup ("super" : Str)).isSome = false
/-- the names of such a method -/
structure ScX (ps : List Str) (scope : Scope) : Prop where
  kind : scope.kind = .function
  co : scope.isCoroutine = false
  gen : scope.isGenerator = false
  nocell : ∀ x ∈ scope.names, x.2 ≠ .cell
  free : ∀ x ∈ scope.names, x.2 = .free → x.1 = "__class__"
  par : ∀ p ∈ ps, scope.names.lookup p = some .local
  nd : ps.Nodup
  sup : scope.names.lookup ("super" : Str) = some .globalImplicit
  cl : scope.names.lookup ("__class__" : Str) = some .free
/-- the context of the body -/
def cxX (CX : CXT) (P : Program) (w : World) (K : PySem.W.Frag) (mg : Str → Option Value) (base : Heap) (N : List Str) (qual : Str) (scope : Scope) (f cda cc : Addr) (A : Around) (outer : List Env) (s : Shared) (H : Hp) (E : XK) : Cx where
  prog := P
  w := w
  K := K
  mg := mg
  base := base
  A := A.deeper (PySem.W.ksEnv qual scope s.heap.objs.size f (.ref cda) cc)
  N := N
  s_0 := s
  H_0 := H
  env := PySem.W.ksEnv qual scope s.heap.objs.size f (.ref cda) cc
  outer := outer
  stack := PySem.W.ksEnv qual scope s.heap.objs.size f (.ref cda) cc :: outer
  ex := []
  calm := true
  fn := fun _ => false
  pn := []
  xe := fun e s' => wpAny (model P w) (A.deeper (PySem.W.ksEnv qual scope s.heap.objs.size f (.ref cda) cc)) (leaving (PySem.W.ksEnv qual scope s.heap.objs.size f (.ref cda) cc) e) (fun _ s'' => CX outer H s E e s'') (fun e' s'' => CX outer H s E e' s'') s'
theorem lookup_of_mem {α : Type} {y : Str} {u : α} : ∀ {l : List (Str × α)}, (l.map (·.1)).Nodup → (y, u) ∈ l → l.lookup y = some u
  | [], _, h => absurd h (by simp)
  | (z, v) :: r, nd, h => by
    rw [List.map_cons, List.nodup_cons] at nd
    rcases List.mem_cons.mp h with e | e
    · cases e
      simp [List.lookup_cons]
    · have ne : (y == z) = false := by
        refine Bool.eq_false_iff.mpr fun q => nd.1 ?_
        rw [← beq_iff_eq.mp q]
        exact List.mem_map_of_mem (f := (·.1)) e
      rw [List.lookup_cons, ne]
      exact lookup_of_mem nd.2 e
theorem zip_rev {α : Type} {ps : List Str} {us : List α} {y : Str} {u : α} {i : Nat} (nd : ps.Nodup) (hl : ps.length = us.length) (hp : ps[i]? = some y) (hu : us[i]? = some u) : (ps.zip us).reverse.lookup y = some u := by
  refine lookup_of_mem ?_ ?_
  · rw [List.map_reverse, List.map_fst_zip (by omega)]
    exact List.pairwise_reverse.mpr (nd.imp Ne.symm)
  · rw [List.mem_reverse]
    exact List.mem_of_getElem? (i := i) (by rw [List.getElem?_zip_eq_some]; exact ⟨hp, hu⟩)
section
variable {CX : CXT} {P : Program} {w : World} {K : PySem.W.Frag} {mg : Str → Option Value} {base : Heap} {ps : List Str} {qual : Str} {scope : Scope} {f cda cc : Addr} {A : Around} {outer : List Env} {s : Shared} {H : Hp} {E : XK} {us : List Value} {vs : List V} {h₁ : Heap} {tk : Nat}
theorem inv_startX {cl : Value} {cld : Option Addr} {csl : Array (Option Value)} {cv : Option Value} (S : ScX ps scope) (hd : A.handled = none) (e0 : Env0 P w K mg base A outer s H) (hl : vs.length = ps.length) (r : Vals vs us) (hc : K.lookup cc = some ⟨cl, cld, .cell cv, csl⟩)
    (hns : h₁.Ns s.heap.objs.size fun y => (ps.zip us).reverse.lookup y) (kp : ∀ b o, s.heap.get? b = some o → h₁.get? b = some o) :
    Inv (cxX CX P w K mg base ps qual scope f cda cc A outer s H E) [] (vs.map some) H { s with heap := h₁, toks := tk } := by
  have noA : ∀ b : Addr, b ∉ (cxX CX P w K mg base ps qual scope f cda cc A outer s H E).ex := fun b z => absurd (show b ∈ ([] : List Addr) from z) (by simp)
  have one : ∀ {y : Str} {c : Addr}, ([("__class__", cc)] : List (Str × Addr)).lookup y = some c → y = "__class__" ∧ c = cc := fun {y c} e => by
    have := PySem.mem_of_lookup e
    rw [List.mem_singleton] at this
    exact Prod.mk.inj this
  have hcb := e0.mod.kin _ _ hc
  have hcs := e0.bs _ _ hcb
  refine ⟨⟨e0.mod, S.kind, rfl, rfl, Nat.le_refl _, fun y z c e1 e2 => ?_, fun y hy => ?_, fun y c z _ => ?_, fun _ => hd, Around.frames_deeper e0.frames, .inr ⟨rfl, rfl⟩, fun b z => absurd z (noA b), e0.bs, e0.bsz, fun b _ _ => noA b, fun b z => absurd z (noA b), e0.funs, e0.frf⟩,
    rfl, e0.bare, Un.kept kp, ⟨_, hns, fun i y v e1 e2 e3 => ?_⟩, fun y c e => ?_, e0.hok.fresh (Nat.le_refl _), fun y c e => ?_, fun q hq => absurd (show q ∈ ([] : List (Addr × Obj)) ++ [] from hq) (by simp), e0.hok.kept kp, ?_⟩
  · rw [(one e1).1, (one e2).1]
  · have hy : scope.names.lookup y = some .cell ∨ scope.names.lookup y = some .free := hy
    rcases hy with hy | hy
    · exact absurd rfl (S.nocell _ (PySem.mem_of_lookup hy))
    · have e := S.free _ (PySem.mem_of_lookup hy) rfl
      have e : y = "__class__" := e
      rw [e]
      exact ⟨cc, rfl⟩
  · have z : false = true := z
    cases z
  · rw [List.getElem?_map] at e2
    have ha : vs[i]? = some v := by
      cases q : vs[i]? with
      | none => rw [q] at e2; cases e2
      | some x => rw [q] at e2; cases e2; rfl
    obtain ⟨u, hu, rv⟩ := r.get ha
    have hm : y ∈ ps := List.mem_of_getElem? e1
    exact ⟨u, rv, .inl ⟨S.par y hm, zip_rev S.nd (by rw [← hl]; exact r.length) e1 hu⟩⟩
  · obtain ⟨rfl, rfl⟩ := one e
    exact ⟨cv, _, kp _ _ hcs.1, rfl⟩
  · obtain ⟨rfl, rfl⟩ := one e
    exact hcs.2
  · show (vs.map some).length = ps.length
    rw [List.length_map]
    exact hl
end
section
variable {X : Cx} {pins : List (Addr × Obj)} {σ : L2.St} {H : Hp} {s : Shared} {a C u : Addr}
open PySem.W in
/-- ValueError.__init__ bound to an exception, called: nothing of it is told -/
theorem call_mw {us : List Value} {Q : Value → Shared → Prop} {A : Around} {E : Value → Shared → Prop} (T : OexC X.K C) (I : Inv X pins σ H s) (e : H a = some (exo a C none)) (hu : s.heap.get? u = some (kxs_mw "ValueError.__init__" a)) (hl : us.length ≤ sizeLine)
    (h : ∀ s', Inv X pins σ H s' → Q .none s') : wpAny (model X.prog X.w) A (call (.ref u) us) Q E s := by
  obtain ⟨nm, q, N, bs, bm, sn, sub, ab, col, dd, k0, k1, k2, k3, k5, hC, hbm⟩ := T.cls
  obtain ⟨t1, ho⟩ := exo_at I.hok e
  have kin := I.kIn
  obtain ⟨hp, g, d, t, os⟩ := s
  refine wpAny_call (codeAny_of_tree ?_)
  show wpAny _ A.in1 (callAny (.ref u) ⟨us, []⟩) _ _ _
  simp only [callAny]
  refine wpAny_bind (wpAny_load hu ?_)
  simp only [kxs_mw, show (Value.type "method-wrapper" == Value.type "method" || Value.type "method-wrapper" == Value.type "builtin_function_or_method" || Value.type "method-wrapper" == Value.type "method-wrapper") = true by decide, if_true]
  refine KFB.if_so (by decide) ?_
  refine wpAny_bind (check_bound_init F.excBase_ValueError.toExcCallFacts (kin _ _ hC) ho rfl ?_)
  refine wpAny_bind (wpAny_pure (wpAny_pure ?_))
  refine ⟨plainId_quiet F.excBase_ValueError.init.plain _, codeAny_builtin F.excBase_ValueError.initEntry ?_⟩
  refine exc_init_tree (cls := .ref C) (t0 := t1) (dv := none) (c2 := .none) (c3 := .none) (b4 := .bool false) ho hl fun h' k hx _ => ?_
  have J := I.write (t' := t) (x := a) (e := a) (o := exo a C none) (by rw [e]; exact True.intro) (.inl rfl) k ⟨_, hx⟩ (exo_ok hx)
  have eu : upd H a (exo a C none) = H := by
    funext b
    by_cases hb : b = a
    · rw [hb, upd_same, e]
    · rw [upd_ne hb]
  rw [eu] at J
  exact h _ J
end
section
variable {CX : CXT} {P : Program} {w : World} {K : PySem.W.Frag} {mg : Str → Option Value} {base : Heap} {k : Nat} {ps : List Str} {name qual : Str} {scope : Scope} {C f cda cc : Addr} {sp : Sp} {params : Arguments} {dV kV doc pm ct oc : Value} {an od : Option Addr} {osl : Array (Option Value)} {rest : List Stmt} {p0 p1 p2 p3 p4 pc : Pos} {text : Str} {j : Nat}
open PySem.W in
theorem fnOk_exc {ar : Arg} (lk : K.lookup f = some ⟨oc, od, .func (ksFn name qual params (.Expr (.Call (.Attribute (.Call (.Name "super" p0) [] [] p1) "__init__" p2) [.Constant (.str text) j pc] [] p3) p4 :: rest) scope dV kV doc pm an (.ref cda) ct cc), osl⟩)
    (hcd : codeIn K (.ref cda) qual = true) (S : ScX ps scope) (F : SupF P K C cda cc) (hmg : mg "super" = none) (hp : (params.posonlyargs ++ params.args).head? = some ar) (har : ps[0]? = some ar.arg)
    (he : ∀ L, ∃ pl, eval (.Call (.Attribute (.Call (.Name "super" p0) [] [] p1) "__init__" p2) [.Constant (.str text) j pc] [] p3) (ksEnv qual scope L f (.ref cda) cc) = (do
      let ov ← attributeBase (.Call (.Name "super" p0) [] [] p1) "__init__" (ksEnv qual scope L f (.ref cda) cc) (eval (.Call (.Name "super" p0) [] [] p1) (ksEnv qual scope L f (.ref cda) cc))
      standAt p2.atName
      let (g, first) ← holding [ov] (getMethod ov "__init__" pl)
      callWith p3 g first (backTo p3 (starEach [.Constant (.str text) j pc] (ksEnv qual scope L f (.ref cda) cc))) []))
    (hi : ∀ L, interactive (ksEnv qual scope L f (.ref cda) cc) = false) (hs : ∀ L, swapsWith (.Call (.Attribute (.Call (.Name "super" p0) [] [] p1) "__init__" p2) [.Constant (.str text) j pc] [] p3) none p4.line (ksEnv qual scope L f (.ref cda) cc) = pure false)
    (len : ∀ vs H Q E, sp vs H Q E → vs.length = ps.length)
    (hbody : ∀ (A : Around) (outer : List Env) (s : Shared) (H : Hp) (vs : List V) (Q : VK) (E : XK), sp vs H Q E → ∃ (a : Addr) (ws : List V), vs = .ref a :: ws ∧ H a = some (exo a C none) ∧
      ∃ t, PSs (cxX CX P w K mg base ps qual scope f cda cc A outer s H E) rest t ∧ t { nx := fun _ H' => Q .non H', rt := Q } (vs.map some) H) :
    FnOk P w K mg base CX (k + 1) f (ksFn name qual params (.Expr (.Call (.Attribute (.Call (.Name "super" p0) [] [] p1) "__init__" p2) [.Constant (.str text) j pc] [] p3) p4 :: rest) scope dV kV doc pm an (.ref cda) ct cc) ps sp := by
  refine ⟨len, fun A outer s H args us vs Q E hr e0 hb r hsp => ?_⟩
  have KX : K.In s.heap := e0.mod.kin.keeps fun b o e => (e0.bs b o e).1
  have lim : s.heap.NoLimit := e0.mod.nolimit.keeps fun b o e => (e0.bs b o e).1
  obtain ⟨ccl, cdd, cvs, ccs, file, tf, c1, c2, c3⟩ := F.code
  obtain ⟨cl, cld, csl, hcell⟩ := F.cell
  obtain ⟨a, ws, rfl, ha, t, ht, hq⟩ := hbody A outer s H vs Q E hsp
  have hl := len _ _ _ _ hsp
  refine ks_codeAny_call_defAt (fd := ksFn name qual params _ scope dV kV doc pm an (.ref cda) ct cc) (binds := ps.zip us) hr.depth (KX _ _ lk) rfl lim (codeRec_of KX hcd) rfl hb S.nocell (fun x hx => S.par _ (List.of_mem_zip hx).1) (fun h₁ hns kp => ?_) S.co S.gen S.kind
  have I : Inv (cxX CX P w K mg base ps qual scope f cda cc A outer s H E) [] ((V.ref a :: ws).map some) H { s with heap := h₁, toks := s.toks + (ps.zip us).length } := inv_startX S hr.hd e0 hl r hcell hns kp
  have KX1 : K.In h₁ := KX.keeps kp
  obtain ⟨cd, hcd1⟩ : ∃ cd, clsIn K C = some cd := by
    have := F.sup
    unfold ks_superIn at this
    cases q : clsIn K C with
    | none => rw [q] at this; cases this
    | some cd => exact ⟨cd, rfl⟩
  have hal := F.sup
  unfold ks_superIn at hal
  rw [hcd1, Option.bind_some] at hal
  obtain ⟨oD, hD1, hD2⟩ : ∃ oD, K.lookup C = some oD ∧ oD.data = .cls cd := by
    unfold clsIn at hcd1
    split at hcd1
    · rename_i c d cd' sl ho
      cases hcd1
      exact ⟨_, ho, rfl⟩
    · cases hcd1
  obtain ⟨pl, he⟩ := he s.heap.objs.size
  show PySem.wpAt (model P w) (A.deeper (ksEnv qual scope s.heap.objs.size f (.ref cda) cc)) (.func _ (ksEnv qual scope s.heap.objs.size f (.ref cda) cc)) (execs _ (ksEnv qual scope s.heap.objs.size f (.ref cda) cc)) _ (fun e s' => wpAny (model P w) (A.deeper (ksEnv qual scope s.heap.objs.size f (.ref cda) cc)) (leaving (ksEnv qual scope s.heap.objs.size f (.ref cda) cc) e) _ _ s') _
  refine ks_wpAt_execs_cons (ks_wpAt_Expr_any (ks_wpAt_MethodCall (pl := pl) (ks_wpAt_super_base (env := ksEnv qual scope s.heap.objs.size f (.ref cda) cc) S.sup S.cl (by decide) rfl (KX1 _ _ lk) rfl hp rfl (KX1 _ _ c1) rfl c2 c3 F.top ?_) he) (hi _) (hs _))
  have hmod := I.mod
  obtain ⟨mb, b1, b2⟩ := hmod.blt
  refine ks_loadName_global S.kind S.sup (Calls.loadGlobal_builtin (env := ksEnv qual scope s.heap.objs.size f (.ref cda) cc) (hmod.glob.keeps I.bk) hmg (b1.keeps I.bk) ((b2 "super" (by decide)).trans (by decide +kernel : bootBuiltins "super" = some (.type "super"))) ⟨rfl, ?_⟩)
  refine wpAny_loadName_free S.kind S.cl rfl ⟨_, KX1 _ _ hcell, rfl⟩ ?_
  have hself := S.par _ (List.mem_of_getElem? har)
  obtain ⟨m, hn, hlk⟩ := I.loc
  obtain ⟨u0, r0, l0⟩ := hlk 0 ar.arg (.ref a) har rfl (.inl hself)
  obtain rfl : u0 = Value.ref a := r0
  have hv : m ar.arg = some (.ref a) := by
    rcases l0 with ⟨_, q⟩ | ⟨q, _⟩
    · exact q
    · rcases q with q | q
      · have q : scope.names.lookup ar.arg = some .cell := q
        rw [hself] at q; cases q
      · have q : scope.names.lookup ar.arg = some .free := q
        rw [hself] at q; cases q
  refine wpAny_loadName_local S.kind hself hn hv ?_
  refine ks_wpAny_isType_cls (KX1 _ _ hD1) hD2 ⟨rfl, ?_⟩
  obtain ⟨t1, ho⟩ := exo_at I.hok ha
  have hne : a ≠ C := fun z => by
    have q := KX1 _ _ hD1
    rw [← z] at q
    rw [show h₁.get? a = _ from ho] at q
    cases q
    cases hD2
  refine ks_wpAny_call_super (KX1 _ _ hD1) hD2 ho rfl (fun c z => by cases z) (looks_mroIn KX1 F.self) (fun h2 hso k2 => ?_)
  have I2 : Inv (cxX CX P w K mg base ps qual scope f cda cc A outer s H E) [] ((V.ref a :: ws).map some) H ⟨h2, s.gens, s.drawn, s.toks + (ps.zip us).length, s.os⟩ := I.kept (t' := s.toks + (ps.zip us).length) k2
  have KX2 : K.In h2 := KX1.keeps k2
  have hI : Looks (model P w) h2 (isInstance (.ref a) (.type "ValueError")) true := by
    obtain ⟨t2, ho2⟩ := exo_at I2.hok ha
    have J : InstAt h2 a _ C none := ⟨ho2, rfl, rfl, trivial⟩
    exact J.type.andThen (looks_subIn KX2 F.ve)
  refine kxs_getMethod kxs_ValueError hso (looks_opaque KX2 F.opq) (l₀ := cd.mro) (fun A Q E s k q => wpAny_bind ((looks_clsIn KX2 hcd1) A _ E s k (wpAny_pure q))) rfl KX2 hal hI hne (by decide) ?_
  have k3 : ∀ b o, h2.get? b = some o → (h2.push (kxs_mw "ValueError.__init__" a)).get? b = some o := fun b o e => Heap.get?_push_of_some _ e
  have hmw : (h2.push (kxs_mw "ValueError.__init__" a)).get? h2.objs.size = some (kxs_mw "ValueError.__init__" a) := Heap.get?_push_size _ rfl
  have I3 : Inv (cxX CX P w K mg base ps qual scope f cda cc A outer s H E) [] ((V.ref a :: ws).map some) H ⟨h2.push (kxs_mw "ValueError.__init__" a), s.gens, s.drawn, s.toks + (ps.zip us).length + 1, s.os⟩ := I2.kept (t' := s.toks + (ps.zip us).length + 1) k3
  have hlt : ∀ {b : Addr} {o : Obj}, h2.get? b = some o → h2.objs.size ≠ b := fun {b o} e z => by
    have := Heap.lt_size e
    rw [← z] at this
    exact absurd this (Nat.lt_irrefl _)
  have hloc : h2.objs.size ≠ s.heap.objs.size := by
    obtain ⟨m2, n2, _⟩ := I2.loc
    obtain ⟨o, es, ep, e, _⟩ := n2
    exact hlt e
  have hfs : h2.objs.size ∉ frs outer := fun z => by
    obtain ⟨_, o, e, _⟩ := e0.funs.mem z
    exact hlt (k2 _ _ (kp _ _ e)) rfl
  have I4 := Inv.pinOne I3 hmw (I2.hok.fresh (Nat.le_refl _)) hloc hfs (fun v z => by cases z)
  have pa : PA (cxX CX P w K mg base ps qual scope f cda cc A outer s H E) [.Constant (.str text) j pc] (tCons (tC (.str text)) tNil) := pa_cons pe_str pa_nil
  have hev : starEach [.Constant (.str text) j pc] (ksEnv qual scope s.heap.objs.size f (.ref cda) cc) = [(false, eval (.Constant (.str text) j pc) (ksEnv qual scope s.heap.objs.size f (.ref cda) cc))] := rfl
  refine kxs_callWith (i := "ValueError.__init__") (x := a) (by rfl) ?_
  refine Calls.evalArgs_plain (wpAny_mono (pa.run p3 _ _ _ _ (fun vs H' => vs = [.str text] ∧ H' = H) I4 ⟨rfl, rfl⟩) (fun vs s5 z => ?_) (fun _ _ z => z))
  obtain ⟨vs5, H5, I5, r5, e5, rfl⟩ := z
  obtain ⟨q1, _⟩ := I5.pin (h2.objs.size, _) (List.mem_append_right _ (List.mem_cons_self ..))
  refine ⟨q1, ?_⟩
  have hl5 : ([] ++ vs : List Value).length ≤ sizeLine := by
    rw [List.nil_append, ← r5.length, e5]
    show 1 ≤ sizeLine
    decide
  refine call_mw F.cls (Inv.unpin I5) ha q1 hl5 fun s6 I6 => ?_
  refine wpAt_of_wpAny (wpAny_mono (ht.run [] s6 _ _ _ I6 hq) (fun fl s' z => ?_) fun e s' z => z)
  cases fl with
  | ret u =>
    obtain ⟨v, σ', H', J, rv, q⟩ := z
    exact ⟨v, H', J.os, J.bare, J.base, J.hok, rv, q⟩
  | next =>
    obtain ⟨σ', H', J, q⟩ := z
    exact ⟨.non, H', J.os, J.bare, J.base, J.hok, rfl, q⟩
  | brk => exact z.elim fun _ z => z.elim fun _ z => z.2.elim
  | cont => exact z.elim fun _ z => z.elim fun _ z => z.2.elim
end
end HG

/-! try .. except X as e, where the exception outlives the clause: it is tracked behind. -/
namespace HG
open PySem L2 PyProof.Rows
/-- at a: an exception of the class cls, its dict at d -/
def exH (a : Addr) (cls : Value) (d : Option Addr) : HO := .ext fun h => ∃ (oe : Obj) (vs : Array Value), h.get? a = some oe ∧ Zc cls d oe ∧ oe.data = .fields vs
theorem exH_own {a x : Addr} {cls : Value} {d : Option Addr} : exH a cls d ≠ .own x := fun z => by
  unfold exH at z
  cases z
section
variable {X : Cx} {pins : List (Addr × Obj)} {σ : L2.St} {H : Hp} {s : Shared} {a : Addr} {oe : Obj} {vs : Array Value} {cls : Value} {d : Option Addr}
theorem Inv.track (I : Inv X pins σ H s) (na : H a = none) (ha : s.heap.get? a = some oe) (hz : Zc cls d oe) (hd : oe.data = .fields vs) (h0 : X.s_0.heap.get? a = none) (nL : a ≠ X.env.locals) (np : ∀ p ∈ X.pn ++ pins, p.1 ≠ a) :
    Inv X pins σ (upd H a (exH a cls d)) s := by
  have ne : ∀ {b : Addr} {o : HO}, H b = some o → b ≠ a := fun {b o} e z => by rw [z, na] at e; cases e
  refine ⟨I.ok, I.os, I.bare, ⟨I.base.keep, I.base.slot, fun b o q n x => ?_, I.base.there, fun b xs q => ?_, fun b o xs q => ?_, fun b ps q => ?_⟩, I.loc, I.cell, ?_, fun y c e => ?_, fun p hp => ?_, fun b o q => ?_, I.len⟩
  · rw [upd_ne (fun z => by rw [z, h0] at q; cases q)]
    exact I.base.free b o q n x
  · have := I.base.tups b xs q
    rw [upd_ne (ne this)]
    exact this
  · have := I.base.frzs b o xs q
    rw [upd_ne (ne this)]
    exact this
  · obtain ⟨more, this⟩ := I.base.tbls b ps q
    exact ⟨more, by rw [upd_ne (ne this)]; exact this⟩
  · rw [upd_ne nL.symm]
    exact I.free
  · obtain ⟨v, o, ho, hd'⟩ := I.cell y c e
    rw [upd_ne (fun z => by rw [z, ha] at ho; cases ho; rw [hd] at hd'; cases hd')]
    exact I.freeC y c e
  · obtain ⟨p1, p2, p3⟩ := I.pin p hp
    exact ⟨p1, by rw [upd_ne (np p hp)]; exact p2, p3⟩
  · by_cases hb : b = a
    · subst hb
      rw [upd_same] at q
      cases q
      exact ⟨⟨oe, vs, ha, hz, hd⟩, ⟨oe, ha⟩, fun h1 h2 ⟨o, v, x, y, z⟩ k => ⟨o, v, k o x, y, z⟩⟩
    · rw [upd_ne hb] at q
      exact (I.hok b o q).stay (fun c v hc z => z) (fun c hc => by rw [upd_ne (ne hc)]; exact hc) (fun c xs hc => by rw [upd_ne (ne hc)]; exact hc)
end
/-- what the clause 'except c as e' wishes of an exception of the body; slot i is e's; behind, the exception is tracked -/
def wHeld (K : PySem.W.Frag) (c : Value) (i : Nat) (ts : Addr → Value → Option Addr → TS) (D : Ends) : WX := fun cls d σ H =>
  PySem.W.exmOne K cls c = some true ∧ ∀ a, H a = none → ts a cls d { nx := fun σ' H' => D.nx (σ'.set i none) (upd H' a (exH a cls d)), rt := fun _ _ => False, bk := fun _ _ => False, ct := fun _ _ => False } (σ.set i (some (.ref a))) H
section
variable {X : Cx} {x n : Str} {c : Value} {i : Nat} {body suite : List Stmt} {b₀ : Stmt} {np pos pos' : Pos} {tb : WX → TS} {ts : Addr → Value → Option Addr → TS}
theorem ps_try_held (hs : X.stack = X.env :: X.outer) (hf : X.env.frame = some X.env.locals) (hex : X.ex = []) (hN : X.N.Nodup) (hi : X.N[i]? = some n) (hln : X.env.kindOf n = some .local) (hc : Names X x c)
    (hb : ∀ (W : WX) (pn : List (Addr × Obj)) (xe : Value → Shared → Prop), Takes (X.tr pn xe) W → PassesOwn (model X.prog X.w) X.A X.env xe → PSs (X.tr pn xe) body (tb W))
    (hsu : ∀ (a : Addr) (oe : Obj) (cls : Value) (d : Option Addr) (pn : List (Addr × Obj)), Zc cls d oe → (∃ vs, oe.data = .fields vs) → PSs (X.suite a ((a, oe) :: pn)) (b₀ :: suite) (ts a cls d)) :
    PS X (.Try body [.ExceptHandler (some (.Name x np)) (some n) (b₀ :: suite) pos'] [] [] pos) (fun D σ H => tb (wHeld X.K c i ts D) D σ H) := by
  refine ⟨fun pins s σ H D I h => ?_⟩
  have ok := I.ok
  have hfr : X.A.frames = some (X.env :: X.outer) := by rw [ok.frames, hs]
  refine wpAny_Try_except ?_
  let catch_ : Value → Shared → Prop := fun e s₁ => wpAny (model X.prog X.w) X.A (noteFrame e X.env) (fun _ s₂ => wpAny (model X.prog X.w) X.A (setFlight e none) (fun _ s₃ =>
    wpAny (model X.prog X.w) X.A (handleBy e X.env [.ExceptHandler (some (.Name x np)) (some n) (b₀ :: suite) pos']) (SP X pins D) X.xe s₃) X.xe s₂) X.xe s₁
  have lands : Takes (X.tr (X.pn ++ pins) catch_) (wHeld X.K c i ts D) := fun u s' xx => by
    obtain ⟨a, B, sI, pins', σ', H', cls, d, rfl, J', nb, up, sky, na, os, ag, hb1, hyes⟩ := xx
    have J : Inv X pins σ' H' sI := J'.ofTry ok
    have sky' : Sky B (X.env :: X.outer) a (Zc cls d) X.env.locals s'.heap := by rw [← hs]; exact sky
    show wpAny (model X.prog X.w) X.A (noteFrame (.ref a) X.env) _ _ _
    refine Sky.land Zc.steady hfr hf sky' fun h3 fl3 up3 => ?_
    have J3 : Inv X pins σ' H' { s' with heap := h3 } := J.landed nb fl3.1 (up.trans up3) os ag
    obtain ⟨oe3, vs3, he3, hz3, hd3⟩ := fl3.there
    -- the exception is no frame, and new
    have nfr : a ∉ frs (X.env :: X.outer) := fun hm => by
      obtain ⟨_, o', e', hnf⟩ := fl3.2.2.1.mem hm
      rw [he3] at e'
      cases e'
      exact hnf _ hd3
    have nL : a ≠ X.env.locals := fun z => nfr (List.mem_filterMap.mpr ⟨X.env, List.mem_cons_self, by rw [hf, z]⟩)
    have nF : a ∉ X.fs := fun hm => by
      obtain ⟨e, he, q⟩ := List.mem_filterMap.mp hm
      exact nfr (List.mem_filterMap.mpr ⟨e, List.mem_cons_of_mem _ he, q⟩)
    have newI : sI.heap.get? a = none := by
      cases q : sI.heap.get? a with
      | none => rfl
      | some o =>
        have := nb a o q (by rw [hs]; exact nfr)
        rw [fl3.2.1] at this
        cases this
    have new0 : X.s_0.heap.get? a = none := by
      cases q : X.s_0.heap.get? a with
      | none => rfl
      | some o =>
        obtain ⟨o', e'⟩ := J.base.there a o q (by rw [hex]; simp)
        rw [newI] at e'
        cases e'
    have np' : ∀ p ∈ X.pn ++ pins, p.1 ≠ a := fun p hp z => by
      have := (J.pin p hp).1
      rw [z, newI] at this
      cases this
    have S3 := J3.suite he3 hd3 na nL nF
    refine wpAny_handleBy_cons (codeAny_handlers_test ?_) (by intro q; cases q)
    have LT : PySem.W.Looks (model X.prog X.w) h3 (typeOf (.ref a)) cls := fun A Q E s k q => wpAny_typeOf_ref (k _ _ he3) (by rw [hz3.1]; exact q)
    have LM := PySem.W.exm_one (M := model X.prog X.w) (J3.kIn) LT hb1
    have test : ∀ {Q : Value → Shared → Prop} {E : Value → Shared → Prop}, Q c { s' with heap := h3 } → wpAny (model X.prog X.w) (X.A.mark (some (.ref a))) (eval (.Name x np) X.env) Q E { s' with heap := h3 } := fun {Q E} q => by
      obtain ⟨hg, hdbg, hm | ⟨hm, hv, hnn⟩⟩ := hc
      · exact ld_glob (X := X.suite a ((a, oe3) :: (X.pn ++ pins))) S3 hg hm q hdbg
      · exact ld_blt (X := X.suite a ((a, oe3) :: (X.pn ++ pins))) S3 hg hm hv q hnn hdbg
    refine test (LM.here ?_)
    refine codeAny_handlers_suite_as ?_
    refine HandSPX.lands_againZ fl3 fun h4 fl4 up4 => ?_
    have J4 : Inv X pins σ' H' { s' with heap := h4 } := J.landed nb fl4.1 ((up.trans up3).trans up4) os ag
    obtain ⟨oe4, vs4, he4, hz4, hd4⟩ := fl4.there
    have S4 := J4.suite he4 hd4 na nL nF
    refine store_ok (X := X.suite a ((a, oe4) :: (X.pn ++ pins))) (v := .ref a) S4 hN hi (.inl hln) rfl (fun s5 S5 => ?_) (.inr hln)
    refine wpAny_mono ((hsu a oe4 cls d (X.pn ++ pins) hz4 ⟨_, hd4⟩).run [] s5 _ H' _ S5 (hyes a na)) (fun f s6 hsp => ?_) (fun _ _ z => False.elim z)
    cases f with
    | next =>
      obtain ⟨σ6, H6, S6, q6⟩ := hsp
      obtain ⟨pa, pn, _⟩ := S6.pin (a, oe4) (List.mem_append_left _ (List.mem_cons_self ..))
      have J6 : Inv X pins σ6 H6 s6 := S6.unsuite ok
      have J7 := Inv.track J6 pn pa hz4 hd4 new0 nL np'
      exact gone_ok J7 hN hi hln fun s7 J8 => ⟨_, _, J8, q6⟩
    | brk => exact hsp.elim fun _ z => z.elim fun _ z => z.2.elim
    | cont => exact hsp.elim fun _ z => z.elim fun _ z => z.2.elim
    | ret u => exact hsp.elim fun _ z => z.elim fun _ z => z.elim fun _ z => z.2.2.elim
  refine wpAny_mono ((hb (wHeld X.K c i ts D) (X.pn ++ pins) catch_ lands PassesOwn.looking).run [] s σ H D (I.toTry _) h) (fun f s1 hsp => ?_) (fun e s1 he => he)
  cases f with
  | next =>
    obtain ⟨σ', H', J', q⟩ := hsp
    exact wpAny_execs_nil ⟨σ', H', J'.ofTry ok, q⟩
  | brk =>
    obtain ⟨σ', H', J', q⟩ := hsp
    exact ⟨σ', H', J'.ofTry ok, q⟩
  | cont =>
    obtain ⟨σ', H', J', q⟩ := hsp
    exact ⟨σ', H', J'.ofTry ok, q⟩
  | ret u =>
    obtain ⟨v, σ', H', J', r, q⟩ := hsp
    exact ⟨v, σ', H', J'.ofTry ok, r, q⟩
end
end HG
namespace HG
open PySem L2 PyProof.Rows
/-! ### a tracked exception: its class, its fields -/
section
variable {X : Cx} {pins : List (Addr × Obj)} {σ : L2.St} {H : Hp} {s : Shared} {a D dd : Addr} {fs : List (Str × V)}
theorem exH_at {P : Program} {w : World} {h : Heap} {cls : Value} {d : Option Addr} (hok : HOk P w H h) (e : H a = some (exH a cls d)) : ∃ oe vs, h.get? a = some oe ∧ Zc cls d oe ∧ oe.data = .fields vs := (hok a _ e).1
/-- an instance of D with these fields -/
theorem inst_exH (I : Inv X pins σ H s) (e : H a = some (exH a (.ref D) (some dd))) (ed : H dd = some (.xd fs)) : ∃ ox od mA, PySem.W.InstAt s.heap a ox D (some od) ∧ s.heap.get? dd = some od ∧ s.heap.Ns1 dd mA ∧ ∀ f, RelO (fs.lookup f) (mA f) := by
  obtain ⟨oe, vs, h1, ⟨h2, h3⟩, h4⟩ := exH_at I.hok e
  have hx : ObjOk X.prog X.w H s.heap dd (.xd fs) := I.hok dd _ ed
  obtain ⟨mA, hns, hr⟩ := hx
  obtain ⟨od, es, ep, ho, q⟩ := id hns
  exact ⟨oe, od, mA, ⟨h1, h2, by unfold PySem.W.notCls; rw [h4] <;> rfl, by rw [h3]; exact ho⟩, ho, ⟨od, es, ep, ho, q⟩, hr⟩
end
/-- isinstance(e, c), e a tracked exception of the class D -/
def rIsH (K : PySem.W.Frag) (D : Addr) : List V → Hp → VK → Prop := fun xs H Q => ∃ (a dd : Addr) (fs : List (Str × V)) (c : V) (cv : Value) (b : Bool), xs = [.ref a, c] ∧ H a = some (exH a (.ref D) (some dd)) ∧ H dd = some (.xd fs) ∧ (∀ u, RelV c u → u = cv) ∧ PySem.W.kitOne K (.ref D) cv = some b ∧ Q (.bl b) H
theorem call_isH {X : Cx} {D : Addr} (C : ExcC X.K D) : CallR X (.builtin "isinstance") (rIsH X.K D) := by
  intro pins s σ H xs us Q I r h
  obtain ⟨a, dd, fs, c, cv, b, rfl, e, ed, hcv, ek, q⟩ := h
  cases r with
  | cons rx rr =>
    cases rr with
    | cons rt rr =>
      cases rr
      cases rx
      have ec := hcv _ rt
      subst ec
      obtain ⟨ox, od, mA, J, _⟩ := inst_exH I e ed
      exact PySem.W.kia_one (PySem.W.kitx_exc (by obtain ⟨cd, hc, _⟩ := PySem.W.any_some C.hd; rw [hc]; rfl) C.hg C.hk C.hs C.ha C.hn C.ht C.hm) I.kIn J ek (fun z => nomatch z) fun tk => ⟨.bl b, H, I.kept (t' := tk) fun _ _ z => z, rfl, q⟩
/-- e.f, e a tracked exception of the class C -/
def tXfH (C : Addr) (f : Str) (te : TE) : TE := fun σ H Q => te σ H fun x H1 => ∃ (a dd : Addr) (fs : List (Str × V)) (v : V), x = .ref a ∧ H1 a = some (exH a (.ref C) (some dd)) ∧ H1 dd = some (.xd fs) ∧ fs.lookup f = some v ∧ Q v H1
theorem pe_xfH {X : Cx} {C : Addr} {e : Expr} {te : TE} {pos : Pos} {n : Str} (T : XfC X.K C) (hno : PySem.W.findIn X.K (.ref C) n = some none) (he : PE X e te) (hb : attributeBase e n X.env (eval e X.env) = eval e X.env := by rfl) : PE X (.Attribute e n pos) (tXfH C n te) := by
  refine ⟨fun pins s σ H Q I h => ?_⟩
  refine attr_of hb (thn (he.run pins s σ H _ I h) fun u s1 hh => ?_)
  obtain ⟨x, H1, I1, rx, a, dd, fs, v, ex, ea, ed, l, q⟩ := hh
  subst ex
  obtain rfl : u = Value.ref a := rx
  obtain ⟨ox, od, mA, J, ho, hns, hr⟩ := inst_exH I1 ea ed
  obtain ⟨od', ho', hl⟩ := lookIn_ns hns
  rw [ho] at ho'
  cases ho'
  obtain ⟨u, hu, ru⟩ := RelO.some_of (v := v) (o := mA n) (by rw [← l]; exact hr n)
  exact HandSPX.exc_get I1.kIn J T.ga T.gg T.exC (PySem.W.findObj_own T.hdC hno rfl (by rw [hl, hu])) (handed_of ru) ⟨v, H1, I1.tok _, ru, q⟩
end HG
namespace HG
open PySem L2 PyProof.Rows
/-- isinstance(e, c), e a tracked exception of one of these classes -/
def rIsX (K : PySem.W.Frag) (cs : List Addr) : List V → Hp → VK → Prop := fun xs H Q => ∃ D ∈ cs, rIsH K D xs H Q
theorem call_isX {X : Cx} {cs : List Addr} (h : ∀ D ∈ cs, ExcC X.K D) : CallR X (.builtin "isinstance") (rIsX X.K cs) := by
  intro pins s σ H xs us Q I r z
  obtain ⟨D, hD, z⟩ := z
  exact call_isH (h D hD) pins s σ H xs us Q I r z
/-- what a def lets out goes to its own wish -/
theorem takesD {P : Program} {w : World} {K : PySem.W.Frag} {mg : Str → Option Value} {base : Heap} {N : List Str} {qual : Str} {scope : Scope} {f : Addr} {cd : Value} {A : Around} {outer : List Env} {s : Shared} {H : Hp} {E : XK} :
    Takes (cxOf (L2.CX P w) P w K mg base N qual scope f cd A outer s H E) (fun cls d _ H' => E cls d H') :=
  takes_of (X := cxOf (L2.CX P w) P w K mg base N qual scope f cd A outer s H E) (E := E) rfl rfl rfl rfl
theorem passE {P : Program} {w : World} {K : PySem.W.Frag} {mg : Str → Option Value} {base : Heap} {N : List Str} {qual : Str} {scope : Scope} {f : Addr} {cd : Value} {A : Around} {outer : List Env} {s : Shared} {H : Hp} {E : XK} :
    Passes (L2.CX P w) (cxOf (L2.CX P w) P w K mg base N qual scope f cd A outer s H E) E := passes_call takesD (fun _ _ _ _ h => h)
theorem passN {P : Program} {w : World} {X : Cx} : Passes (L2.CX P w) X E0 := fun pins σ H s e s' I c => by
  obtain ⟨_, _, _, _, _, _, _, _, _, _, _, _, z⟩ := c
  exact z.elim
theorem takesL {X : Cx} {base : Heap} {A : Around} {outer : List Env} {s : Shared} {H : Hp} {E : XK} {scope : Scope} {f c' : Addr} : Takes (lamCxB X base (L2.CX X.prog X.w) A outer s H E scope f c') (fun cls d _ H' => E cls d H') :=
  takes_of (X := lamCxB X base (L2.CX X.prog X.w) A outer s H E scope f c') (E := E) rfl rfl rfl rfl
theorem passLE {X : Cx} {base : Heap} {A : Around} {outer : List Env} {s : Shared} {H : Hp} {E : XK} {scope : Scope} {f c' : Addr} : Passes (L2.CX X.prog X.w) (lamCxB X base (L2.CX X.prog X.w) A outer s H E scope f c') E := passes_call takesL (fun _ _ _ _ h => h)
/-- raise X(..) in a def -/
def tRaise (E : XK) (t : L2.St → Hp → XK → Prop) : TS := fun _ σ H => t σ H fun cls d H' => E cls d H'
theorem ps_raiseE {X : Cx} {E : XK} {e : Expr} {t : L2.St → Hp → XK → Prop} {pos : Pos} (hc : X.calm = true) (tk : Takes X (fun cls d _ H' => E cls d H')) (he : PMk X e t) : PS X (.Raise (some e) none pos) (tRaise E t) := ps_raise hc tk he
/-- what is left of C(v, ..), raised: its fields -/
theorem mkO_one {C : Addr} {sp : Sp} {ta : TA} {σ : L2.St} {H : Hp} {Q : XK} {f : Str} (v : V) (hta : ∀ R : List V → Hp → Prop, R [v] H → ta σ H R)
    (hsp : ∀ a H' (R : VK), H' a = some (exo a C none) → (∀ dx, H' dx = none → dx ≠ a → R .non (upd (upd H' dx (exd dx [(f, v)])) a (exo a C (some dx)))) → sp [.ref a, v] H' R (fun _ _ _ => False))
    (hq : ∀ d, H d = none → Q (.ref C) (some d) (upd H d (.xd [(f, v)]))) : tMkO C sp [] ta σ H Q := by
  refine hta _ ⟨by show 1 ≤ 1000; decide, fun a ha => ?_⟩
  refine hsp a _ _ upd_same fun dx hdx ne => ⟨rfl, dx, [(f, v)], upd_same, ?_, ?_, ?_⟩
  · rw [upd_ne ne, upd_same]
  · rw [upd_ne ne] at hdx
    exact hdx
  · rw [upd_ne ne] at hdx
    have e : upd (del (upd (upd (upd H a (exo a C none)) dx (exd dx [(f, v)])) a (exo a C (some dx))) a) dx (.xd [(f, v)]) = upd H dx (.xd [(f, v)]) := by
      funext b
      by_cases h1 : b = dx
      · rw [h1, upd_same, upd_same]
      · rw [upd_ne h1, upd_ne h1]
        by_cases h2 : b = a
        · rw [h2, del_same, ha]
        · rw [del_ne h2, upd_ne h2, upd_ne h1, upd_ne h2]
    rw [e]
    exact hq dx hdx
end HG

/-! Calls that may raise: of a name that holds a function, in a try; of a class's own methods. -/
namespace HG
open PySem L2 PyProof.Rows
/-- x(), x a name that holds such a function, in a try's body: W takes what it lets out -/
def tCallVW (L : Lams) (i : Nat) (W : WX) : TE := fun σ H Q => ∃ f sp, σ[i]? = some (some (.ref f)) ∧ L f = some sp ∧ sp [] H Q (fun cls d H' => W cls d σ H')
theorem pe_callVW {X : Cx} {k i : Nat} {a : Str} {p1 p2 : Pos} {L : Lams} {W : WX} (hL : LamsOk X.prog X.w X.K X.mg X.base (L2.CX X.prog X.w) k L) (hr : Room k X.A) (hG : GA X.A) (tk : Takes X W) (hN : X.N[i]? = some a) (hv : Vis X.env.scope a) (hd : (a == ("__debug__" : Str)) = false := by decide) (hcd : (a == ("__classdict__" : Str)) = false := by decide) :
    PE X (.Call (.Name a p1) [] [] p2) (tCallVW L i W) := by
  refine ⟨fun pins s σ H Q I h => ?_⟩
  obtain ⟨f, sp, hs, hl, ht⟩ := h
  have F := hL f sp hl
  refine wpAny_Call_Name_kw (thn ((pe_var (pos := p1) (i := i) hN hv hd hcd).run pins s σ H (fun v H1 => v = .ref f ∧ H1 = H) I ⟨.ref f, hs, rfl, rfl⟩) fun u s1 ⟨v, H1, I1, r1, q1⟩ => ?_)
  obtain ⟨ev, eH⟩ := q1
  subst ev
  rw [eH] at I1
  obtain rfl : u = Value.ref f := r1
  refine PySem.W.callWith_F0 (F.at_ _ I1.bk) (wpAny_call (codeAny_mono (F.run X.A X.stack s1 H [] [] Q _ hr hG I1.env0 .nil ht) fun r s' hq => ?_))
  cases r with
  | error e => exact tk e s' (XE.of_call I1 (fun _ _ _ h => h) hq)
  | ok fl =>
    cases fl with
    | ret u => exact I1.after hq
    | next => exact hq.elim
    | brk => exact hq.elim
    | cont => exact hq.elim
/-- a promise with the wish about exceptions put in -/
def spE (sp : Sp) (E : XK) : Sp := fun vs H Q _ => sp vs H Q E
section
variable {X : Cx} {CX : CXT} {k : Nat} {f : Addr} {fd : FuncData} {ps : List Str} {sp : Sp} {E : XK}
theorem fnG_E (F : FnG X.prog X.w X.K X.mg X.base CX k f fd ps sp) (hx : Passes CX X E) : ∀ {pins : List (Addr × Obj)} {σ : L2.St} {H : Hp} {s : Shared} {Q : VK} {us : List Value} {vs : List V} {A : Around}, Room k A → GA A → Env0 X.prog X.w X.K X.mg X.base A X.stack s H → Binds X.K fd ps [] → Inv X pins σ H s → Vals vs us → sp vs H Q E → wpAny (model X.prog X.w) A (call (.ref f) us) (EP X pins σ Q) X.xe s :=
  fun {pins σ H s Q us vs A} hr hG e0 hb I r h => by
    have hl : us.length = ps.length := r.length.symm.trans (F.len _ _ _ _ h)
    have hb' := hb s us I.kIn (by rw [List.append_nil]; exact hl)
    rw [List.append_nil] at hb'
    exact wpAny_call (codeAny_mono (F.run A X.stack s H ⟨us, []⟩ us vs Q E hr hG e0 hb' r h) fun r s' hq => behind hx I hq)
theorem ownGE (F : FnG X.prog X.w X.K X.mg X.base CX k f fd ps sp) (hr : Room k X.A) (hG : GA X.A) (hb : Binds X.K fd ps []) (hx : Passes CX X E) : Own X k f (spE sp E) := ⟨fun I r h => fnG_E F hx hr hG I.env0 hb I r h⟩
theorem own1GE (F : FnG X.prog X.w X.K X.mg X.base CX k f fd ps sp) (hr : Room (k + 1) X.A) (hG : GA X.A) (hb : Binds X.K fd ps []) (hx : Passes CX X E) : Own1 X k f (spE sp E) := ⟨fun I r h => fnG_E F hx hr.in1 (ga_in1 hG) I.env0.in1 hb I r h⟩
theorem own2GE (F : FnG X.prog X.w X.K X.mg X.base CX k f fd ps sp) (hr : Room (k + 2) X.A) (hG : GA X.A) (hb : Binds X.K fd ps []) (hx : Passes CX X E) : Own2 X k f (spE sp E) := ⟨fun I r h => fnG_E F hx hr.in1.in1 (ga_in1 (ga_in1 hG)) I.env0.in1.in1 hb I r h⟩
end
end HG
namespace HG
open PySem L2 PyProof.Rows
/-- try: .. except c as e: .., the exception tracked behind -/
def tTryH (K : PySem.W.Frag) (c : Value) (i : Nat) (tb : WX → TS) (ts : Addr → Value → Option Addr → TS) : TS := fun D σ H => tb (wHeld K c i ts D) D σ H
theorem ps_tryH {X : Cx} {x n : Str} {c : Value} {i : Nat} {body suite : List Stmt} {b₀ : Stmt} {np pos pos' : Pos} {tb : WX → TS} {ts : Addr → Value → Option Addr → TS} (hs : X.stack = X.env :: X.outer) (hf : X.env.frame = some X.env.locals) (hex : X.ex = []) (hN : X.N.Nodup) (hi : X.N[i]? = some n) (hln : X.env.kindOf n = some .local) (hc : Names X x c)
    (hb : ∀ (W : WX) (pn : List (Addr × Obj)) (xe : Value → Shared → Prop), Takes (X.tr pn xe) W → PSs (X.tr pn xe) body (tb W))
    (hsu : ∀ (a : Addr) (oe : Obj) (cls : Value) (d : Option Addr) (pn : List (Addr × Obj)), PSs (X.suite a ((a, oe) :: pn)) (b₀ :: suite) (ts a cls d)) :
    PS X (.Try body [.ExceptHandler (some (.Name x np)) (some n) (b₀ :: suite) pos'] [] [] pos) (tTryH X.K c i tb ts) :=
  ps_try_held hs hf hex hN hi hln hc (fun W pn xe tk _ => hb W pn xe tk) (fun a oe cls d pn _ _ => hsu a oe cls d pn)
end HG

/-! Own exception classes of one or two fields. -/
namespace HG
open PySem L2 PyProof.Rows
structure FunX (K : PySem.W.Frag) (x qual : Str) (st : Stmt) (f : Addr) (fd : FuncData) (cda cc : Addr) : Prop where
  ex : ∃ oc od kV doc pm an ct osl, fd = PySem.W.ksFn x qual (defArgs st) (defBody st) (defScope st) .none kV doc pm an (.ref cda) ct cc ∧ K.lookup f = some ⟨oc, od, .func fd, osl⟩ ∧ PySem.W.codeIn K (.ref cda) qual = true
def spX1 (C : Addr) (g : Str) : Sp := fun vs H Q _ => match vs with
  | [.ref a, v] => H a = some (exo a C none) ∧ ∀ dx, H dx = none → dx ≠ a → Q .non (upd (upd H dx (exd dx [(g, v)])) a (exo a C (some dx)))
  | _ => False
def spX2 (C : Addr) (g g' : Str) : Sp := fun vs H Q _ => match vs with
  | [.ref a, v, u] => H a = some (exo a C none) ∧ ∀ dx, H dx = none → dx ≠ a → Q .non (upd (upd (upd H dx (exd dx [(g, v)])) a (exo a C (some dx))) dx (exd dx [(g', u), (g, v)]))
  | _ => False
section
variable {P : Program} {w : World} {K : PySem.W.Frag} {mg : Str → Option Value} {base : Heap} {x qual self p p' g g' : Str} {st : Stmt} {C f cda cc : Addr} {fd : FuncData} {p0 p1 p2 p3 p4 p5 p6 p7 p8 p9 p10 p11 p12 pc : Pos} {text : Str} {j : Nat} {ar : Arg}
open PySem.W in
theorem okX1 (FX : FunX K x qual st f fd cda cc) (S : ScX [self, p] (defScope st)) (F : SupF P K C cda cc) (hmg : mg "super" = none) (hno : PySem.W.findIn K (.ref C) g = some none) (hd1 : (self == ("__debug__" : Str)) = false) (hd2 : (p == ("__debug__" : Str)) = false) (hc1 : (self == ("__classdict__" : Str)) = false) (hc2 : (p == ("__classdict__" : Str)) = false)
    (hst : defBody st = .Expr (.Call (.Attribute (.Call (.Name "super" p0) [] [] p1) "__init__" p2) [.Constant (.str text) j pc] [] p3) p4 :: [.Assign [.Attribute (.Name self p5) g p6] (.Name p p7) p8])
    (hp : ((defArgs st).posonlyargs ++ (defArgs st).args).head? = some ar) (har : self = ar.arg)
    (he : ∀ L, ∃ pl, eval (.Call (.Attribute (.Call (.Name "super" p0) [] [] p1) "__init__" p2) [.Constant (.str text) j pc] [] p3) (ksEnv qual (defScope st) L f (.ref cda) cc) = (do
      let ov ← attributeBase (.Call (.Name "super" p0) [] [] p1) "__init__" (ksEnv qual (defScope st) L f (.ref cda) cc) (eval (.Call (.Name "super" p0) [] [] p1) (ksEnv qual (defScope st) L f (.ref cda) cc))
      standAt p2.atName
      let (g, first) ← holding [ov] (getMethod ov "__init__" pl)
      callWith p3 g first (backTo p3 (starEach [.Constant (.str text) j pc] (ksEnv qual (defScope st) L f (.ref cda) cc))) []))
    (hi : ∀ L, interactive (ksEnv qual (defScope st) L f (.ref cda) cc) = false) (hs : ∀ L, swapsWith (.Call (.Attribute (.Call (.Name "super" p0) [] [] p1) "__init__" p2) [.Constant (.str text) j pc] [] p3) none p4.line (ksEnv qual (defScope st) L f (.ref cda) cc) = pure false)
    (hs2 : ∀ L, swapsWith (.Name p p7) (some (.Attribute (.Name self p5) g p6)) p8.line (ksEnv qual (defScope st) L f (.ref cda) cc) = pure false) :
    FnOk P w K mg base CX0 1 f fd [self, p] (spX1 C g) := by
  obtain ⟨oc, od, kV, doc, pm, an, ct, osl, e, lk, hcd⟩ := FX.ex
  rw [hst] at e
  rw [e] at lk ⊢
  refine fnOk_exc (k := 0) lk hcd S F hmg hp (by rw [← har]; rfl) he hi hs (fun vs H Q E h => ?_) (fun A outer s H vs Q E h => ?_)
  · unfold spX1 at h
    split at h
    · rfl
    · exact h.elim
  · unfold spX1 at h
    split at h
    · rename_i a v
      obtain ⟨h1, h2⟩ := h
      refine ⟨a, [v], rfl, h1, _, pss_one (ps_ost (pe_var (i := 0) rfl (.inl (S.par _ (by simp))) hd1 hc1) (pe_var (i := 1) rfl (.inl (S.par _ (by simp))) hd2 hc2) (hs2 _)), ?_⟩
      refine ⟨v, rfl, .ref a, rfl, a, C, rfl, F.cls, hno, .inl ⟨h1, h2⟩⟩
    · exact h.elim
open PySem.W in
theorem okX2 (FX : FunX K x qual st f fd cda cc) (S : ScX [self, p, p'] (defScope st)) (F : SupF P K C cda cc) (hmg : mg "super" = none) (hno : PySem.W.findIn K (.ref C) g = some none) (hno' : PySem.W.findIn K (.ref C) g' = some none) (hd3 : (p' == ("__debug__" : Str)) = false) (hc3 : (p' == ("__classdict__" : Str)) = false) (hd1 : (self == ("__debug__" : Str)) = false) (hd2 : (p == ("__debug__" : Str)) = false) (hc1 : (self == ("__classdict__" : Str)) = false) (hc2 : (p == ("__classdict__" : Str)) = false)
    (hst : defBody st = .Expr (.Call (.Attribute (.Call (.Name "super" p0) [] [] p1) "__init__" p2) [.Constant (.str text) j pc] [] p3) p4 :: [.Assign [.Attribute (.Name self p5) g p6] (.Name p p7) p8, .Assign [.Attribute (.Name self p9) g' p10] (.Name p' p11) p12])
    (hp : ((defArgs st).posonlyargs ++ (defArgs st).args).head? = some ar) (har : self = ar.arg)
    (he : ∀ L, ∃ pl, eval (.Call (.Attribute (.Call (.Name "super" p0) [] [] p1) "__init__" p2) [.Constant (.str text) j pc] [] p3) (ksEnv qual (defScope st) L f (.ref cda) cc) = (do
      let ov ← attributeBase (.Call (.Name "super" p0) [] [] p1) "__init__" (ksEnv qual (defScope st) L f (.ref cda) cc) (eval (.Call (.Name "super" p0) [] [] p1) (ksEnv qual (defScope st) L f (.ref cda) cc))
      standAt p2.atName
      let (g, first) ← holding [ov] (getMethod ov "__init__" pl)
      callWith p3 g first (backTo p3 (starEach [.Constant (.str text) j pc] (ksEnv qual (defScope st) L f (.ref cda) cc))) []))
    (hi : ∀ L, interactive (ksEnv qual (defScope st) L f (.ref cda) cc) = false) (hs : ∀ L, swapsWith (.Call (.Attribute (.Call (.Name "super" p0) [] [] p1) "__init__" p2) [.Constant (.str text) j pc] [] p3) none p4.line (ksEnv qual (defScope st) L f (.ref cda) cc) = pure false)
    (hs2 : ∀ L, swapsWith (.Name p p7) (some (.Attribute (.Name self p5) g p6)) p8.line (ksEnv qual (defScope st) L f (.ref cda) cc) = pure false)
    (hs3 : ∀ L, swapsWith (.Name p' p11) (some (.Attribute (.Name self p9) g' p10)) p12.line (ksEnv qual (defScope st) L f (.ref cda) cc) = pure false) :
    FnOk P w K mg base CX0 1 f fd [self, p, p'] (spX2 C g g') := by
  obtain ⟨oc, od, kV, doc, pm, an, ct, osl, e, lk, hcd⟩ := FX.ex
  rw [hst] at e
  rw [e] at lk ⊢
  refine fnOk_exc (k := 0) lk hcd S F hmg hp (by rw [← har]; rfl) he hi hs (fun vs H Q E h => ?_) (fun A outer s H vs Q E h => ?_)
  · unfold spX2 at h
    split at h
    · rfl
    · exact h.elim
  · unfold spX2 at h
    split at h
    · rename_i a v u
      obtain ⟨h1, h2⟩ := h
      refine ⟨a, [v, u], rfl, h1, _, pss_cons (ps_ost (pe_var (i := 0) rfl (.inl (S.par _ (by simp))) hd1 hc1) (pe_var (i := 1) rfl (.inl (S.par _ (by simp))) hd2 hc2) (hs2 _)) (pss_one (ps_ost (pe_var (i := 0) rfl (.inl (S.par _ (by simp))) hd1 hc1) (pe_var (i := 2) rfl (.inl (S.par _ (by simp))) hd3 hc3) (hs3 _))), ?_⟩
      refine ⟨v, rfl, .ref a, rfl, a, C, rfl, F.cls, hno, .inl ⟨h1, fun dx hdx ne => ?_⟩⟩
      refine ⟨u, rfl, .ref a, rfl, a, C, rfl, F.cls, hno', .inr ⟨dx, _, upd_same, ?_, by show 1 ≤ 900; decide, h2 dx hdx ne⟩⟩
      rw [upd_ne ne, upd_same]
    · exact h.elim
end
end HG

/-! min(ints, default=v). -/
namespace HG
open PySem L2 PyProof.Rows
def cMinD (K : PySem.W.Frag) : List V → List V → Hp → VK → Prop := fun xs zs H Q => match xs, zs with
  | [.ref a], [d] => ∃ ns : List Int, H a = some (.lst (ns.map V.int)) ∧ (ns = [] → Q d H) ∧ ∀ m ∈ ns, (∀ y ∈ ns, m ≤ y) → Q (.int m) H
  | _, _ => False
theorem foldl_min (n : Int) : ∀ ns : List Int, ns.foldl min n ∈ n :: ns ∧ ∀ y ∈ n :: ns, ns.foldl min n ≤ y
  | [] => ⟨by simp, by simp⟩
  | k :: r => by
    obtain ⟨h1, h2⟩ := foldl_min (min n k) r
    rw [List.foldl_cons]
    refine ⟨?_, fun y hy => ?_⟩
    · rcases List.mem_cons.mp h1 with e | e
      · rw [e]
        by_cases h : n ≤ k
        · rw [Int.min_eq_left h]; simp
        · rw [Int.min_eq_right (by omega)]; simp
      · exact List.mem_cons_of_mem _ (List.mem_cons_of_mem _ e)
    · have h3 := h2 (min n k) (List.mem_cons_self ..)
      rcases List.mem_cons.mp hy with e | hy
      · rw [e]; omega
      · rcases List.mem_cons.mp hy with e | hy
        · rw [e]; omega
        · exact h2 y (List.mem_cons_of_mem _ hy)
theorem depth_intsM : ∀ ns : List Int, PyData.depthAll (ns.map PyData.int) = 0
  | [] => rfl
  | n :: r => by
    show max (PyData.depth (.int n)) (PyData.depthAll (r.map PyData.int)) = 0
    rw [depth_intsM r]
    rfl
theorem _root_.L2.Room.units64 {k : Nat} {A : Around} (r : Room k A) : A.units + 64 < cLine := by have := r.units65; omega
theorem call_minD {X : Cx} (hc : X.calm = true) (hu : X.A.units + 64 < cLine) : CallRK X (.builtin "min") ["default"] (cMinD X.K) := by
  intro pins s σ H xs zs us ws Q I r1 r2 h
  unfold cMinD at h
  split at h
  rotate_left
  · exact h.elim
  rename_i a d
  obtain ⟨ns, ha, h0, h1⟩ := h
  obtain ⟨u, rfl, ru⟩ := r1.one
  obtain ⟨v, rfl, rv⟩ := r2.one
  cases ru
  obtain ⟨its, rvs, hl, _⟩ := I.list (SqL.of (K := X.K) ha)
  have hI := rvs.ints
  show wpAny _ _ (call (.builtin "min") [.ref a] [(Str.ofString "default", v)]) _ _ _
  refine PySem.W.min_list_default (xs := ns.map PyData.int) (as := []) (I.ok.hd hc) hl.isList (by simpa using IntsAre.reads s.heap hI) ⟨?_, ?_⟩ (by rw [depth_intsM]; omega) (fun e h' tk k => ?_) (fun y ys i v' h' tk bs e hv hr k => ?_)
  · intro x hx y hy
    obtain ⟨i, _, rfl⟩ := List.mem_map.mp hx
    obtain ⟨j, _, rfl⟩ := List.mem_map.mp hy
    rfl
  · intro x hx
    obtain ⟨i, _, rfl⟩ := List.mem_map.mp hx
    exact fun z => by cases z
  · exact ⟨d, H, I.kept k, rv, h0 (by cases ns with | nil => rfl | cons => cases e)⟩
  · cases ns with
    | nil => cases e
    | cons n r =>
      rw [List.map_cons] at e
      cases e
      rw [PySem.W.minD_ints] at hr
      cases hr with
      | int i t =>
        obtain ⟨m1, m2⟩ := foldl_min n r
        exact ⟨.int _, H, I.kept k, ⟨t, rfl⟩, h1 _ m1 m2⟩
end HG

/-! Methods called with keywords alone. -/
namespace HG
open PySem L2 PyProof.Rows
/-- a def without defaults, called with keywords: how the values stand -/
theorem fun_kb {K : PySem.W.Frag} {x qual : Str} {st : Stmt} {f : Addr} {fd : FuncData} {ps : List Str} (F : Fun K x qual st f fd) (n : Nat) (ks : List Str) (g : {α : Type} → List α → List α → List α)
    (hrel : ∀ {vs zs : List V} {us ws : List Value}, Vals vs us → Vals zs ws → Vals (g vs zs) (g us ws))
    (h : ∀ (kV doc pm : Value) (an : Option Addr) (cdv ct : Value) (us ws : List Value), us.length = n → ws.length = ks.length → bindArgs (PySem.W.fnOf x qual (defArgs st) (defBody st) (defScope st) .none kV doc pm an cdv ct) ⟨us, ks.zip ws⟩ = pure (ps.zip (g us ws))) :
    KBn K fd ps n ks (fun us ws => g us ws) (fun vs zs => g vs zs) := by
  obtain ⟨oc, od, kV, doc, pm, an, cdv, ct, osl, rfl, lk, hcd⟩ := F.ex
  exact ⟨fun s us ws _ l1 l2 => .of_eq (h kV doc pm an cdv ct us ws l1 l2), fun r1 r2 => hrel r1 r2⟩
/-- o.m(k = v, ..) -/
def tMethK (C : Addr) (m : Str) (n : Nat) (sp : Sp) (gV : List V → List V → List V) (E : XK) (ta : TE) (tk : TA) : TE := fun σ H Q => ta σ H fun x H1 => ∃ a dx fs, x = .ref a ∧ H1 a = some (.ins C dx fs) ∧ fs.lookup m = none ∧ tk σ H1 fun zs H2 => zs.length = n ∧ sp (gV [x] zs) H2 Q E
/-- C.m(k = v, ..), m a static method -/
def tSMethK (C : Addr) (n : Nat) (sp : Sp) (gV : List V → List V → List V) (E : XK) (ta : TE) (tk : TA) : TE := fun σ H Q => ta σ H fun x H1 => x = .ref C ∧ tk σ H1 fun zs H2 => zs.length = n ∧ sp (gV [] zs) H2 Q E
section
variable {X : Cx} {CX : CXT} {k n : Nat} {f C p' : Addr} {fd : FuncData} {ps ks : List Str} {sp : Sp} {E : XK} {m : Str} {pos apos : Pos} {o : Expr} {kws : List Keyword} {ta : TE} {tk : TA} {pl : Sem Bool} {g : List Value → List Value → List Value} {gV : List V → List V → List V}
theorem runKw {pins : List (Addr × Obj)} {σ : L2.St} {H : Hp} {s : Shared} {Q : VK} {us ws : List Value} {vs zs : List V} (F : FnG X.prog X.w X.K X.mg X.base CX k f fd ps sp) (hr : Room k X.A) (hG : GA X.A) (hb : KBn X.K fd ps n ks g gV) (hx : Passes CX X E)
    (I : Inv X pins σ H s) (r : Vals vs us) (rz : Vals zs ws) (l1 : us.length = n) (l2 : ws.length = ks.length) (h : sp (gV vs zs) H Q E) : wpAny (model X.prog X.w) X.A (call (.ref f) us (ks.zip ws)) (EP X pins σ Q) X.xe s :=
  wpAny_call (codeAny_mono (F.run X.A X.stack s H ⟨us, ks.zip ws⟩ (g us ws) (gV vs zs) Q E hr hG I.env0 (hb.to s us ws I.kIn l1 l2) (hb.rel r rz) h) fun r s' hq => behind hx I hq)
theorem pe_methKG0 (he : PE X o ta) (c : Cls X.K C) (hm : Meth X.K C m f) (F : FnG X.prog X.w X.K X.mg X.base CX k f fd ps sp) (hr : Room k X.A) (hG : GA X.A) (hb : KBn X.K fd ps 1 ks g gV) (hx : Passes CX X E) (hkw : PK X kws tk)
    (hall : (backToKw pos (keywordEach kws X.env)).all (·.1.isSome) = true := by rfl) (hks : (backToKw pos (keywordEach kws X.env)).filterMap (·.1) = ks := by rfl)
    (hpl : ((backTo pos (starEach [] X.env)).any (·.1) || (backToKw pos (keywordEach kws X.env)).any (·.1.isNone)) = false := by rfl) (hnl : ks.length = n := by rfl)
    (ht : eval (.Call (.Attribute o m apos) [] kws pos) X.env = (do
      let ov ← eval o X.env
      standAt apos.atName
      let (f, first) ← holding [ov] (getMethod ov m pl)
      callWith pos f first (backTo pos (starEach [] X.env)) (backToKw pos (keywordEach kws X.env))) := by rfl) :
    PE X (.Call (.Attribute o m apos) [] kws pos) (tMethK C m n sp gV E ta tk) := by
  subst hnl
  refine ⟨fun pins s σ H Q I h => PySem.W.methodCall_KW (pl := pl) (thn (he.run pins s σ H _ I h) fun u s1 z => ?_) ht⟩
  obtain ⟨v, H1, I1, rx, a, dx, fs, rfl, ea, l, q⟩ := z
  cases rx
  refine getmeth_ok I1 ea c hm l (PySem.W.callWith_KW0 (first := [.ref a]) (h₀ := X.base) I.ok.mod.kin hm.kp hall (thn (hkw.run pos pins s1 σ H1 _ I1 q) fun ws s2 z => ?_) hpl)
  obtain ⟨zs, H2, I2, rz, l2, q2⟩ := z
  refine ⟨I2.kIn, ?_⟩
  rw [hks]
  exact runKw (us := [.ref a]) (vs := [.ref a]) F hr hG hb hx I2 (.cons rfl .nil) rz rfl (rz.length.symm.trans l2) q2
theorem pe_smethKG0 (he : PE X o ta) (M : SMet X.K C m p' f) (F : FnG X.prog X.w X.K X.mg X.base CX k f fd ps sp) (hr : Room k X.A) (hG : GA X.A) (hb : KBn X.K fd ps 0 ks g gV) (hx : Passes CX X E) (hkw : PK X kws tk)
    (hall : (backToKw pos (keywordEach kws X.env)).all (·.1.isSome) = true := by rfl) (hks : (backToKw pos (keywordEach kws X.env)).filterMap (·.1) = ks := by rfl)
    (hpl : ((backTo pos (starEach [] X.env)).any (·.1) || (backToKw pos (keywordEach kws X.env)).any (·.1.isNone)) = false := by rfl) (hnl : ks.length = n := by rfl)
    (ht : eval (.Call (.Attribute o m apos) [] kws pos) X.env = (do
      let ov ← eval o X.env
      standAt apos.atName
      let (f, first) ← holding [ov] (getMethod ov m pl)
      callWith pos f first (backTo pos (starEach [] X.env)) (backToKw pos (keywordEach kws X.env))) := by rfl) :
    PE X (.Call (.Attribute o m apos) [] kws pos) (tSMethK C n sp gV E ta tk) := by
  subst hnl
  refine ⟨fun pins s σ H Q I h => PySem.W.methodCall_KW (pl := pl) (thn (he.run pins s σ H _ I h) fun u s1 z => ?_) ht⟩
  obtain ⟨v, H1, I1, rx, rfl, q⟩ := z
  cases rx
  have I2 := I1.tok (s1.toks + 1)
  refine getsm_ok I1 M (PySem.W.callWith_KW0 (first := []) (h₀ := X.base) I.ok.mod.kin M.kp hall (thn (hkw.run pos pins _ σ H1 _ I2 q) fun ws s2 z => ?_) hpl)
  obtain ⟨zs, H2, I3, rz, l2, q2⟩ := z
  refine ⟨I3.kIn, ?_⟩
  rw [hks]
  exact runKw (us := []) (vs := []) F hr hG hb hx I3 .nil rz rfl (rz.length.symm.trans l2) q2
end
/-- what raise C(v) leaves to be shown -/
def RaiseP (C : Addr) (sp : Sp) (E : XK) (vs : List V) (H1 : Hp) : Prop := vs.length ≤ 1000 ∧ ∀ a, H1 a = none → sp (.ref a :: (vs ++ [])) (upd H1 a (exo a C none))
  (fun v H2 => v = .non ∧ ∃ (d : Addr) (fs : List (Str × V)), H2 a = some (exo a C (some d)) ∧ H2 d = some (exd d fs) ∧ H1 d = none ∧ E (.ref C) (some d) (upd (del H2 a) d (.xd fs))) (fun _ _ _ => False)
theorem raise_ev {C : Addr} {sp : Sp} {E : XK} {ta : TA} {D : Ends} {σ : L2.St} {H : Hp} (h : ta σ H (RaiseP C sp E)) : tRaise E (tMkO C sp [] ta) D σ H := h
theorem raise1 {C : Addr} {E : XK} {H : Hp} {f : Str} {v : V} (h : ∀ d, H d = none → E (.ref C) (some d) (upd H d (.xd [(f, v)]))) : RaiseP C (spX1 C f) E [v] H :=
  mkO_one (ta := fun _ H Q => Q [v] H) (σ := []) (f := f) v (fun R h => h) (fun a H' R e k => ⟨e, k⟩) h
theorem raise2 {C : Addr} {E : XK} {H : Hp} {f g : Str} {v u : V} (h : ∀ d, H d = none → E (.ref C) (some d) (upd H d (.xd [(g, u), (f, v)]))) : RaiseP C (spX2 C f g) E [v, u] H := by
  refine ⟨by show 2 ≤ 1000; decide, fun a ha => ⟨upd_same, fun dx hdx ne => ⟨rfl, dx, [(g, u), (f, v)], ?_, upd_same, ?_, ?_⟩⟩⟩
  · rw [upd_ne ne.symm, upd_same]
  · rw [upd_ne ne] at hdx
    exact hdx
  · rw [upd_ne ne] at hdx
    have e : upd (del (upd (upd (upd (upd H a (exo a C none)) dx (exd dx [(f, v)])) a (exo a C (some dx))) dx (exd dx [(g, u), (f, v)])) a) dx (.xd [(g, u), (f, v)]) = upd H dx (.xd [(g, u), (f, v)]) := by
      funext b
      by_cases h1 : b = dx
      · rw [h1, upd_same, upd_same]
      · rw [upd_ne h1, upd_ne h1]
        by_cases h2 : b = a
        · rw [h2, del_same, ha]
        · rw [del_ne h2, upd_ne h1, upd_ne h2, upd_ne h1, upd_ne h2]
    rw [e]
    exact h dx hdx
/-- a loop over a range -/
theorem for_rng1 {ta : TA} {g : TG} {tb : TS} {D : Ends} {σ : L2.St} {H : Hp} (h : ta σ H fun vs H1 => ∃ j : Int, vs = [.int j] ∧ -(2 ^ 62) ≤ j ∧ j < 2 ^ 62 ∧ ForW (Itr 0 j.toNat) g tb D σ H1) : tFor (iRng1 ta) g tb D σ H := h
theorem for_rng2 {ta : TA} {g : TG} {tb : TS} {D : Ends} {σ : L2.St} {H : Hp} (h : ta σ H fun vs H1 => ∃ i j : Int, vs = [.int i, .int j] ∧ (-(2 ^ 62) ≤ i ∧ i < 2 ^ 62 ∧ -(2 ^ 62) ≤ j ∧ j < 2 ^ 62) ∧ ForW (Itr i (j - i).toNat) g tb D σ H1) : tFor (iRng2 ta) g tb D σ H := h
end HG

/-! What a call is heard to do. -/
namespace HG
open PySem L2 PyProof.Rows
/-- an int less a bool -/
def oSubIB : R2 := fun x y H Q => match x, y with
  | .int i, .bl b => Q (.int (i - if b then 1 else 0)) H
  | _, _ => False
theorem oSubIB_eq {i : Int} {b : Bool} {H : Hp} {Q : VK} : oSubIB (.int i) (.bl b) H Q = Q (.int (i - if b then 1 else 0)) H := rfl
theorem op_subIB {X : Cx} : OpR X (binaryOp .Sub) oSubIB := by
  intro pins s σ H x y v u Q I rx ry h
  unfold oSubIB at h
  split at h
  · obtain ⟨t, rfl⟩ := rx
    cases ry
    exact IntBool.sub_int_bool ⟨.int _, H, I.tok _, ⟨_, rfl⟩, h⟩
  · exact h.elim
/-- sp, called over H or what it has grown to, raises C with these fields -/
def HearsE (sp : Sp) (H : Hp) (C : Addr) (fs : List (Str × V)) : Prop := ∀ H0, Grow H H0 → ∀ (R : VK) (W : XK), (∀ d H1, Grow H0 H1 → H1 d = some (.xd fs) → W (.ref C) (some d) H1) → sp [] H0 R W
/-- .. gives a value -/
def HearsV (sp : Sp) (H : Hp) (P : VK) : Prop := ∀ H0, Grow H H0 → ∀ (R : VK) (W : XK), (∀ v H1, Grow H0 H1 → P v H1 → R v H1) → sp [] H0 R W
/-- its repr is this text -/
def ReprsAs (K : PySem.W.Frag) (H : Hp) (v : V) (z : Str) : Prop := ∀ H' (R : VK), Grow H H' → R (.str z) H' → cReprN K [v] H' R
theorem isXc {K : PySem.W.Frag} {cs : List Addr} {a D C dd : Addr} {fs : List (Str × V)} {b : Bool} {H : Hp} {Q : VK} (hD : D ∈ cs) (ha : H a = some (exH a (.ref D) (some dd))) (hd : H dd = some (.xd fs)) (k : PySem.W.kitOne K (.ref D) (.ref C) = some b) (q : Q (.bl b) H) : rIsX K cs [.ref a, .ref C] H Q :=
  ⟨D, hD, a, dd, fs, .ref C, .ref C, b, rfl, ha, hd, fun u r => r, k, q⟩
theorem isXt {K : PySem.W.Frag} {cs : List Addr} {a D dd : Addr} {n : String} {fs : List (Str × V)} {b : Bool} {H : Hp} {Q : VK} (hD : D ∈ cs) (ha : H a = some (exH a (.ref D) (some dd))) (hd : H dd = some (.xd fs)) (k : PySem.W.kitOne K (.ref D) (.type n) = some b) (q : Q (.bl b) H) : rIsX K cs [.ref a, .ty n] H Q :=
  ⟨D, hD, a, dd, fs, .ty n, .type n, b, rfl, ha, hd, fun u r => r, k, q⟩
theorem xfE {a C dd : Addr} {f : Str} {i : Nat} {fs : List (Str × V)} {v : V} {σ : L2.St} {H : Hp} {Q : VK} (hs : σ[i]? = some (some (.ref a))) (ha : H a = some (exH a (.ref C) (some dd))) (hd : H dd = some (.xd fs)) (l : fs.lookup f = some v) (q : Q v H) : tXfH C f (tVar i) σ H Q := ⟨.ref a, hs, a, dd, fs, v, rfl, ha, hd, l, q⟩
end HG

/-! Lists kept, repeated, stored into. -/
namespace HG
open PySem L2
theorem keep_lst {K : PySem.W.Frag} {p a : Addr} {H1 : Hp} {xs : List V} (ha : H1 a = some (.lst xs)) (hap : a ≠ p) : (∀ H, Keep p H1 H → ∀ j, j < xs.length → (Itl K a).go j H) ∧ (∀ H, Keep p H1 H → ∀ j, j < xs.length → ∀ x H', (Itl K a).yld j H x H' → H' = H ∧ x = (fun j : Nat => xs.getD j .non) j) ∧ ∀ H, Keep p H1 H → (Itl K a).stop xs.length H := by
  refine ⟨fun H g j hj => ⟨xs, _, SqL.of (g _ _ hap ha), List.getElem?_eq_getElem hj⟩, fun H g j hj x H' y => ⟨y.1, ?_⟩, fun H g => ⟨xs, SqL.of (g _ _ hap ha), Nat.le_refl _⟩⟩
  have e := y.2 xs (SqL.of (g _ _ hap ha))
  show x = xs.getD j .non
  rw [List.getD_eq_getElem?_getD, e]
  rfl
theorem mul_rep {H : Hp} {l : Addr} {xs : List V} {k : Int} {Q : VK} (h : H l = some (.lst xs)) (h1 : -(2 ^ 63) ≤ k) (h2 : k < 2 ^ 63) (h3 : xs.length * k.toNat ≤ sizeLine) (q : ∀ p, H p = none → Q (.ref p) (upd H p (.lst (List.replicate k.toNat xs).flatten))) : oMul (.ref l) (.int k) H Q := by
  simp only [oMul, h]
  exact ⟨h1, h2, h3, q⟩
theorem setI_at {xs : List V} {r : Nat} {v : V} (h : r < xs.length) : setI xs (r : Int) v = some (xs.set r v) := by
  unfold setI ixN
  rw [if_pos (by omega), if_pos (by omega)]
  rfl
theorem setE {H : Hp} {W : Addr} {xs : List V} {r : Nat} {v : V} {QH : Hp → Prop} (h : H W = some (.lst xs)) (hr : r < xs.length) (k : QH (upd H W (.lst (xs.set r v)))) : stE (.ref W) (.int (r : Int)) v H QH := by
  show stL (.ref W) (.int (r : Int)) v H QH
  rw [stL_ref, h]
  simp only [setI_at hr]
  exact k
theorem mem_set {l : List Int} {i : Nat} {v x : Int} (h : x ∈ l.set i v) : x ∈ l ∨ x = v := by
  rcases List.mem_or_eq_of_mem_set h with h | h
  · exact .inl h
  · exact .inr h
theorem getD_set {l : List Int} {i j : Nat} {v : Int} (h : i < l.length) : (l.set i v).getD j 0 = if j = i then v else l.getD j 0 := by
  rw [List.getD_eq_getElem?_getD, List.getElem?_set, List.getD_eq_getElem?_getD]
  by_cases e : i = j
  · subst e
    rw [if_pos rfl, if_pos h, if_pos rfl]
    rfl
  · rw [if_neg e, if_neg (fun z => e z.symm)]
theorem neD {K : PySem.W.Frag} {H : Hp} {p q : Addr} {d e : PyData} {Q : VK} (h1 : dataF 8 H (.ref p) = some d) (h2 : dataF 8 H (.ref q) = some e) (s1 : SeqAt.shaped d = true) (s2 : SeqAt.shaped e = true) (k : Q (.bl (!PyData.eqv d e)) H) : oNe K (.ref p) (.ref q) H Q := by
  simp only [oNe, h1, h2]
  exact ⟨s1, s2, k⟩
theorem eqD {K : PySem.W.Frag} {H : Hp} {p q : Addr} {d e : PyData} {Q : VK} (h1 : dataF 8 H (.ref p) = some d) (h2 : dataF 8 H (.ref q) = some e) (s1 : SeqAt.shaped d = true) (s2 : SeqAt.shaped e = true) (k : Q (.bl (PyData.eqv d e)) H) : oEq K (.ref p) (.ref q) H Q := by
  simp only [oEq, h1, h2]
  exact ⟨s1, s2, k⟩
theorem dataF_lstc {n : Nat} {H : Hp} {a : Addr} {xs : List V} {ds : List PyData} (h : H a = some (.lst xs)) (e : dataL (dataF n H) xs = some ds) : dataF (n + 1) H (.ref a) = some (.list ds) := by
  simp only [dataF, h, e]
  rfl
theorem dataF_tupc {n : Nat} {H : Hp} {a : Addr} {xs : List V} {ds : List PyData} (h : H a = some (.tup xs)) (e : dataL (dataF n H) xs = some ds) : dataF (n + 1) H (.ref a) = some (.tuple ds) := by
  simp only [dataF, h, e]
  rfl
theorem dataL_cons {f : V → Option PyData} {x : V} {xs : List V} {d : PyData} {ds : List PyData} (h : f x = some d) (e : dataL f xs = some ds) : dataL f (x :: xs) = some (d :: ds) := by
  simp only [dataL, h, e]
theorem cReprN_ref {K : PySem.W.Frag} {a : Addr} {H : Hp} {Q : VK} : cReprN K [.ref a] H Q = cRepr K [.ref a] H Q := by
  unfold cReprN
  split
  · rename_i e; cases e
  · rfl
/-- a sign that is not read here -/
def oNo : R2 := fun _ _ _ _ => False
theorem op_no {X : Cx} {f : Value → Value → Sem Value} : OpR X f oNo := fun _ _ _ _ _ _ _ _ _ _ _ _ h => h.elim
end HG

/-! What the top has written of exception classes, in the forms that the rules want. -/
namespace HG
open PySem L2 PyProof.Rows
section
variable {K : PySem.W.Frag} {C R N NR : Addr} {nm q nmR qR : Str} {bs bm bsR bmR : List Value} {hd hdR ab abR : Bool} {sn snR : List Str} {sub subR : List Value} {col colR : Option Bool} {dd ddR : Option Addr} {k0 k1 k2 k3 k5 j0 j1 j2 j3 j5 : Option Value} {ni niR : String}
theorem sup_mk {n : Str} {r : Option Value} (lC : K.lookup C = some (excClassObj nm q C N bs bm hd sn sub ab col dd k0 k1 k2 k3 k5 ni)) (lR : K.lookup R = some (excClassObj nmR qR R NR bsR bmR hdR snR subR abR colR ddR j0 j1 j2 j3 j5 niR)) (e : bm = .ref R :: bmR) (f : PySem.W.findIn K (.ref R) n = some r) : PySem.W.ks_superIn K C C n = some r := by
  have e1 : PySem.W.findIn K (.ref R) n = PySem.W.alongIn K n (.ref R :: bmR) := by
    unfold PySem.W.findIn
    dsimp only
    rw [lR]
  have hc : ∃ cd, PySem.W.clsIn K C = some cd ∧ cd.mro = .ref C :: bm := by
    unfold PySem.W.clsIn
    rw [lC]
    exact ⟨_, rfl, rfl⟩
  obtain ⟨cd, h1, h2⟩ := hc
  unfold PySem.W.ks_superIn
  rw [h1, Option.bind_some, h2, e]
  have e2 : ((Value.ref C :: Value.ref R :: bmR).dropWhile (· != .ref C)).drop 1 = .ref R :: bmR := by
    rw [List.dropWhile_cons]
    simp
  rw [e2, ← e1]
  exact f
/-- two classes of which one is not below the other one -/
theorem kit_xx {D : Addr} (hs : PySem.W.subIn K (.ref C) (.ref C) = some true) (h : PySem.W.subIn K (.ref C) (.ref D) = some false) (hc : PySem.W.isClsIn K D = true) (ht : PySem.W.typeIn K (.ref D) = some (.type "type")) : PySem.W.kitOne K (.ref C) (.ref D) = some false := by
  have ne : C ≠ D := fun z => by rw [← z, hs] at h; cases h
  have hne : (Value.ref C == Value.ref D) = false := Bool.eq_false_iff.mpr fun q => ne (by cases beq_iff_eq.mp q; rfl)
  have hc' : (PySem.W.clsIn K D).isSome = true := hc
  unfold PySem.W.kitOne PySem.W.kitCls
  simp only [hne, hc', ht, h, Bool.false_eq_true, if_false, beq_self_eq_true, Bool.and_self, if_true]
end
end HG

/-! Growths compared: where one first exceeds another one. -/
namespace HG
/-- v is a number that w does not bound -/
def exO : Option Int → Option Int → Bool
  | some a, some b => decide (b < a)
  | some _, none => true
  | none, _ => false
/-- what is told of a rest: the least n, n + p, .. at which f exceeds g -/
def excR (f g : Nat → Option Int) (p n : Nat) : Option Int :=
  match f n, g n with
  | none, _ => none
  | some _, none => some n
  | some a, some b => if b < a then some n else
    match f (n + p), g (n + p) with
    | some a', some b' => if 0 < (a' - a) - (b' - b) then some (n + ((b - a) / ((a' - a) - (b' - b)) + 1) * p) else none
    | _, _ => none
section
variable {f g : Nat → Option Int} {p N : Nat} {c d : Nat → Int}
theorem div_up {x m : Int} {k : Nat} (hx : 0 ≤ x) (hm : 0 < m) : (x < (k : Int) * m ↔ x / m + 1 ≤ k) := by
  rw [← Int.ediv_lt_iff_lt_mul hm]
  omega
theorem excR_spec (F : Per f p N c) (G : Per g p N d) {n : Nat} (hn : N ≤ n) :
    (excR f g p n = none ∧ ∀ k, exO (f (n + k * p)) (g (n + k * p)) = false) ∨
    (∃ j : Nat, excR f g p n = some ((n + j * p : Nat) : Int) ∧ exO (f (n + j * p)) (g (n + j * p)) = true ∧ ∀ k, k < j → exO (f (n + k * p)) (g (n + k * p)) = false) := by
  have fk := fun k => F.sts hn k
  have gk := fun k => G.sts hn k
  cases ef : f n with
  | none =>
    refine .inl ⟨by unfold excR; rw [ef], fun k => ?_⟩
    rw [fk, ef]
    rfl
  | some a =>
    cases eg : g n with
    | none =>
      refine .inr ⟨0, by unfold excR; simp only [ef, eg, Nat.zero_mul, Nat.add_zero], ?_, fun k hk => absurd hk (by omega)⟩
      rw [fk, gk, ef, eg]
      rfl
    | some b =>
      have ex : ∀ k : Nat, exO (f (n + k * p)) (g (n + k * p)) = decide (b + (k : Int) * d n < a + (k : Int) * c n) := fun k => by
        rw [fk, gk, ef, eg]
        rfl
      by_cases hab : b < a
      · refine .inr ⟨0, by unfold excR; simp only [ef, eg, if_pos hab, Nat.zero_mul, Nat.add_zero], ?_, fun k hk => absurd hk (by omega)⟩
        rw [ex]
        simpa using hab
      · have e1 : f (n + p) = some (a + c n) := by rw [F.st n hn, ef]; rfl
        have e2 : g (n + p) = some (b + d n) := by rw [G.st n hn, eg]; rfl
        have em : (a + c n - a) - (b + d n - b) = c n - d n := by omega
        by_cases hm : 0 < c n - d n
        · have hx : 0 ≤ b - a := by omega
          have h0 : 0 ≤ (b - a) / (c n - d n) := Int.ediv_nonneg hx (by omega)
          have key : ∀ k : Nat, (b + (k : Int) * d n < a + (k : Int) * c n ↔ (b - a) / (c n - d n) + 1 ≤ k) := fun k => by
            rw [← div_up hx hm, Int.mul_sub]
            omega
          refine .inr ⟨((b - a) / (c n - d n) + 1).toNat, ?_, ?_, fun k hk => ?_⟩
          · unfold excR
            simp only [ef, eg, if_neg hab, e1, e2, em, if_pos hm]
            rw [Int.natCast_add, Int.natCast_mul, Int.toNat_of_nonneg (by omega)]
          · rw [ex]
            exact decide_eq_true ((key _).mpr (by omega))
          · rw [ex]
            exact decide_eq_false fun z => by
              have := (key _).mp z
              omega
        · refine .inl ⟨by unfold excR; simp only [ef, eg, if_neg hab, e1, e2, em, if_neg hm], fun k => ?_⟩
          rw [ex]
          refine decide_eq_false ?_
          have h1 : (k : Int) * (c n - d n) ≤ 0 := Int.mul_nonpos_of_nonneg_of_nonpos (by omega) (by omega)
          rw [Int.mul_sub] at h1
          omega
/-- o is the first place at which f exceeds g -/
def First (f g : Nat → Option Int) (o : Option Int) : Prop := match o with
  | none => ∀ n, exO (f n) (g n) = false
  | some m => ∃ j : Nat, m = j ∧ exO (f j) (g j) = true ∧ ∀ k, k < j → exO (f k) (g k) = false
theorem First.uniq {o o' : Option Int} (h : First f g o) (k : First f g o') : o = o' := by
  cases o with
  | none =>
    cases o' with
    | none => rfl
    | some m =>
      obtain ⟨j, _, h2, _⟩ := k
      rw [h j] at h2
      cases h2
  | some m =>
    obtain ⟨j, rfl, h2, h3⟩ := h
    cases o' with
    | none => rw [k j] at h2; cases h2
    | some m' =>
      obtain ⟨i, rfl, k2, k3⟩ := k
      rcases Nat.lt_trichotomy i j with z | z | z
      · rw [h3 i z] at k2; cases k2
      · rw [z]
      · rw [k3 j z] at h2; cases h2
theorem first_low {m : Nat} (h : exO (f m) (g m) = true) (hl : ∀ k, k < m → exO (f k) (g k) = false) : First f g (some m) := ⟨m, rfl, h, hl⟩
/-- what the rests of a period tell -/
theorem first_rests (F : Per f p N c) (G : Per g p N d) {O : Nat} (hO : N ≤ O) (hl : ∀ n, n < O → exO (f n) (g n) = false) {o : Option Int}
    (h0 : o = none → ∀ i, i < p → excR f g p (O + i) = none) (h1 : ∀ m, o = some m → (∃ i, i < p ∧ excR f g p (O + i) = some m) ∧ ∀ i, i < p → ∀ x, excR f g p (O + i) = some x → m ≤ x) : First f g o := by
  have hp := F.pos
  have place : ∀ n, O ≤ n → ∃ i k, i < p ∧ n = O + i + k * p := fun n hn => by
    refine ⟨(n - O) % p, (n - O) / p, Nat.mod_lt _ hp, ?_⟩
    have := Nat.div_add_mod (n - O) p
    rw [Nat.mul_comm] at this
    omega
  cases o with
  | none =>
    intro n
    by_cases hn : n < O
    · exact hl n hn
    · obtain ⟨i, k, hi, rfl⟩ := place n (by omega)
      rcases excR_spec F G (n := O + i) (by omega) with ⟨_, z⟩ | ⟨j, z, _⟩
      · exact z k
      · rw [h0 rfl i hi] at z; cases z
  | some m =>
    obtain ⟨⟨i, hi, e⟩, h2⟩ := h1 m rfl
    rcases excR_spec F G (n := O + i) (by omega) with ⟨z, _⟩ | ⟨j, z, z1, z2⟩
    · rw [z] at e; cases e
    · rw [z] at e
      cases e
      refine ⟨_, rfl, z1, fun n hn => ?_⟩
      by_cases hnO : n < O
      · exact hl n hnO
      · obtain ⟨i', k, hi', rfl⟩ := place n (by omega)
        rcases excR_spec F G (n := O + i') (by omega) with ⟨_, y⟩ | ⟨j', y, y1, y2⟩
        · exact y k
        · have := h2 i' hi' _ y
          refine y2 k ?_
          rcases Nat.lt_or_ge k j' with q | q
          · exact q
          · have := Nat.mul_le_mul_right p q
            omega
/-- if f exceeds g at all, it does soon -/
theorem soon (F : Per f p N c) (G : Per g p N d) {O D : Nat} (hO : N ≤ O) (hD : ∀ m, O ≤ m → m < O + p → ∀ a b, f m = some a → g m = some b → b - a ≤ D) {n : Nat} (h : exO (f n) (g n) = true) : ∃ m, m < O + (D + 2) * p ∧ exO (f m) (g m) = true := by
  have hp := F.pos
  by_cases hn : n < O
  · exact ⟨n, by omega, h⟩
  · obtain ⟨i, k, hi, rfl⟩ : ∃ i k, i < p ∧ n = O + i + k * p := by
      refine ⟨(n - O) % p, (n - O) / p, Nat.mod_lt _ hp, ?_⟩
      have := Nat.div_add_mod (n - O) p
      rw [Nat.mul_comm] at this
      omega
    rcases excR_spec F G (n := O + i) (by omega) with ⟨_, z⟩ | ⟨j, z, z1, z2⟩
    · rw [z k] at h; cases h
    · refine ⟨O + i + j * p, ?_, z1⟩
      have hj : j ≤ D + 1 := by
        cases ef : f (O + i) with
        | none => unfold excR at z; rw [ef] at z; cases z
        | some a =>
          cases eg : g (O + i) with
          | none =>
            cases j with
            | zero => omega
            | succ j =>
              have := z2 0 (by omega)
              rw [Nat.zero_mul, Nat.add_zero, ef, eg] at this
              cases this
          | some b =>
            have hd := hD (O + i) (by omega) (by omega) a b ef eg
            have z' := z2 (j - 1)
            rcases Nat.eq_zero_or_pos j with q | q
            · omega
            have z' := z' (by omega)
            have y1 := F.sts (n := O + i) (by omega) (j - 1)
            have y2 := G.sts (n := O + i) (by omega) (j - 1)
            have y3 := F.sts (n := O + i) (by omega) j
            have y4 := G.sts (n := O + i) (by omega) j
            rw [ef] at y1 y3
            rw [eg] at y2 y4
            rw [y1, y2] at z'
            rw [y3, y4] at z1
            have a1 : b + (j : Int) * d (O + i) < a + (j : Int) * c (O + i) := of_decide_eq_true z1
            have a2 : ¬ b + ((j - 1 : Nat) : Int) * d (O + i) < a + ((j - 1 : Nat) : Int) * c (O + i) := of_decide_eq_false z'
            have ej : ((j - 1 : Nat) : Int) = (j : Int) - 1 := by omega
            rw [ej, Int.sub_mul, Int.sub_mul, Int.one_mul, Int.one_mul] at a2
            have hm : 1 ≤ c (O + i) - d (O + i) := by omega
            have a3 : ((j : Int) - 1) * (c (O + i) - d (O + i)) ≤ b - a := by
              rw [Int.sub_mul, Int.mul_sub, Int.one_mul]
              omega
            have a4 : ((j : Int) - 1) * 1 ≤ ((j : Int) - 1) * (c (O + i) - d (O + i)) := Int.mul_le_mul_of_nonneg_left hm (by omega)
            omega
      have := Nat.mul_le_mul_right p hj
      rw [show D + 2 = D + 1 + 1 from rfl, Nat.add_mul (D + 1) 1 p, Nat.one_mul]
      omega
theorem same_of_ex (h : ∀ n, exO (f n) (g n) = false) (k : ∀ n, exO (g n) (f n) = false) : f = g := by
  funext n
  have h := h n
  have k := k n
  cases ef : f n <;> cases eg : g n <;> rw [ef, eg] at h k
  · cases k
  · cases h
  · simp only [exO, decide_eq_false_iff_not] at h k
    exact congrArg some (by omega)
theorem ex_self (n : Nat) : exO (f n) (f n) = false := by
  cases f n with
  | none => rfl
  | some a => exact decide_eq_false (by omega)
end
/-- values of a growth within bounds by the turns -/
theorem gr_within {told : List (Option Int)} {gains : List Int} {f : Nat → Option Int} {lo hi gl gh : Int} (h : Gr told gains f) (hgl : gl ≤ 0) (hgh : 0 ≤ gh) (ht : ∀ o ∈ told, ∀ i, o = some i → lo ≤ i ∧ i ≤ hi) (hg : ∀ x ∈ gains, gl ≤ x ∧ x ≤ gh) :
    ∀ n v, f n = some v → lo + ((n / gains.length : Nat) : Int) * gl ≤ v ∧ v ≤ hi + ((n / gains.length : Nat) : Int) * gh := by
  intro n
  induction n using Nat.strongRecOn with
  | _ n ih =>
    intro v e
    by_cases hn : n < told.length
    · rw [h.lo n hn] at e
      have : told.getD n none ∈ told := by
        rw [List.getD_eq_getElem?_getD, List.getElem?_eq_getElem hn]
        exact List.getElem_mem hn
      have := ht _ this v e
      have h1 : ((n / gains.length : Nat) : Int) * gl ≤ 0 := Int.mul_nonpos_of_nonneg_of_nonpos (Int.natCast_nonneg _) hgl
      have h2 : 0 ≤ ((n / gains.length : Nat) : Int) * gh := Int.mul_nonneg (Int.natCast_nonneg _) hgh
      omega
    · have hp := h.pos
      have hpl := h.le
      rw [h.hi n (by omega)] at e
      obtain ⟨w, e1, e2⟩ := Option.map_eq_some_iff.mp e
      have b1 := ih (n - gains.length) (by omega) w e1
      have hm : n % gains.length < gains.length := Nat.mod_lt _ hp
      have : gains.getD (n % gains.length) 0 ∈ gains := by
        rw [List.getD_eq_getElem?_getD, List.getElem?_eq_getElem hm]
        exact List.getElem_mem hm
      have b2 := hg _ this
      have e3 : n / gains.length = (n - gains.length) / gains.length + 1 := by
        conv => lhs; rw [show n = n - gains.length + gains.length from by omega]
        rw [Nat.add_div_right _ hp]
      rw [e3]
      generalize (n - gains.length) / gains.length = q at b1 ⊢
      rw [Int.natCast_add, Int.natCast_one, Int.add_mul, Int.add_mul, Int.one_mul, Int.one_mul]
      omega
/-- two drawn growths: if one exceeds the other one at all, it does below 4000 -/
theorem soon_drawn {t1 t2 : List (Option Int)} {g1 g2 : List Int} {f g : Nat → Option Int} (F : Gr t1 g1 f) (G : Gr t2 g2 g) (p1 : g1.length ≤ 6) (p2 : g2.length ≤ 6) (l1 : t1.length ≤ g1.length + 3) (l2 : t2.length ≤ g2.length + 3)
    (h : (g1.length = g2.length ∧ (∀ o ∈ t1, ∀ i, o = some i → -50 ≤ i ∧ i ≤ 50) ∧ (∀ o ∈ t2, ∀ i, o = some i → -50 ≤ i ∧ i ≤ 50) ∧ (∀ x ∈ g1, -5 ≤ x ∧ x ≤ 5) ∧ (∀ x ∈ g2, -5 ≤ x ∧ x ≤ 5)) ∨
      ((∀ o ∈ t1, ∀ i, o = some i → -9 ≤ i ∧ i ≤ 30) ∧ (∀ o ∈ t2, ∀ i, o = some i → -9 ≤ i ∧ i ≤ 30) ∧ (∀ x ∈ g1, -3 ≤ x ∧ x ≤ 4) ∧ (∀ x ∈ g2, -3 ≤ x ∧ x ≤ 4)))
    {n : Nat} (hE : exO (f n) (g n) = true) : ∃ m, m < 4000 ∧ exO (f m) (g m) = true := by
  have P1 := gr_per F
  have P2 := gr_per G
  have a1 := F.pos
  have a2 := G.pos
  rcases h with ⟨he, h1, h2, h3, h4⟩ | ⟨h1, h2, h3, h4⟩
  · rw [← he] at P2
    have w1 := gr_within F (by decide : (-5 : Int) ≤ 0) (by decide : (0 : Int) ≤ 5) h1 h3
    have w2 := gr_within G (by decide : (-5 : Int) ≤ 0) (by decide : (0 : Int) ≤ 5) h2 h4
    rw [← he] at w2
    obtain ⟨m, hm, e⟩ := soon (P1.up (M := 9) (by omega)) (P2.up (M := 9) (by omega)) (O := 9) (D := 100 + 10 * ((9 + g1.length) / g1.length)) (Nat.le_refl 9) (fun m m1 m2 a b ea eb => by
      have b1 := w1 m a ea
      have b2 := w2 m b eb
      have : m / g1.length ≤ (9 + g1.length) / g1.length := Nat.div_le_div_right (by omega)
      generalize m / g1.length = q at *
      generalize (9 + g1.length) / g1.length = r at *
      omega) hE
    refine ⟨m, Nat.lt_of_lt_of_le hm ?_, e⟩
    have key : ∀ p, p < 7 → 9 + (100 + 10 * ((9 + p) / p) + 2) * p ≤ 4000 := by decide
    exact key _ (by omega)
  · obtain ⟨c1, Q1⟩ := per_dvd P1 (Nat.dvd_mul_right g1.length g2.length) (Nat.mul_pos a1 a2)
    obtain ⟨c2, Q2⟩ := per_dvd P2 (Nat.dvd_mul_left g2.length g1.length) (Nat.mul_pos a1 a2)
    have w1 := gr_within F (by decide : (-3 : Int) ≤ 0) (by decide : (0 : Int) ≤ 4) h1 h3
    have w2 := gr_within G (by decide : (-3 : Int) ≤ 0) (by decide : (0 : Int) ≤ 4) h2 h4
    obtain ⟨m, hm, e⟩ := soon (Q1.up (M := 9) (by omega)) (Q2.up (M := 9) (by omega)) (O := 9) (D := 39 + 4 * ((9 + g1.length * g2.length) / g2.length) + 3 * ((9 + g1.length * g2.length) / g1.length)) (Nat.le_refl 9) (fun m m1 m2 a b ea eb => by
      have b1 := w1 m a ea
      have b2 := w2 m b eb
      have d1 : m / g1.length ≤ (9 + g1.length * g2.length) / g1.length := Nat.div_le_div_right (by omega)
      have d2 : m / g2.length ≤ (9 + g1.length * g2.length) / g2.length := Nat.div_le_div_right (by omega)
      generalize m / g1.length = q at *
      generalize (9 + g1.length * g2.length) / g1.length = r at *
      generalize m / g2.length = q2 at *
      generalize (9 + g1.length * g2.length) / g2.length = r2 at *
      omega) hE
    refine ⟨m, Nat.lt_of_lt_of_le hm ?_, e⟩
    have key : ∀ p, p < 7 → ∀ q, q < 7 → 9 + (39 + 4 * ((9 + p * q) / q) + 3 * ((9 + p * q) / p) + 2) * (p * q) ≤ 4000 := by decide
    exact key _ (by omega) _ (by omega)
end HG

/-! enumerate(tuple). -/
namespace HG
open PySem L2 PyProof.Rows
open PySem.Builtin in
set_option maxHeartbeats 1000000 in
theorem meets_enum1 {v : Value} {o : Obj} {H : Heap → Prop} (B : Begins v o H) :
    Meets (Builtin.«enumerate.__new__» ⟨[.type "enumerate", v], []⟩) (fun _ R s => H s.heap ∧
      R (.ok (.ret (.ref (s.heap.push o).objs.size))) { s with heap := (s.heap.push o).push { cls := .type "enumerate", data := .fields #[.none, .bool false, .ref s.heap.objs.size, rawInt 0, .none, .none] } }) :=
  .of_wp fun prog w A R s h => by
    obtain ⟨hp, g, d, tk, os⟩ := s; obtain ⟨h1, h⟩ := h
    have hsub := sub_enumerate
    have q1 : ∀ {A' : Around} {E : Value → Shared → Prop} {Q : Value → Shared → Prop}, Q (.ref hp.objs.size) ⟨hp.push o, g, d, tk, os⟩ → wpAny (model prog w) A' (pyIter v) Q E ⟨hp, g, d, tk, os⟩ :=
      fun q => B.iter prog w _ _ ⟨hp, g, d, tk, os⟩ _ h1 q
    wp_walk using q1
    refine wpAny_stack_any fun st => wpAny_pure ?_
    split
    · rename_i c _ _ _ _ _
      cases (c == Value.type "enumerate")
      · wp_walk using q1
        exact ⟨_, rfl, h⟩
      · wp_walk using q1
        exact ⟨_, rfl, h⟩
    · wp_walk using q1
      exact ⟨_, rfl, h⟩
section
variable {prog : Program} {w : World} {A : Around} {E : Value → Shared → Prop} {s : Shared}
/-- enumerate(v): its two new cells -/
theorem enum_begins1 {v : Value} {o : Obj} {H : Heap → Prop} {Q : Value → Shared → Prop} (B : Begins v o H) (h1 : H s.heap)
    (h : ∀ h', IsEnum h' (s.heap.objs.size + 1) s.heap.objs.size 0 .none → h'.get? s.heap.objs.size = some o → h'.objs.size = s.heap.objs.size + 2 →
      (∀ b o, s.heap.get? b = some o → h'.get? b = some o) → Q (.ref (s.heap.objs.size + 1)) { s with heap := h' }) :
    wpAny (model prog w) A (call (.type "enumerate") [v]) Q E s := by
  refine callType_new F.called_enumerate (by decide) (F.typeCall_enumerate_1 _) (F.newCall_enumerate_1 _) (fun obj => F.args_object_init_2 obj _) F.entry_enumerate_new
    (meets_enum1 B) ⟨h1, ?_⟩
  have hz : (s.heap.push o).objs.size = s.heap.objs.size + 1 := Heap.size_push ..
  show _ ∧ _
  rw [hz]
  have he : IsEnum ((s.heap.push o).push { cls := .type "enumerate", data := .fields #[.none, .bool false, .ref s.heap.objs.size, rawInt 0, .none, .none] }) (s.heap.objs.size + 1) s.heap.objs.size 0 .none := by
    have := Heap.get?_push_size (s.heap.push o) (o := { cls := .type "enumerate", data := .fields #[.none, .bool false, .ref s.heap.objs.size, rawInt 0, .none, .none] }) rfl
    rw [hz] at this; exact this
  refine ⟨⟨_, he, rfl⟩, h _ he (Heap.get?_push_of_some _ (Heap.get?_push_size _ B.free)) (by rw [Heap.size_push, hz]) fun b o x => Heap.get?_push_of_some _ (Heap.get?_push_of_some _ x)⟩
end
/-- the tuple at a, each item in a new pair -/
def Iteu (K : PySem.W.Frag) (a : Addr) : It :=
  ⟨fun i H => ∃ (xs : List V) (x : V), SqT K H a xs ∧ xs[i]? = some x, fun i H v H' => ∃ T x, v = .ref T ∧ H T = none ∧ H' = upd H T (.tup [.int (i : Nat), x]) ∧ ∀ xs, SqT K H a xs → xs[i]? = some x, fun i H => ∃ xs : List V, SqT K H a xs ∧ xs.length ≤ i⟩
theorem turn_enumU {P : Program} {w : World} {K : PySem.W.Frag} {elts : List Expr} {kk : Nat} {tpos : Pos} (a e it : Addr) :
    Turn P w K (.Tuple elts kk tpos) (Iteu K a) [e, it] e (fun i h => (∃ old, IsEnum h e it ((i : Nat) : Int) old) ∧ h.IsTupleIter it a i ∧ e ≠ it) where
  mem := by simp
  obj := fun i h st b hb => by
    obtain ⟨⟨old, he⟩, ⟨o, ho, hc, hd⟩, _⟩ := st
    have e' : b = e ∨ b = it := by simpa using hb
    rcases e' with z | z
    · rw [z]; exact ⟨_, he, fun v q => nomatch q⟩
    · rw [z]; exact ⟨o, ho, fun v q => by rw [hd] at q; cases q⟩
  keep := fun i h h' st k => let ⟨⟨old, he⟩, hi, hne⟩ := st; ⟨⟨old, k e (by simp) _ he⟩, hi.at fun o q => k it (by simp) o q, hne⟩
  item := by
    intro X hP hw hK hc i pins s σ H E I hf st hg
    subst hP hw hK
    obtain ⟨⟨old, he⟩, hit, hne⟩ := st
    obtain ⟨xs, x, hq, hx⟩ := hg
    obtain ⟨its, rv, p, hz⟩ := I.tuple hq
    obtain ⟨u, hu, ru⟩ := rv.get hx
    have hel : e < s.heap.objs.size := Heap.lt_size he
    have hil : it < s.heap.objs.size := by obtain ⟨_, q, _⟩ := hit; exact Heap.lt_size q
    have pT : s.heap.IsTuple a its.toArray := p
    have hai : a ≠ it := fun z => by
      obtain ⟨o1, h1, h2, _⟩ := hit
      obtain ⟨o2, h3, h4, _⟩ := pT
      rw [z, h1] at h3
      cases h3
      rw [h2] at h4
      exact absurd (Value.type.inj h4) (by decide)
    have hae : a ≠ e := fun z => by
      obtain ⟨o2, h3, h4, _⟩ := pT
      rw [z, he] at h3
      cases h3
      exact absurd (Value.type.inj h4) (by decide)
    have D := Draws.tuple (prog := X.prog) (w := X.w) (A := X.A.in1) (I.ok.hd hc) it a hai its.toArray
    have hlt : i < its.toArray.size := by
      have := (List.getElem?_eq_some_iff.mp hu).1
      simpa using this
    refine wpAny_pyNext_enum_itemD D he ⟨hit, pT⟩ hlt hne (by simp [hne, Ne.symm hae]) fun x' h' tk hPx ho hst' hT hsz hk => ?_
    have ex : x' = u := by
      have h1 : its.toArray[i]? = some x' := hPx
      have h2 : its.toArray[i]? = some u := by simpa using hu
      rw [h1] at h2
      exact Option.some.inj h2
    subst ex
    refine ⟨_, rfl, wpAny_letOwnedTupleGo_enum (s := { s with heap := h', toks := tk + 1 }) ho fun h'' he' sb => ?_⟩
    have hT2 : h''.get? s.heap.objs.size = some { cls := .type "tuple", data := .seq #[.int i tk, x'] } := (sb.2 _ (Nat.ne_of_gt hel)).trans hT
    have new : ObjOk X.prog X.w (upd H s.heap.objs.size (.tup [.int (i : Nat), x])) h'' s.heap.objs.size (.tup [.int (i : Nat), x]) :=
      ⟨by show 2 ≤ sizeLine; decide, [.int i tk, x'], .cons ⟨_, rfl⟩ (.cons ru .nil), ⟨_, hT2, rfl, _, rfl⟩⟩
    have I1 : Inv X pins σ (upd H s.heap.objs.size (.tup [.int (i : Nat), x])) { s with heap := h'', toks := tk + 1 } :=
      I.turnedNew (ch := [e, it]) (fun b ob hb q => (sb.2 b (fun z => hb (by simp [z]))).trans (hk b ob (fun z => hb (by simp [z])) (fun z => hb (by simp [z])) q)) hf (Nat.le_refl _) new
    refine ⟨.ref s.heap.objs.size, _, I1, rfl, ⟨_, x, rfl, I.hok.fresh (Nat.le_refl _), rfl, fun ys hy => by rw [I.tuple_inj hy hq]; exact hx⟩, ⟨⟨x', ?_⟩, hst'.1.at fun o q => (sb.2 it (Ne.symm hne)).trans q, hne⟩, fun b hb => ?_⟩
    · have e1 : ((i + 1 : Nat) : Int) = (i : Int) + 1 := by omega
      rw [e1]; exact he'
    · have hb' : b < s.heap.objs.size := by
        have e' : b = e ∨ b = it := by simpa using hb
        rcases e' with z | z
        · rw [z]; exact hel
        · rw [z]; exact hil
      rw [upd_ne (Nat.ne_of_lt hb')]
      exact (hf b hb).1
  done := by
    intro X hP hw hK hc i pins s σ H E I hf st hg
    subst hP hw hK
    obtain ⟨⟨old, he⟩, hit, hne⟩ := st
    obtain ⟨xs, hq, hx⟩ := hg
    obtain ⟨its, rv, p, hz⟩ := I.tuple hq
    obtain ⟨f0, f1, f2, f3, f4, f5⟩ := hf it (by simp)
    have hl := rv.length
    have pT : s.heap.IsTuple a its.toArray := p
    -- the iterator is behind the last item
    have hT : s.TypeIs (.ref e) "enumerate" := ⟨_, he, rfl⟩
    unfold pyNext
    refine wpAny_bind (wpAny_attempt (wpAny_callSpecial?_slot (name := Str.ofString "__next__") hT F.slot_enumerate_next
      (wpAny_call_entry F.slot_enumerate_next hT F.entry_enumerate_next ?_ (F.args_enumerate_next_1 _))))
    show wpAny _ _ (field (.ref e) 2 >>= _) _ _ _
    refine wpAny_bind (wpAny_field he rfl (x := .ref it) rfl ?_)
    refine wpAny_bind (wpAny_nextOf_tuple_end (A := X.A.in1) (I.ok.hd hc) hit pT (by simp; omega) fun h' x eb hx' => ?_)
    obtain ⟨o, ho, hcc⟩ := hx'
    refine wpAny_bind (wpAny_isInstance (T := "StopIteration") (b := true) ⟨o, ho, hcc⟩ isSubtype_stop ?_)
    exact wpAny_pure ⟨rfl, I.turned (t' := s.toks) (fun b o hb q => eb b o hb q) f0 f1 f3 f4 f5⟩
  self := fun A i s Q E st h => let ⟨⟨_, he⟩, _⟩ := st; wpAny_pyIter_enum he h
def iEnumU (K : PySem.W.Frag) (ta : TA) : TI := fun σ H R => ta σ H fun vs H1 => ∃ a xs, vs = [.ref a] ∧ SqT K H1 a xs ∧ R (Iteu K a) H1
theorem pi_enumU {X : Cx} {e : Expr} {ta : TA} {p pos tpos : Pos} {elts : List Expr} {kk : Nat} (hg : Gl X "enumerate") (hm : X.mg "enumerate" = none) (ha : PA X [e] ta) (hs : starEach [e] X.env = [(false, eval e X.env)] := by rfl) :
    PI X (.Tuple elts kk tpos) (.Call (.Name "enumerate" p) [e] [] pos) (iEnumU X.K ta) := by
  refine ⟨fun pins s σ H R I h => ?_⟩
  refine Call_ (ld_blt I hg hm boot_enumerate (PyProof.Rows.callWith_type1 (thn (ha.run pos pins s σ H _ I h) fun us s1 ⟨vs, H1, I1, r1, q1⟩ => ?_) hs rfl))
  obtain ⟨a, xs, ex, hq, q⟩ := q1
  subst ex
  cases r1 with
  | cons r rr =>
    cases rr
    cases r
    obtain ⟨its, rv, p', hz⟩ := I1.tuple hq
    have pT : s1.heap.IsTuple a its.toArray := p'
    refine enum_begins1 (begins_tuple a its.toArray) pT fun h' he hit hsz hk => wpAny_pyIter_enum he ?_
    have I2 : Inv X pins σ H1 { s1 with heap := h' } := I1.kept (t' := s1.toks) hk
    refine ⟨s1.heap.objs.size + 1, [s1.heap.objs.size + 1, s1.heap.objs.size], _, _, H1, rfl, I2, turn_enumU a (s1.heap.objs.size + 1) s1.heap.objs.size, ⟨⟨.none, he⟩, ⟨_, hit, rfl, rfl⟩, Nat.succ_ne_self _⟩, fun b hb => ?_, q⟩
    have e' : b = s1.heap.objs.size + 1 ∨ b = s1.heap.objs.size := by simpa using hb
    have hle : s1.heap.objs.size ≤ b := by
      rcases e' with z | z
      · rw [z]; exact Nat.le_add_right _ _
      · rw [z]; exact Nat.le_refl _
    exact I1.fpOk hle (I1.hok.fresh hle)
/-- a comprehension over enumerate(tuple) -/
theorem lc_enumU {K : PySem.W.Frag} {a : Addr} {xs : List V} {i k : Nat} {te : TE} {σ : L2.St} {H1 : Hp} {Q : VK} (ha : H1 a = some (.tup xs)) (f : Nat → V) (hn : xs.length ≤ sizeLine)
    (he : ∀ j, j < xs.length → ∀ H', Grow H1 H' → ∀ R : VK, (∀ H2, Grow H' H2 → R (f j) H2) → te (((wipe σ [i, k]).set i (some (.int (j : Nat)))).set k (some (xs.getD j .non))) H' R)
    (kq : ∀ D H', Grow H1 H' → H1 D = none → H' D = some (.lst ((List.range xs.length).map f)) → Q (.ref D) H')
    (hw : ∀ x y, wipe (((wipe σ [i, k]).set i (some x)).set k (some y)) [i, k] = wipe σ [i, k]) : LcJ (gTup K 2 (gCons (gName i) (gCons (gName k) gNil))) tYes te [i, k] σ Q (Iteu K a) H1 := by
  intro D hD
  have g0 : ∀ {H : Hp} {o : HO}, Grow H1 H → Grow H1 (upd H D o) := fun {H o} g b u e => by
    rw [upd_ne (fun z => by rw [z, hD] at e; cases e)]; exact g b u e
  refine ⟨fun j m H' => j ≤ xs.length ∧ m = xs.length - j ∧ Grow H1 H' ∧ H' D = some (.lst ((List.range j).map f)), ⟨_, Nat.zero_le _, rfl, g0 .refl, upd_same⟩, fun j m H' ⟨hj, hm, g, hd⟩ => ?_⟩
  have sq : SqT K H' a xs := SqT.of (g _ _ ha)
  by_cases e : j = xs.length
  · subst e
    exact .inl ⟨⟨xs, sq, Nat.le_refl _⟩, kq D H' g hD hd⟩
  · have hj' : j < xs.length := by omega
    refine .inr ⟨⟨xs, xs[j], sq, List.getElem?_eq_getElem hj'⟩, fun H'' => Grow H1 H'' ∧ H'' D = some (.lst ((List.range (j + 1)).map f)), fun H'' ⟨g', hd'⟩ => ⟨xs.length - (j + 1), by omega, by omega, rfl, g', hd'⟩, ?_⟩
    rintro x H'' ⟨T, y, rfl, hT, rfl, hy⟩
    have gT := Grow.new (o := .tup [.int (j : Nat), y]) hT
    have ey := hy xs sq
    have ey' : y = xs.getD j .non := by rw [List.getD_eq_getElem?_getD, ey]; rfl
    refine ⟨T, [.int (j : Nat), y], rfl, SqT.of upd_same, rfl, _, _, rfl, _, _, rfl, rfl, hw _ _, ?_⟩
    simp only [tYes, if_true]
    rw [ey']
    refine he j hj' _ (g.trans (by rw [ey'] at gT; exact gT)) _ fun H3 g3 => ?_
    rw [ey'] at gT
    refine ⟨_, g3 _ _ (gT _ _ hd), ?_, g0 ((g.trans gT).trans g3), ?_⟩
    · rw [List.length_map, List.length_range]; omega
    · rw [upd_same, List.range_succ, List.map_append]
      rfl
theorem inNoneT {K : PySem.W.Frag} {H : Hp} {Q : VK} {p : Addr} {os : List (Option Int)} (h : H p = some (.tup (os.map oV))) (k : Q (.bl (os.any (·.isNone))) H) : rIn K false .non (.ref p) H Q := by
  refine ⟨p, _, rfl, .inr (SqT.of h), rfl, ?_, ?_⟩
  · rw [List.all_map]
    exact List.all_eq_true.mpr fun o _ => by cases o <;> rfl
  · have e : inV .non (os.map oV) = os.any (·.isNone) := by
      unfold inV
      rw [List.any_map]
      congr 1
      funext o
      cases o <;> rfl
    show Q (.bl (inV .non (os.map oV))) H
    rw [e]
    exact k
/-- a loop over a range: nothing need stay -/
theorem for_itr {lo : Int} {n : Nat} {H1 : Hp} {g : TG} {tb : TS} {D : Ends} {σ : L2.St} (W : Nat → L2.St → Hp → Prop) (w0 : W 0 σ H1) (fin : ∀ σ H, W n σ H → D.nx σ H)
    (step : ∀ i σ H, i < n → W i σ H → g (.int (lo + (i : Nat))) σ H fun σ2 H2 => tb { D with nx := W (i + 1), ct := W (i + 1), bk := D.nx } σ2 H2) : ForW (Itr lo n) g tb D σ H1 := by
  refine ⟨fun i m σ H => i ≤ n ∧ m = n - i ∧ W i σ H, ⟨n, by omega, by omega, w0⟩, ?_⟩
  rintro i m σ H ⟨hi, hm, w⟩
  by_cases e : i = n
  · subst e
    exact .inl ⟨Nat.le_refl _, fin _ _ w⟩
  · have hl : i < n := by omega
    refine .inr ⟨hl, W (i + 1), fun σ' H' q => ⟨n - (i + 1), by omega, by omega, rfl, q⟩, fun x H' y => ?_⟩
    obtain ⟨rfl, rfl⟩ := y
    exact step i σ H' hl w
end HG

/-! range(i, j) over whole numbers of any size. -/
namespace HG
open PySem L2 PyProof.Rows
theorem turn_long {P : Program} {w : World} {K : PySem.W.Frag} {tg : Expr} (it : Addr) (lo : Int) (n : Nat) : Turn P w K tg (Itr lo n) [it] it (fun i h => IsLongIter h it (lo + (i : Nat) * 1) ((n : Int) - (i : Nat)) 1) where
  mem := by simp
  obj := fun i h st b hb => by
    have e : b = it := by simpa using hb
    subst e
    exact ⟨_, st, fun v z => by
      have z' : Data.fields _ = Data.cell v := z
      cases z'⟩
  keep := fun i h h' st k => k it (by simp) _ st
  item := by
    intro X hP hw hK hc i pins s σ H E I hf st hg
    subst hP hw hK
    obtain ⟨f0, f1, f2, f3, f4, f5⟩ := hf it (by simp)
    have W := Walks.longrange (prog := X.prog) (w := X.w) (I.ok.hd hc) it lo 1 n
    refine W.item i s _ _ hg st fun v h' tk hv st' kk => ?_
    obtain ⟨t, rfl⟩ := hv
    have I1 : Inv X pins σ H { s with heap := h', toks := tk } := I.turned (fun b o hb e => kk b o (by simpa using hb) e) f0 f1 f3 f4 f5
    refine ⟨_, rfl, go_of (s := { s with heap := h', toks := tk }) (n := "longrange_iterator") st' rfl rfl (by decide) ⟨.int (lo + i), H, I1, ⟨t, ?_⟩, ⟨rfl, rfl⟩, st', fun b hb => (hf b hb).1⟩⟩
    rw [Int.mul_one]
  done := by
    intro X hP hw hK hc i pins s σ H E I hf st hg
    subst hP hw hK
    obtain ⟨f0, f1, f2, f3, f4, f5⟩ := hf it (by simp)
    exact wpAny_pyNext_long_end (I.ok.hd hc) st (by have : n ≤ i := hg; omega) fun h' eb => ⟨rfl, I.turned (t' := s.toks) (fun b o hb e => eb b o hb e) f0 f1 f3 f4 f5⟩
  self := fun _ _ _ _ _ st h => wpAny_pyIter_longiter st h
theorem range_itW {X : Cx} {tg : Expr} {pins : List (Addr × Obj)} {σ : L2.St} {H : Hp} {s : Shared} {R : It → Hp → Prop} {E : Value → Shared → Prop} {lo hi : Int} {t u v : Tok} {tk : Nat} (I : Inv X pins σ H s) (q : R (Itr lo (hi - lo).toNat) H) :
    wpAny (model X.prog X.w) X.A (pyIter (.ref s.heap.objs.size)) (PIE X pins σ tg R) E { s with heap := s.heap.push { cls := .type "range", data := .fields #[.int lo t, .int hi u, .int 1 v] }, toks := tk } := by
  have I1 : Inv X pins σ H { s with heap := s.heap.push { cls := .type "range", data := .fields #[.int lo t, .int hi u, .int 1 v] }, toks := tk } := I.kept fun b o e => Heap.get?_push_of_some _ e
  have e1 : lo + ((0 : Nat) : Int) * 1 = lo := by simp
  have e2 : (((hi - lo).toNat : Nat) : Int) - ((0 : Nat) : Int) = Builtin.Range.rangeSize lo hi 1 := by rw [rangeSize_one]; split <;> omega
  cases hs : Builtin.Range.small lo hi 1 with
  | true =>
    refine wpAny_pyIter_range (IsRange.new ..) hs ?_
    refine ⟨(s.heap.push { cls := .type "range", data := .fields #[.int lo t, .int hi u, .int 1 v] }).objs.size, [(s.heap.push { cls := .type "range", data := .fields #[.int lo t, .int hi u, .int 1 v] }).objs.size], _, _, H, rfl,
      I1.kept (t' := tk) fun b o e => Heap.get?_push_of_some _ e, turn_range _ lo (hi - lo).toNat, ?_, fun b hb => ?_, q⟩
    · show IsRangeIter _ _ (lo + ((0 : Nat) : Int) * 1) ((((hi - lo).toNat : Nat) : Int) - ((0 : Nat) : Int)) 1
      rw [e1, e2]
      exact Heap.get?_push_size _ rfl
    · have e : b = (s.heap.push { cls := .type "range", data := .fields #[.int lo t, .int hi u, .int 1 v] }).objs.size := by simpa using hb
      subst e
      exact I1.fpOk (Nat.le_refl _) (I1.hok.fresh (Nat.le_refl _))
  | false =>
    refine wpAny_pyIter_longrange (IsRange.new ..) hs ?_
    refine ⟨(s.heap.push { cls := .type "range", data := .fields #[.int lo t, .int hi u, .int 1 v] }).objs.size, [(s.heap.push { cls := .type "range", data := .fields #[.int lo t, .int hi u, .int 1 v] }).objs.size], _, _, H, rfl,
      I1.kept (t' := tk) fun b o e => Heap.get?_push_of_some _ e, turn_long _ lo (hi - lo).toNat, ?_, fun b hb => ?_, q⟩
    · show IsLongIter _ _ (lo + ((0 : Nat) : Int) * 1) ((((hi - lo).toNat : Nat) : Int) - ((0 : Nat) : Int)) 1
      rw [e1, e2]
      exact Heap.get?_push_size _ rfl
    · have e : b = (s.heap.push { cls := .type "range", data := .fields #[.int lo t, .int hi u, .int 1 v] }).objs.size := by simpa using hb
      subst e
      exact I1.fpOk (Nat.le_refl _) (I1.hok.fresh (Nat.le_refl _))
def iRng2W (ta : TA) : TI := fun σ H R => ta σ H fun vs H1 => ∃ i j : Int, vs = [.int i, .int j] ∧ R (Itr i (j - i).toNat) H1
theorem pi_range2W {X : Cx} {tg a b : Expr} {ta : TA} {p pos : Pos} (hg : Gl X "range") (hm : X.mg "range" = none) (ha : PA X [a, b] ta) (hs : starEach [a, b] X.env = [(false, eval a X.env), (false, eval b X.env)] := by rfl) (hs2 : starEach [b] X.env = [(false, eval b X.env)] := by rfl) :
    PI X tg (.Call (.Name "range" p) [a, b] [] pos) (iRng2W ta) := by
  refine ⟨fun pins s σ H R I h => ?_⟩
  refine Call_ (ld_blt I hg hm boot_range (PyProof.Rows.callWith_type1 (thn (ha.run pos pins s σ H _ I h) fun us s1 ⟨vs, H1, I1, r1, q1⟩ => ?_) (by rw [hs, hs2]) (by rw [hs2]; rfl)))
  obtain ⟨i, j, e, q⟩ := q1
  subst e
  cases r1 with
  | cons r rr =>
    cases rr with
    | cons r' rr =>
      cases rr
      obtain ⟨t, rfl⟩ := r
      obtain ⟨t', rfl⟩ := r'
      exact call_range_2 (range_itW I1 q)
end HG

/-! Dicts whose keys are tuples of texts. -/
namespace HG
open PySem L2 PySem.Spec PyProof.Rows
/-- a comprehension puts a pair into the dict at D -/
theorem put_tup {X : Cx} {pins : List (Addr × Obj)} {σ : L2.St} {H : Hp} {s : Shared} {E : Value → Shared → Prop} {D b : Addr} {kvs : List (List Key × V)} {k : List Key} {v : V} {u r : Value} {Q : Unit → Shared → Prop} (hu : X.A.units + 1 < cLine) (I : Inv X pins σ H s)
    (hD : H D = some (.dT kvs)) (hb : H b = some (.tup (k.map kV))) (hz : kvs.length < sizeLine) (ru : RelV (.ref b) u) (rv : RelV v r) (h : ∀ s', Inv X pins σ (upd H D (.dT (putK kvs k v))) s' → Q () s') : wpAny (model X.prog X.w) X.A (dictSet D u r) Q E s := by
  cases (show u = Value.ref b from ru)
  obtain ⟨z, hd, xs, rel, dd⟩ := dt_of I.hok hD
  have hx : xs.length ≤ sizeLine := by rw [← Paired.length rel]; exact z
  have hl : (putK kvs k v).length ≤ sizeLine := by have := length_putK kvs k v; omega
  have room : (tupleKind (mixKind X.prog X.w)).room X.A := by
    first
      | exact tupleKind_room hu
      | (show X.A.units + 1 < cLine; exact hu)
      | (show X.A.in1.units < cLine; exact hu)
      | (show X.A.units < cLine; omega)
  refine wpAny_dictSet_heap (hsz := hx) room (key_of I.hok hb) dd fun h' dd' sb => h _ ?_
  obtain ⟨q, es, ep, hq, h2, h3, h4, _, h5⟩ := dd'
  refine d_write I (by rw [hD]; exact True.intro) sb ⟨q, hq⟩ ⟨hl, hd, _, (rel.put k hb rv).keeps fun c ys ec => ?_, q, es, ep, hq, h2, h3, h4, h5⟩
  rw [upd_ne (ne_of ec hD (fun z => nomatch z))]
  exact ec
/-- a comprehension's dict with tuple keys: D the new dict, W what holds at turn i with m turns to come at most -/
def tDcT (wi : TI) (g : TG) (tt : TT) (tk tv : TE) (vs : List Nat) : TE := fun σ H Q => wi σ H fun J H1 => ∀ D, H1 D = none → ∃ W : Nat → Nat → Hp → Prop, (∃ m, W 0 m (upd H1 D (.dT []))) ∧ ∀ i m H, W i m H →
  (J.stop i H ∧ Q (.ref D) H) ∨ (J.go i H ∧ ∃ Nx : Hp → Prop, (∀ H', Nx H' → ∃ m', m' < m ∧ W (i + 1) m' H') ∧ ∀ x H', J.yld i H x H' → g x (wipe σ vs) H' fun σ2 H2 => wipe σ2 vs = wipe σ vs ∧ tt σ2 H2 fun b H3 =>
    if b = true then tk σ2 H3 fun y H4 => tv σ2 H4 fun z H5 => ∃ kvs k b, y = .ref b ∧ H5 b = some (.tup (k.map kV)) ∧ H5 D = some (.dT kvs) ∧ kvs.length < sizeLine ∧ Nx (upd H5 D (.dT (putK kvs k z))) else Nx H3)
section
variable {X : Cx}
theorem pe_dcT {kx vx tg iter : Expr} {ifs : List Expr} {scope : Scope} {own : List (Str × Nat)} {pos : Pos} {wi : TI} {g : TG} {tt : TT} {tk tv : TE} (hu : X.A.units + 1 < cLine) (hc : X.calm = true) (hN : X.N.Nodup) (hi : PI X tg iter wi) (ok : BlkOk X.N X.env.scope scope own)
    (hg : ∀ (s : Shared) (H : Hp) (C : Addr) (cl : List (Str × Addr)) (fp : List Addr), PG (X.blk s H scope (compEnvC scope cl C X.env) fp) tg g) (ht : ∀ (s : Shared) (H : Hp) (C : Addr) (cl : List (Str × Addr)) (fp : List Addr), PTs (X.blk s H scope (compEnvC scope cl C X.env) fp) ifs tt)
    (hk : ∀ (s : Shared) (H : Hp) (C : Addr) (cl : List (Str × Addr)) (fp : List Addr), PE (X.blk s H scope (compEnvC scope cl C X.env) fp) kx tk)
    (he : ∀ (s : Shared) (H : Hp) (C : Addr) (cl : List (Str × Addr)) (fp : List Addr), PE (X.blk s H scope (compEnvC scope cl C X.env) fp) vx tv) (hs : ∀ x, foldedSetIterable iter X.env x = pure x := by intro _; rfl) :
    PE X (.DictComp kx vx [⟨tg, iter, ifs, 0⟩] scope pos) (tDcT wi g tt tk tv (own.map (·.2))) := by
  refine ⟨fun pins s σ H Q I h => ?_⟩
  rw [arm_eval_DictComp]
  have free : ∀ y ∈ scope.names, y.2 = .free → ∃ c, X.env.cells.lookup y.1 = some c := fun y hy e => by
    rcases ok.free y hy e with z | z
    · exact I.ok.has _ (.inl z)
    · exact I.ok.has _ (.inr z)
  refine wpAny_comprehension_free (use := none) rfl hs (closure_ok free) ok.kind (fun y hy e => by rw [ok.uniq y hy, e])
    (thn (hi.run pins s σ H _ I h) fun _ _ hx => thn hx fun _ s2 h2 => ?_)
  obtain ⟨it, fp, tn, J, H2, e, I2, T, st2, f2, q⟩ := h2
  subst e
  refine wpAny_newObj_type (newEnv_comp ?_)
  generalize hD : s2.heap.objs.size = D
  have nD : H2 D = none := I2.hok.fresh (Nat.le_of_eq hD)
  obtain ⟨W, ⟨m0, w0⟩, turn⟩ := q D nD
  generalize hs3 : ({ s2 with heap := s2.heap.push { cls := .type "dict", data := .dict #[] } } : Shared) = s3
  have h3 : s3.heap = s2.heap.push { cls := .type "dict", data := .dict #[] } := by rw [← hs3]
  have I3 : Inv X pins σ (upd H2 D (.dT [])) s3 := by
    rw [← hs3]
    refine I2.laid (t' := s2.toks) (fun b o e => Heap.get?_push_of_some _ e) (Nat.le_of_eq hD) ?_
    rw [← hD]
    exact dt_empty s2.heap I2.big
  have f3 : ∀ b ∈ fp, FpOk X pins (upd H2 D (.dT [])) b ∧ b < s3.heap.objs.size := fun b hb => by
    obtain ⟨o, e, _⟩ := T.obj _ _ st2 b hb
    have lt := Heap.lt_size e
    exact ⟨⟨by rw [upd_ne (by rw [← hD]; exact Nat.ne_of_lt lt)]; exact (f2 b hb).1, (f2 b hb).2⟩, by rw [h3, Heap.size_push]; exact Nat.lt_succ_of_lt lt⟩
  have st3 : tn 0 s3.heap := T.keep _ _ _ st2 fun b _ o e => by rw [h3]; exact Heap.get?_push_of_some _ e
  have I4 := block_start I3 ok hN f3
  have pg := hg s3 (upd H2 D (.dT [])) s3.heap.objs.size (cellsFrom (s3.heap.objs.size + 1) scope.names (cloFrom X.env.cells scope.names [])) fp
  have pt := ht s3 (upd H2 D (.dT [])) s3.heap.objs.size (cellsFrom (s3.heap.objs.size + 1) scope.names (cloFrom X.env.cells scope.names [])) fp
  have pk := hk s3 (upd H2 D (.dT [])) s3.heap.objs.size (cellsFrom (s3.heap.objs.size + 1) scope.names (cloFrom X.env.cells scope.names [])) fp
  have pe := he s3 (upd H2 D (.dT [])) s3.heap.objs.size (cellsFrom (s3.heap.objs.size + 1) scope.names (cloFrom X.env.cells scope.names [])) fp
  show codeAny _ _ (.compStart (.DictComp kx vx [⟨tg, iter, ifs, 0⟩] scope pos) 0 (.ref it) (.ref D) (compEnvC scope (cellsFrom (s3.heap.objs.size + 1) scope.names (cloFrom X.env.cells scope.names [])) s3.heap.objs.size X.env)) _ { s3 with heap := pushCells (s3.heap.push { cls := .type "dict", data := .dict #[] }) scope.names }
  have noF : ∀ b ∈ fp, (upd H2 D (.dT [])) b = none := fun b hb => (f3 b hb).1.1
  generalize hce : compEnvC scope (cellsFrom (s3.heap.objs.size + 1) scope.names (cloFrom X.env.cells scope.names [])) s3.heap.objs.size X.env = ce at I4 pg pt pk pe ⊢
  have cL : ce.locals = s3.heap.objs.size := by subst hce; rfl
  generalize hH3 : upd H2 D (.dT []) = H3 at I3 I4 pg pt pk pe w0 noF f3
  generalize hs4 : ({ s3 with heap := pushCells (s3.heap.push { cls := .type "dict", data := .dict #[] }) scope.names } : Shared) = s4 at I4 ⊢
  have st4 : tn 0 s4.heap := T.keep _ _ _ st3 fun b _ o e => by rw [← hs4]; exact pushCells_keeps _ _ _ _ (Heap.get?_push_of_some _ e)
  have still : ∀ {σ' : L2.St} {H' : Hp} {s' : Shared}, Inv (X.blk s3 H3 scope ce fp) [] σ' H' s' → (∀ b ∈ fp, H' b = none) → ∀ b ∈ fp, FpOk (X.blk s3 H3 scope ce fp) [] H' b := fun {σ' H' s'} I' hn b hb =>
    ⟨hn b hb, (I'.ok.exf b hb).1, I'.ok.exfs b hb, .inl hb, fun x c e => (I'.ok.exf b hb).2 x c e, fun p hp => absurd (show p ∈ ([] : List (Addr × Obj)) ++ [] from hp) (by simp)⟩
  suffices loop : codeAny (model X.prog X.w) X.A (.compLoop (.DictComp kx vx [⟨tg, iter, ifs, 0⟩] scope pos) 0 (.ref it) (.ref D) ce) _ s4 from codeAny_compStart_dict loop (T.self X.A 0 _ _ _ st4 loop)
  refine compLoop_anyD (fun n s' => ∃ i H', Inv (X.blk s3 H3 scope ce fp) [] (wipe σ (own.map (·.2))) H' s' ∧ tn i s'.heap ∧ (∀ b ∈ fp, H' b = none) ∧ W i n H') ?_ m0 ⟨0, H3, I4, st4, noF, w0⟩
  rintro n s5 ⟨i, H5, I5, st5, n5, w5⟩
  rcases turn i n H5 w5 with ⟨stop, qq⟩ | ⟨go, Nx, hNx, step⟩
  · refine thnF (T.done (X.blk s3 H3 scope ce fp) rfl rfl rfl hc i [] s5 _ H5 (fun _ _ => False) I5 (still I5 n5) st5 stop) fun r s6 ⟨hr, I6⟩ => ?_
    subst hr
    have I7 : Inv X pins σ H5 s6 := I3.call' (ch := fp) I6.os I6.base I6.hok I6.bare fun b hb => ⟨(f3 b hb).1.2.2.2.1, (f3 b hb).1.2.1, (f3 b hb).1.2.2.2.2.1, (f3 b hb).1.2.2.2.2.2⟩
    have nC : H5 s3.heap.objs.size = none := by
      have z : H5 ce.locals = none := I6.free
      rw [cL] at z
      exact z
    obtain ⟨m, hn, _⟩ := I6.loc
    have hn : s6.heap.Ns ce.locals m := hn
    rw [cL] at hn
    obtain ⟨x0, x1, x2, x3, x4, x5⟩ := I3.fpOk (Nat.le_refl _) nC
    exact ⟨m, hn, fun h'' sb => ⟨.ref D, H5, I7.turned (t' := s6.toks) (fun b o hb e => (sb.2 b hb).trans e) x0 x1 x3 x4 x5, rfl, qq⟩⟩
  · refine thnF (T.item (X.blk s3 H3 scope ce fp) rfl rfl rfl hc i [] s5 _ H5 (fun _ _ => False) I5 (still I5 n5) st5 go) fun r s6 ⟨u, hr, h6⟩ => ?_
    subst hr
    refine thnF h6 fun _ s7 ⟨x, H7, I7, r7, y7, st7, n7⟩ => ?_
    refine thnF (pg.run _ s7 _ H7 x u _ (I7.pinned (still I7 n7) (T.obj _ _ st7)) r7 (step x H7 y7)) fun _ s8 ⟨σ8, H8, I8, hw8, q8⟩ => ?_
    refine thnF (pt.run _ s8 σ8 H8 _ I8 q8) fun b s9 ⟨H9, I9, q9⟩ => ?_
    have fin : ∀ {s' : Shared} {H' : Hp}, Inv (X.blk s3 H3 scope ce fp) ([] ++ pinsAt fp s7.heap) σ8 H' s' → Nx H' → ∃ m, m < n ∧ ∃ i H', Inv (X.blk s3 H3 scope ce fp) [] (wipe σ (own.map (·.2))) H' s' ∧ tn i s'.heap ∧ (∀ b ∈ fp, H' b = none) ∧ W i m H' := fun {s' H'} I' nx => by
      obtain ⟨m', hm, w'⟩ := hNx H' nx
      have pin : ∀ b ∈ fp, ∀ o, s7.heap.get? b = some o → s'.heap.get? b = some o ∧ H' b = none := fun b hb o e =>
        let z := I'.pin (b, o) (List.mem_append_right _ (List.mem_append_right _ (mem_pinsAt hb e)))
        ⟨z.1, z.2.1⟩
      refine ⟨m', hm, i + 1, H', (I'.unpinned (pins := [])).weak ?_ (fun j v e => ?_), T.keep _ _ _ st7 fun b hb o e => (pin b hb o e).1, fun b hb => ?_, w'⟩
      · rw [← hw8, wipe_length]
      · rw [← hw8] at e
        exact (wipe_some e).1
      · obtain ⟨o, e, _⟩ := T.obj _ _ st7 b hb
        exact (pin b hb o e).2
    cases b with
    | false =>
      simp only [Bool.false_eq_true, if_false] at q9 ⊢
      exact fin I9 q9
    | true =>
      simp only [if_true] at q9 ⊢
      refine thnF (pk.run _ s9 σ8 H9 _ I9 q9) fun z s10 ⟨yk, H10, I10, r10, q10⟩ => ?_
      refine thnF (pe.run _ s10 σ8 H10 _ I10 q10) fun z2 s11 ⟨yv, H11, I11, r11, kvs, k, b, ek, hb11, hD11, hz11, nx⟩ => ?_
      subst ek
      exact put_tup (X := X.blk s3 H3 scope ce fp) hu I11 hD11 hb11 hz11 r10 r11 fun s12 I12 => fin I12 nx
end
end HG

/-! A dict among starred arguments. -/
namespace HG
open PySem L2 PySem.Spec PyProof.Rows
section
variable {X : Cx} {pins : List (Addr × Obj)} {σ : L2.St} {H : Hp} {s : Shared}
theorem key_vals : ∀ {ks : List Key} {us : List Value}, us.length = ks.length → (∀ (j : Nat) (v : Value), us[j]? = some v → ∃ k, ks[j]? = some k ∧ keyIs k v = true) → Vals (ks.map kV) us
  | [], [], _, _ => .nil
  | k :: ks, u :: us, hl, h => by
    obtain ⟨k', e, hk⟩ := h 0 u rfl
    cases e
    exact .cons (relV_key hk) (key_vals (Nat.succ.inj hl) fun j v e => h (j + 1) v e)
/-- the keys of a dict, spread -/
theorem star_dK {a : Addr} {kvs : List (Key × V)} {E : Value → Shared → Prop} {Q : List Value → Shared → Prop} (hc : X.calm = true) (I : Inv X pins σ H s) (h : Rd H a (.dK kvs)) (hQ : ∀ us s', Inv X pins σ H s' → Vals (kvs.map fun p => kV p.1) us → Q us s') : PySem.W.StarOf (model X.prog X.w) X.A E (.ref a) Q s := by
  obtain ⟨z, lo, vs, rel, dd⟩ := dk_rd I.hok h
  obtain ⟨ep, hat⟩ := dd.dictAt
  have hk : kvs.map (·.1) = vs.map (·.1) := rel.keys
  have hl : kvs.length = vs.length := by
    have e := congrArg List.length hk
    rw [List.length_map, List.length_map] at e
    exact e
  unfold PySem.W.StarOf notIterableAtAll
  refine wpAny_bind (wpAny_specialOf dd.typeIs PySem.F.slot_dict_iter.lookup (wpAny_pure ⟨rfl, ?_⟩))
  refine PySem.W.kdu_collect (PySem.W.kdl_dict (knd := mixKind X.prog X.w) (kvs := vs) (ep := ep) lo) (I.ok.hd hc) hat (by omega) fun h' tk acc kp hacc => ?_
  refine hQ acc.toList _ (I.kept kp) ?_
  rw [show (kvs.map fun p => kV p.1) = (kvs.map (·.1)).map kV from by rw [List.map_map]; rfl]
  refine key_vals (by rw [Array.length_toList, hacc.1, List.length_map, hl]) fun j v e => ?_
  obtain ⟨k, x, e1, e2⟩ := hacc.2 j v (by rw [← Array.getElem?_toList]; exact e)
  refine ⟨k, ?_, e2⟩
  rw [hk, List.getElem?_map, e1]
  rfl
end
/-- *d in an argument list, d a dict: its keys -/
def tStarK (te : TE) (t : TA) : TA := fun σ H Q => te σ H fun x H1 => ∃ p kvs, x = V.ref p ∧ Rd H1 p (.dK kvs) ∧ t σ H1 fun ys H2 => Q ((kvs.map fun p => kV p.1) ++ ys) H2
section
variable {X : Cx} {e : Expr} {es : List Expr} {te : TE} {t : TA} {p : Pos}
theorem pa_starK (hc : X.calm = true) (he : PE X e te) (hr : PA X es t) (hs : starEach (.Starred e p :: es) X.env = (true, eval e X.env) :: starEach es X.env := by rfl) : PA X (.Starred e p :: es) (tStarK te t) := by
  refine ⟨fun pos pins s σ H Q I h => ?_⟩
  refine PySem.W.items_star (thn (he.run pins s σ H _ I h) fun v s1 ⟨y, H1, I1, ry, a, kvs, ey, hx, q⟩ => ?_) hs
  subst ey
  obtain rfl : v = Value.ref a := ry
  refine star_dK hc I1 hx fun us s2 I2 rv => ?_
  exact thn (hr.run pos pins s2 σ H1 _ I2 q) fun ws s3 ⟨vs, H3, I3, r3, q3⟩ => ⟨_ ++ vs, H3, I3, rv.append r3, q3⟩
end
/-- k in d, d[k], d a dict -/
def oInM : R2 := fun y x H Q => ∃ a o, x = .ref a ∧ DGet H a y o ∧ Q (.bl o.isSome) H
def oNotInM : R2 := fun y x H Q => ∃ a o, x = .ref a ∧ DGet H a y o ∧ Q (.bl (!o.isSome)) H
theorem op_inM {X : Cx} (hu : X.A.units + 1 < cLine) : OpR X (compareOp .In) oInM := by
  intro pins s σ H x y v u Q I rx ry h
  obtain ⟨a, o, rfl, g, q⟩ := h
  obtain rfl : u = Value.ref a := ry
  exact d_in hu I g rx fun s' I' => ⟨.bl _, H, I', rfl, q⟩
theorem op_notInM {X : Cx} (hu : X.A.units + 1 < cLine) : OpR X (compareOp .NotIn) oNotInM := by
  intro pins s σ H x y v u Q I rx ry h
  obtain ⟨a, o, rfl, g, q⟩ := h
  obtain rfl : u = Value.ref a := ry
  exact d_notIn hu I g rx fun s' I' => ⟨.bl _, H, I', rfl, q⟩
end HG

/-! Class attributes; instances called; walks of locked dicts. -/
namespace HG
open PySem L2 PyProof.Rows
/-- a number that stands in a class -/
structure CInt (K : PySem.W.Frag) (C : Addr) (m : Str) (i : Int) : Prop where
  rd : ∃ mc t, PySem.W.readsIn K C mc = true ∧ PySem.W.findCls K (.ref C) mc m = some (.val (.int i t))
def tCInt (C : Addr) (i : Int) (ta : TE) : TE := fun σ H Q => ta σ H fun x H1 => x = .ref C ∧ Q (.int i) H1
theorem pe_cint {X : Cx} {C : Addr} {m : Str} {i : Int} {e : Expr} {pos : Pos} {ta : TE} (he : PE X e ta) (M : CInt X.K C m i) (hb : attributeBase e m X.env (eval e X.env) = eval e X.env := by rfl) : PE X (.Attribute e m pos) (tCInt C i ta) := by
  refine ⟨fun pins s σ H Q I h => ?_⟩
  obtain ⟨mc, t, hr, hf⟩ := M.rd
  refine attr_of hb (thn (he.run pins s σ H _ I h) fun u s1 ⟨x, H1, I1, rx, ex, q⟩ => ?_)
  subst ex
  obtain rfl : u = Value.ref C := rx
  exact PySem.W.cls_value I1.kIn hr hf rfl ⟨.int i, H1, I1.tok _, ⟨t, rfl⟩, q⟩
/-- f(e, ..), f an expression that gives an instance of C -/
def tCallI (C : Addr) (sp : Sp) (E : XK) (tf : TE) (t : TA) : TE := fun σ H Q => tf σ H fun y H1 => ∃ a, y = V.ref a ∧ t σ H1 fun vs H2 => (∃ dx fs, H2 a = some (.ins C dx fs)) ∧ sp (V.ref a :: vs) H2 Q E
section
variable {X : Cx} {CX : CXT} {k : Nat} {g C : Addr} {fd : FuncData} {ps : List Str} {sp : Sp} {E : XK} {e fe : Expr} {es : List Expr} {tf : TE} {t : TA} {pos : Pos}
theorem pe_callI (hf : PE X fe tf) (c : StX.CallO X.K C g) (F : FnG X.prog X.w X.K X.mg X.base CX k g fd ps sp) (hr : Room k X.A) (hG : GA X.A) (hb : Binds X.K fd ps []) (hx : Passes CX X E) (ha : PA X (e :: es) t)
    (ht : eval (.Call fe (e :: es) [] pos) X.env = (do callWith pos (← eval fe X.env) [] (backTo pos (starEach (e :: es) X.env)) (backToKw pos (keywordEach [] X.env))) := by rfl)
    (he : starEach (e :: es) X.env = (false, eval e X.env) :: starEach es X.env := by rfl) (hpl : (backTo pos (starEach es X.env)).any (·.1) = false := by rfl) : PE X (.Call fe (e :: es) [] pos) (tCallI C sp E tf t) := by
  refine ⟨fun pins s σ H Q I h => ?_⟩
  refine Call_ (thn (hf.run pins s σ H _ I h) fun u s1 ⟨y, H1, I1, ry, a, ey, q⟩ => ?_) ht
  subst ey
  obtain rfl : u = Value.ref a := ry
  refine StX.callO_with (thn (ha.run pos pins s1 σ H1 _ I1 q) fun us s2 ⟨vs, H2, I2, r, hi, q2⟩ => ?_) he hpl
  obtain ⟨ox, od, J, hd⟩ := StX.insC_at I2 (.inr hi)
  refine ⟨⟨C, ox, od, J, hd⟩, wpAny_call (PySem.W.kco_code I2.kIn J hd c.at_ c.fn c.fi ?_)⟩
  have r2 : Vals (V.ref a :: vs) (Value.ref a :: us) := .cons rfl r
  have hl : (Value.ref a :: us ++ []).length = ps.length := by rw [List.append_nil]; exact r2.length.symm.trans (F.len _ _ _ _ q2)
  have r3 : Vals (V.ref a :: vs) (Value.ref a :: us ++ []) := by rw [List.append_nil]; exact r2
  exact codeAny_mono (F.run X.A X.stack s2 H2 ⟨.ref a :: us, []⟩ (.ref a :: us ++ []) (V.ref a :: vs) Q E hr hG I2.env0 (hb s2 (.ref a :: us) I2.kIn hl) r3 q2) fun r s' hq => behind hx I2 hq
end
/-! ### walks of locked dicts -/
/-- the iterator hands out at turn j what P j tells -/
structure JOkR (J : It) (H1 : Hp) (n : Nat) (P : Nat → V → Hp → Prop) : Prop where
  go : ∀ H, Grow H1 H → ∀ j, j < n → J.go j H
  yld : ∀ H, Grow H1 H → ∀ j, j < n → ∀ x H', J.yld j H x H' → H' = H ∧ P j x H
  stop : ∀ H, Grow H1 H → J.stop n H
  on : ∀ j x H H', P j x H → Grow H H' → P j x H'
theorem jok_keysT {H1 : Hp} {d : Addr} {od : Obj} {kvs : List (List Key × V)} (h : H1 d = some (.frz od (.dT kvs))) : JOkR (Itkt d od kvs) H1 kvs.length (fun j x H => ∃ k v q, kvs[j]? = some (k, v) ∧ x = .ref q ∧ H q = some (.tup (k.map kV))) :=
  ⟨fun H g j hj => ⟨g _ _ h, hj⟩, fun H g j hj x H' y => y, fun H g => ⟨g _ _ h, Nat.le_refl _⟩, fun j x H H' ⟨k, v, q, e1, e2, e3⟩ g => ⟨k, v, q, e1, e2, g _ _ e3⟩⟩
theorem jok_keysK {H1 : Hp} {d : Addr} {od : Obj} {kvs : List (Key × V)} (h : H1 d = some (.frz od (.dK kvs))) : JOkR (Itk d od kvs) H1 kvs.length (fun j x H => ∃ k v, kvs[j]? = some (k, v) ∧ x = kV k) :=
  ⟨fun H g j hj => ⟨g _ _ h, hj⟩, fun H g j hj x H' y => y, fun H g => ⟨g _ _ h, Nat.le_refl _⟩, fun j x H H' y g => y⟩
/-- a list of what f tells, where p holds -/
theorem lc_filterR {J : It} {H1 : Hp} {n : Nat} {P : Nat → V → Hp → Prop} {i : Nat} {tt : TT} {te : TE} {σ : L2.St} {Q : VK} (hJ : JOkR J H1 n P) (p : Nat → Bool) (f : Nat → V) (hn : n ≤ sizeLine)
    (ht : ∀ j, j < n → ∀ x H', Grow H1 H' → P j x H' → ∀ R : Bool → Hp → Prop, (∀ H2, Grow H' H2 → R (p j) H2) → tt ((wipe σ [i]).set i (some x)) H' R)
    (he : ∀ j, j < n → p j = true → ∀ x H' H'', Grow H1 H' → P j x H' → Grow H' H'' → ∀ R : VK, (∀ H2, Grow H'' H2 → R (f j) H2) → te ((wipe σ [i]).set i (some x)) H'' R)
    (k : ∀ D H', Grow H1 H' → H1 D = none → H' D = some (.lst (resF p f n)) → Q (.ref D) H')
    (hw : ∀ x, wipe ((wipe σ [i]).set i (some x)) [i] = wipe σ [i]) : LcJ (gName i) tt te [i] σ Q J H1 := by
  intro D hD
  have g0 : ∀ {H : Hp} {o : HO}, Grow H1 H → Grow H1 (upd H D o) := fun {H o} g b u e => by
    rw [upd_ne (fun z => by rw [z, hD] at e; cases e)]; exact g b u e
  refine ⟨fun j m H' => j ≤ n ∧ m = n - j ∧ Grow H1 H' ∧ H' D = some (.lst (resF p f j)), ⟨_, Nat.zero_le _, rfl, g0 .refl, upd_same⟩, fun j m H' ⟨hj, hm, g, hd⟩ => ?_⟩
  by_cases e : j = n
  · subst e
    exact .inl ⟨hJ.stop _ g, k D H' g hD hd⟩
  · have hj' : j < n := by omega
    refine .inr ⟨hJ.go _ g _ hj', fun H'' => Grow H1 H'' ∧ H'' D = some (.lst (resF p f (j + 1))), fun H'' ⟨g', hd'⟩ => ⟨n - (j + 1), by omega, by omega, rfl, g', hd'⟩, ?_⟩
    intro x H'' y
    obtain ⟨rfl, hx⟩ := hJ.yld _ g _ hj' x H'' y
    refine ⟨hw _, ht j hj' x _ g hx _ fun H2 g2 => ?_⟩
    by_cases hp : p j = true
    · rw [hp, if_pos rfl]
      refine he j hj' hp x _ _ g hx g2 _ fun H3 g3 => ?_
      refine ⟨_, g3 _ _ (g2 _ _ hd), ?_, g0 ((g.trans g2).trans g3), ?_⟩
      · have := resF_le p f j
        omega
      · rw [upd_same, resF_succ, if_pos hp]
    · have hp' : p j = false := by simpa using hp
      rw [hp', if_neg (by decide)]
      refine ⟨g.trans g2, ?_⟩
      rw [resF_succ, if_neg hp]
      exact g2 _ _ hd
theorem lc_mapR {J : It} {H1 : Hp} {n : Nat} {P : Nat → V → Hp → Prop} {i : Nat} {te : TE} {σ : L2.St} {Q : VK} (hJ : JOkR J H1 n P) (f : Nat → V) (hn : n ≤ sizeLine)
    (he : ∀ j, j < n → ∀ x H', Grow H1 H' → P j x H' → ∀ R : VK, (∀ H2, Grow H' H2 → R (f j) H2) → te ((wipe σ [i]).set i (some x)) H' R)
    (k : ∀ D H', Grow H1 H' → H1 D = none → H' D = some (.lst ((List.range n).map f)) → Q (.ref D) H')
    (hw : ∀ x, wipe ((wipe σ [i]).set i (some x)) [i] = wipe σ [i]) : LcJ (gName i) tYes te [i] σ Q J H1 :=
  lc_filterR hJ (fun _ => true) f hn (fun j hj x H' g hx R hR => hR _ .refl) (fun j hj _ x H' H'' g hx g2 R hR => he j hj x H'' (g.trans g2) (hJ.on j x _ _ hx g2) R hR) (fun D H' g hD hd => k D H' g hD (by rw [resF_all] at hd; exact hd)) hw
/-- a list of tuples' own addresses and the like stays out of this: f tells values alone -/
theorem lockT {d : Addr} {kvs : List (List Key × V)} {t : TE} {σ : L2.St} {H : Hp} {Q : VK} (hd : H d = some (.dT kvs)) (h : ∀ od, t σ (upd H d (.frz od (.dT kvs))) fun v H' => H' d = some (.frz od (.dT kvs)) ∧ Q v (upd H' d (.dT kvs))) : tLockE t σ H Q := ⟨d, .dT kvs, hd, True.intro, h⟩
theorem lockK {d : Addr} {kvs : List (Key × V)} {t : TE} {σ : L2.St} {H : Hp} {Q : VK} (hd : H d = some (.dK kvs)) (h : ∀ od, t σ (upd H d (.frz od (.dK kvs))) fun v H' => H' d = some (.frz od (.dK kvs)) ∧ Q v (upd H' d (.dK kvs))) : tLockE t σ H Q := ⟨d, .dK kvs, hd, True.intro, h⟩
/-- what is known behind a lock -/
theorem Grow.unlock {H H' : Hp} {d : Addr} {od : Obj} {u : HO} (hd : H d = some u) (g : Grow (upd H d (.frz od u)) H') : H' d = some (.frz od u) ∧ Grow H (upd H' d u) := by
  refine ⟨g _ _ upd_same, fun b o e => ?_⟩
  by_cases hb : b = d
  · rw [hb, upd_same, ← e, hb, hd]
  · rw [upd_ne hb]
    exact g _ _ ((upd_ne hb).trans e)
end HG

/-! enumerate(text). -/
namespace HG
open PySem L2 PyProof.Rows
/-- the signs of a text, each in a new pair with its place -/
def Ites (x : Str) : It :=
  ⟨fun i _ => i < x.cps.size, fun i H v H' => ∃ T c, v = .ref T ∧ H T = none ∧ x.cps[i]? = some c ∧ H' = upd H T (.tup [.int (i : Nat), .str ⟨#[c]⟩]), fun i _ => x.cps.size ≤ i⟩
theorem strIter_of {h : Heap} {it : Addr} {T : String} {x : Str} {t : Tok} {i : Nat} (s : h.IsStrIter it T x t i) : ∃ o, h.get? it = some o ∧ ∀ v, o.data ≠ .cell v := by
  obtain ⟨o, ho, _, hd⟩ := s
  exact ⟨o, ho, fun v q => by rw [hd] at q; cases q⟩
theorem turn_enumS {P : Program} {w : World} {K : PySem.W.Frag} {elts : List Expr} {kk : Nat} {tpos : Pos} (e it : Addr) (x : Str) (t : Tok) :
    Turn P w K (.Tuple elts kk tpos) (Ites x) [e, it] e (fun i h => (∃ old, IsEnum h e it ((i : Nat) : Int) old) ∧ h.IsStrIter it (strIterType x) x t i ∧ e ≠ it) where
  mem := by simp
  obj := fun i h st b hb => by
    obtain ⟨⟨old, he⟩, hi, _⟩ := st
    have e' : b = e ∨ b = it := by simpa using hb
    rcases e' with z | z
    · rw [z]; exact ⟨_, he, fun v q => nomatch q⟩
    · rw [z]; exact strIter_of hi
  keep := fun i h h' st k => let ⟨⟨old, he⟩, ⟨o, ho, r⟩, hne⟩ := st; ⟨⟨old, k e (by simp) _ he⟩, ⟨o, k it (by simp) o ho, r⟩, hne⟩
  item := by
    intro X hP hw hK hc i pins s σ H E I hf st hg
    subst hP hw hK
    obtain ⟨⟨old, he⟩, hit, hne⟩ := st
    have hel : e < s.heap.objs.size := Heap.lt_size he
    have hil : it < s.heap.objs.size := by obtain ⟨_, q, _⟩ := hit; exact Heap.lt_size q
    have D := Draws.text (prog := X.prog) (w := X.w) (A := X.A.in1) (I.ok.hd hc) it x t
    refine wpAny_pyNext_enum_itemD D he hit hg hne (by simp [hne]) fun x' h' tk hPx ho hst' hT hsz hk => ?_
    obtain ⟨c, u, hcx, rfl⟩ := hPx
    refine ⟨_, rfl, wpAny_letOwnedTupleGo_enum (s := { s with heap := h', toks := tk + 1 }) ho fun h'' he' sb => ?_⟩
    have hT2 : h''.get? s.heap.objs.size = some { cls := .type "tuple", data := .seq #[.int i tk, .str ⟨#[c]⟩ u] } := (sb.2 _ (Nat.ne_of_gt hel)).trans hT
    have new : ObjOk X.prog X.w (upd H s.heap.objs.size (.tup [.int (i : Nat), .str ⟨#[c]⟩])) h'' s.heap.objs.size (.tup [.int (i : Nat), .str ⟨#[c]⟩]) :=
      ⟨by show 2 ≤ sizeLine; decide, [.int i tk, .str ⟨#[c]⟩ u], .cons ⟨_, rfl⟩ (.cons ⟨_, rfl⟩ .nil), ⟨_, hT2, rfl, _, rfl⟩⟩
    have I1 : Inv X pins σ (upd H s.heap.objs.size (.tup [.int (i : Nat), .str ⟨#[c]⟩])) { s with heap := h'', toks := tk + 1 } :=
      I.turnedNew (ch := [e, it]) (fun b ob hb q => (sb.2 b (fun z => hb (by simp [z]))).trans (hk b ob (fun z => hb (by simp [z])) (fun z => hb (by simp [z])) q)) hf (Nat.le_refl _) new
    obtain ⟨oi, hoi, ri⟩ := hst'
    refine ⟨.ref s.heap.objs.size, _, I1, rfl, ⟨_, c, rfl, I.hok.fresh (Nat.le_refl _), hcx, rfl⟩, ⟨⟨.str ⟨#[c]⟩ u, ?_⟩, ⟨oi, (sb.2 it (Ne.symm hne)).trans hoi, ri⟩, hne⟩, fun b hb => ?_⟩
    · have e1 : ((i + 1 : Nat) : Int) = (i : Int) + 1 := by omega
      rw [e1]; exact he'
    · have hb' : b < s.heap.objs.size := by
        have e' : b = e ∨ b = it := by simpa using hb
        rcases e' with z | z
        · rw [z]; exact hel
        · rw [z]; exact hil
      rw [upd_ne (Nat.ne_of_lt hb')]
      exact (hf b hb).1
  done := by
    intro X hP hw hK hc i pins s σ H E I hf st hg
    subst hP hw hK
    obtain ⟨⟨old, he⟩, hit, hne⟩ := st
    obtain ⟨f0, f1, f2, f3, f4, f5⟩ := hf it (by simp)
    have hT : s.TypeIs (.ref e) "enumerate" := ⟨_, he, rfl⟩
    have hx : x.cps[i]? = none := Array.getElem?_eq_none hg
    unfold pyNext
    refine wpAny_bind (wpAny_attempt (wpAny_callSpecial?_slot (name := Str.ofString "__next__") hT F.slot_enumerate_next
      (wpAny_call_entry F.slot_enumerate_next hT F.entry_enumerate_next ?_ (F.args_enumerate_next_1 _))))
    show wpAny _ _ (field (.ref e) 2 >>= _) _ _ _
    refine wpAny_bind (wpAny_field he rfl (x := .ref it) rfl ?_)
    cases ha : x.cps.all (· < 128)
    · simp only [strIterType, ha, Bool.false_eq_true, if_false] at hit
      refine wpAny_bind (wpAny_nextOf_wide_end (A := X.A.in1) (I.ok.hd hc) hit hx fun h' y eb hy => ?_)
      obtain ⟨o, ho, hcc⟩ := hy
      refine wpAny_bind (wpAny_isInstance (T := "StopIteration") (b := true) ⟨o, ho, hcc⟩ isSubtype_stop ?_)
      exact wpAny_pure ⟨rfl, I.turned (t' := s.toks) (fun b o hb q => eb b o hb q) f0 f1 f3 f4 f5⟩
    · simp only [strIterType, ha, if_true] at hit
      refine wpAny_bind (wpAny_nextOf_ascii_end (A := X.A.in1) (I.ok.hd hc) hit hx fun h' y eb hy => ?_)
      obtain ⟨o, ho, hcc⟩ := hy
      refine wpAny_bind (wpAny_isInstance (T := "StopIteration") (b := true) ⟨o, ho, hcc⟩ isSubtype_stop ?_)
      exact wpAny_pure ⟨rfl, I.turned (t' := s.toks) (fun b o hb q => eb b o hb q) f0 f1 f3 f4 f5⟩
  self := fun A i s Q E st h => let ⟨⟨_, he⟩, _⟩ := st; wpAny_pyIter_enum he h
def iEnumS (ta : TA) : TI := fun σ H R => ta σ H fun vs H1 => ∃ x, vs = [.str x] ∧ R (Ites x) H1
theorem pi_enumS {X : Cx} {e : Expr} {ta : TA} {p pos tpos : Pos} {elts : List Expr} {kk : Nat} (hg : Gl X "enumerate") (hm : X.mg "enumerate" = none) (ha : PA X [e] ta) (hs : starEach [e] X.env = [(false, eval e X.env)] := by rfl) :
    PI X (.Tuple elts kk tpos) (.Call (.Name "enumerate" p) [e] [] pos) (iEnumS ta) := by
  refine ⟨fun pins s σ H R I h => ?_⟩
  refine Call_ (ld_blt I hg hm boot_enumerate (PyProof.Rows.callWith_type1 (thn (ha.run pos pins s σ H _ I h) fun us s1 ⟨vs, H1, I1, r1, q1⟩ => ?_) hs rfl))
  obtain ⟨x, ex, q⟩ := q1
  subst ex
  cases r1 with
  | cons r rr =>
    cases rr
    obtain ⟨t, rfl⟩ := r
    refine enum_begins1 (begins_text x t) trivial fun h' he hit hsz hk => wpAny_pyIter_enum he ?_
    have I2 : Inv X pins σ H1 { s1 with heap := h' } := I1.kept (t' := s1.toks) hk
    refine ⟨s1.heap.objs.size + 1, [s1.heap.objs.size + 1, s1.heap.objs.size], _, _, H1, rfl, I2, turn_enumS (s1.heap.objs.size + 1) s1.heap.objs.size x t, ⟨⟨.none, he⟩, ⟨_, hit, rfl, rfl⟩, Nat.succ_ne_self _⟩, fun b hb => ?_, q⟩
    have e' : b = s1.heap.objs.size + 1 ∨ b = s1.heap.objs.size := by simpa using hb
    have hle : s1.heap.objs.size ≤ b := by
      rcases e' with z | z
      · rw [z]; exact Nat.le_add_right _ _
      · rw [z]; exact Nat.le_refl _
    exact I1.fpOk hle (I1.hok.fresh hle)
end HG

/-! A dict that is made to be walked; signs of a text. -/
namespace HG
open PySem L2 PyProof.Rows
/-- the dict is new: it is locked for good -/
def iKeysLK (td : TE) : TI := fun σ H R => td σ H fun x H1 => ∃ d kvs, x = .ref d ∧ H1 d = some (.dK kvs) ∧ ∀ od, R (Itk d od kvs) (upd H1 d (.frz od (.dK kvs)))
def iKeysLT (td : TE) : TI := fun σ H R => td σ H fun x H1 => ∃ d kvs, x = .ref d ∧ H1 d = some (.dT kvs) ∧ ∀ od, R (Itkt d od kvs) (upd H1 d (.frz od (.dT kvs)))
section
variable {X : Cx} {tg e : Expr} {td : TE}
theorem pi_keysLK (he : PE X e td) : PI X tg e (iKeysLK td) := by
  refine ⟨fun pins s σ H R I h => ?_⟩
  refine thn (he.run pins s σ H _ I h) fun u s1 ⟨x, H1, I1, rx, d, kvs, ex, hd, q⟩ => ?_
  subst ex
  obtain rfl : u = Value.ref d := rx
  obtain ⟨od, I2⟩ := I1.lock hd True.intro
  obtain ⟨hs, hgd, hx, es, ep, vs, hdt, hsz, kv, hm⟩ := I2.frzK upd_same
  refine iter_keys hs hgd hx hdt (pi_one (tk := s1.toks) I2 _ (turn_keys _ hdt) ⟨_, Heap.get?_push_size _ rfl, rfl, ?_⟩ (q od))
  rw [hsz] <;> rfl
theorem pi_keysLT (he : PE X e td) : PI X tg e (iKeysLT td) := by
  refine ⟨fun pins s σ H R I h => ?_⟩
  refine thn (he.run pins s σ H _ I h) fun u s1 ⟨x, H1, I1, rx, d, kvs, ex, hd, q⟩ => ?_
  subst ex
  obtain rfl : u = Value.ref d := rx
  obtain ⟨od, I2⟩ := I1.lock hd True.intro
  obtain ⟨hs, hgd, hx, es, ep, hdt, hsz, ent⟩ := I2.frzT upd_same
  refine iter_keys hs hgd hx hdt (pi_one (tk := s1.toks) I2 _ (turn_keysT _ hdt) ⟨_, Heap.get?_push_size _ rfl, rfl, ?_⟩ (q od))
  rw [hsz] <;> rfl
end
theorem jok_text {H1 : Hp} {x : Str} : JOkR (Its x) H1 x.cps.size (fun j v _ => ∃ c, x.cps[j]? = some c ∧ v = .str ⟨#[c]⟩) :=
  ⟨fun H g j hj => hj, fun H g j hj v H' y => y, fun H g => Nat.le_refl _, fun j v H H' y g => y⟩
/-- a dict comprehension over a walk, the keys texts: the keys and values that f tells, put one after another -/
def foldK {κ : Type} [DecidableEq κ] (f : Nat → κ × V) : Nat → List (κ × V)
  | 0 => []
  | n + 1 => putK (foldK f n) (f n).1 (f n).2
theorem foldK_le {κ : Type} [DecidableEq κ] (f : Nat → κ × V) : ∀ n, (foldK f n).length ≤ n
  | 0 => Nat.le_refl _
  | n + 1 => by
    have h1 := foldK_le f n
    have h2 := length_putK (foldK f n) (f n).1 (f n).2
    show (putK _ _ _).length ≤ n + 1
    omega
def DcK (g : TG) (tt : TT) (tk tv : TE) (vs : List Nat) (σ : L2.St) (Q : VK) (J : It) (H1 : Hp) : Prop := ∀ D, H1 D = none → ∃ W : Nat → Nat → Hp → Prop, (∃ m, W 0 m (upd H1 D (.dK []))) ∧ ∀ j m H, W j m H →
      (J.stop j H ∧ Q (.ref D) H) ∨ (J.go j H ∧ ∃ Nx : Hp → Prop, (∀ H', Nx H' → ∃ m', m' < m ∧ W (j + 1) m' H') ∧ ∀ x H', J.yld j H x H' → g x (wipe σ vs) H' fun σ2 H2 => wipe σ2 vs = wipe σ vs ∧ tt σ2 H2 fun b H3 =>
        if b = true then tk σ2 H3 fun y H4 => tv σ2 H4 fun z H5 => ∃ kvs k, y = kV k ∧ H5 D = some (.dK kvs) ∧ kvs.length < sizeLine ∧ Nx (upd H5 D (.dK (putK kvs k z))) else Nx H3)
theorem dcK_ev {wi : TI} {g : TG} {tt : TT} {tk tv : TE} {vs : List Nat} {σ : L2.St} {H : Hp} {Q : VK} (h : wi σ H (DcK g tt tk tv vs σ Q)) : tDc wi g tt tk tv vs σ H Q := h
def DcT (g : TG) (tt : TT) (tk tv : TE) (vs : List Nat) (σ : L2.St) (Q : VK) (J : It) (H1 : Hp) : Prop := ∀ D, H1 D = none → ∃ W : Nat → Nat → Hp → Prop, (∃ m, W 0 m (upd H1 D (.dT []))) ∧ ∀ j m H, W j m H →
      (J.stop j H ∧ Q (.ref D) H) ∨ (J.go j H ∧ ∃ Nx : Hp → Prop, (∀ H', Nx H' → ∃ m', m' < m ∧ W (j + 1) m' H') ∧ ∀ x H', J.yld j H x H' → g x (wipe σ vs) H' fun σ2 H2 => wipe σ2 vs = wipe σ vs ∧ tt σ2 H2 fun b H3 =>
        if b = true then tk σ2 H3 fun y H4 => tv σ2 H4 fun z H5 => ∃ kvs k b, y = .ref b ∧ H5 b = some (.tup (k.map kV)) ∧ H5 D = some (.dT kvs) ∧ kvs.length < sizeLine ∧ Nx (upd H5 D (.dT (putK kvs k z))) else Nx H3)
theorem dcT_ev {wi : TI} {g : TG} {tt : TT} {tk tv : TE} {vs : List Nat} {σ : L2.St} {H : Hp} {Q : VK} (h : wi σ H (DcT g tt tk tv vs σ Q)) : tDcT wi g tt tk tv vs σ H Q := h
theorem dc_mapK {J : It} {H1 : Hp} {n : Nat} {P : Nat → V → Hp → Prop} {i : Nat} {tk tv : TE} {σ : L2.St} {Q : VK} (hJ : JOkR J H1 n P) (f : Nat → Key × V) (hn : n ≤ sizeLine)
    (hk : ∀ j, j < n → ∀ x H', Grow H1 H' → P j x H' → ∀ R : VK, (∀ H2, Grow H' H2 → R (kV (f j).1) H2) → tk ((wipe σ [i]).set i (some x)) H' R)
    (he : ∀ j, j < n → ∀ x H', Grow H1 H' → P j x H' → ∀ R : VK, (∀ H2, Grow H' H2 → R (f j).2 H2) → tv ((wipe σ [i]).set i (some x)) H' R)
    (k : ∀ D H', Grow H1 H' → H1 D = none → H' D = some (.dK (foldK f n)) → Q (.ref D) H')
    (hw : ∀ x, wipe ((wipe σ [i]).set i (some x)) [i] = wipe σ [i]) : DcK (gName i) tYes tk tv [i] σ Q J H1 := by
  intro D hD
  have g0 : ∀ {H : Hp} {o : HO}, Grow H1 H → Grow H1 (upd H D o) := fun {H o} g b u e => by
    rw [upd_ne (fun z => by rw [z, hD] at e; cases e)]; exact g b u e
  refine ⟨fun j m H' => j ≤ n ∧ m = n - j ∧ Grow H1 H' ∧ H' D = some (.dK (foldK f j)), ⟨_, Nat.zero_le _, rfl, g0 .refl, upd_same⟩, fun j m H' ⟨hj, hm, g, hd⟩ => ?_⟩
  by_cases e : j = n
  · subst e
    exact .inl ⟨hJ.stop _ g, k D H' g hD hd⟩
  · have hj' : j < n := by omega
    refine .inr ⟨hJ.go _ g _ hj', fun H'' => Grow H1 H'' ∧ H'' D = some (.dK (foldK f (j + 1))), fun H'' ⟨g', hd'⟩ => ⟨n - (j + 1), by omega, by omega, rfl, g', hd'⟩, ?_⟩
    intro x H'' y
    obtain ⟨rfl, hx⟩ := hJ.yld _ g _ hj' x H'' y
    refine ⟨hw _, ?_⟩
    simp only [tYes, if_true]
    refine hk j hj' x _ g hx _ fun H2 g2 => ?_
    refine he j hj' x _ (g.trans g2) (hJ.on j x _ _ hx g2) _ fun H3 g3 => ?_
    have := foldK_le f j
    exact ⟨_, (f j).1, rfl, g3 _ _ (g2 _ _ hd), by omega, g0 ((g.trans g2).trans g3), by rw [upd_same]; rfl⟩
/-- .. the keys tuples: P tells where the key's tuple stands -/
theorem dc_mapT {J : It} {H1 : Hp} {n : Nat} {P : Nat → V → Hp → Prop} {i : Nat} {tk tv : TE} {σ : L2.St} {Q : VK} (hJ : JOkR J H1 n P) (f : Nat → List Key × V) (hn : n ≤ sizeLine)
    (hk : ∀ j, j < n → ∀ x H', Grow H1 H' → P j x H' → ∀ R : VK, (∀ b H2, Grow H' H2 → H2 b = some (.tup ((f j).1.map kV)) → R (.ref b) H2) → tk ((wipe σ [i]).set i (some x)) H' R)
    (he : ∀ j, j < n → ∀ x H', Grow H1 H' → P j x H' → ∀ R : VK, (∀ H2, Grow H' H2 → R (f j).2 H2) → tv ((wipe σ [i]).set i (some x)) H' R)
    (k : ∀ D H', Grow H1 H' → H1 D = none → H' D = some (.dT (foldK f n)) → Q (.ref D) H')
    (hw : ∀ x, wipe ((wipe σ [i]).set i (some x)) [i] = wipe σ [i]) : DcT (gName i) tYes tk tv [i] σ Q J H1 := by
  intro D hD
  have g0 : ∀ {H : Hp} {o : HO}, Grow H1 H → Grow H1 (upd H D o) := fun {H o} g b u e => by
    rw [upd_ne (fun z => by rw [z, hD] at e; cases e)]; exact g b u e
  refine ⟨fun j m H' => j ≤ n ∧ m = n - j ∧ Grow H1 H' ∧ H' D = some (.dT (foldK f j)), ⟨_, Nat.zero_le _, rfl, g0 .refl, upd_same⟩, fun j m H' ⟨hj, hm, g, hd⟩ => ?_⟩
  by_cases e : j = n
  · subst e
    exact .inl ⟨hJ.stop _ g, k D H' g hD hd⟩
  · have hj' : j < n := by omega
    refine .inr ⟨hJ.go _ g _ hj', fun H'' => Grow H1 H'' ∧ H'' D = some (.dT (foldK f (j + 1))), fun H'' ⟨g', hd'⟩ => ⟨n - (j + 1), by omega, by omega, rfl, g', hd'⟩, ?_⟩
    intro x H'' y
    obtain ⟨rfl, hx⟩ := hJ.yld _ g _ hj' x H'' y
    refine ⟨hw _, ?_⟩
    simp only [tYes, if_true]
    refine hk j hj' x _ g hx _ fun b H2 g2 hb => ?_
    refine he j hj' x _ (g.trans g2) (hJ.on j x _ _ hx g2) _ fun H3 g3 => ?_
    have := foldK_le f j
    exact ⟨_, (f j).1, b, rfl, g3 _ _ hb, g3 _ _ (g2 _ _ hd), by omega, g0 ((g.trans g2).trans g3), by rw [upd_same]; rfl⟩
/-- keys that are different are put behind one another -/
theorem foldK_same {κ : Type} [DecidableEq κ] {kvs : List (κ × V)} (nd : (kvs.map (·.1)).Nodup) (d : κ × V) : foldK (fun j => kvs.getD j d) kvs.length = kvs := by
  suffices h : ∀ n, n ≤ kvs.length → foldK (fun j => kvs.getD j d) n = kvs.take n by
    rw [h _ (Nat.le_refl _), List.take_length]
  intro n
  induction n with
  | zero => intro _; rfl
  | succ n ih =>
    intro hn
    have e : kvs.getD n d = kvs[n] := by rw [List.getD_eq_getElem?_getD, List.getElem?_eq_getElem (by omega)]; rfl
    show putK (foldK (fun j => kvs.getD j d) n) (kvs.getD n d).1 (kvs.getD n d).2 = _
    rw [ih (by omega), e, List.take_succ, List.getElem?_eq_getElem (by omega)]
    have no : ((kvs.take n).any fun kv => decide (kv.1 = kvs[n].1)) = false := by
      refine Bool.eq_false_iff.mpr fun z => ?_
      obtain ⟨p, hp, ep⟩ := List.any_eq_true.mp z
      obtain ⟨i, hi, ei⟩ := List.getElem_of_mem hp
      rw [List.length_take] at hi
      have hne := List.pairwise_iff_getElem.mp nd i n (by rw [List.length_map]; omega) (by rw [List.length_map]; omega) (by omega)
      rw [List.getElem_map, List.getElem_map] at hne
      rw [List.getElem_take] at ei
      rw [ei] at hne
      exact hne (of_decide_eq_true ep)
    unfold putK
    rw [if_neg (by rw [no]; exact Bool.false_ne_true)]
    rfl
theorem putK_nodup {κ : Type} [DecidableEq κ] {kvs : List (κ × V)} {k : κ} {v : V} (nd : (kvs.map (·.1)).Nodup) : ((putK kvs k v).map (·.1)).Nodup := by
  unfold putK
  split
  · have e : (kvs.map fun kv => if kv.1 = k then (kv.1, v) else kv).map (·.1) = kvs.map (·.1) := by
      rw [List.map_map]
      refine List.map_congr_left fun p _ => ?_
      show (if p.1 = k then (p.1, v) else p).1 = p.1
      split <;> rfl
    rw [e]
    exact nd
  · rename_i h
    rw [List.map_append, List.nodup_append]
    refine ⟨nd, by simp, fun x hx y hy z => h ?_⟩
    obtain ⟨p, hp, rfl⟩ := List.mem_map.mp hx
    rw [List.map_cons, List.map_nil, List.mem_singleton] at hy
    exact List.any_eq_true.mpr ⟨p, hp, decide_eq_true (by rw [z, hy])⟩
end HG

/-! Loops over texts and dicts. -/
namespace HG
open PySem L2 PyProof.Rows
theorem jok_textD {H1 : Hp} {x : Str} : JOk (Its x) H1 x.cps.size (fun j => .str ⟨#[x.cps.getD j 0]⟩) :=
  ⟨fun H g j hj => hj, fun H g j hj v H' y => by
    obtain ⟨e, c, hc, hv⟩ := y
    refine ⟨e, ?_⟩
    rw [hv, show x.cps.getD j 0 = c from by rw [Array.getD_eq_getD_getElem?, hc]; rfl], fun H g => Nat.le_refl _⟩
theorem for_text {te : TE} {g : TG} {tb : TS} {D : Ends} {σ : L2.St} {H : Hp} (h : te σ H fun v H1 => ∃ x, v = .str x ∧ ForW (Its x) g tb D σ H1) : tFor (iStr te) g tb D σ H := h
theorem for_enumS {ta : TA} {g : TG} {tb : TS} {D : Ends} {σ : L2.St} {H : Hp} (h : ta σ H fun vs H1 => ∃ x, vs = [.str x] ∧ ForW (Ites x) g tb D σ H1) : tFor (iEnumS ta) g tb D σ H := h
/-- for i, c in enumerate(text) -/
theorem for_ites {x : Str} {H1 : Hp} {g : TG} {tb : TS} {D : Ends} {σ : L2.St} (W : Nat → L2.St → Hp → Prop) (w0 : W 0 σ H1) (fin : ∀ σ H, W x.cps.size σ H → D.nx σ H)
    (step : ∀ i σ H T, i < x.cps.size → W i σ H → H T = none → g (.ref T) σ (upd H T (.tup [.int (i : Nat), .str ⟨#[x.cps.getD i 0]⟩])) fun σ2 H2 => tb { D with nx := W (i + 1), ct := W (i + 1), bk := D.nx } σ2 H2) : ForW (Ites x) g tb D σ H1 := by
  refine ⟨fun i m σ H => i ≤ x.cps.size ∧ m = x.cps.size - i ∧ W i σ H, ⟨x.cps.size, by omega, by omega, w0⟩, ?_⟩
  rintro i m σ H ⟨hi, hm, w⟩
  by_cases e : i = x.cps.size
  · subst e
    exact .inl ⟨Nat.le_refl _, fin _ _ w⟩
  · have hl : i < x.cps.size := by omega
    refine .inr ⟨hl, W (i + 1), fun σ' H' q => ⟨x.cps.size - (i + 1), by omega, by omega, rfl, q⟩, fun v H' y => ?_⟩
    obtain ⟨T, c, rfl, hT, hc, rfl⟩ := y
    have e : c = x.cps.getD i 0 := by rw [Array.getD_eq_getD_getElem?, hc]; rfl
    rw [e]
    exact step i σ H T hl w hT
end HG

/-! Defs called with keywords alone. -/
namespace HG
open PySem L2 PyProof.Rows
/-- f(k = v, ..) -/
def tCallK0 (n : Nat) (sp : Sp) (gV : List V → List V → List V) (E : XK) (tk : TA) : TE := fun σ H Q => tk σ H fun zs H2 => zs.length = n ∧ sp (gV [] zs) H2 Q E
section
variable {X : Cx} {CX : CXT} {k n : Nat} {f : Addr} {fd : FuncData} {ps ks : List Str} {sp : Sp} {E : XK} {x : Str} {p pos : Pos} {kws : List Keyword} {tk : TA} {g : List Value → List Value → List Value} {gV : List V → List V → List V}
theorem pe_callKG0 (F : FnG X.prog X.w X.K X.mg X.base CX k f fd ps sp) (hr : Room k X.A) (hG : GA X.A) (hg : Gl X x) (hm : X.mg x = some (.ref f)) (hk : PySem.W.keepIn X.K (.ref f) = true) (hb : KBn X.K fd ps 0 ks g gV) (hx : Passes CX X E) (hkw : PK X kws tk)
    (hall : (backToKw pos (keywordEach kws X.env)).all (·.1.isSome) = true := by rfl) (hks : (backToKw pos (keywordEach kws X.env)).filterMap (·.1) = ks := by rfl)
    (hpl : ((backTo pos (starEach [] X.env)).any (·.1) || (backToKw pos (keywordEach kws X.env)).any (·.1.isNone)) = false := by rfl) (hnl : ks.length = n := by rfl)
    (hdb : (x == ("__debug__" : Str)) = false := by decide) :
    PE X (.Call (.Name x p) [] kws pos) (tCallK0 n sp gV E tk) := by
  subst hnl
  refine ⟨fun pins s σ H Q I h => ?_⟩
  refine wpAny_Call_Name_kw (ld_glob I hg hm ?_ hdb)
  refine PySem.W.callWith_KW0 (first := []) (h₀ := X.base) I.ok.mod.kin hk hall (thn (hkw.run pos pins s σ H _ I h) fun ws s2 z => ?_) hpl
  obtain ⟨zs, H2, I2, rz, l2, q2⟩ := z
  refine ⟨I2.kIn, ?_⟩
  rw [hks]
  exact runKw (us := []) (vs := []) F hr hG hb hx I2 .nil rz rfl (rz.length.symm.trans l2) q2
end
/-! list(text): its signs -/
def signsV (x : Str) : List V := x.cps.toList.map fun c => V.str ⟨#[c]⟩
def cListS : List V → Hp → VK → Prop := fun xs H Q => ∃ x, xs = [.str x] ∧ x.cps.size ≤ sizeLine ∧ ∀ l, H l = none → Q (.ref l) (upd H l (.lst (signsV x)))
theorem call_listS {X : Cx} (hc : X.calm = true) : CallR X (.type "list") cListS := by
  intro pins s σ H xs us Q I r h
  obtain ⟨x, e, hz, q⟩ := h
  subst e
  obtain ⟨u, eu, rx⟩ := vals1 r
  subst eu
  obtain ⟨t, rfl⟩ := rx
  refine PySem.call_list_str (I.ok.hd hc) x t (fun h' tk acc' c' hkeep hS hacc => ?_) hz
  have hl : (signsV x).length = x.cps.size := by unfold signsV; rw [List.length_map, Array.length_toList]
  refine ⟨.ref s.heap.objs.size, upd H s.heap.objs.size (.lst (signsV x)), I.laid hkeep (Nat.le_refl _) (show ObjOk X.prog X.w _ _ _ (.lst (signsV x)) from ⟨?_, acc'.toList, c', ?_, ?_⟩), rfl, q _ (I.hok.fresh (Nat.le_refl _))⟩
  · rw [hl]; exact hz
  · have el : acc'.toList.length = acc'.size := by simp
    refine vals_of_at (by rw [hl, el, hacc.1]) fun j y w h1 h2 => ?_
    obtain ⟨c, tt, hc1, hc2⟩ := hacc.2 j w (by rw [← Array.getElem?_toList]; exact h2)
    have e1 : (signsV x)[j]? = some (.str ⟨#[c]⟩) := by
      unfold signsV
      rw [List.getElem?_map, Array.getElem?_toList, hc1]
      rfl
    rw [e1] at h1
    cases h1
    exact ⟨tt, hc2⟩
  · rw [Array.toArray_toList]; exact hS
end HG

namespace HG
open PySem L2
def kw_array_of_text_converter : List V → List V → List V := fun vs zs => vs ++ ((zs.drop 1).take 1 ++ ((zs.drop 0).take 1))
def kw_extra_of_text_converter : List V → List V → List V := fun vs zs => vs ++ ((zs.drop 1).take 1 ++ ((zs.drop 0).take 1))
structure Ad where
  c_Converter : Addr
  c_BadWord : Addr
  c_NoStep : Addr
  c_NoTail : Addr
  c_HeadError : Addr
  cda_BadWord : Addr
  cel_BadWord : Addr
  cda_NoStep : Addr
  cel_NoStep : Addr
  cda_NoTail : Addr
  cel_NoTail : Addr
  f_is_row_checks : Addr
  f_is_letter : Addr
  f_is_text : Addr
  f_is_answer : Addr
  f_is_name : Addr
  f_ascending : Addr
  f_is_key : Addr
  f_is_goal : Addr
  f_are_steps : Addr
  f_are_tails : Addr
  f_need_name : Addr
  f_need_letter : Addr
  f_BadWord_init : Addr
  f_NoStep_init : Addr
  f_NoTail_init : Addr
  f_Converter_init : Addr
  f_Converter_call : Addr
  f_need_converter : Addr
  f_most_of : Addr
  f_weight : Addr
  f_heights_behind : Addr
  f_text_gap : Addr
  f_text_array : Addr
  f_text_extra : Addr
  f_array_of : Addr
  f_extra_of : Addr
  f_law_pen : Addr
  f_law_draw : Addr
  f_law_pick : Addr
  f_law_steps : Addr
  f_law_plan : Addr
  f_law_made : Addr
  f_law_run : Addr
  f_law_is_kept : Addr
  f_law_array : Addr
  f_law : Addr
  d_is_row_checks : FuncData
  d_is_letter : FuncData
  d_is_text : FuncData
  d_is_answer : FuncData
  d_is_name : FuncData
  d_ascending : FuncData
  d_is_key : FuncData
  d_is_goal : FuncData
  d_are_steps : FuncData
  d_are_tails : FuncData
  d_need_name : FuncData
  d_need_letter : FuncData
  d_BadWord_init : FuncData
  d_NoStep_init : FuncData
  d_NoTail_init : FuncData
  d_Converter_init : FuncData
  d_Converter_call : FuncData
  d_need_converter : FuncData
  d_most_of : FuncData
  d_weight : FuncData
  d_heights_behind : FuncData
  d_text_gap : FuncData
  d_text_array : FuncData
  d_text_extra : FuncData
  d_array_of : FuncData
  d_extra_of : FuncData
  d_law_pen : FuncData
  d_law_draw : FuncData
  d_law_pick : FuncData
  d_law_steps : FuncData
  d_law_plan : FuncData
  d_law_made : FuncData
  d_law_run : FuncData
  d_law_is_kept : FuncData
  d_law_array : FuncData
  d_law : FuncData
def excsOf (A : Ad) : List Addr := [A.c_BadWord, A.c_NoStep, A.c_NoTail]
/-- the exception classes among one another -/
structure XKf (K : PySem.W.Frag) (A : Ad) : Prop where
  m_BadWord : PySem.W.exmOne K (.ref A.c_BadWord) (.ref A.c_HeadError) = some true
  v_BadWord : PySem.W.kitOne K (.ref A.c_BadWord) (.type "ValueError") = some true
  k_BadWord_BadWord : PySem.W.kitOne K (.ref A.c_BadWord) (.ref A.c_BadWord) = some true
  k_BadWord_NoStep : PySem.W.kitOne K (.ref A.c_BadWord) (.ref A.c_NoStep) = some false
  k_BadWord_NoTail : PySem.W.kitOne K (.ref A.c_BadWord) (.ref A.c_NoTail) = some false
  m_NoStep : PySem.W.exmOne K (.ref A.c_NoStep) (.ref A.c_HeadError) = some true
  v_NoStep : PySem.W.kitOne K (.ref A.c_NoStep) (.type "ValueError") = some true
  k_NoStep_BadWord : PySem.W.kitOne K (.ref A.c_NoStep) (.ref A.c_BadWord) = some false
  k_NoStep_NoStep : PySem.W.kitOne K (.ref A.c_NoStep) (.ref A.c_NoStep) = some true
  k_NoStep_NoTail : PySem.W.kitOne K (.ref A.c_NoStep) (.ref A.c_NoTail) = some false
  m_NoTail : PySem.W.exmOne K (.ref A.c_NoTail) (.ref A.c_HeadError) = some true
  v_NoTail : PySem.W.kitOne K (.ref A.c_NoTail) (.type "ValueError") = some true
  k_NoTail_BadWord : PySem.W.kitOne K (.ref A.c_NoTail) (.ref A.c_BadWord) = some false
  k_NoTail_NoStep : PySem.W.kitOne K (.ref A.c_NoTail) (.ref A.c_NoStep) = some false
  k_NoTail_NoTail : PySem.W.kitOne K (.ref A.c_NoTail) (.ref A.c_NoTail) = some true
def sp_BadWord_init (K : PySem.W.Frag) (A : Ad) : Sp := spX1 A.c_BadWord "value"
def sp_NoStep_init (K : PySem.W.Frag) (A : Ad) : Sp := spX2 A.c_NoStep "at" "state"
def sp_NoTail_init (K : PySem.W.Frag) (A : Ad) : Sp := spX1 A.c_NoTail "state"

def sp_law_pen (K : PySem.W.Frag) (A : Ad) : Sp := spPenL K
def sp_law_draw (K : PySem.W.Frag) (A : Ad) : Sp := spDrawL
def sp_law_pick (K : PySem.W.Frag) (A : Ad) : Sp := spPickL
def t_law_pen_0 (K : PySem.W.Frag) (A : Ad) : TS := (tRet (tLst (tCons (tCB (cList K) (tCons (tSl (rSlL K) (tVar 0) tNoPart (tPart (tC (.int 63)))) tNil)) (tCons (tC (.int 0)) (tCons (tC (.int 0)) tNil)))))

def t_law_draw_3 (K : PySem.W.Frag) (A : Ad) : TS := (tRet (tVar 2))
def t_law_draw_2 (K : PySem.W.Frag) (A : Ad) : TS := (tSeq (tAsg (tOp oFdiv (tCB cInt (tCons (tOp (iIx K) (tVar 0) (tC (.int 2))) tNil)) (tVar 1)) (gSub (tVar 0) (tC (.int 2)) stL)) (t_law_draw_3 K A))
def t_law_draw_1 (K : PySem.W.Frag) (A : Ad) : TS := (tSeq (tAsg (tOp oMod (tCB cInt (tCons (tOp (iIx K) (tVar 0) (tC (.int 2))) tNil)) (tVar 1)) (gName 2)) (t_law_draw_2 K A))
def t_law_draw_8 (K : PySem.W.Frag) (A : Ad) : TS := (tAsg (tOp (iIx K) (tOp (iIx K) (tVar 0) (tC (.int 0))) (tOp oMod (tCB cInt (tCons (tVar 3) tNil)) (tCB (cLen K) (tCons (tOp (iIx K) (tVar 0) (tC (.int 0))) tNil)))) (gName 4))
def t_law_draw_12 (K : PySem.W.Frag) (A : Ad) : TS := (tRet (tOp oMod (tCB cInt (tCons (tVar 5) tNil)) (tVar 1)))
def t_law_draw_11 (K : PySem.W.Frag) (A : Ad) : TS := (tSeq (tAsg (tOp oFdiv (tCB cInt (tCons (tVar 5) tNil)) (tVar 1)) (gSub (tVar 0) (tC (.int 2)) stL)) (t_law_draw_12 K A))
def t_law_draw_10 (K : PySem.W.Frag) (A : Ad) : TS := (tSeq (tAsg (tOp oAdd (tOp oMul (tC (.int 2)) (tOp oSub (tCB cAbs (tCons (tVar 4) tNil)) (tOp oPow (tC (.int 10)) (tC (.int 18))))) (tCB cInt (tCons (tOp oLt (tVar 4) (tC (.int 0))) tNil))) (gName 5)) (t_law_draw_11 K A))
def t_law_draw_15 (K : PySem.W.Frag) (A : Ad) : TS := (tRet (tOp oMod (tCB cInt (tCons (tOp oFdiv (tVar 6) (tC (.int 32))) tNil)) (tVar 1)))
def t_law_draw_14 (K : PySem.W.Frag) (A : Ad) : TS := (tSeq (tAsg (tOp oMod (tCB cInt (tCons (tOp oPow (tOp oAdd (tOp oAdd (tOp oMul (tVar 6) (tOp oAdd (tOp oMul (tC (.int 2)) (tVar 3)) (tC (.int 643)))) (tOp oMul (tOp oMul (tC (.int 45307)) (tVar 3)) (tVar 3))) (tC (.int 743))) (tC (.int 3))) tNil)) (tC (.int 2147483489))) (gName 6)) (t_law_draw_15 K A))
def t_law_draw_13 (K : PySem.W.Frag) (A : Ad) : TS := (tSeq (tAsg (tOp oMod (tCB cInt (tCons (tOp oPow (tOp oAdd (tOp oAdd (tOp oMod (tCB cInt (tCons (tVar 4) tNil)) (tC (.int 2147483647))) (tOp oMul (tC (.int 52747)) (tVar 3))) (tC (.int 1103))) (tC (.int 5))) tNil)) (tC (.int 2147483549))) (gName 6)) (t_law_draw_14 K A))
def t_law_draw_9 (K : PySem.W.Frag) (A : Ad) : TS := (tSeq (tIfS (tAnd (tTest (tOp oLt (tVar 3) (tCB (cLen K) (tCons (tOp (iIx K) (tVar 0) (tC (.int 0))) tNil)))) (tTest (tOp oGe (tCB cAbs (tCons (tVar 4) tNil)) (tOp oPow (tC (.int 10)) (tC (.int 18)))))) (t_law_draw_10 K A) tNext) (t_law_draw_13 K A))
def t_law_draw_7 (K : PySem.W.Frag) (A : Ad) : TS := (tSeq (tIfS (tTest (tOp (oNe K) (tOp (iIx K) (tVar 0) (tC (.int 0))) (tLst tNil))) (t_law_draw_8 K A) tNext) (t_law_draw_9 K A))
def t_law_draw_6 (K : PySem.W.Frag) (A : Ad) : TS := (tSeq (tAsg (tOp oAdd (tOp oMul (tC (.int 72367)) (tVar 3)) (tC (.int 1759))) (gName 4)) (t_law_draw_7 K A))
def t_law_draw_5 (K : PySem.W.Frag) (A : Ad) : TS := (tSeq (tAsg (tOp oAdd (tVar 3) (tC (.int 1))) (gSub (tVar 0) (tC (.int 1)) stL)) (t_law_draw_6 K A))
def t_law_draw_4 (K : PySem.W.Frag) (A : Ad) : TS := (tSeq (tAsg (tOp (iIx K) (tVar 0) (tC (.int 1))) (gName 3)) (t_law_draw_5 K A))
def t_law_draw_0 (K : PySem.W.Frag) (A : Ad) : TS := (tSeq (tIfS (tTest (tOp oGt (tOp (iIx K) (tVar 0) (tC (.int 2))) (tC (.int 0)))) (t_law_draw_1 K A) tNext) (t_law_draw_4 K A))

def t_law_pick_0 (K : PySem.W.Frag) (A : Ad) : TS := (tRet (tOp (iIx K) (tVar 1) (tCall (sp_law_draw K A) [] E0 (tCons (tVar 0) (tCons (tCB (cLen K) (tCons (tVar 1) tNil)) tNil)))))

theorem pure_law_pen {K : PySem.W.Frag} {A : Ad} {vs : List V} {H : Hp} {Q : VK} {E : XK} (h : sp_law_pen K A vs H Q E) : (t_law_pen_0 K A) { nx := fun _ H' => Q .non H', rt := Q } (start ["_law_script"] vs) H := by
  unfold sp_law_pen spPenL at h
  split at h
  · rename_i a
    obtain ⟨ns, hs, k⟩ := h
    show (t_law_pen_0 K A) _ [some (.ref a)] H
    refine st_ret ?_
    (refine evE ?P1 (fun Q h => ?h1) ?_; (case h1 => (simp only [tTest, tOp, tUn, tVar, tC, tCB, tCons, tNil, tAnd, tOr, tNot, tB, tTup, tLst, tIf, tAndV, tOrV, tNotV, tSl, tPart, tNoPart, tCall, iIx_ref, oGt_int, oMod_int, oFdiv_int, oAdd_int, oAdd_str, oSub_int, oMul_int, oLt_int, oGe_int, oLe_int, oPow_int, uNeg_int, oEq_int, oEq_str, oEq_bl, oNe_int, oNe_str, oNe_bl, cInt_int, cInt_bl, cAbs_int, cLen_ref, cList_ref, stL_ref, gName, gSub, gTup, gCons, gNil, rdSeq, List.getElem?_cons_zero, List.getElem?_cons_succ, List.set_cons_zero, List.set_cons_succ, List.cons_append, List.nil_append, Option.some.injEq, exists_eq_left', V.bl.injEq, V.int.injEq, V.ref.injEq, atI_0, atI_1, atI_2, setI_1, setI_2, Bool.not_true, Bool.not_false, Bool.false_eq_true, if_false, if_true, rSlL]; exact h)); (try dsimp only [gName, tNext, List.set_cons_zero, List.set_cons_succ]))
    refine ⟨a, _, rfl, hs, fun p hp => ?_⟩
    have e1 : cutV (ns.map V.int) none (some 63) = (ns.take 63).map V.int := by
      have e2 : HT.sIx (ns.map V.int).length (ns.map V.int).length (some 63) = min 63 (ns.map V.int).length := HT.sIx_nat _ _ 63
      unfold cutV
      rw [e2, HT.sIx_none, List.drop_zero, Nat.sub_zero, List.map_take, List.take_eq_take_iff]
      omega
    rw [e1, upd_same]
    intro l hl
    refine ⟨by show 3 ≤ sizeLine; decide, fun q hq => ?_⟩
    have hlp : l ≠ p := fun z => by rw [z, upd_same] at hl; cases hl
    have hlq : l ≠ q := fun z => by rw [← z, upd_same] at hq; cases hq
    refine k q l _ ⟨ns.take 63, 0, 0, upd_same, ?_, ?_, by decide, by decide, by decide⟩ (fun b o e => ?_) ?_
    · rw [upd_ne hlq, upd_same]
    · rw [List.length_take]; omega
    · have g1 : Grow H (upd H p (.lst ((ns.take 63).map V.int))) := Grow.new hp
      exact (g1.trans ((Grow.new hl).trans (Grow.new hq))) b o e
    · cases e : H q with
      | none => rfl
      | some o =>
        have g1 : Grow H (upd H p (.lst ((ns.take 63).map V.int))) := Grow.new hp
        rw [(g1.trans (Grow.new hl)) q o e] at hq
        cases hq
  · exact h.elim
theorem pure_law_draw {K : PySem.W.Frag} {A : Ad} {vs : List V} {H : Hp} {Q : VK} {E : XK} (h : sp_law_draw K A vs H Q E) : (t_law_draw_0 K A) { nx := fun _ H' => Q .non H', rt := Q } (start ["_law_pen_here", "_law_many", "_law_digit", "_law_at", "_law_cell", "_law_great", "_law_stirred"] vs) H := by
  unfold sp_law_draw spDrawL at h
  split at h
  · rename_i p many
    obtain ⟨l, n, ⟨cells, turn, rest, hp, hl, hc, ht0, ht1, hr0⟩, hn, hm0, hm1, k⟩ := h
    have k : ∀ (d turn' rest' : Int) (H' : Hp), 0 ≤ d → d < many → turn ≤ turn' → turn' ≤ turn + 1 → 0 ≤ rest' → H' p = some (.lst [.ref l, .int turn', .int rest']) → Keep p H H' → Q (.int d) H' := by
      intro d turn' rest' H' h1 h2 h3 h4 h5 h6 h7
      refine k d H' h1 h2 ⟨cells, turn', rest', h6, h7 l _ ?_ hl, hc, by omega, by omega, h5⟩ h7
      rintro rfl
      rw [hp] at hl
      cases cells <;> cases hl
    have ht1 : turn ≤ 1000000 := by omega
    show (t_law_draw_0 K A) _ [some (.ref p), some (.int many), none, none, none, none, none] H
    refine st_seq (st_if ?_)
    (refine evT ?P2 (fun Q h => ?h2) ?_; (case h2 => (simp only [tTest, tOp, tUn, tVar, tC, tCB, tCons, tNil, tAnd, tOr, tNot, tB, tTup, tLst, tIf, tAndV, tOrV, tNotV, tSl, tPart, tNoPart, tCall, iIx_ref, oGt_int, oMod_int, oFdiv_int, oAdd_int, oAdd_str, oSub_int, oMul_int, oLt_int, oGe_int, oLe_int, oPow_int, uNeg_int, oEq_int, oEq_str, oEq_bl, oNe_int, oNe_str, oNe_bl, cInt_int, cInt_bl, cAbs_int, cLen_ref, cList_ref, stL_ref, gName, gSub, gTup, gCons, gNil, rdSeq, List.getElem?_cons_zero, List.getElem?_cons_succ, List.set_cons_zero, List.set_cons_succ, List.cons_append, List.nil_append, Option.some.injEq, exists_eq_left', V.bl.injEq, V.int.injEq, V.ref.injEq, atI_0, atI_1, atI_2, setI_1, setI_2, Bool.not_true, Bool.not_false, Bool.false_eq_true, if_false, if_true, hp]; exact h)); (try dsimp only [gName, tNext, List.set_cons_zero, List.set_cons_succ]))
    refine ite_dec (fun hrest => ?_) (fun hrest => ?_)
    all_goals (try dsimp only [gName, tNext, List.set_cons_zero, List.set_cons_succ])
    · refine st_seq (st_asg ?_)
      (refine evE ?P3 (fun Q h => ?h3) ?_; (case h3 => (simp only [tTest, tOp, tUn, tVar, tC, tCB, tCons, tNil, tAnd, tOr, tNot, tB, tTup, tLst, tIf, tAndV, tOrV, tNotV, tSl, tPart, tNoPart, tCall, iIx_ref, oGt_int, oMod_int, oFdiv_int, oAdd_int, oAdd_str, oSub_int, oMul_int, oLt_int, oGe_int, oLe_int, oPow_int, uNeg_int, oEq_int, oEq_str, oEq_bl, oNe_int, oNe_str, oNe_bl, cInt_int, cInt_bl, cAbs_int, cLen_ref, cList_ref, stL_ref, gName, gSub, gTup, gCons, gNil, rdSeq, List.getElem?_cons_zero, List.getElem?_cons_succ, List.set_cons_zero, List.set_cons_succ, List.cons_append, List.nil_append, Option.some.injEq, exists_eq_left', V.bl.injEq, V.int.injEq, V.ref.injEq, atI_0, atI_1, atI_2, setI_1, setI_2, Bool.not_true, Bool.not_false, Bool.false_eq_true, if_false, if_true, hp]; exact h)); (try dsimp only [gName, tNext, List.set_cons_zero, List.set_cons_succ]))
      refine ⟨hm0, ?_⟩
      (try dsimp only [gName, tNext, List.set_cons_zero, List.set_cons_succ])
      refine st_seq (st_asg ?_)
      (refine evE ?P4 (fun Q h => ?h4) ?_; (case h4 => (simp only [tTest, tOp, tUn, tVar, tC, tCB, tCons, tNil, tAnd, tOr, tNot, tB, tTup, tLst, tIf, tAndV, tOrV, tNotV, tSl, tPart, tNoPart, tCall, iIx_ref, oGt_int, oMod_int, oFdiv_int, oAdd_int, oAdd_str, oSub_int, oMul_int, oLt_int, oGe_int, oLe_int, oPow_int, uNeg_int, oEq_int, oEq_str, oEq_bl, oNe_int, oNe_str, oNe_bl, cInt_int, cInt_bl, cAbs_int, cLen_ref, cList_ref, stL_ref, gName, gSub, gTup, gCons, gNil, rdSeq, List.getElem?_cons_zero, List.getElem?_cons_succ, List.set_cons_zero, List.set_cons_succ, List.cons_append, List.nil_append, Option.some.injEq, exists_eq_left', V.bl.injEq, V.int.injEq, V.ref.injEq, atI_0, atI_1, atI_2, setI_1, setI_2, Bool.not_true, Bool.not_false, Bool.false_eq_true, if_false, if_true, hp]; exact h)); (try dsimp only [gName, tNext, List.set_cons_zero, List.set_cons_succ]))
      refine ⟨⟨hm0, hm1⟩, ?_⟩
      (try dsimp only [gName, tNext, List.set_cons_zero, List.set_cons_succ])
      (refine evG ?P5 (fun Q h => ?h5) ?_; (case h5 => (simp only [tTest, tOp, tUn, tVar, tC, tCB, tCons, tNil, tAnd, tOr, tNot, tB, tTup, tLst, tIf, tAndV, tOrV, tNotV, tSl, tPart, tNoPart, tCall, iIx_ref, oGt_int, oMod_int, oFdiv_int, oAdd_int, oAdd_str, oSub_int, oMul_int, oLt_int, oGe_int, oLe_int, oPow_int, uNeg_int, oEq_int, oEq_str, oEq_bl, oNe_int, oNe_str, oNe_bl, cInt_int, cInt_bl, cAbs_int, cLen_ref, cList_ref, stL_ref, gName, gSub, gTup, gCons, gNil, rdSeq, List.getElem?_cons_zero, List.getElem?_cons_succ, List.set_cons_zero, List.set_cons_succ, List.cons_append, List.nil_append, Option.some.injEq, exists_eq_left', V.bl.injEq, V.int.injEq, V.ref.injEq, atI_0, atI_1, atI_2, setI_1, setI_2, Bool.not_true, Bool.not_false, Bool.false_eq_true, if_false, if_true, hp]; exact h)); (try dsimp only [gName, tNext, List.set_cons_zero, List.set_cons_succ]))
      refine st_ret ?_
      (refine evE ?P6 (fun Q h => ?h6) ?_; (case h6 => (simp only [tTest, tOp, tUn, tVar, tC, tCB, tCons, tNil, tAnd, tOr, tNot, tB, tTup, tLst, tIf, tAndV, tOrV, tNotV, tSl, tPart, tNoPart, tCall, iIx_ref, oGt_int, oMod_int, oFdiv_int, oAdd_int, oAdd_str, oSub_int, oMul_int, oLt_int, oGe_int, oLe_int, oPow_int, uNeg_int, oEq_int, oEq_str, oEq_bl, oNe_int, oNe_str, oNe_bl, cInt_int, cInt_bl, cAbs_int, cLen_ref, cList_ref, stL_ref, gName, gSub, gTup, gCons, gNil, rdSeq, List.getElem?_cons_zero, List.getElem?_cons_succ, List.set_cons_zero, List.set_cons_succ, List.cons_append, List.nil_append, Option.some.injEq, exists_eq_left', V.bl.injEq, V.int.injEq, V.ref.injEq, atI_0, atI_1, atI_2, setI_1, setI_2, Bool.not_true, Bool.not_false, Bool.false_eq_true, if_false, if_true]; exact h)); (try dsimp only [gName, tNext, List.set_cons_zero, List.set_cons_succ]))
      exact k _ turn _ _ (Int.emod_nonneg _ (by omega)) (Int.emod_lt_of_pos _ hm0) (by omega) (by omega) (Int.ediv_nonneg hr0 (by omega)) upd_same fun b o hb e => by rw [upd_ne hb]; exact e
    · refine st_seq (st_asg ?_)
      (refine evE ?P7 (fun Q h => ?h7) ?_; (case h7 => (simp only [tTest, tOp, tUn, tVar, tC, tCB, tCons, tNil, tAnd, tOr, tNot, tB, tTup, tLst, tIf, tAndV, tOrV, tNotV, tSl, tPart, tNoPart, tCall, iIx_ref, oGt_int, oMod_int, oFdiv_int, oAdd_int, oAdd_str, oSub_int, oMul_int, oLt_int, oGe_int, oLe_int, oPow_int, uNeg_int, oEq_int, oEq_str, oEq_bl, oNe_int, oNe_str, oNe_bl, cInt_int, cInt_bl, cAbs_int, cLen_ref, cList_ref, stL_ref, gName, gSub, gTup, gCons, gNil, rdSeq, List.getElem?_cons_zero, List.getElem?_cons_succ, List.set_cons_zero, List.set_cons_succ, List.cons_append, List.nil_append, Option.some.injEq, exists_eq_left', V.bl.injEq, V.int.injEq, V.ref.injEq, atI_0, atI_1, atI_2, setI_1, setI_2, Bool.not_true, Bool.not_false, Bool.false_eq_true, if_false, if_true, hp]; exact h)); (try dsimp only [gName, tNext, List.set_cons_zero, List.set_cons_succ]))
      refine st_seq (st_asg ?_)
      (refine evE ?P8 (fun Q h => ?h8) ?_; (case h8 => (simp only [tTest, tOp, tUn, tVar, tC, tCB, tCons, tNil, tAnd, tOr, tNot, tB, tTup, tLst, tIf, tAndV, tOrV, tNotV, tSl, tPart, tNoPart, tCall, iIx_ref, oGt_int, oMod_int, oFdiv_int, oAdd_int, oAdd_str, oSub_int, oMul_int, oLt_int, oGe_int, oLe_int, oPow_int, uNeg_int, oEq_int, oEq_str, oEq_bl, oNe_int, oNe_str, oNe_bl, cInt_int, cInt_bl, cAbs_int, cLen_ref, cList_ref, stL_ref, gName, gSub, gTup, gCons, gNil, rdSeq, List.getElem?_cons_zero, List.getElem?_cons_succ, List.set_cons_zero, List.set_cons_succ, List.cons_append, List.nil_append, Option.some.injEq, exists_eq_left', V.bl.injEq, V.int.injEq, V.ref.injEq, atI_0, atI_1, atI_2, setI_1, setI_2, Bool.not_true, Bool.not_false, Bool.false_eq_true, if_false, if_true, hp]; exact h)); (try dsimp only [gName, tNext, List.set_cons_zero, List.set_cons_succ]))
      (refine evG ?P9 (fun Q h => ?h9) ?_; (case h9 => (simp only [tTest, tOp, tUn, tVar, tC, tCB, tCons, tNil, tAnd, tOr, tNot, tB, tTup, tLst, tIf, tAndV, tOrV, tNotV, tSl, tPart, tNoPart, tCall, iIx_ref, oGt_int, oMod_int, oFdiv_int, oAdd_int, oAdd_str, oSub_int, oMul_int, oLt_int, oGe_int, oLe_int, oPow_int, uNeg_int, oEq_int, oEq_str, oEq_bl, oNe_int, oNe_str, oNe_bl, cInt_int, cInt_bl, cAbs_int, cLen_ref, cList_ref, stL_ref, gName, gSub, gTup, gCons, gNil, rdSeq, List.getElem?_cons_zero, List.getElem?_cons_succ, List.set_cons_zero, List.set_cons_succ, List.cons_append, List.nil_append, Option.some.injEq, exists_eq_left', V.bl.injEq, V.int.injEq, V.ref.injEq, atI_0, atI_1, atI_2, setI_1, setI_2, Bool.not_true, Bool.not_false, Bool.false_eq_true, if_false, if_true, hp]; exact h)); (try dsimp only [gName, tNext, List.set_cons_zero, List.set_cons_succ]))
      refine st_seq (st_asg ?_)
      (refine evE ?P10 (fun Q h => ?h10) ?_; (case h10 => (simp only [tTest, tOp, tUn, tVar, tC, tCB, tCons, tNil, tAnd, tOr, tNot, tB, tTup, tLst, tIf, tAndV, tOrV, tNotV, tSl, tPart, tNoPart, tCall, iIx_ref, oGt_int, oMod_int, oFdiv_int, oAdd_int, oAdd_str, oSub_int, oMul_int, oLt_int, oGe_int, oLe_int, oPow_int, uNeg_int, oEq_int, oEq_str, oEq_bl, oNe_int, oNe_str, oNe_bl, cInt_int, cInt_bl, cAbs_int, cLen_ref, cList_ref, stL_ref, gName, gSub, gTup, gCons, gNil, rdSeq, List.getElem?_cons_zero, List.getElem?_cons_succ, List.set_cons_zero, List.set_cons_succ, List.cons_append, List.nil_append, Option.some.injEq, exists_eq_left', V.bl.injEq, V.int.injEq, V.ref.injEq, atI_0, atI_1, atI_2, setI_1, setI_2, Bool.not_true, Bool.not_false, Bool.false_eq_true, if_false, if_true, hp]; exact h)); (try dsimp only [gName, tNext, List.set_cons_zero, List.set_cons_succ]))
      refine ⟨.of_left (intBits_le_64 (by omega) (by omega)), ?_⟩
      refine st_seq (st_if ?_)
      (refine evT ?P11 (fun Q h => ?h11) ?_; (case h11 => (simp only [tTest, tOp, tUn, tVar, tC, tCB, tCons, tNil, tAnd, tOr, tNot, tB, tTup, tLst, tIf, tAndV, tOrV, tNotV, tSl, tPart, tNoPart, tCall, iIx_ref, oGt_int, oMod_int, oFdiv_int, oAdd_int, oAdd_str, oSub_int, oMul_int, oLt_int, oGe_int, oLe_int, oPow_int, uNeg_int, oEq_int, oEq_str, oEq_bl, oNe_int, oNe_str, oNe_bl, cInt_int, cInt_bl, cAbs_int, cLen_ref, cList_ref, stL_ref, gName, gSub, gTup, gCons, gNil, rdSeq, List.getElem?_cons_zero, List.getElem?_cons_succ, List.set_cons_zero, List.set_cons_succ, List.cons_append, List.nil_append, Option.some.injEq, exists_eq_left', V.bl.injEq, V.int.injEq, V.ref.injEq, atI_0, atI_1, atI_2, setI_1, setI_2, Bool.not_true, Bool.not_false, Bool.false_eq_true, if_false, if_true, hp, upd_same]; exact h)); (try dsimp only [gName, tNext, List.set_cons_zero, List.set_cons_succ]))
      refine ⟨by decide, fun q hq => ?_⟩
      have npl : l ≠ p := by
        rintro rfl
        rw [hp] at hl
        cases cells <;> cases hl
      have hpq : q ≠ p := fun e => by rw [e, upd_same] at hq; cases hq
      have hq' : H q = none := by rw [upd_ne hpq] at hq; exact hq
      have hlq : l ≠ q := fun e => by rw [← e, hl] at hq'; cases hq'
      generalize hH2 : upd (upd H p (.lst [.ref l, .int (turn + 1), .int rest])) q (.lst []) = H2
      have h2p : H2 p = some (.lst [.ref l, .int (turn + 1), .int rest]) := by rw [← hH2, upd_ne hpq.symm, upd_same]
      have h2l : H2 l = some (.lst (cells.map V.int)) := by rw [← hH2, upd_ne hlq, upd_ne npl]; exact hl
      have h2q : H2 q = some (.lst []) := by rw [← hH2, upd_same]
      have k2 : Keep p H H2 := fun b o hb e => by
        rw [← hH2, upd_ne (fun z => by rw [z, hq'] at e; cases e), upd_ne hb]; exact e
      refine ne_nil h2l h2q ⟨_, rfl, ?_⟩
      have tail : ∀ cell : Int, t_law_draw_13 K A { nx := fun _ H' => Q .non H', rt := Q } [some (.ref p), some (.int many), none, some (.int turn), some (.int cell), none, none] H2 := by
        intro cell
        refine st_seq (st_asg ?_)
        (refine evE ?P12 (fun Q h => ?h12) ?_; (case h12 => (simp only [tTest, tOp, tUn, tVar, tC, tCB, tCons, tNil, tAnd, tOr, tNot, tB, tTup, tLst, tIf, tAndV, tOrV, tNotV, tSl, tPart, tNoPart, tCall, iIx_ref, oGt_int, oMod_int, oFdiv_int, oAdd_int, oAdd_str, oSub_int, oMul_int, oLt_int, oGe_int, oLe_int, oPow_int, uNeg_int, oEq_int, oEq_str, oEq_bl, oNe_int, oNe_str, oNe_bl, cInt_int, cInt_bl, cAbs_int, cLen_ref, cList_ref, stL_ref, gName, gSub, gTup, gCons, gNil, rdSeq, List.getElem?_cons_zero, List.getElem?_cons_succ, List.set_cons_zero, List.set_cons_succ, List.cons_append, List.nil_append, Option.some.injEq, exists_eq_left', V.bl.injEq, V.int.injEq, V.ref.injEq, atI_0, atI_1, atI_2, setI_1, setI_2, Bool.not_true, Bool.not_false, Bool.false_eq_true, if_false, if_true]; exact h)); (try dsimp only [gName, tNext, List.set_cons_zero, List.set_cons_succ]))
        have hx := mod_range (x := cell) (m := 2147483647) (by decide)
        refine ⟨by decide, mulok_left (by decide) (by decide), ⟨by decide, by decide, draw_pow1 hx.1 (by omega) ht0 ht1 (by decide) (by decide) (by decide) (by decide)⟩, by decide, ?_⟩
        (try dsimp only [gName, tNext, List.set_cons_zero, List.set_cons_succ])
        generalize hm : ((cell % 2147483647 + 52747 * turn + 1103) ^ Int.toNat 5 % 2147483549) = mixed
        have hmx : 0 ≤ mixed ∧ mixed < 2147483549 := by rw [← hm]; exact mod_range (by decide)
        refine st_seq (st_asg ?_)
        (refine evE ?P13 (fun Q h => ?h13) ?_; (case h13 => (simp only [tTest, tOp, tUn, tVar, tC, tCB, tCons, tNil, tAnd, tOr, tNot, tB, tTup, tLst, tIf, tAndV, tOrV, tNotV, tSl, tPart, tNoPart, tCall, iIx_ref, oGt_int, oMod_int, oFdiv_int, oAdd_int, oAdd_str, oSub_int, oMul_int, oLt_int, oGe_int, oLe_int, oPow_int, uNeg_int, oEq_int, oEq_str, oEq_bl, oNe_int, oNe_str, oNe_bl, cInt_int, cInt_bl, cAbs_int, cLen_ref, cList_ref, stL_ref, gName, gSub, gTup, gCons, gNil, rdSeq, List.getElem?_cons_zero, List.getElem?_cons_succ, List.set_cons_zero, List.set_cons_succ, List.cons_append, List.nil_append, Option.some.injEq, exists_eq_left', V.bl.injEq, V.int.injEq, V.ref.injEq, atI_0, atI_1, atI_2, setI_1, setI_2, Bool.not_true, Bool.not_false, Bool.false_eq_true, if_false, if_true]; exact h)); (try dsimp only [gName, tNext, List.set_cons_zero, List.set_cons_succ]))
        refine ⟨mulok_left (by decide) (by decide), mulok_left (by omega) (by omega), mulok_left (by decide) (by decide), draw_bt ht0 ht1 (by decide) (by decide), ⟨by decide, by decide, draw_pow2 hmx.1 (by omega) ht0 ht1 (by decide) (by decide) (by decide) (by decide) (by decide) (by decide)⟩, by decide, ?_⟩
        (try dsimp only [gName, tNext, List.set_cons_zero, List.set_cons_succ])
        refine st_ret ?_
        (refine evE ?P14 (fun Q h => ?h14) ?_; (case h14 => (simp only [tTest, tOp, tUn, tVar, tC, tCB, tCons, tNil, tAnd, tOr, tNot, tB, tTup, tLst, tIf, tAndV, tOrV, tNotV, tSl, tPart, tNoPart, tCall, iIx_ref, oGt_int, oMod_int, oFdiv_int, oAdd_int, oAdd_str, oSub_int, oMul_int, oLt_int, oGe_int, oLe_int, oPow_int, uNeg_int, oEq_int, oEq_str, oEq_bl, oNe_int, oNe_str, oNe_bl, cInt_int, cInt_bl, cAbs_int, cLen_ref, cList_ref, stL_ref, gName, gSub, gTup, gCons, gNil, rdSeq, List.getElem?_cons_zero, List.getElem?_cons_succ, List.set_cons_zero, List.set_cons_succ, List.cons_append, List.nil_append, Option.some.injEq, exists_eq_left', V.bl.injEq, V.int.injEq, V.ref.injEq, atI_0, atI_1, atI_2, setI_1, setI_2, Bool.not_true, Bool.not_false, Bool.false_eq_true, if_false, if_true]; exact h)); (try dsimp only [gName, tNext, List.set_cons_zero, List.set_cons_succ]))
        refine ⟨⟨by decide, by decide⟩, hm0, ?_⟩
        exact k _ (turn + 1) _ _ (mod_range hm0).1 (mod_range hm0).2 (by omega) (by omega) hr0 h2p k2
      -- both ways go on with a cell
      have go : ∀ cell : Int, t_law_draw_9 K A { nx := fun _ H' => Q .non H', rt := Q } [some (.ref p), some (.int many), none, some (.int turn), some (.int cell), none, none] H2 := by
        intro cell
        refine st_seq (st_if ?_)
        (refine evT ?P15 (fun Q h => ?h15) ?_; (case h15 => (simp only [tTest, tOp, tUn, tVar, tC, tCB, tCons, tNil, tAnd, tOr, tNot, tB, tTup, tLst, tIf, tAndV, tOrV, tNotV, tSl, tPart, tNoPart, tCall, iIx_ref, oGt_int, oMod_int, oFdiv_int, oAdd_int, oAdd_str, oSub_int, oMul_int, oLt_int, oGe_int, oLe_int, oPow_int, uNeg_int, oEq_int, oEq_str, oEq_bl, oNe_int, oNe_str, oNe_bl, cInt_int, cInt_bl, cAbs_int, cLen_ref, cList_ref, stL_ref, gName, gSub, gTup, gCons, gNil, rdSeq, List.getElem?_cons_zero, List.getElem?_cons_succ, List.set_cons_zero, List.set_cons_succ, List.cons_append, List.nil_append, Option.some.injEq, exists_eq_left', V.bl.injEq, V.int.injEq, V.ref.injEq, atI_0, atI_1, atI_2, setI_1, setI_2, Bool.not_true, Bool.not_false, Bool.false_eq_true, if_false, if_true, h2p, h2l]; exact h)); (try dsimp only [gName, tNext, List.set_cons_zero, List.set_cons_succ]))
        refine ite_dec (fun hc1 => ?_) (fun hc1 => ?_)
        all_goals (try dsimp only [gName, tNext, List.set_cons_zero, List.set_cons_succ])
        · refine ⟨⟨by decide, by decide, by decide⟩, ?_⟩
          refine ite_dec (fun hc2 => ?_) (fun hc2 => ?_)
          all_goals (try dsimp only [gName, tNext, List.set_cons_zero, List.set_cons_succ])
          · refine st_seq (st_asg ?_)
            (refine evE ?P16 (fun Q h => ?h16) ?_; (case h16 => (simp only [tTest, tOp, tUn, tVar, tC, tCB, tCons, tNil, tAnd, tOr, tNot, tB, tTup, tLst, tIf, tAndV, tOrV, tNotV, tSl, tPart, tNoPart, tCall, iIx_ref, oGt_int, oMod_int, oFdiv_int, oAdd_int, oAdd_str, oSub_int, oMul_int, oLt_int, oGe_int, oLe_int, oPow_int, uNeg_int, oEq_int, oEq_str, oEq_bl, oNe_int, oNe_str, oNe_bl, cInt_int, cInt_bl, cAbs_int, cLen_ref, cList_ref, stL_ref, gName, gSub, gTup, gCons, gNil, rdSeq, List.getElem?_cons_zero, List.getElem?_cons_succ, List.set_cons_zero, List.set_cons_succ, List.cons_append, List.nil_append, Option.some.injEq, exists_eq_left', V.bl.injEq, V.int.injEq, V.ref.injEq, atI_0, atI_1, atI_2, setI_1, setI_2, Bool.not_true, Bool.not_false, Bool.false_eq_true, if_false, if_true]; exact h)); (try dsimp only [gName, tNext, List.set_cons_zero, List.set_cons_succ]))
            refine ⟨⟨by decide, by decide, by decide⟩, mulok_left (by decide) (by decide), ?_⟩
            (try dsimp only [gName, tNext, List.set_cons_zero, List.set_cons_succ])
            refine st_seq (st_asg ?_)
            (refine evE ?P17 (fun Q h => ?h17) ?_; (case h17 => (simp only [tTest, tOp, tUn, tVar, tC, tCB, tCons, tNil, tAnd, tOr, tNot, tB, tTup, tLst, tIf, tAndV, tOrV, tNotV, tSl, tPart, tNoPart, tCall, iIx_ref, oGt_int, oMod_int, oFdiv_int, oAdd_int, oAdd_str, oSub_int, oMul_int, oLt_int, oGe_int, oLe_int, oPow_int, uNeg_int, oEq_int, oEq_str, oEq_bl, oNe_int, oNe_str, oNe_bl, cInt_int, cInt_bl, cAbs_int, cLen_ref, cList_ref, stL_ref, gName, gSub, gTup, gCons, gNil, rdSeq, List.getElem?_cons_zero, List.getElem?_cons_succ, List.set_cons_zero, List.set_cons_succ, List.cons_append, List.nil_append, Option.some.injEq, exists_eq_left', V.bl.injEq, V.int.injEq, V.ref.injEq, atI_0, atI_1, atI_2, setI_1, setI_2, Bool.not_true, Bool.not_false, Bool.false_eq_true, if_false, if_true]; exact h)); (try dsimp only [gName, tNext, List.set_cons_zero, List.set_cons_succ]))
            refine ⟨⟨hm0, hm1⟩, ?_⟩
            (refine evG ?P18 (fun Q h => ?h18) ?_; (case h18 => (simp only [tTest, tOp, tUn, tVar, tC, tCB, tCons, tNil, tAnd, tOr, tNot, tB, tTup, tLst, tIf, tAndV, tOrV, tNotV, tSl, tPart, tNoPart, tCall, iIx_ref, oGt_int, oMod_int, oFdiv_int, oAdd_int, oAdd_str, oSub_int, oMul_int, oLt_int, oGe_int, oLe_int, oPow_int, uNeg_int, oEq_int, oEq_str, oEq_bl, oNe_int, oNe_str, oNe_bl, cInt_int, cInt_bl, cAbs_int, cLen_ref, cList_ref, stL_ref, gName, gSub, gTup, gCons, gNil, rdSeq, List.getElem?_cons_zero, List.getElem?_cons_succ, List.set_cons_zero, List.set_cons_succ, List.cons_append, List.nil_append, Option.some.injEq, exists_eq_left', V.bl.injEq, V.int.injEq, V.ref.injEq, atI_0, atI_1, atI_2, setI_1, setI_2, Bool.not_true, Bool.not_false, Bool.false_eq_true, if_false, if_true, h2p]; exact h)); (try dsimp only [gName, tNext, List.set_cons_zero, List.set_cons_succ]))
            refine st_ret ?_
            (refine evE ?P19 (fun Q h => ?h19) ?_; (case h19 => (simp only [tTest, tOp, tUn, tVar, tC, tCB, tCons, tNil, tAnd, tOr, tNot, tB, tTup, tLst, tIf, tAndV, tOrV, tNotV, tSl, tPart, tNoPart, tCall, iIx_ref, oGt_int, oMod_int, oFdiv_int, oAdd_int, oAdd_str, oSub_int, oMul_int, oLt_int, oGe_int, oLe_int, oPow_int, uNeg_int, oEq_int, oEq_str, oEq_bl, oNe_int, oNe_str, oNe_bl, cInt_int, cInt_bl, cAbs_int, cLen_ref, cList_ref, stL_ref, gName, gSub, gTup, gCons, gNil, rdSeq, List.getElem?_cons_zero, List.getElem?_cons_succ, List.set_cons_zero, List.set_cons_succ, List.cons_append, List.nil_append, Option.some.injEq, exists_eq_left', V.bl.injEq, V.int.injEq, V.ref.injEq, atI_0, atI_1, atI_2, setI_1, setI_2, Bool.not_true, Bool.not_false, Bool.false_eq_true, if_false, if_true]; exact h)); (try dsimp only [gName, tNext, List.set_cons_zero, List.set_cons_succ]))
            refine ⟨hm0, ?_⟩
            refine k _ (turn + 1) _ _ (mod_range hm0).1 (mod_range hm0).2 (by omega) (by omega) (Int.ediv_nonneg ?_ (by omega)) upd_same fun b o hb e => by rw [upd_ne hb]; exact k2 b o hb e
            have e18 : (10 : Int) ^ Int.toNat 18 = 1000000000000000000 := by decide
            rw [e18] at hc2 ⊢
            split <;> split at hc2 <;> split <;> omega
          · exact tail cell
        · exact tail cell
      refine ite_b (fun hb => ?_) (fun _ => go _)
      refine st_asg ?_
      have hne : cells ≠ [] := by
        rintro rfl
        cases hb
      have hpos : 0 < cells.length := List.length_pos_iff.mpr hne
      have hi : turn % (cells.length : Int) < cells.length := (mod_range (by omega)).2
      have hi0 : 0 ≤ turn % (cells.length : Int) := (mod_range (by omega)).1
      have hat : atI (cells.map V.int) (turn % ((cells.map V.int).length : Int)) = some (.int (cells.getD (turn % (cells.length : Int)).toNat 0)) := by
        refine atI_nat' (by rw [List.length_map]; exact hi0) ?_
        rw [List.length_map, List.getElem?_map, List.getD_eq_getElem?_getD, List.getElem?_eq_getElem (by omega)]
        rfl
      (refine evE ?P20 (fun Q h => ?h20) ?_; (case h20 => (simp only [tTest, tOp, tUn, tVar, tC, tCB, tCons, tNil, tAnd, tOr, tNot, tB, tTup, tLst, tIf, tAndV, tOrV, tNotV, tSl, tPart, tNoPart, tCall, iIx_ref, oGt_int, oMod_int, oFdiv_int, oAdd_int, oAdd_str, oSub_int, oMul_int, oLt_int, oGe_int, oLe_int, oPow_int, uNeg_int, oEq_int, oEq_str, oEq_bl, oNe_int, oNe_str, oNe_bl, cInt_int, cInt_bl, cAbs_int, cLen_ref, cList_ref, stL_ref, gName, gSub, gTup, gCons, gNil, rdSeq, List.getElem?_cons_zero, List.getElem?_cons_succ, List.set_cons_zero, List.set_cons_succ, List.cons_append, List.nil_append, Option.some.injEq, exists_eq_left', V.bl.injEq, V.int.injEq, V.ref.injEq, atI_0, atI_1, atI_2, setI_1, setI_2, Bool.not_true, Bool.not_false, Bool.false_eq_true, if_false, if_true, h2p, h2l, hat]; exact h)); (try dsimp only [gName, tNext, List.set_cons_zero, List.set_cons_succ]))
      refine ⟨by rw [List.length_map]; omega, ?_⟩
      exact go _
  · exact h.elim
theorem pure_law_pick {K : PySem.W.Frag} {A : Ad} {vs : List V} {H : Hp} {Q : VK} {E : XK} (h : sp_law_pick K A vs H Q E) : (t_law_pick_0 K A) { nx := fun _ H' => Q .non H', rt := Q } (start ["_law_pen_here", "_law_some"] vs) H := by
  unfold sp_law_pick spPickL at h
  split at h
  · rename_i p s
    obtain ⟨l, n, xs, hp, hn, hs, hsp, hx, hl, k⟩ := h
    show (t_law_pick_0 K A) _ [some (.ref p), some (.ref s)] H
    refine st_ret ?_
    (refine evE ?P21 (fun Q h => ?h21) ?_; (case h21 => (simp only [tTest, tOp, tUn, tVar, tC, tCB, tCons, tNil, tAnd, tOr, tNot, tB, tTup, tLst, tIf, tAndV, tOrV, tNotV, tSl, tPart, tNoPart, tCall, iIx_ref, oGt_int, oMod_int, oFdiv_int, oAdd_int, oAdd_str, oSub_int, oMul_int, oLt_int, oGe_int, oLe_int, oPow_int, uNeg_int, oEq_int, oEq_str, oEq_bl, oNe_int, oNe_str, oNe_bl, cInt_int, cInt_bl, cAbs_int, cLen_ref, cList_ref, stL_ref, gName, gSub, gTup, gCons, gNil, rdSeq, List.getElem?_cons_zero, List.getElem?_cons_succ, List.set_cons_zero, List.set_cons_succ, List.cons_append, List.nil_append, Option.some.injEq, exists_eq_left', V.bl.injEq, V.int.injEq, V.ref.injEq, atI_0, atI_1, atI_2, setI_1, setI_2, Bool.not_true, Bool.not_false, Bool.false_eq_true, if_false, if_true, hs]; exact h)); (try dsimp only [gName, tNext, List.set_cons_zero, List.set_cons_succ]))
    have hpos : 0 < xs.length := List.length_pos_iff.mpr hx
    refine ⟨l, n, hp, hn, by omega, log_small (by omega) (by omega), fun d H' h0 h1 hp' kp => ?_⟩
    have e : atI xs d = some xs[d.toNat] := atI_nat' h0 (List.getElem?_eq_getElem (by omega))
    have hs' := kp s _ hsp hs
    simp only [tTest, tOp, tUn, tVar, tC, tCB, tCons, tNil, tAnd, tOr, tNot, tB, tTup, tLst, tIf, tAndV, tOrV, tNotV, tSl, tPart, tNoPart, tCall, iIx_ref, oGt_int, oMod_int, oFdiv_int, oAdd_int, oAdd_str, oSub_int, oMul_int, oLt_int, oGe_int, oLe_int, oPow_int, uNeg_int, oEq_int, oEq_str, oEq_bl, oNe_int, oNe_str, oNe_bl, cInt_int, cInt_bl, cAbs_int, cLen_ref, cList_ref, stL_ref, gName, gSub, gTup, gCons, gNil, rdSeq, List.getElem?_cons_zero, List.getElem?_cons_succ, List.set_cons_zero, List.set_cons_succ, List.cons_append, List.nil_append, Option.some.injEq, exists_eq_left', V.bl.injEq, V.int.injEq, V.ref.injEq, atI_0, atI_1, atI_2, setI_1, setI_2, Bool.not_true, Bool.not_false, Bool.false_eq_true, if_false, if_true, hs', e]
    exact k _ _ (List.getElem_mem _) hp' kp
  · exact h.elim

/-! ### rows of letters -/
theorem kit_sts {K : PySem.W.Frag} : PySem.W.kitOne K (.type "str") (.type "str") = some true := kit_ty (by decide +kernel)
theorem kit_dd {K : PySem.W.Frag} : PySem.W.kitOne K (.type "dict") (.type "dict") = some true := kit_ty (by decide +kernel)
abbrev abc : Str := "abcdefghijklmnopqrstuvwxyz"
def rowB (x : Str) (n : Int) : Bool := decide ((x.length : Int) ≤ n) && (List.range x.cps.size).all fun j => decide (x.cps.getD j 0 ∈ abc.cps.toList)
def sp_is_row_checks (K : PySem.W.Frag) (A : Ad) : Sp := fun vs H Q _ => match vs with
  | [.str x, .int n] => x.length ≤ sizeLine ∧ ∀ H', Grow H H' → Q (.bl (rowB x n)) H'
  | _ => False
def t_is_row_checks_1 (K : PySem.W.Frag) (A : Ad) : TS := (tRet (tC (.bl false)))
def t_is_row_checks_2 (K : PySem.W.Frag) (A : Ad) : TS := (tRet (tCB (cAll K) (tCons (tLc (iStr (tVar 0)) (gName 2) tYes (tOp rInS (tVar 2) (tC (.str "abcdefghijklmnopqrstuvwxyz"))) [2]) tNil)))
def t_is_row_checks_0 (K : PySem.W.Frag) (A : Ad) : TS := (tSeq (tIfS (tOr (tNot (tB (tCB (cIsi K) (tCons (tVar 0) (tCons (tC (.ty "str")) tNil))))) (tTest (tOp oGt (tCB (cLen K) (tCons (tVar 0) tNil)) (tVar 1)))) (t_is_row_checks_1 K A) tNext) (t_is_row_checks_2 K A))

theorem pure_is_row_checks {K : PySem.W.Frag} {A : Ad} {vs : List V} {H : Hp} {Q : VK} {E : XK} (h : sp_is_row_checks K A vs H Q E) : (t_is_row_checks_0 K A) { nx := fun _ H' => Q .non H', rt := Q } (start ["value", "longest", "sign"] vs) H := by
  unfold sp_is_row_checks at h
  split at h
  · rename_i x n
    obtain ⟨hx, k⟩ := h
    show (t_is_row_checks_0 K A) _ [some (.str x), some (.int n), none] H
    refine st_seq (st_if ?_)
    (refine evT ?P22 (fun Q h => ?h22) ?_; (case h22 => (simp only [tTest, tOp, tUn, tVar, tC, tCB, tCons, tNil, tAnd, tOr, tNot, tB, tTup, tLst, tIf, tAndV, tOrV, tNotV, tSl, tPart, tNoPart, tCall, iIx_ref, oGt_int, oMod_int, oFdiv_int, oAdd_int, oAdd_str, oSub_int, oMul_int, oLt_int, oGe_int, oLe_int, oPow_int, uNeg_int, oEq_int, oEq_str, oEq_bl, oNe_int, oNe_str, oNe_bl, cInt_int, cInt_bl, cAbs_int, cLen_ref, cList_ref, stL_ref, gName, gSub, gTup, gCons, gNil, rdSeq, List.getElem?_cons_zero, List.getElem?_cons_succ, List.set_cons_zero, List.set_cons_succ, List.cons_append, List.nil_append, Option.some.injEq, exists_eq_left', V.bl.injEq, V.int.injEq, V.ref.injEq, atI_0, atI_1, atI_2, setI_1, setI_2, Bool.not_true, Bool.not_false, Bool.false_eq_true, if_false, if_true, cIsi, tyF, kit_sts, tyOk, true_and, cLen]; exact h)); (try dsimp only [gName, tNext, List.set_cons_zero, List.set_cons_succ]))
    refine ⟨hx, ?_⟩
    by_cases hn : n < (x.length : Int)
    · rw [decide_eq_true hn]
      (refine if_yes ?_; (try dsimp only [gName, tNext, List.set_cons_zero, List.set_cons_succ]))
      refine st_ret ?_
      (refine evE ?P23 (fun Q h => ?h23) ?_; (case h23 => (simp only [tTest, tOp, tUn, tVar, tC, tCB, tCons, tNil, tAnd, tOr, tNot, tB, tTup, tLst, tIf, tAndV, tOrV, tNotV, tSl, tPart, tNoPart, tCall, iIx_ref, oGt_int, oMod_int, oFdiv_int, oAdd_int, oAdd_str, oSub_int, oMul_int, oLt_int, oGe_int, oLe_int, oPow_int, uNeg_int, oEq_int, oEq_str, oEq_bl, oNe_int, oNe_str, oNe_bl, cInt_int, cInt_bl, cAbs_int, cLen_ref, cList_ref, stL_ref, gName, gSub, gTup, gCons, gNil, rdSeq, List.getElem?_cons_zero, List.getElem?_cons_succ, List.set_cons_zero, List.set_cons_succ, List.cons_append, List.nil_append, Option.some.injEq, exists_eq_left', V.bl.injEq, V.int.injEq, V.ref.injEq, atI_0, atI_1, atI_2, setI_1, setI_2, Bool.not_true, Bool.not_false, Bool.false_eq_true, if_false, if_true]; exact h)); (try dsimp only [gName, tNext, List.set_cons_zero, List.set_cons_succ]))
      have e : rowB x n = false := by unfold rowB; rw [decide_eq_false (by omega)]; rfl
      rw [e] at k
      exact k _ .refl
    · rw [decide_eq_false hn]
      (refine if_no ?_; (try dsimp only [gName, tNext, List.set_cons_zero, List.set_cons_succ]))
      refine st_ret ?_
      (refine evE ?P29 (fun Q h => ?h29) ?_; (case h29 => (simp only [tTest, tOp, tUn, tVar, tC, tCB, tCons, tNil, tAnd, tOr, tNot, tB, tTup, tLst, tIf, tAndV, tOrV, tNotV, tSl, tPart, tNoPart, tCall, iIx_ref, oGt_int, oMod_int, oFdiv_int, oAdd_int, oAdd_str, oSub_int, oMul_int, oLt_int, oGe_int, oLe_int, oPow_int, uNeg_int, oEq_int, oEq_str, oEq_bl, oNe_int, oNe_str, oNe_bl, cInt_int, cInt_bl, cAbs_int, cLen_ref, cList_ref, stL_ref, gName, gSub, gTup, gCons, gNil, rdSeq, List.getElem?_cons_zero, List.getElem?_cons_succ, List.set_cons_zero, List.set_cons_succ, List.cons_append, List.nil_append, Option.some.injEq, exists_eq_left', V.bl.injEq, V.int.injEq, V.ref.injEq, atI_0, atI_1, atI_2, setI_1, setI_2, Bool.not_true, Bool.not_false, Bool.false_eq_true, if_false, if_true]; exact h)))
      refine lc_ev ?_
      unfold iStr
      (refine evE ?P30 (fun Q h => ?h30) ?_; (case h30 => (simp only [tTest, tOp, tUn, tVar, tC, tCB, tCons, tNil, tAnd, tOr, tNot, tB, tTup, tLst, tIf, tAndV, tOrV, tNotV, tSl, tPart, tNoPart, tCall, iIx_ref, oGt_int, oMod_int, oFdiv_int, oAdd_int, oAdd_str, oSub_int, oMul_int, oLt_int, oGe_int, oLe_int, oPow_int, uNeg_int, oEq_int, oEq_str, oEq_bl, oNe_int, oNe_str, oNe_bl, cInt_int, cInt_bl, cAbs_int, cLen_ref, cList_ref, stL_ref, gName, gSub, gTup, gCons, gNil, rdSeq, List.getElem?_cons_zero, List.getElem?_cons_succ, List.set_cons_zero, List.set_cons_succ, List.cons_append, List.nil_append, Option.some.injEq, exists_eq_left', V.bl.injEq, V.int.injEq, V.ref.injEq, atI_0, atI_1, atI_2, setI_1, setI_2, Bool.not_true, Bool.not_false, Bool.false_eq_true, if_false, if_true]; exact h)))
      refine ⟨x, rfl, ?_⟩
      refine lc_mapR jok_text (fun j => .bl (decide (x.cps.getD j 0 ∈ abc.cps.toList))) hx (fun j hj v H' g' hv R hR => ?_) (fun D H1 h1 hD hd => ?_) (by exact fun x => rfl)
      · obtain ⟨c, hc, rfl⟩ := hv
        (refine evE ?P24 (fun Q h => ?h24) ?_; (case h24 => (simp only [tTest, tOp, tUn, tVar, tC, tCB, tCons, tNil, tAnd, tOr, tNot, tB, tTup, tLst, tIf, tAndV, tOrV, tNotV, tSl, tPart, tNoPart, tCall, iIx_ref, oGt_int, oMod_int, oFdiv_int, oAdd_int, oAdd_str, oSub_int, oMul_int, oLt_int, oGe_int, oLe_int, oPow_int, uNeg_int, oEq_int, oEq_str, oEq_bl, oNe_int, oNe_str, oNe_bl, cInt_int, cInt_bl, cAbs_int, cLen_ref, cList_ref, stL_ref, gName, gSub, gTup, gCons, gNil, rdSeq, List.getElem?_cons_zero, List.getElem?_cons_succ, List.set_cons_zero, List.set_cons_succ, List.cons_append, List.nil_append, Option.some.injEq, exists_eq_left', V.bl.injEq, V.int.injEq, V.ref.injEq, atI_0, atI_1, atI_2, setI_1, setI_2, Bool.not_true, Bool.not_false, Bool.false_eq_true, if_false, if_true, wipe, rInS]; exact h)); (try dsimp only [gName, tNext, List.set_cons_zero, List.set_cons_succ]))
        refine ⟨c, _, rfl, rfl, ?_⟩
        have e : x.cps.getD j 0 = c := by rw [Array.getD_eq_getD_getElem?, hc]; rfl
        rw [e] at hR
        exact hR _ .refl
      simp only [tTest, tOp, tUn, tVar, tC, tCB, tCons, tNil, tAnd, tOr, tNot, tB, tTup, tLst, tIf, tAndV, tOrV, tNotV, tSl, tPart, tNoPart, tCall, iIx_ref, oGt_int, oMod_int, oFdiv_int, oAdd_int, oAdd_str, oSub_int, oMul_int, oLt_int, oGe_int, oLe_int, oPow_int, uNeg_int, oEq_int, oEq_str, oEq_bl, oNe_int, oNe_str, oNe_bl, cInt_int, cInt_bl, cAbs_int, cLen_ref, cList_ref, stL_ref, gName, gSub, gTup, gCons, gNil, rdSeq, List.getElem?_cons_zero, List.getElem?_cons_succ, List.set_cons_zero, List.set_cons_succ, List.cons_append, List.nil_append, Option.some.injEq, exists_eq_left', V.bl.injEq, V.int.injEq, V.ref.injEq, atI_0, atI_1, atI_2, setI_1, setI_2, Bool.not_true, Bool.not_false, Bool.false_eq_true, if_false, if_true]
      refine ⟨D, (List.range x.cps.size).map fun j => decide (x.cps.getD j 0 ∈ abc.cps.toList), rfl, ?_, ?_⟩
      · rw [hd, List.map_map]
        rfl
      · have e : rowB x n = ((List.range x.cps.size).map fun j => decide (x.cps.getD j 0 ∈ abc.cps.toList)).all id := by
          unfold rowB
          rw [decide_eq_true (by omega), List.all_map]
          rfl
        rw [← e]
        exact k _ h1
  · exact h.elim
def sp_is_letter (K : PySem.W.Frag) (A : Ad) : Sp := fun vs H Q _ => match vs with
  | [.str x] => x.length ≤ sizeLine ∧ ∀ H', Grow H H' → Q (.bl (rowB x 1 && !decide (x = Str.empty))) H'
  | _ => False
def sp_is_text (K : PySem.W.Frag) (A : Ad) : Sp := fun vs H Q _ => match vs with
  | [.str x] => x.length ≤ sizeLine ∧ ∀ H', Grow H H' → Q (.bl (rowB x 400)) H'
  | _ => False
def sp_is_answer (K : PySem.W.Frag) (A : Ad) : Sp := fun vs H Q _ => match vs with
  | [.str x] => x.length ≤ sizeLine ∧ ∀ H', Grow H H' → Q (.bl (rowB x 4)) H'
  | _ => False
def sp_is_name (K : PySem.W.Frag) (A : Ad) : Sp := fun vs H Q _ => match vs with
  | [.str x] => x.length ≤ sizeLine ∧ ∀ H', Grow H H' → Q (.bl (rowB x 8 && !decide (x = Str.empty))) H'
  | _ => False
def t_is_letter_0 (K : PySem.W.Frag) (A : Ad) : TS := (tRet (tAndV (tCall (sp_is_row_checks K A) [] E0 (tCons (tVar 0) (tCons (tC (.int 1)) tNil))) (tOp (oNe K) (tVar 0) (tC (.str "")))))

def t_is_text_0 (K : PySem.W.Frag) (A : Ad) : TS := (tRet (tCall (sp_is_row_checks K A) [] E0 (tCons (tVar 0) (tCons (tC (.int 400)) tNil))))

def t_is_answer_0 (K : PySem.W.Frag) (A : Ad) : TS := (tRet (tCall (sp_is_row_checks K A) [] E0 (tCons (tVar 0) (tCons (tC (.int 4)) tNil))))

def t_is_name_0 (K : PySem.W.Frag) (A : Ad) : TS := (tRet (tAndV (tCall (sp_is_row_checks K A) [] E0 (tCons (tVar 0) (tCons (tC (.int 8)) tNil))) (tOp (oNe K) (tVar 0) (tC (.str "")))))

theorem pure_is_text {K : PySem.W.Frag} {A : Ad} {vs : List V} {H : Hp} {Q : VK} {E : XK} (h : sp_is_text K A vs H Q E) : (t_is_text_0 K A) { nx := fun _ H' => Q .non H', rt := Q } (start ["value"] vs) H := by
  unfold sp_is_text at h
  split at h
  · rename_i x
    show (t_is_text_0 K A) _ [some (.str x)] H
    refine st_ret ?_
    (refine evE ?P25 (fun Q h => ?h25) ?_; (case h25 => (simp only [tTest, tOp, tUn, tVar, tC, tCB, tCons, tNil, tAnd, tOr, tNot, tB, tTup, tLst, tIf, tAndV, tOrV, tNotV, tSl, tPart, tNoPart, tCall, iIx_ref, oGt_int, oMod_int, oFdiv_int, oAdd_int, oAdd_str, oSub_int, oMul_int, oLt_int, oGe_int, oLe_int, oPow_int, uNeg_int, oEq_int, oEq_str, oEq_bl, oNe_int, oNe_str, oNe_bl, cInt_int, cInt_bl, cAbs_int, cLen_ref, cList_ref, stL_ref, gName, gSub, gTup, gCons, gNil, rdSeq, List.getElem?_cons_zero, List.getElem?_cons_succ, List.set_cons_zero, List.set_cons_succ, List.cons_append, List.nil_append, Option.some.injEq, exists_eq_left', V.bl.injEq, V.int.injEq, V.ref.injEq, atI_0, atI_1, atI_2, setI_1, setI_2, Bool.not_true, Bool.not_false, Bool.false_eq_true, if_false, if_true]; exact h)); (try dsimp only [gName, tNext, List.set_cons_zero, List.set_cons_succ]))
    exact h
  · exact h.elim
theorem pure_is_answer {K : PySem.W.Frag} {A : Ad} {vs : List V} {H : Hp} {Q : VK} {E : XK} (h : sp_is_answer K A vs H Q E) : (t_is_answer_0 K A) { nx := fun _ H' => Q .non H', rt := Q } (start ["value"] vs) H := by
  unfold sp_is_answer at h
  split at h
  · rename_i x
    show (t_is_answer_0 K A) _ [some (.str x)] H
    refine st_ret ?_
    (refine evE ?P26 (fun Q h => ?h26) ?_; (case h26 => (simp only [tTest, tOp, tUn, tVar, tC, tCB, tCons, tNil, tAnd, tOr, tNot, tB, tTup, tLst, tIf, tAndV, tOrV, tNotV, tSl, tPart, tNoPart, tCall, iIx_ref, oGt_int, oMod_int, oFdiv_int, oAdd_int, oAdd_str, oSub_int, oMul_int, oLt_int, oGe_int, oLe_int, oPow_int, uNeg_int, oEq_int, oEq_str, oEq_bl, oNe_int, oNe_str, oNe_bl, cInt_int, cInt_bl, cAbs_int, cLen_ref, cList_ref, stL_ref, gName, gSub, gTup, gCons, gNil, rdSeq, List.getElem?_cons_zero, List.getElem?_cons_succ, List.set_cons_zero, List.set_cons_succ, List.cons_append, List.nil_append, Option.some.injEq, exists_eq_left', V.bl.injEq, V.int.injEq, V.ref.injEq, atI_0, atI_1, atI_2, setI_1, setI_2, Bool.not_true, Bool.not_false, Bool.false_eq_true, if_false, if_true]; exact h)); (try dsimp only [gName, tNext, List.set_cons_zero, List.set_cons_succ]))
    exact h
  · exact h.elim
theorem pure_is_letter {K : PySem.W.Frag} {A : Ad} {vs : List V} {H : Hp} {Q : VK} {E : XK} (h : sp_is_letter K A vs H Q E) : (t_is_letter_0 K A) { nx := fun _ H' => Q .non H', rt := Q } (start ["value"] vs) H := by
  unfold sp_is_letter at h
  split at h
  · rename_i x
    obtain ⟨hx, k⟩ := h
    show (t_is_letter_0 K A) _ [some (.str x)] H
    refine st_ret ?_
    (refine evE ?P27 (fun Q h => ?h27) ?_; (case h27 => (simp only [tTest, tOp, tUn, tVar, tC, tCB, tCons, tNil, tAnd, tOr, tNot, tB, tTup, tLst, tIf, tAndV, tOrV, tNotV, tSl, tPart, tNoPart, tCall, iIx_ref, oGt_int, oMod_int, oFdiv_int, oAdd_int, oAdd_str, oSub_int, oMul_int, oLt_int, oGe_int, oLe_int, oPow_int, uNeg_int, oEq_int, oEq_str, oEq_bl, oNe_int, oNe_str, oNe_bl, cInt_int, cInt_bl, cAbs_int, cLen_ref, cList_ref, stL_ref, gName, gSub, gTup, gCons, gNil, rdSeq, List.getElem?_cons_zero, List.getElem?_cons_succ, List.set_cons_zero, List.set_cons_succ, List.cons_append, List.nil_append, Option.some.injEq, exists_eq_left', V.bl.injEq, V.int.injEq, V.ref.injEq, atI_0, atI_1, atI_2, setI_1, setI_2, Bool.not_true, Bool.not_false, Bool.false_eq_true, if_false, if_true]; exact h)); (try dsimp only [gName, tNext, List.set_cons_zero, List.set_cons_succ]))
    refine ⟨hx, fun H' g => ?_⟩
    refine ⟨_, rfl, ?_⟩
    have kk := k H' g
    cases e : rowB x 1 with
    | false =>
      rw [e] at kk
      exact kk
    | true =>
      rw [e] at kk
      simp only [tTest, tOp, tUn, tVar, tC, tCB, tCons, tNil, tAnd, tOr, tNot, tB, tTup, tLst, tIf, tAndV, tOrV, tNotV, tSl, tPart, tNoPart, tCall, iIx_ref, oGt_int, oMod_int, oFdiv_int, oAdd_int, oAdd_str, oSub_int, oMul_int, oLt_int, oGe_int, oLe_int, oPow_int, uNeg_int, oEq_int, oEq_str, oEq_bl, oNe_int, oNe_str, oNe_bl, cInt_int, cInt_bl, cAbs_int, cLen_ref, cList_ref, stL_ref, gName, gSub, gTup, gCons, gNil, rdSeq, List.getElem?_cons_zero, List.getElem?_cons_succ, List.set_cons_zero, List.set_cons_succ, List.cons_append, List.nil_append, Option.some.injEq, exists_eq_left', V.bl.injEq, V.int.injEq, V.ref.injEq, atI_0, atI_1, atI_2, setI_1, setI_2, Bool.not_true, Bool.not_false, Bool.false_eq_true, if_false, if_true]
      exact kk
  · exact h.elim
theorem pure_is_name {K : PySem.W.Frag} {A : Ad} {vs : List V} {H : Hp} {Q : VK} {E : XK} (h : sp_is_name K A vs H Q E) : (t_is_name_0 K A) { nx := fun _ H' => Q .non H', rt := Q } (start ["value"] vs) H := by
  unfold sp_is_name at h
  split at h
  · rename_i x
    obtain ⟨hx, k⟩ := h
    show (t_is_name_0 K A) _ [some (.str x)] H
    refine st_ret ?_
    (refine evE ?P28 (fun Q h => ?h28) ?_; (case h28 => (simp only [tTest, tOp, tUn, tVar, tC, tCB, tCons, tNil, tAnd, tOr, tNot, tB, tTup, tLst, tIf, tAndV, tOrV, tNotV, tSl, tPart, tNoPart, tCall, iIx_ref, oGt_int, oMod_int, oFdiv_int, oAdd_int, oAdd_str, oSub_int, oMul_int, oLt_int, oGe_int, oLe_int, oPow_int, uNeg_int, oEq_int, oEq_str, oEq_bl, oNe_int, oNe_str, oNe_bl, cInt_int, cInt_bl, cAbs_int, cLen_ref, cList_ref, stL_ref, gName, gSub, gTup, gCons, gNil, rdSeq, List.getElem?_cons_zero, List.getElem?_cons_succ, List.set_cons_zero, List.set_cons_succ, List.cons_append, List.nil_append, Option.some.injEq, exists_eq_left', V.bl.injEq, V.int.injEq, V.ref.injEq, atI_0, atI_1, atI_2, setI_1, setI_2, Bool.not_true, Bool.not_false, Bool.false_eq_true, if_false, if_true]; exact h)); (try dsimp only [gName, tNext, List.set_cons_zero, List.set_cons_succ]))
    refine ⟨hx, fun H' g => ?_⟩
    refine ⟨_, rfl, ?_⟩
    have kk := k H' g
    cases e : rowB x 8 with
    | false =>
      rw [e] at kk
      exact kk
    | true =>
      rw [e] at kk
      simp only [tTest, tOp, tUn, tVar, tC, tCB, tCons, tNil, tAnd, tOr, tNot, tB, tTup, tLst, tIf, tAndV, tOrV, tNotV, tSl, tPart, tNoPart, tCall, iIx_ref, oGt_int, oMod_int, oFdiv_int, oAdd_int, oAdd_str, oSub_int, oMul_int, oLt_int, oGe_int, oLe_int, oPow_int, uNeg_int, oEq_int, oEq_str, oEq_bl, oNe_int, oNe_str, oNe_bl, cInt_int, cInt_bl, cAbs_int, cLen_ref, cList_ref, stL_ref, gName, gSub, gTup, gCons, gNil, rdSeq, List.getElem?_cons_zero, List.getElem?_cons_succ, List.set_cons_zero, List.set_cons_succ, List.cons_append, List.nil_append, Option.some.injEq, exists_eq_left', V.bl.injEq, V.int.injEq, V.ref.injEq, atI_0, atI_1, atI_2, setI_1, setI_2, Bool.not_true, Bool.not_false, Bool.false_eq_true, if_false, if_true]
      exact kk
  · exact h.elim

end HG

namespace HG
open PySem L2
/-! ### steps and tails as dicts -/
abbrev Step := (Str × Str) × (Str × Str)
def stepK (s : Step) : List Key := [.inr s.1.1, .inr s.1.2]
def stepsV (ss : List Step) (gs : List Addr) : List (List Key × V) := List.zipWith (fun s g => (stepK s, V.ref g)) ss gs
def tailsV (ts : List (Str × Str)) : List (Key × V) := ts.map fun t => (.inr t.1, .str t.2)
/-- the goals stand -/
def Goals (H : Hp) (ss : List Step) (gs : List Addr) : Prop := gs.length = ss.length ∧ ∀ (j : Nat) (s : Step) (g : Addr), ss[j]? = some s → gs[j]? = some g → H g = some (.tup [.str s.2.1, .str s.2.2])
theorem Goals.grow {H H' : Hp} {ss : List Step} {gs : List Addr} (h : Goals H ss gs) (g : Grow H H') : Goals H' ss gs := ⟨h.1, fun j s a e1 e2 => g _ _ (h.2 j s a e1 e2)⟩
theorem stepsV_len {H : Hp} {ss : List Step} {gs : List Addr} (h : Goals H ss gs) : (stepsV ss gs).length = ss.length := by
  unfold stepsV
  rw [List.length_zipWith, h.1]
  exact Nat.min_self _
theorem stepsV_at {H : Hp} {ss : List Step} {gs : List Addr} {j : Nat} {k : List Key} {v : V} (h : Goals H ss gs) (e : (stepsV ss gs)[j]? = some (k, v)) : ∃ s g, ss[j]? = some s ∧ gs[j]? = some g ∧ k = stepK s ∧ v = .ref g ∧ H g = some (.tup [.str s.2.1, .str s.2.2]) := by
  unfold stepsV at e
  rw [List.getElem?_zipWith] at e
  cases e1 : ss[j]? with
  | none => rw [e1] at e; cases e
  | some s =>
    cases e2 : gs[j]? with
    | none => rw [e1, e2] at e; cases e
    | some g =>
      rw [e1, e2] at e
      cases e
      exact ⟨s, g, rfl, rfl, rfl, rfl, h.2 j s g e1 e2⟩
def nameB (x : Str) : Bool := rowB x 8 && !decide (x = Str.empty)
def letterB (x : Str) : Bool := rowB x 1 && !decide (x = Str.empty)
def answerB (x : Str) : Bool := rowB x 4
def okStep (s : Step) : Prop := nameB s.1.1 = true ∧ letterB s.1.2 = true ∧ answerB s.2.1 = true ∧ nameB s.2.2 = true
def okTail (t : Str × Str) : Prop := nameB t.1 = true ∧ answerB t.2 = true
theorem rowB_len {x : Str} {n : Int} (h : rowB x n = true) : (x.length : Int) ≤ n := by
  unfold rowB at h
  exact of_decide_eq_true (Bool.and_eq_true_iff.mp h).1
theorem name_len {x : Str} (h : nameB x = true) : x.length ≤ 8 := by
  have := rowB_len (Bool.and_eq_true_iff.mp h).1
  omega
theorem letter_len {x : Str} (h : letterB x = true) : x.length ≤ 1 := by
  have := rowB_len (Bool.and_eq_true_iff.mp h).1
  omega
theorem answer_len {x : Str} (h : answerB x = true) : x.length ≤ 4 := by
  have := rowB_len h
  omega
theorem isNameE {K : PySem.W.Frag} {A : Ad} {x : Str} {H : Hp} {Q : VK} {E : XK} (h : nameB x = true) (k : ∀ H', Grow H H' → Q (.bl true) H') : sp_is_name K A [.str x] H Q E := by
  have := name_len h
  exact ⟨by rw [sizeLine_eq]; omega, fun H' g => by unfold nameB at h; rw [h]; exact k H' g⟩
theorem isLetterE {K : PySem.W.Frag} {A : Ad} {x : Str} {H : Hp} {Q : VK} {E : XK} (h : letterB x = true) (k : ∀ H', Grow H H' → Q (.bl true) H') : sp_is_letter K A [.str x] H Q E := by
  have := letter_len h
  exact ⟨by rw [sizeLine_eq]; omega, fun H' g => by unfold letterB at h; rw [h]; exact k H' g⟩
theorem isAnswerE {K : PySem.W.Frag} {A : Ad} {x : Str} {H : Hp} {Q : VK} {E : XK} (h : answerB x = true) (k : ∀ H', Grow H H' → Q (.bl true) H') : sp_is_answer K A [.str x] H Q E := by
  have := answer_len h
  exact ⟨by rw [sizeLine_eq]; omega, fun H' g => by unfold answerB at h; rw [h]; exact k H' g⟩
def sp_need_name (K : PySem.W.Frag) (A : Ad) : Sp := fun vs H Q _ => match vs with
  | [.str x] => nameB x = true ∧ ∀ H', Grow H H' → Q .non H'
  | _ => False
def sp_need_letter (K : PySem.W.Frag) (A : Ad) : Sp := fun vs H Q _ => match vs with
  | [.str x] => letterB x = true ∧ ∀ H', Grow H H' → Q .non H'
  | _ => False
def sp_is_key (K : PySem.W.Frag) (A : Ad) : Sp := fun vs H Q _ => match vs with
  | [.ref a] => ∃ x y, H a = some (.tup [.str x, .str y]) ∧ nameB x = true ∧ letterB y = true ∧ ∀ H', Grow H H' → Q (.bl true) H'
  | _ => False
def sp_is_goal (K : PySem.W.Frag) (A : Ad) : Sp := fun vs H Q _ => match vs with
  | [.ref a] => ∃ x y, H a = some (.tup [.str x, .str y]) ∧ answerB x = true ∧ nameB y = true ∧ ∀ H', Grow H H' → Q (.bl true) H'
  | _ => False
def t_need_name_1 (K : PySem.W.Frag) (A : Ad) : TS := tNever
def t_need_name_0 (K : PySem.W.Frag) (A : Ad) : TS := (tIfS (tNot (tB (tCall (sp_is_name K A) [] E0 (tCons (tVar 0) tNil)))) (t_need_name_1 K A) tNext)

def t_need_letter_1 (K : PySem.W.Frag) (A : Ad) : TS := tNever
def t_need_letter_0 (K : PySem.W.Frag) (A : Ad) : TS := (tIfS (tNot (tB (tCall (sp_is_letter K A) [] E0 (tCons (tVar 0) tNil)))) (t_need_letter_1 K A) tNext)

def t_is_key_0 (K : PySem.W.Frag) (A : Ad) : TS := (tRet (tAndV (tCB (cIsi K) (tCons (tVar 0) (tCons (tC (.ty "tuple")) tNil))) (tAndV (tOp (oEq K) (tCB (cLenE K) (tCons (tVar 0) tNil)) (tC (.int 2))) (tAndV (tCall (sp_is_name K A) [] E0 (tCons (tOp (rIx K) (tVar 0) (tC (.int 0))) tNil)) (tCall (sp_is_letter K A) [] E0 (tCons (tOp (rIx K) (tVar 0) (tC (.int 1))) tNil))))))

def t_is_goal_0 (K : PySem.W.Frag) (A : Ad) : TS := (tRet (tAndV (tCB (cIsi K) (tCons (tVar 0) (tCons (tC (.ty "tuple")) tNil))) (tAndV (tOp (oEq K) (tCB (cLenE K) (tCons (tVar 0) tNil)) (tC (.int 2))) (tAndV (tCall (sp_is_answer K A) [] E0 (tCons (tOp (rIx K) (tVar 0) (tC (.int 0))) tNil)) (tCall (sp_is_name K A) [] E0 (tCons (tOp (rIx K) (tVar 0) (tC (.int 1))) tNil))))))

theorem pure_need_name {K : PySem.W.Frag} {A : Ad} {vs : List V} {H : Hp} {Q : VK} {E : XK} (h : sp_need_name K A vs H Q E) : (t_need_name_0 K A) { nx := fun _ H' => Q .non H', rt := Q } (start ["value"] vs) H := by
  unfold sp_need_name at h
  split at h
  · rename_i x
    obtain ⟨hx, k⟩ := h
    show (t_need_name_0 K A) _ [some (.str x)] H
    refine st_if ?_
    (refine evT ?P31 (fun Q h => ?h31) ?_; (case h31 => (simp only [tTest, tOp, tUn, tVar, tC, tCB, tCons, tNil, tAnd, tOr, tNot, tB, tTup, tLst, tIf, tAndV, tOrV, tNotV, tSl, tPart, tNoPart, tCall, iIx_ref, oGt_int, oMod_int, oFdiv_int, oAdd_int, oAdd_str, oSub_int, oMul_int, oLt_int, oGe_int, oLe_int, oPow_int, uNeg_int, oEq_int, oEq_str, oEq_bl, oNe_int, oNe_str, oNe_bl, cInt_int, cInt_bl, cAbs_int, cLen_ref, cList_ref, stL_ref, gName, gSub, gTup, gCons, gNil, rdSeq, List.getElem?_cons_zero, List.getElem?_cons_succ, List.set_cons_zero, List.set_cons_succ, List.cons_append, List.nil_append, Option.some.injEq, exists_eq_left', V.bl.injEq, V.int.injEq, V.ref.injEq, atI_0, atI_1, atI_2, setI_1, setI_2, Bool.not_true, Bool.not_false, Bool.false_eq_true, if_false, if_true]; exact h)); (try dsimp only [gName, tNext, List.set_cons_zero, List.set_cons_succ]))
    refine isNameE hx fun H' g => ?_
    refine ⟨_, rfl, if_no ?_⟩
    exact k H' g
  · exact h.elim
theorem pure_need_letter {K : PySem.W.Frag} {A : Ad} {vs : List V} {H : Hp} {Q : VK} {E : XK} (h : sp_need_letter K A vs H Q E) : (t_need_letter_0 K A) { nx := fun _ H' => Q .non H', rt := Q } (start ["value"] vs) H := by
  unfold sp_need_letter at h
  split at h
  · rename_i x
    obtain ⟨hx, k⟩ := h
    show (t_need_letter_0 K A) _ [some (.str x)] H
    refine st_if ?_
    (refine evT ?P32 (fun Q h => ?h32) ?_; (case h32 => (simp only [tTest, tOp, tUn, tVar, tC, tCB, tCons, tNil, tAnd, tOr, tNot, tB, tTup, tLst, tIf, tAndV, tOrV, tNotV, tSl, tPart, tNoPart, tCall, iIx_ref, oGt_int, oMod_int, oFdiv_int, oAdd_int, oAdd_str, oSub_int, oMul_int, oLt_int, oGe_int, oLe_int, oPow_int, uNeg_int, oEq_int, oEq_str, oEq_bl, oNe_int, oNe_str, oNe_bl, cInt_int, cInt_bl, cAbs_int, cLen_ref, cList_ref, stL_ref, gName, gSub, gTup, gCons, gNil, rdSeq, List.getElem?_cons_zero, List.getElem?_cons_succ, List.set_cons_zero, List.set_cons_succ, List.cons_append, List.nil_append, Option.some.injEq, exists_eq_left', V.bl.injEq, V.int.injEq, V.ref.injEq, atI_0, atI_1, atI_2, setI_1, setI_2, Bool.not_true, Bool.not_false, Bool.false_eq_true, if_false, if_true]; exact h)); (try dsimp only [gName, tNext, List.set_cons_zero, List.set_cons_succ]))
    refine isLetterE hx fun H' g => ?_
    refine ⟨_, rfl, if_no ?_⟩
    exact k H' g
  · exact h.elim
theorem pure_is_key {K : PySem.W.Frag} {A : Ad} {vs : List V} {H : Hp} {Q : VK} {E : XK} (h : sp_is_key K A vs H Q E) : (t_is_key_0 K A) { nx := fun _ H' => Q .non H', rt := Q } (start ["value"] vs) H := by
  unfold sp_is_key at h
  split at h
  · rename_i a
    obtain ⟨x, y, ha, hx, hy, k⟩ := h
    show (t_is_key_0 K A) _ [some (.ref a)] H
    refine st_ret ?_
    (refine evE ?P33 (fun Q h => ?h33) ?_; (case h33 => (simp only [tTest, tOp, tUn, tVar, tC, tCB, tCons, tNil, tAnd, tOr, tNot, tB, tTup, tLst, tIf, tAndV, tOrV, tNotV, tSl, tPart, tNoPart, tCall, iIx_ref, oGt_int, oMod_int, oFdiv_int, oAdd_int, oAdd_str, oSub_int, oMul_int, oLt_int, oGe_int, oLe_int, oPow_int, uNeg_int, oEq_int, oEq_str, oEq_bl, oNe_int, oNe_str, oNe_bl, cInt_int, cInt_bl, cAbs_int, cLen_ref, cList_ref, stL_ref, gName, gSub, gTup, gCons, gNil, rdSeq, List.getElem?_cons_zero, List.getElem?_cons_succ, List.set_cons_zero, List.set_cons_succ, List.cons_append, List.nil_append, Option.some.injEq, exists_eq_left', V.bl.injEq, V.int.injEq, V.ref.injEq, atI_0, atI_1, atI_2, setI_1, setI_2, Bool.not_true, Bool.not_false, Bool.false_eq_true, if_false, if_true, cIsi, tyF, ha, kit_uu, tyOk, true_and]; exact h)); (try dsimp only [gName, tNext, List.set_cons_zero, List.set_cons_succ]))
    refine lenE (.t ha) ?_
    simp only [tTest, tOp, tUn, tVar, tC, tCB, tCons, tNil, tAnd, tOr, tNot, tB, tTup, tLst, tIf, tAndV, tOrV, tNotV, tSl, tPart, tNoPart, tCall, iIx_ref, oGt_int, oMod_int, oFdiv_int, oAdd_int, oAdd_str, oSub_int, oMul_int, oLt_int, oGe_int, oLe_int, oPow_int, uNeg_int, oEq_int, oEq_str, oEq_bl, oNe_int, oNe_str, oNe_bl, cInt_int, cInt_bl, cAbs_int, cLen_ref, cList_ref, stL_ref, gName, gSub, gTup, gCons, gNil, rdSeq, List.getElem?_cons_zero, List.getElem?_cons_succ, List.set_cons_zero, List.set_cons_succ, List.cons_append, List.nil_append, Option.some.injEq, exists_eq_left', V.bl.injEq, V.int.injEq, V.ref.injEq, atI_0, atI_1, atI_2, setI_1, setI_2, Bool.not_true, Bool.not_false, Bool.false_eq_true, if_false, if_true]
    refine ixE (.t ha) atI_0 ?_
    refine isNameE hx fun H1 g1 => ?_
    refine ⟨_, rfl, if_yes ?_⟩
    refine ixE (.t (g1 _ _ ha)) atI_1 ?_
    exact isLetterE hy fun H2 g2 => k H2 (g1.trans g2)
  · exact h.elim
theorem pure_is_goal {K : PySem.W.Frag} {A : Ad} {vs : List V} {H : Hp} {Q : VK} {E : XK} (h : sp_is_goal K A vs H Q E) : (t_is_goal_0 K A) { nx := fun _ H' => Q .non H', rt := Q } (start ["value"] vs) H := by
  unfold sp_is_goal at h
  split at h
  · rename_i a
    obtain ⟨x, y, ha, hx, hy, k⟩ := h
    show (t_is_goal_0 K A) _ [some (.ref a)] H
    refine st_ret ?_
    (refine evE ?P34 (fun Q h => ?h34) ?_; (case h34 => (simp only [tTest, tOp, tUn, tVar, tC, tCB, tCons, tNil, tAnd, tOr, tNot, tB, tTup, tLst, tIf, tAndV, tOrV, tNotV, tSl, tPart, tNoPart, tCall, iIx_ref, oGt_int, oMod_int, oFdiv_int, oAdd_int, oAdd_str, oSub_int, oMul_int, oLt_int, oGe_int, oLe_int, oPow_int, uNeg_int, oEq_int, oEq_str, oEq_bl, oNe_int, oNe_str, oNe_bl, cInt_int, cInt_bl, cAbs_int, cLen_ref, cList_ref, stL_ref, gName, gSub, gTup, gCons, gNil, rdSeq, List.getElem?_cons_zero, List.getElem?_cons_succ, List.set_cons_zero, List.set_cons_succ, List.cons_append, List.nil_append, Option.some.injEq, exists_eq_left', V.bl.injEq, V.int.injEq, V.ref.injEq, atI_0, atI_1, atI_2, setI_1, setI_2, Bool.not_true, Bool.not_false, Bool.false_eq_true, if_false, if_true, cIsi, tyF, ha, kit_uu, tyOk, true_and]; exact h)); (try dsimp only [gName, tNext, List.set_cons_zero, List.set_cons_succ]))
    refine lenE (.t ha) ?_
    simp only [tTest, tOp, tUn, tVar, tC, tCB, tCons, tNil, tAnd, tOr, tNot, tB, tTup, tLst, tIf, tAndV, tOrV, tNotV, tSl, tPart, tNoPart, tCall, iIx_ref, oGt_int, oMod_int, oFdiv_int, oAdd_int, oAdd_str, oSub_int, oMul_int, oLt_int, oGe_int, oLe_int, oPow_int, uNeg_int, oEq_int, oEq_str, oEq_bl, oNe_int, oNe_str, oNe_bl, cInt_int, cInt_bl, cAbs_int, cLen_ref, cList_ref, stL_ref, gName, gSub, gTup, gCons, gNil, rdSeq, List.getElem?_cons_zero, List.getElem?_cons_succ, List.set_cons_zero, List.set_cons_succ, List.cons_append, List.nil_append, Option.some.injEq, exists_eq_left', V.bl.injEq, V.int.injEq, V.ref.injEq, atI_0, atI_1, atI_2, setI_1, setI_2, Bool.not_true, Bool.not_false, Bool.false_eq_true, if_false, if_true]
    refine ixE (.t ha) atI_0 ?_
    refine isAnswerE hx fun H1 g1 => ?_
    refine ⟨_, rfl, if_yes ?_⟩
    refine ixE (.t (g1 _ _ ha)) atI_1 ?_
    exact isNameE hy fun H2 g2 => k H2 (g1.trans g2)
  · exact h.elim

end HG

namespace HG
open PySem L2
def sp_are_steps (K : PySem.W.Frag) (A : Ad) : Sp := fun vs H Q _ => match vs with
  | [.ref d] => ∃ ss gs, H d = some (.dT (stepsV ss gs)) ∧ Goals H ss gs ∧ (∀ s ∈ ss, okStep s) ∧ ss.length ≤ 1000 ∧ ((stepsV ss gs).map (·.1)).Nodup ∧ ∀ H', Grow H H' → Q (.bl true) H'
  | _ => False
def sp_are_tails (K : PySem.W.Frag) (A : Ad) : Sp := fun vs H Q _ => match vs with
  | [.ref d] => ∃ ts, H d = some (.dK (tailsV ts)) ∧ (∀ t ∈ ts, okTail t) ∧ ts.length ≤ 1000 ∧ ((tailsV ts).map (·.1)).Nodup ∧ ∀ H', Grow H H' → Q (.bl true) H'
  | _ => False
def t_are_steps_0 (K : PySem.W.Frag) (A : Ad) : TS := (tRet (tAndV (tCB (cIsi K) (tCons (tVar 0) (tCons (tC (.ty "dict")) tNil))) (tCB (cAll K) (tCons (tLockE (tLc (iKeys (tVar 0)) (gName 1) tYes (tAndV (tCall (sp_is_key K A) [] E0 (tCons (tVar 1) tNil)) (tCall (sp_is_goal K A) [] E0 (tCons (tDGet (tVar 0) (tVar 1)) tNil))) [1])) tNil))))

def t_are_tails_0 (K : PySem.W.Frag) (A : Ad) : TS := (tRet (tAndV (tCB (cIsi K) (tCons (tVar 0) (tCons (tC (.ty "dict")) tNil))) (tCB (cAll K) (tCons (tLockE (tLc (iKeys (tVar 0)) (gName 1) tYes (tAndV (tCall (sp_is_name K A) [] E0 (tCons (tVar 1) tNil)) (tCall (sp_is_answer K A) [] E0 (tCons (tDGet (tVar 0) (tVar 1)) tNil))) [1])) tNil))))

theorem valV_at {κ : Type} [DecidableEq κ] {kvs : List (κ × V)} (nd : (kvs.map (·.1)).Nodup) {j : Nat} {k : κ} {v : V} (e : kvs[j]? = some (k, v)) : valV kvs k = some v := by
  induction kvs generalizing j with
  | nil => cases e
  | cons p r ih =>
    rw [List.map_cons, List.nodup_cons] at nd
    cases j with
    | zero =>
      cases e
      exact valV_pos rfl
    | succ j =>
      have hm : k ∈ r.map (·.1) := List.mem_map.mpr ⟨(k, v), List.mem_of_getElem? e, rfl⟩
      rw [valV_neg (fun z => nd.1 (by rw [z]; exact hm))]
      exact ih nd.2 e
theorem all_true (n : Nat) : ((List.range n).map fun _ => true).all id = true := by
  rw [List.all_map]
  exact List.all_eq_true.mpr fun _ _ => rfl
theorem pure_are_steps {K : PySem.W.Frag} {A : Ad} {vs : List V} {H : Hp} {Q : VK} {E : XK} (h : sp_are_steps K A vs H Q E) : (t_are_steps_0 K A) { nx := fun _ H' => Q .non H', rt := Q } (start ["value", "key"] vs) H := by
  unfold sp_are_steps at h
  split at h
  · rename_i d
    obtain ⟨ss, gs, hd, G, hok, hl, nd, k⟩ := h
    show (t_are_steps_0 K A) _ [some (.ref d), none] H
    refine st_ret ?_
    (refine evE ?P35 (fun Q h => ?h35) ?_; (case h35 => (simp only [tTest, tOp, tUn, tVar, tC, tCB, tCons, tNil, tAnd, tOr, tNot, tB, tTup, tLst, tIf, tAndV, tOrV, tNotV, tSl, tPart, tNoPart, tCall, iIx_ref, oGt_int, oMod_int, oFdiv_int, oAdd_int, oAdd_str, oSub_int, oMul_int, oLt_int, oGe_int, oLe_int, oPow_int, uNeg_int, oEq_int, oEq_str, oEq_bl, oNe_int, oNe_str, oNe_bl, cInt_int, cInt_bl, cAbs_int, cLen_ref, cList_ref, stL_ref, gName, gSub, gTup, gCons, gNil, rdSeq, List.getElem?_cons_zero, List.getElem?_cons_succ, List.set_cons_zero, List.set_cons_succ, List.cons_append, List.nil_append, Option.some.injEq, exists_eq_left', V.bl.injEq, V.int.injEq, V.ref.injEq, atI_0, atI_1, atI_2, setI_1, setI_2, Bool.not_true, Bool.not_false, Bool.false_eq_true, if_false, if_true, cIsi, tyF, hd, kit_dd, tyOk, true_and]; exact h)); (try dsimp only [gName, tNext, List.set_cons_zero, List.set_cons_succ]))
    refine lockT hd fun od => ?_
    refine lc_ev ?_
    unfold iKeys
    (refine evE ?P39 (fun Q h => ?h39) ?_; (case h39 => (simp only [tTest, tOp, tUn, tVar, tC, tCB, tCons, tNil, tAnd, tOr, tNot, tB, tTup, tLst, tIf, tAndV, tOrV, tNotV, tSl, tPart, tNoPart, tCall, iIx_ref, oGt_int, oMod_int, oFdiv_int, oAdd_int, oAdd_str, oSub_int, oMul_int, oLt_int, oGe_int, oLe_int, oPow_int, uNeg_int, oEq_int, oEq_str, oEq_bl, oNe_int, oNe_str, oNe_bl, cInt_int, cInt_bl, cAbs_int, cLen_ref, cList_ref, stL_ref, gName, gSub, gTup, gCons, gNil, rdSeq, List.getElem?_cons_zero, List.getElem?_cons_succ, List.set_cons_zero, List.set_cons_succ, List.cons_append, List.nil_append, Option.some.injEq, exists_eq_left', V.bl.injEq, V.int.injEq, V.ref.injEq, atI_0, atI_1, atI_2, setI_1, setI_2, Bool.not_true, Bool.not_false, Bool.false_eq_true, if_false, if_true]; exact h)))
    refine ⟨d, od, rfl, .inr ⟨stepsV ss gs, upd_same, ?_⟩⟩
    refine lc_mapR (jok_keysT upd_same) (fun j => .bl true) (by rw [stepsV_len G, sizeLine_eq]; omega) (fun j hj x H' g' hx R hR => ?_) (fun D H1 h1 hD hd1 => ?_) (by exact fun x => rfl)
    · obtain ⟨kk, v, q, e1, rfl, hq⟩ := hx
      obtain ⟨s, g, s1, s2, rfl, rfl, s3⟩ := stepsV_at G e1
      obtain ⟨o1, o2, o3, o4⟩ := hok s (List.mem_of_getElem? s1)
      have lk := g' _ _ upd_same
      have hg := g' g _ ((upd_ne (fun z => by rw [z, hd] at s3; cases s3)).trans s3)
      (refine evE ?P36 (fun Q h => ?h36) ?_; (case h36 => (simp only [tTest, tOp, tUn, tVar, tC, tCB, tCons, tNil, tAnd, tOr, tNot, tB, tTup, tLst, tIf, tAndV, tOrV, tNotV, tSl, tPart, tNoPart, tCall, iIx_ref, oGt_int, oMod_int, oFdiv_int, oAdd_int, oAdd_str, oSub_int, oMul_int, oLt_int, oGe_int, oLe_int, oPow_int, uNeg_int, oEq_int, oEq_str, oEq_bl, oNe_int, oNe_str, oNe_bl, cInt_int, cInt_bl, cAbs_int, cLen_ref, cList_ref, stL_ref, gName, gSub, gTup, gCons, gNil, rdSeq, List.getElem?_cons_zero, List.getElem?_cons_succ, List.set_cons_zero, List.set_cons_succ, List.cons_append, List.nil_append, Option.some.injEq, exists_eq_left', V.bl.injEq, V.int.injEq, V.ref.injEq, atI_0, atI_1, atI_2, setI_1, setI_2, Bool.not_true, Bool.not_false, Bool.false_eq_true, if_false, if_true, wipe, tDGet]; exact h)); (try dsimp only [gName, tNext, List.set_cons_zero, List.set_cons_succ]))
      refine ⟨s.1.1, s.1.2, hq, o1, o2, fun H2 g2 => ?_⟩
      refine ⟨_, rfl, if_yes ?_⟩
      refine ⟨d, .ref g, rfl, .inr ⟨stepsV ss gs, stepK s, q, .inr ⟨od, g2 _ _ lk⟩, rfl, g2 _ _ hq, (valV_at nd e1).symm⟩, ?_⟩
      exact ⟨s.2.1, s.2.2, g2 _ _ hg, o3, o4, fun H3 g3 => hR _ (g2.trans g3)⟩
    · obtain ⟨u1, u2⟩ := Grow.unlock hd h1
      refine ⟨u1, ?_⟩
      have hDd : D ≠ d := fun z => by rw [z, upd_same] at hD; cases hD
      refine ⟨D, (List.range (stepsV ss gs).length).map fun _ => true, rfl, ?_, ?_⟩
      · rw [upd_ne hDd, hd1, List.map_map]
        rfl
      · rw [all_true]
        exact k _ u2
  · exact h.elim
theorem pure_are_tails {K : PySem.W.Frag} {A : Ad} {vs : List V} {H : Hp} {Q : VK} {E : XK} (h : sp_are_tails K A vs H Q E) : (t_are_tails_0 K A) { nx := fun _ H' => Q .non H', rt := Q } (start ["value", "key"] vs) H := by
  unfold sp_are_tails at h
  split at h
  · rename_i d
    obtain ⟨ts, hd, hok, hl, nd, k⟩ := h
    show (t_are_tails_0 K A) _ [some (.ref d), none] H
    refine st_ret ?_
    (refine evE ?P37 (fun Q h => ?h37) ?_; (case h37 => (simp only [tTest, tOp, tUn, tVar, tC, tCB, tCons, tNil, tAnd, tOr, tNot, tB, tTup, tLst, tIf, tAndV, tOrV, tNotV, tSl, tPart, tNoPart, tCall, iIx_ref, oGt_int, oMod_int, oFdiv_int, oAdd_int, oAdd_str, oSub_int, oMul_int, oLt_int, oGe_int, oLe_int, oPow_int, uNeg_int, oEq_int, oEq_str, oEq_bl, oNe_int, oNe_str, oNe_bl, cInt_int, cInt_bl, cAbs_int, cLen_ref, cList_ref, stL_ref, gName, gSub, gTup, gCons, gNil, rdSeq, List.getElem?_cons_zero, List.getElem?_cons_succ, List.set_cons_zero, List.set_cons_succ, List.cons_append, List.nil_append, Option.some.injEq, exists_eq_left', V.bl.injEq, V.int.injEq, V.ref.injEq, atI_0, atI_1, atI_2, setI_1, setI_2, Bool.not_true, Bool.not_false, Bool.false_eq_true, if_false, if_true, cIsi, tyF, hd, kit_dd, tyOk, true_and]; exact h)); (try dsimp only [gName, tNext, List.set_cons_zero, List.set_cons_succ]))
    refine lockK hd fun od => ?_
    refine lc_ev ?_
    unfold iKeys
    (refine evE ?P40 (fun Q h => ?h40) ?_; (case h40 => (simp only [tTest, tOp, tUn, tVar, tC, tCB, tCons, tNil, tAnd, tOr, tNot, tB, tTup, tLst, tIf, tAndV, tOrV, tNotV, tSl, tPart, tNoPart, tCall, iIx_ref, oGt_int, oMod_int, oFdiv_int, oAdd_int, oAdd_str, oSub_int, oMul_int, oLt_int, oGe_int, oLe_int, oPow_int, uNeg_int, oEq_int, oEq_str, oEq_bl, oNe_int, oNe_str, oNe_bl, cInt_int, cInt_bl, cAbs_int, cLen_ref, cList_ref, stL_ref, gName, gSub, gTup, gCons, gNil, rdSeq, List.getElem?_cons_zero, List.getElem?_cons_succ, List.set_cons_zero, List.set_cons_succ, List.cons_append, List.nil_append, Option.some.injEq, exists_eq_left', V.bl.injEq, V.int.injEq, V.ref.injEq, atI_0, atI_1, atI_2, setI_1, setI_2, Bool.not_true, Bool.not_false, Bool.false_eq_true, if_false, if_true]; exact h)))
    refine ⟨d, od, rfl, .inl ⟨tailsV ts, upd_same, ?_⟩⟩
    have tl : (tailsV ts).length = ts.length := List.length_map _
    refine lc_mapR (jok_keysK upd_same) (fun j => .bl true) (by rw [tl, sizeLine_eq]; omega) (fun j hj x H' g' hx R hR => ?_) (fun D H1 h1 hD hd1 => ?_) (by exact fun x => rfl)
    · obtain ⟨kk, v, e1, rfl⟩ := hx
      have e2 := e1
      unfold tailsV at e2
      rw [List.getElem?_map] at e2
      cases et : ts[j]? with
      | none => rw [et] at e2; cases e2
      | some t =>
        rw [et] at e2
        cases e2
        obtain ⟨o1, o2⟩ := hok t (List.mem_of_getElem? et)
        have lk := g' _ _ upd_same
        (refine evE ?P38 (fun Q h => ?h38) ?_; (case h38 => (simp only [tTest, tOp, tUn, tVar, tC, tCB, tCons, tNil, tAnd, tOr, tNot, tB, tTup, tLst, tIf, tAndV, tOrV, tNotV, tSl, tPart, tNoPart, tCall, iIx_ref, oGt_int, oMod_int, oFdiv_int, oAdd_int, oAdd_str, oSub_int, oMul_int, oLt_int, oGe_int, oLe_int, oPow_int, uNeg_int, oEq_int, oEq_str, oEq_bl, oNe_int, oNe_str, oNe_bl, cInt_int, cInt_bl, cAbs_int, cLen_ref, cList_ref, stL_ref, gName, gSub, gTup, gCons, gNil, rdSeq, List.getElem?_cons_zero, List.getElem?_cons_succ, List.set_cons_zero, List.set_cons_succ, List.cons_append, List.nil_append, Option.some.injEq, exists_eq_left', V.bl.injEq, V.int.injEq, V.ref.injEq, atI_0, atI_1, atI_2, setI_1, setI_2, Bool.not_true, Bool.not_false, Bool.false_eq_true, if_false, if_true, wipe, kV, tDGet]; exact h)); (try dsimp only [gName, tNext, List.set_cons_zero, List.set_cons_succ]))
        refine isNameE o1 fun H2 g2 => ?_
        refine ⟨_, rfl, if_yes ?_⟩
        refine ⟨d, .str t.2, rfl, .inl ⟨tailsV ts, .inr t.1, .inr ⟨od, g2 _ _ lk⟩, rfl, (valV_at nd e1).symm⟩, ?_⟩
        exact isAnswerE o2 fun H3 g3 => hR _ (g2.trans g3)
    · obtain ⟨u1, u2⟩ := Grow.unlock hd h1
      refine ⟨u1, ?_⟩
      have hDd : D ≠ d := fun z => by rw [z, upd_same] at hD; cases hD
      refine ⟨D, (List.range (tailsV ts).length).map fun _ => true, rfl, ?_, ?_⟩
      · rw [upd_ne hDd, hd1, List.map_map]
        rfl
      · rw [all_true]
        exact k _ u2
  · exact h.elim

end HG

namespace HG
open PySem L2
theorem range_getD {α : Type} (l : List α) (d : α) : (List.range l.length).map (fun j => l.getD j d) = l := by
  apply List.ext_getElem
  · rw [List.length_map, List.length_range]
  · intro i h1 h2
    rw [List.getElem_map, List.getElem_range, List.getD_eq_getElem?_getD, List.getElem?_eq_getElem h2]
    rfl
theorem map_list {α : Type} (l : List α) (d : α) (f : α → V) : (List.range l.length).map (fun j => f (l.getD j d)) = l.map f := by
  have h : l.map f = ((List.range l.length).map (fun j => l.getD j d)).map f := by rw [range_getD]
  rw [h, List.map_map]
  rfl
theorem _root_.HG.JOk.toR {J : It} {H1 : Hp} {n : Nat} {xs : Nat → V} (h : JOk J H1 n xs) : JOkR J H1 n (fun j x _ => x = xs j) := ⟨h.go, h.yld, h.stop, fun _ _ _ _ e _ => e⟩
/-- texts, each once -/
theorem once (xs : List Str) : ∀ n, n ≤ xs.length → ∃ ks : List Str, foldK (fun j => ((.inr (xs.getD j Str.empty) : Key), V.bl true)) n = ks.map (fun x => (.inr x, V.bl true)) ∧ ks.Nodup ∧ ∀ x, x ∈ ks ↔ x ∈ xs.take n
  | 0, _ => ⟨[], rfl, List.nodup_nil, fun x => by simp⟩
  | n + 1, hn => by
    obtain ⟨ks, e, nd, m⟩ := once xs n (by omega)
    have hg : xs.getD n Str.empty = xs[n] := by rw [List.getD_eq_getElem?_getD, List.getElem?_eq_getElem (by omega)]; rfl
    have tk : xs.take (n + 1) = xs.take n ++ [xs[n]] := by rw [List.take_succ, List.getElem?_eq_getElem (by omega)]; rfl
    show ∃ ks : List Str, putK (foldK _ n) _ _ = _ ∧ _
    rw [e]
    show ∃ ks' : List Str, putK (ks.map fun x => ((.inr x : Key), V.bl true)) (.inr (xs.getD n Str.empty)) (.bl true) = _ ∧ _
    rw [hg, tk]
    by_cases hm : xs[n] ∈ ks
    · refine ⟨ks, ?_, nd, fun x => ?_⟩
      · unfold putK
        rw [if_pos (List.any_eq_true.mpr ⟨(.inr xs[n], .bl true), List.mem_map.mpr ⟨_, hm, rfl⟩, decide_eq_true rfl⟩), List.map_map]
        refine List.map_congr_left fun x _ => ?_
        show (if (Sum.inr x : Key) = .inr xs[n] then ((Sum.inr x : Key), V.bl true) else (Sum.inr x, V.bl true)) = _
        split <;> rfl
      · rw [m, List.mem_append, List.mem_singleton]
        constructor
        · exact .inl
        · rintro (h | h)
          · exact h
          · rw [h]; exact (m _).mp hm
    · refine ⟨ks ++ [xs[n]], ?_, ?_, fun x => ?_⟩
      · unfold putK
        rw [if_neg, List.map_append]
        · rfl
        · intro z
          obtain ⟨p, hp, ep⟩ := List.any_eq_true.mp z
          obtain ⟨y, hy, rfl⟩ := List.mem_map.mp hp
          have := of_decide_eq_true ep
          have : y = xs[n] := Sum.inr.inj this
          rw [this] at hy
          exact hm hy
      · rw [List.nodup_append]
        refine ⟨nd, by simp, fun a ha b hb z => hm ?_⟩
        rw [List.mem_singleton] at hb
        rw [← hb, ← z]
        exact ha
      · rw [List.mem_append, List.mem_append, m]
theorem nodup_le {α : Type} [DecidableEq α] : ∀ {l m : List α}, l.Nodup → (∀ x ∈ l, x ∈ m) → l.length ≤ m.length
  | [], m, _, _ => Nat.zero_le _
  | a :: l, m, nd, h => by
    rw [List.nodup_cons] at nd
    have h1 : l.length ≤ (m.erase a).length := nodup_le nd.2 fun x hx => (List.mem_erase_of_ne (fun z => nd.1 (by rw [← z]; exact hx))).mpr (h x (List.mem_cons_of_mem _ hx))
    have h2 := h a (List.mem_cons_self ..)
    rw [List.length_erase_of_mem h2] at h1
    have h3 := List.length_pos_of_mem h2
    simp only [List.length_cons]
    omega
def sp_ascending (K : PySem.W.Frag) (A : Ad) : Sp := fun vs H Q _ => match vs with
  | [.ref r] => ∃ (xs zs : List Str), H r = some (.lst (xs.map V.str)) ∧ xs.length ≤ 100000 ∧ (∀ x ∈ xs, x ∈ zs) ∧ zs.length < 64 ∧
      ∀ (a : Addr) (ys : List Str) (H' : Hp), Grow H H' → H' a = some (.tup (ys.map V.str)) → ys.Nodup → (∀ x, x ∈ ys ↔ x ∈ xs) → PyProof.Rows.sortedS ys = true → Q (.ref a) H'
  | _ => False
def t_ascending_0 (K : PySem.W.Frag) (A : Ad) : TS := (tRet (tCB (cTupE K) (tCons (tCB (rSortedS K) (tCons (tLc (iKeysLK (tDc (iSeq K (tVar 0)) (gName 2) tYes (tVar 2) (tC (.bl true)) [2])) (gName 1) tYes (tCB (cStr K) (tCons (tVar 1) tNil)) [1]) tNil)) tNil)))

theorem pure_ascending {K : PySem.W.Frag} {A : Ad} {vs : List V} {H : Hp} {Q : VK} {E : XK} (h : sp_ascending K A vs H Q E) : (t_ascending_0 K A) { nx := fun _ H' => Q .non H', rt := Q } (start ["strings", "string", "one"] vs) H := by
  unfold sp_ascending at h
  split at h
  · rename_i r
    obtain ⟨xs, zs, hr, hl, hz, h64, k⟩ := h
    have hsz : sizeLine = 16777216 := rfl
    show (t_ascending_0 K A) _ [some (.ref r), none, none] H
    refine st_ret ?_
    (refine evE ?P44 (fun Q h => ?h44) ?_; (case h44 => (simp only [tTest, tOp, tUn, tVar, tC, tCB, tCons, tNil, tAnd, tOr, tNot, tB, tTup, tLst, tIf, tAndV, tOrV, tNotV, tSl, tPart, tNoPart, tCall, iIx_ref, oGt_int, oMod_int, oFdiv_int, oAdd_int, oAdd_str, oSub_int, oMul_int, oLt_int, oGe_int, oLe_int, oPow_int, uNeg_int, oEq_int, oEq_str, oEq_bl, oNe_int, oNe_str, oNe_bl, cInt_int, cInt_bl, cAbs_int, cLen_ref, cList_ref, stL_ref, gName, gSub, gTup, gCons, gNil, rdSeq, List.getElem?_cons_zero, List.getElem?_cons_succ, List.set_cons_zero, List.set_cons_succ, List.cons_append, List.nil_append, Option.some.injEq, exists_eq_left', V.bl.injEq, V.int.injEq, V.ref.injEq, atI_0, atI_1, atI_2, setI_1, setI_2, Bool.not_true, Bool.not_false, Bool.false_eq_true, if_false, if_true]; exact h)))
    refine lc_ev ?_
    unfold iKeysLK
    refine dcK_ev ?_
    unfold iSeq
    (refine evE ?P45 (fun Q h => ?h45) ?_; (case h45 => (simp only [tTest, tOp, tUn, tVar, tC, tCB, tCons, tNil, tAnd, tOr, tNot, tB, tTup, tLst, tIf, tAndV, tOrV, tNotV, tSl, tPart, tNoPart, tCall, iIx_ref, oGt_int, oMod_int, oFdiv_int, oAdd_int, oAdd_str, oSub_int, oMul_int, oLt_int, oGe_int, oLe_int, oPow_int, uNeg_int, oEq_int, oEq_str, oEq_bl, oNe_int, oNe_str, oNe_bl, cInt_int, cInt_bl, cAbs_int, cLen_ref, cList_ref, stL_ref, gName, gSub, gTup, gCons, gNil, rdSeq, List.getElem?_cons_zero, List.getElem?_cons_succ, List.set_cons_zero, List.set_cons_succ, List.cons_append, List.nil_append, Option.some.injEq, exists_eq_left', V.bl.injEq, V.int.injEq, V.ref.injEq, atI_0, atI_1, atI_2, setI_1, setI_2, Bool.not_true, Bool.not_false, Bool.false_eq_true, if_false, if_true]; exact h)))
    refine jok_sq (.l hr) fun J hJ => ?_
    rw [List.length_map] at hJ
    obtain ⟨ks, e1, nd, m⟩ := once xs xs.length (Nat.le_refl _)
    rw [List.take_length] at m
    refine dc_mapK hJ.toR (fun j => ((.inr (xs.getD j Str.empty) : Key), V.bl true)) (by omega) (fun j hj x H' g' hx R hR => ?_) (fun j hj x H' g' hx R hR => ?_) (fun D H1 h1 hD hd => ?_) (by exact fun x => rfl)
    · subst hx
      have e : (xs.map V.str).getD j .non = .str (xs.getD j Str.empty) := by
        rw [List.getD_eq_getElem?_getD, List.getElem?_map, List.getElem?_eq_getElem hj, List.getD_eq_getElem?_getD, List.getElem?_eq_getElem hj]; rfl
      rw [e]
      (refine evE ?P41 (fun Q h => ?h41) ?_; (case h41 => (simp only [tTest, tOp, tUn, tVar, tC, tCB, tCons, tNil, tAnd, tOr, tNot, tB, tTup, tLst, tIf, tAndV, tOrV, tNotV, tSl, tPart, tNoPart, tCall, iIx_ref, oGt_int, oMod_int, oFdiv_int, oAdd_int, oAdd_str, oSub_int, oMul_int, oLt_int, oGe_int, oLe_int, oPow_int, uNeg_int, oEq_int, oEq_str, oEq_bl, oNe_int, oNe_str, oNe_bl, cInt_int, cInt_bl, cAbs_int, cLen_ref, cList_ref, stL_ref, gName, gSub, gTup, gCons, gNil, rdSeq, List.getElem?_cons_zero, List.getElem?_cons_succ, List.set_cons_zero, List.set_cons_succ, List.cons_append, List.nil_append, Option.some.injEq, exists_eq_left', V.bl.injEq, V.int.injEq, V.ref.injEq, atI_0, atI_1, atI_2, setI_1, setI_2, Bool.not_true, Bool.not_false, Bool.false_eq_true, if_false, if_true, wipe]; exact h)); (try dsimp only [gName, tNext, List.set_cons_zero, List.set_cons_succ]))
      exact hR _ .refl
    · (refine evE ?P42 (fun Q h => ?h42) ?_; (case h42 => (simp only [tTest, tOp, tUn, tVar, tC, tCB, tCons, tNil, tAnd, tOr, tNot, tB, tTup, tLst, tIf, tAndV, tOrV, tNotV, tSl, tPart, tNoPart, tCall, iIx_ref, oGt_int, oMod_int, oFdiv_int, oAdd_int, oAdd_str, oSub_int, oMul_int, oLt_int, oGe_int, oLe_int, oPow_int, uNeg_int, oEq_int, oEq_str, oEq_bl, oNe_int, oNe_str, oNe_bl, cInt_int, cInt_bl, cAbs_int, cLen_ref, cList_ref, stL_ref, gName, gSub, gTup, gCons, gNil, rdSeq, List.getElem?_cons_zero, List.getElem?_cons_succ, List.set_cons_zero, List.set_cons_succ, List.cons_append, List.nil_append, Option.some.injEq, exists_eq_left', V.bl.injEq, V.int.injEq, V.ref.injEq, atI_0, atI_1, atI_2, setI_1, setI_2, Bool.not_true, Bool.not_false, Bool.false_eq_true, if_false, if_true, wipe]; exact h)); (try dsimp only [gName, tNext, List.set_cons_zero, List.set_cons_succ]))
      exact hR _ .refl
    · rw [e1] at hd
      refine ⟨D, _, rfl, hd, fun od => ?_⟩
      have kl : (ks.map fun x => ((.inr x : Key), V.bl true)).length = ks.length := List.length_map _
      have k64 : ks.length < 64 := Nat.lt_of_le_of_lt (nodup_le nd fun x hx => hz x ((m x).mp hx)) h64
      refine lc_mapR (jok_keysK upd_same) (fun j => .str (ks.getD j Str.empty)) (by rw [kl]; omega) (fun j hj x H' g' hx R hR => ?_) (fun D2 H2 h2 hD2 hd2 => ?_) (by exact fun x => rfl)
      · obtain ⟨kk, v, e2, rfl⟩ := hx
        rw [kl] at hj
        rw [List.getElem?_map, List.getElem?_eq_getElem hj] at e2
        cases e2
        have e : ks.getD j Str.empty = ks[j] := by rw [List.getD_eq_getElem?_getD, List.getElem?_eq_getElem hj]; rfl
        rw [e] at hR
        (refine evE ?P43 (fun Q h => ?h43) ?_; (case h43 => (simp only [tTest, tOp, tUn, tVar, tC, tCB, tCons, tNil, tAnd, tOr, tNot, tB, tTup, tLst, tIf, tAndV, tOrV, tNotV, tSl, tPart, tNoPart, tCall, iIx_ref, oGt_int, oMod_int, oFdiv_int, oAdd_int, oAdd_str, oSub_int, oMul_int, oLt_int, oGe_int, oLe_int, oPow_int, uNeg_int, oEq_int, oEq_str, oEq_bl, oNe_int, oNe_str, oNe_bl, cInt_int, cInt_bl, cAbs_int, cLen_ref, cList_ref, stL_ref, gName, gSub, gTup, gCons, gNil, rdSeq, List.getElem?_cons_zero, List.getElem?_cons_succ, List.set_cons_zero, List.set_cons_succ, List.cons_append, List.nil_append, Option.some.injEq, exists_eq_left', V.bl.injEq, V.int.injEq, V.ref.injEq, atI_0, atI_1, atI_2, setI_1, setI_2, Bool.not_true, Bool.not_false, Bool.false_eq_true, if_false, if_true, wipe, kV, cStr]; exact h)); (try dsimp only [gName, tNext, List.set_cons_zero, List.set_cons_succ]))
        exact hR _ .refl
      · rw [kl, map_list ks Str.empty V.str] at hd2
        have hDr : r ≠ D := fun z => by rw [← z] at hD; rw [hr] at hD; cases hD
        have g1 : Grow H H2 := fun b o e => h2 _ _ ((upd_ne (fun z => by rw [z, hD] at e; cases e)).trans (h1 _ _ e))
        refine ⟨D2, ks, rfl, SqL.of hd2, k64, fun ys p py sy hp => ?_⟩
        have gp := Grow.new (o := .lst (ys.map V.str)) hp
        simp only [tTest, tOp, tUn, tVar, tC, tCB, tCons, tNil, tAnd, tOr, tNot, tB, tTup, tLst, tIf, tAndV, tOrV, tNotV, tSl, tPart, tNoPart, tCall, iIx_ref, oGt_int, oMod_int, oFdiv_int, oAdd_int, oAdd_str, oSub_int, oMul_int, oLt_int, oGe_int, oLe_int, oPow_int, uNeg_int, oEq_int, oEq_str, oEq_bl, oNe_int, oNe_str, oNe_bl, cInt_int, cInt_bl, cAbs_int, cLen_ref, cList_ref, stL_ref, gName, gSub, gTup, gCons, gNil, rdSeq, List.getElem?_cons_zero, List.getElem?_cons_succ, List.set_cons_zero, List.set_cons_succ, List.cons_append, List.nil_append, Option.some.injEq, exists_eq_left', V.bl.injEq, V.int.injEq, V.ref.injEq, atI_0, atI_1, atI_2, setI_1, setI_2, Bool.not_true, Bool.not_false, Bool.false_eq_true, if_false, if_true]
        refine ⟨p, _, rfl, .inl ⟨SqL.of upd_same, fun a ha => ?_⟩⟩
        have ga := Grow.new (o := .tup (ys.map V.str)) ha
        exact k a ys _ (g1.trans (gp.trans ga)) upd_same (py.nodup_iff.mpr nd) (fun x => (py.mem_iff).trans (m x)) sy
  · exact h.elim

end HG

namespace HG
open PySem L2
structure KF (K : PySem.W.Frag) (A : Ad) : Prop where
  cl : Cls K A.c_Converter
  n1 : NoAttr K A.c_Converter "start"
  n2 : NoAttr K A.c_Converter "steps"
  n3 : NoAttr K A.c_Converter "tails"
  n4 : NoAttr K A.c_Converter "states"
  n5 : NoAttr K A.c_Converter "letters"
  it : InsTy K A.c_Converter
  kr : PySem.W.kitOne K (.ref A.c_Converter) (.ref A.c_Converter) = some true

def s0 : Step := ((Str.empty, Str.empty), (Str.empty, Str.empty))
def statesOf (st : Str) (ss : List Step) (ts : List (Str × Str)) : List Str := st :: (ts.map (·.1) ++ (ss.map (·.1.1) ++ ss.map (·.2.2)))
structure Good (st : Str) (ss : List Step) (ts : List (Str × Str)) : Prop where
  kst : nameB st = true
  kss : ∀ s ∈ ss, okStep s
  kts : ∀ t ∈ ts, okTail t
  nS : (ss.map stepK).Nodup
  nT : (ts.map (·.1)).Nodup
  lS : ss.length ≤ 1000
  lT : ts.length ≤ 1000
  l6 : ∃ zs : List Str, zs.length ≤ 6 ∧ ∀ x ∈ statesOf st ss ts, x ∈ zs
  l4 : ∃ zs : List Str, zs.length ≤ 4 ∧ ∀ x ∈ ss.map (·.1.2), x ∈ zs
theorem stepsV_keys {H : Hp} {ss : List Step} {gs : List Addr} (h : Goals H ss gs) : (stepsV ss gs).map (·.1) = ss.map stepK := by
  apply List.ext_getElem?
  intro j
  rw [List.getElem?_map, List.getElem?_map]
  unfold stepsV
  rw [List.getElem?_zipWith]
  by_cases hj : j < ss.length
  · rw [List.getElem?_eq_getElem hj, List.getElem?_eq_getElem (by rw [h.1]; exact hj)]
    rfl
  · rw [List.getElem?_eq_none (by omega : ss.length ≤ j)]
    rfl
theorem tailsV_keys (ts : List (Str × Str)) : (tailsV ts).map (·.1) = (ts.map (·.1)).map Sum.inr := by
  unfold tailsV
  rw [List.map_map, List.map_map]
  rfl
theorem nodup_inr {l : List Str} (h : l.Nodup) : (l.map (Sum.inr : Str → Key)).Nodup := by
  rw [List.Nodup, List.pairwise_map]
  exact h.imp fun hn z => hn (Sum.inr.inj z)
/-- a converter stands at c -/
def CvAt (K : PySem.W.Frag) (A : Ad) (H : Hp) (c : Addr) (st : Str) (ss : List Step) (ts : List (Str × Str)) : Prop := Good st ss ts ∧ ∃ (dx sd td sa la : Addr) (gs : List Addr) (sts ls : List Str),
  H c = some (.ins A.c_Converter dx [("start", .str st), ("steps", .ref sd), ("tails", .ref td), ("states", .ref sa), ("letters", .ref la)]) ∧ H sd = some (.dT (stepsV ss gs)) ∧ Goals H ss gs ∧ H td = some (.dK (tailsV ts)) ∧
  (H sa = some (.tup (sts.map V.str)) ∧ sts.Nodup ∧ (∀ x, x ∈ sts ↔ x ∈ statesOf st ss ts) ∧ PyProof.Rows.sortedS sts = true) ∧ (H la = some (.tup (ls.map V.str)) ∧ ls.Nodup ∧ (∀ x, x ∈ ls ↔ x ∈ ss.map (·.1.2)) ∧ PyProof.Rows.sortedS ls = true)
def sp_Converter_init (K : PySem.W.Frag) (A : Ad) : Sp := fun vs H Q _ => match vs with
  | [.ref x, .str st, .ref d, .ref e] => ∃ (dx : Addr) (ss : List Step) (gs : List Addr) (ts : List (Str × Str)), H x = some (.ins A.c_Converter dx []) ∧ H d = some (.dT (stepsV ss gs)) ∧ Goals H ss gs ∧ H e = some (.dK (tailsV ts)) ∧ Good st ss ts ∧
      ∀ H', Keep x H H' → CvAt K A H' x st ss ts → Q .non H'
  | _ => False
def t_Converter_init_2 (K : PySem.W.Frag) (A : Ad) : TS := tNever
def t_Converter_init_4 (K : PySem.W.Frag) (A : Ad) : TS := tNever
def t_Converter_init_11 (K : PySem.W.Frag) (A : Ad) : TS := tNever
def t_Converter_init_13 (K : PySem.W.Frag) (A : Ad) : TS := tNever
def t_Converter_init_12 (K : PySem.W.Frag) (A : Ad) : TS := (tIfS (tTest (tOp oGt (tCB (cLenE K) (tCons (tFld K (tVar 0) "letters") tNil)) (tC (.int 4)))) (t_Converter_init_13 K A) tNext)
def t_Converter_init_10 (K : PySem.W.Frag) (A : Ad) : TS := (tSeq (tIfS (tTest (tOp oGt (tCB (cLenE K) (tCons (tFld K (tVar 0) "states") tNil)) (tCInt A.c_Converter 6 (tC (.ref A.c_Converter))))) (t_Converter_init_11 K A) tNext) (t_Converter_init_12 K A))
def t_Converter_init_9 (K : PySem.W.Frag) (A : Ad) : TS := (tSeq (sFld K (tVar 0) (tCall (sp_ascending K A) [] E0 (tCons (tLockE (tLc (iKeys (tVar 2)) (gName 4) tYes (tOp (rIx K) (tVar 4) (tC (.int 1))) [4])) tNil)) "letters") (t_Converter_init_10 K A))
def t_Converter_init_8 (K : PySem.W.Frag) (A : Ad) : TS := (tSeq (sFld K (tVar 0) (tCall (sp_ascending K A) [] E0 (tCons (tLst (tCons (tVar 1) (tStarK (tVar 3) (StX.tStar K (tLockE (tLc (iKeys (tVar 2)) (gName 4) tYes (tOp (rIx K) (tVar 4) (tC (.int 0))) [4])) (StX.tStar K (tLockE (tLc (iKeys (tVar 2)) (gName 4) tYes (tOp (rIx K) (tDGet (tVar 2) (tVar 4)) (tC (.int 1))) [4])) tNil))))) tNil)) "states") (t_Converter_init_9 K A))
def t_Converter_init_7 (K : PySem.W.Frag) (A : Ad) : TS := (tSeq (sFld K (tVar 0) (tLockE (tDc (iKeys (tVar 3)) (gName 5) tYes (tVar 5) (tDGet (tVar 3) (tVar 5)) [5])) "tails") (t_Converter_init_8 K A))
def t_Converter_init_6 (K : PySem.W.Frag) (A : Ad) : TS := (tSeq (sFld K (tVar 0) (tLockE (tDcT (iKeys (tVar 2)) (gName 4) tYes (tVar 4) (tDGet (tVar 2) (tVar 4)) [4])) "steps") (t_Converter_init_7 K A))
def t_Converter_init_5 (K : PySem.W.Frag) (A : Ad) : TS := (tSeq (sFld K (tVar 0) (tVar 1) "start") (t_Converter_init_6 K A))
def t_Converter_init_3 (K : PySem.W.Frag) (A : Ad) : TS := (tSeq (tIfS (tNot (tB (tCall (sp_are_tails K A) [] E0 (tCons (tVar 3) tNil)))) (t_Converter_init_4 K A) tNext) (t_Converter_init_5 K A))
def t_Converter_init_1 (K : PySem.W.Frag) (A : Ad) : TS := (tSeq (tIfS (tNot (tB (tCall (sp_are_steps K A) [] E0 (tCons (tVar 2) tNil)))) (t_Converter_init_2 K A) tNext) (t_Converter_init_3 K A))
def t_Converter_init_0 (K : PySem.W.Frag) (A : Ad) : TS := (tSeq (tDrop (tCall (sp_need_name K A) [] E0 (tCons (tVar 1) tNil))) (t_Converter_init_1 K A))

/-- what stands while a converter is made -/
structure Mk0 (K : PySem.W.Frag) (A : Ad) (H0 H : Hp) (x d e dx : Addr) (fs : List (Str × V)) (ss : List Step) (gs : List Addr) (ts : List (Str × Str)) : Prop where
  hx : H x = some (.ins A.c_Converter dx fs)
  hd : H d = some (.dT (stepsV ss gs))
  G : Goals H ss gs
  he : H e = some (.dK (tailsV ts))
  kp : Keep x H0 H
theorem Mk0.grow {K : PySem.W.Frag} {A : Ad} {H0 H H' : Hp} {x d e dx : Addr} {fs : List (Str × V)} {ss : List Step} {gs : List Addr} {ts : List (Str × Str)} (h : Mk0 K A H0 H x d e dx fs ss gs ts) (g : Grow H H') : Mk0 K A H0 H' x d e dx fs ss gs ts :=
  ⟨g _ _ h.hx, g _ _ h.hd, h.G.grow g, g _ _ h.he, h.kp.trans g.keep⟩
theorem Mk0.put {K : PySem.W.Frag} {A : Ad} {H0 H : Hp} {x d e dx : Addr} {fs fs' : List (Str × V)} {ss : List Step} {gs : List Addr} {ts : List (Str × Str)} (h : Mk0 K A H0 H x d e dx fs ss gs ts) : Mk0 K A H0 (upd H x (.ins A.c_Converter dx fs')) x d e dx fs' ss gs ts := by
  have ne : ∀ b o, H b = some o → (∀ C dx fs, o ≠ .ins C dx fs) → b ≠ x := fun b o hb hn z => by rw [z, h.hx] at hb; cases hb; exact hn _ _ _ rfl
  refine ⟨upd_same, (upd_ne (ne _ _ h.hd (fun _ _ _ z => by cases z))).trans h.hd, ⟨h.G.1, fun j s g e1 e2 => (upd_ne (ne _ _ (h.G.2 j s g e1 e2) (fun _ _ _ z => by cases z))).trans (h.G.2 j s g e1 e2)⟩, (upd_ne (ne _ _ h.he (fun _ _ _ z => by cases z))).trans h.he, fun b o hb e => by rw [upd_ne hb]; exact h.kp b o hb e⟩
theorem pure_Converter_init {K : PySem.W.Frag} {A : Ad} {vs : List V} {H : Hp} {Q : VK} {E : XK} (F : KF K A) (h : sp_Converter_init K A vs H Q E) : (t_Converter_init_0 K A) { nx := fun _ H' => Q .non H', rt := Q } (start ["self", "start", "steps", "tails", "key", "state"] vs) H := by
  unfold sp_Converter_init at h
  split at h
  · rename_i x st d e
    obtain ⟨dx, ss, gs, ts, hx, hd, G, he, gd, k⟩ := h
    have hsz : sizeLine = 16777216 := rfl
    show (t_Converter_init_0 K A) _ [some (.ref x), some (.str st), some (.ref d), some (.ref e), none, none] H
    have M0 : Mk0 K A H H x d e dx [] ss gs ts := ⟨hx, hd, G, he, .refl⟩
    clear hx hd G he
    have nS := gd.nS
    have ndS : ((stepsV ss gs).map (·.1)).Nodup := by rw [stepsV_keys M0.G]; exact nS
    have ndT : ((tailsV ts).map (·.1)).Nodup := by rw [tailsV_keys]; exact nodup_inr gd.nT
    refine st_seq (st_drop ?_)
    (refine evE ?P46 (fun Q h => ?h46) ?_; (case h46 => (simp only [tTest, tOp, tUn, tVar, tC, tCB, tCons, tNil, tAnd, tOr, tNot, tB, tTup, tLst, tIf, tAndV, tOrV, tNotV, tSl, tPart, tNoPart, tCall, iIx_ref, oGt_int, oMod_int, oFdiv_int, oAdd_int, oAdd_str, oSub_int, oMul_int, oLt_int, oGe_int, oLe_int, oPow_int, uNeg_int, oEq_int, oEq_str, oEq_bl, oNe_int, oNe_str, oNe_bl, cInt_int, cInt_bl, cAbs_int, cLen_ref, cList_ref, stL_ref, gName, gSub, gTup, gCons, gNil, rdSeq, List.getElem?_cons_zero, List.getElem?_cons_succ, List.set_cons_zero, List.set_cons_succ, List.cons_append, List.nil_append, Option.some.injEq, exists_eq_left', V.bl.injEq, V.int.injEq, V.ref.injEq, atI_0, atI_1, atI_2, setI_1, setI_2, Bool.not_true, Bool.not_false, Bool.false_eq_true, if_false, if_true]; exact h)); (try dsimp only [gName, tNext, List.set_cons_zero, List.set_cons_succ]))
    refine ⟨gd.kst, fun H1 g1 => ?_⟩
    replace M0 := M0.grow g1
    clear g1
    show t_Converter_init_1 K A _ _ _
    refine st_seq (st_if ?_)
    (refine evT ?P47 (fun Q h => ?h47) ?_; (case h47 => (simp only [tTest, tOp, tUn, tVar, tC, tCB, tCons, tNil, tAnd, tOr, tNot, tB, tTup, tLst, tIf, tAndV, tOrV, tNotV, tSl, tPart, tNoPart, tCall, iIx_ref, oGt_int, oMod_int, oFdiv_int, oAdd_int, oAdd_str, oSub_int, oMul_int, oLt_int, oGe_int, oLe_int, oPow_int, uNeg_int, oEq_int, oEq_str, oEq_bl, oNe_int, oNe_str, oNe_bl, cInt_int, cInt_bl, cAbs_int, cLen_ref, cList_ref, stL_ref, gName, gSub, gTup, gCons, gNil, rdSeq, List.getElem?_cons_zero, List.getElem?_cons_succ, List.set_cons_zero, List.set_cons_succ, List.cons_append, List.nil_append, Option.some.injEq, exists_eq_left', V.bl.injEq, V.int.injEq, V.ref.injEq, atI_0, atI_1, atI_2, setI_1, setI_2, Bool.not_true, Bool.not_false, Bool.false_eq_true, if_false, if_true]; exact h)); (try dsimp only [gName, tNext, List.set_cons_zero, List.set_cons_succ]))
    refine ⟨ss, gs, M0.hd, M0.G, gd.kss, gd.lS, ndS, fun H2 g2 => ?_⟩
    refine ⟨_, rfl, if_no ?_⟩
    replace M0 := M0.grow g2
    clear g2 H1
    (try dsimp only [gName, tNext, List.set_cons_zero, List.set_cons_succ])
    show t_Converter_init_3 K A _ _ _
    refine st_seq (st_if ?_)
    (refine evT ?P48 (fun Q h => ?h48) ?_; (case h48 => (simp only [tTest, tOp, tUn, tVar, tC, tCB, tCons, tNil, tAnd, tOr, tNot, tB, tTup, tLst, tIf, tAndV, tOrV, tNotV, tSl, tPart, tNoPart, tCall, iIx_ref, oGt_int, oMod_int, oFdiv_int, oAdd_int, oAdd_str, oSub_int, oMul_int, oLt_int, oGe_int, oLe_int, oPow_int, uNeg_int, oEq_int, oEq_str, oEq_bl, oNe_int, oNe_str, oNe_bl, cInt_int, cInt_bl, cAbs_int, cLen_ref, cList_ref, stL_ref, gName, gSub, gTup, gCons, gNil, rdSeq, List.getElem?_cons_zero, List.getElem?_cons_succ, List.set_cons_zero, List.set_cons_succ, List.cons_append, List.nil_append, Option.some.injEq, exists_eq_left', V.bl.injEq, V.int.injEq, V.ref.injEq, atI_0, atI_1, atI_2, setI_1, setI_2, Bool.not_true, Bool.not_false, Bool.false_eq_true, if_false, if_true]; exact h)); (try dsimp only [gName, tNext, List.set_cons_zero, List.set_cons_succ]))
    refine ⟨ts, M0.he, gd.kts, gd.lT, ndT, fun H3 g3 => ?_⟩
    refine ⟨_, rfl, if_no ?_⟩
    replace M0 := M0.grow g3
    clear g3 H2
    (try dsimp only [gName, tNext, List.set_cons_zero, List.set_cons_succ])
    show t_Converter_init_5 K A _ _ _
    refine st_seq (st_fld ?_)
    (refine evE ?P49 (fun Q h => ?h49) ?_; (case h49 => (simp only [tTest, tOp, tUn, tVar, tC, tCB, tCons, tNil, tAnd, tOr, tNot, tB, tTup, tLst, tIf, tAndV, tOrV, tNotV, tSl, tPart, tNoPart, tCall, iIx_ref, oGt_int, oMod_int, oFdiv_int, oAdd_int, oAdd_str, oSub_int, oMul_int, oLt_int, oGe_int, oLe_int, oPow_int, uNeg_int, oEq_int, oEq_str, oEq_bl, oNe_int, oNe_str, oNe_bl, cInt_int, cInt_bl, cAbs_int, cLen_ref, cList_ref, stL_ref, gName, gSub, gTup, gCons, gNil, rdSeq, List.getElem?_cons_zero, List.getElem?_cons_succ, List.set_cons_zero, List.set_cons_succ, List.cons_append, List.nil_append, Option.some.injEq, exists_eq_left', V.bl.injEq, V.int.injEq, V.ref.injEq, atI_0, atI_1, atI_2, setI_1, setI_2, Bool.not_true, Bool.not_false, Bool.false_eq_true, if_false, if_true]; exact h)); (try dsimp only [gName, tNext, List.set_cons_zero, List.set_cons_succ]))
    (refine evE ?P50 (fun Q h => ?h50) ?_; (case h50 => (simp only [tTest, tOp, tUn, tVar, tC, tCB, tCons, tNil, tAnd, tOr, tNot, tB, tTup, tLst, tIf, tAndV, tOrV, tNotV, tSl, tPart, tNoPart, tCall, iIx_ref, oGt_int, oMod_int, oFdiv_int, oAdd_int, oAdd_str, oSub_int, oMul_int, oLt_int, oGe_int, oLe_int, oPow_int, uNeg_int, oEq_int, oEq_str, oEq_bl, oNe_int, oNe_str, oNe_bl, cInt_int, cInt_bl, cAbs_int, cLen_ref, cList_ref, stL_ref, gName, gSub, gTup, gCons, gNil, rdSeq, List.getElem?_cons_zero, List.getElem?_cons_succ, List.set_cons_zero, List.set_cons_succ, List.cons_append, List.nil_append, Option.some.injEq, exists_eq_left', V.bl.injEq, V.int.injEq, V.ref.injEq, atI_0, atI_1, atI_2, setI_1, setI_2, Bool.not_true, Bool.not_false, Bool.false_eq_true, if_false, if_true]; exact h)); (try dsimp only [gName, tNext, List.set_cons_zero, List.set_cons_succ]))
    refine ⟨x, _, dx, _, rfl, M0.hx, F.cl, F.n1, by decide, ?_⟩
    have M1 := M0.put (fs' := [("start", .str st)])
    show t_Converter_init_6 K A _ _ (upd H3 x (.ins A.c_Converter dx [("start", .str st)]))
    generalize upd H3 x (.ins A.c_Converter dx [("start", .str st)]) = H4 at *
    clear M0 H3
    -- the steps
    refine st_seq (st_fld ?_)
    refine lockT M1.hd fun od => ?_
    refine dcT_ev ?_
    unfold iKeys
    (refine evE ?P63 (fun Q h => ?h63) ?_; (case h63 => (simp only [tTest, tOp, tUn, tVar, tC, tCB, tCons, tNil, tAnd, tOr, tNot, tB, tTup, tLst, tIf, tAndV, tOrV, tNotV, tSl, tPart, tNoPart, tCall, iIx_ref, oGt_int, oMod_int, oFdiv_int, oAdd_int, oAdd_str, oSub_int, oMul_int, oLt_int, oGe_int, oLe_int, oPow_int, uNeg_int, oEq_int, oEq_str, oEq_bl, oNe_int, oNe_str, oNe_bl, cInt_int, cInt_bl, cAbs_int, cLen_ref, cList_ref, stL_ref, gName, gSub, gTup, gCons, gNil, rdSeq, List.getElem?_cons_zero, List.getElem?_cons_succ, List.set_cons_zero, List.set_cons_succ, List.cons_append, List.nil_append, Option.some.injEq, exists_eq_left', V.bl.injEq, V.int.injEq, V.ref.injEq, atI_0, atI_1, atI_2, setI_1, setI_2, Bool.not_true, Bool.not_false, Bool.false_eq_true, if_false, if_true]; exact h)))
    refine ⟨d, od, rfl, .inr ⟨_, upd_same, ?_⟩⟩
    refine dc_mapT (jok_keysT upd_same) (fun j => (stepsV ss gs).getD j ([], .non)) (by rw [stepsV_len M1.G]; have := gd.lS; omega) (fun j hj y H' g' hy R hR => ?_) (fun j hj y H' g' hy R hR => ?_) (fun sd H5 h5 hD hd5 => ?_) (by exact fun x => rfl)
    · obtain ⟨kk, v, q, e1, rfl, hq⟩ := hy
      have eg : (stepsV ss gs).getD j ([], .non) = (kk, v) := by rw [List.getD_eq_getElem?_getD, e1]; rfl
      rw [eg] at hR
      (refine evE ?P51 (fun Q h => ?h51) ?_; (case h51 => (simp only [tTest, tOp, tUn, tVar, tC, tCB, tCons, tNil, tAnd, tOr, tNot, tB, tTup, tLst, tIf, tAndV, tOrV, tNotV, tSl, tPart, tNoPart, tCall, iIx_ref, oGt_int, oMod_int, oFdiv_int, oAdd_int, oAdd_str, oSub_int, oMul_int, oLt_int, oGe_int, oLe_int, oPow_int, uNeg_int, oEq_int, oEq_str, oEq_bl, oNe_int, oNe_str, oNe_bl, cInt_int, cInt_bl, cAbs_int, cLen_ref, cList_ref, stL_ref, gName, gSub, gTup, gCons, gNil, rdSeq, List.getElem?_cons_zero, List.getElem?_cons_succ, List.set_cons_zero, List.set_cons_succ, List.cons_append, List.nil_append, Option.some.injEq, exists_eq_left', V.bl.injEq, V.int.injEq, V.ref.injEq, atI_0, atI_1, atI_2, setI_1, setI_2, Bool.not_true, Bool.not_false, Bool.false_eq_true, if_false, if_true, wipe]; exact h)); (try dsimp only [gName, tNext, List.set_cons_zero, List.set_cons_succ]))
      exact hR q _ .refl hq
    · obtain ⟨kk, v, q, e1, rfl, hq⟩ := hy
      have eg : (stepsV ss gs).getD j ([], .non) = (kk, v) := by rw [List.getD_eq_getElem?_getD, e1]; rfl
      rw [eg] at hR
      (refine evE ?P52 (fun Q h => ?h52) ?_; (case h52 => (simp only [tTest, tOp, tUn, tVar, tC, tCB, tCons, tNil, tAnd, tOr, tNot, tB, tTup, tLst, tIf, tAndV, tOrV, tNotV, tSl, tPart, tNoPart, tCall, iIx_ref, oGt_int, oMod_int, oFdiv_int, oAdd_int, oAdd_str, oSub_int, oMul_int, oLt_int, oGe_int, oLe_int, oPow_int, uNeg_int, oEq_int, oEq_str, oEq_bl, oNe_int, oNe_str, oNe_bl, cInt_int, cInt_bl, cAbs_int, cLen_ref, cList_ref, stL_ref, gName, gSub, gTup, gCons, gNil, rdSeq, List.getElem?_cons_zero, List.getElem?_cons_succ, List.set_cons_zero, List.set_cons_succ, List.cons_append, List.nil_append, Option.some.injEq, exists_eq_left', V.bl.injEq, V.int.injEq, V.ref.injEq, atI_0, atI_1, atI_2, setI_1, setI_2, Bool.not_true, Bool.not_false, Bool.false_eq_true, if_false, if_true, wipe, tDGet]; exact h)); (try dsimp only [gName, tNext, List.set_cons_zero, List.set_cons_succ]))
      exact ⟨d, v, rfl, .inr ⟨_, kk, q, .inr ⟨od, g' _ _ upd_same⟩, rfl, hq, (valV_at ndS e1).symm⟩, hR _ .refl⟩
    rw [foldK_same ndS] at hd5
    obtain ⟨u1, u2⟩ := Grow.unlock M1.hd h5
    refine ⟨u1, ?_⟩
    have nd1 : sd ≠ d := fun z => by rw [z, upd_same] at hD; cases hD
    have hsd : upd H5 d (.dT (stepsV ss gs)) sd = some (.dT (stepsV ss gs)) := (upd_ne nd1).trans hd5
    replace M1 := M1.grow u2
    clear u1 u2 h5 hD hd5 nd1 H4
    generalize upd H5 d (.dT (stepsV ss gs)) = H6 at *
    (refine evE ?P53 (fun Q h => ?h53) ?_; (case h53 => (simp only [tTest, tOp, tUn, tVar, tC, tCB, tCons, tNil, tAnd, tOr, tNot, tB, tTup, tLst, tIf, tAndV, tOrV, tNotV, tSl, tPart, tNoPart, tCall, iIx_ref, oGt_int, oMod_int, oFdiv_int, oAdd_int, oAdd_str, oSub_int, oMul_int, oLt_int, oGe_int, oLe_int, oPow_int, uNeg_int, oEq_int, oEq_str, oEq_bl, oNe_int, oNe_str, oNe_bl, cInt_int, cInt_bl, cAbs_int, cLen_ref, cList_ref, stL_ref, gName, gSub, gTup, gCons, gNil, rdSeq, List.getElem?_cons_zero, List.getElem?_cons_succ, List.set_cons_zero, List.set_cons_succ, List.cons_append, List.nil_append, Option.some.injEq, exists_eq_left', V.bl.injEq, V.int.injEq, V.ref.injEq, atI_0, atI_1, atI_2, setI_1, setI_2, Bool.not_true, Bool.not_false, Bool.false_eq_true, if_false, if_true]; exact h)); (try dsimp only [gName, tNext, List.set_cons_zero, List.set_cons_succ]))
    refine ⟨x, _, dx, _, rfl, M1.hx, F.cl, F.n2, by show 1 < 1000; decide, ?_⟩
    have ns : sd ≠ x := fun z => by rw [z, M1.hx] at hsd; cases hsd
    have M2 := M1.put (fs' := [("start", .str st), ("steps", .ref sd)])
    replace hsd : upd H6 x (.ins A.c_Converter dx [("start", .str st), ("steps", .ref sd)]) sd = _ := (upd_ne ns).trans hsd
    show t_Converter_init_7 K A _ _ (upd H6 x (.ins A.c_Converter dx [("start", .str st), ("steps", .ref sd)]))
    generalize upd H6 x (.ins A.c_Converter dx [("start", .str st), ("steps", .ref sd)]) = H7 at *
    clear M1 H5 H6
    -- the tails
    refine st_seq (st_fld ?_)
    refine lockK M2.he fun od => ?_
    refine dcK_ev ?_
    unfold iKeys
    (refine evE ?P64 (fun Q h => ?h64) ?_; (case h64 => (simp only [tTest, tOp, tUn, tVar, tC, tCB, tCons, tNil, tAnd, tOr, tNot, tB, tTup, tLst, tIf, tAndV, tOrV, tNotV, tSl, tPart, tNoPart, tCall, iIx_ref, oGt_int, oMod_int, oFdiv_int, oAdd_int, oAdd_str, oSub_int, oMul_int, oLt_int, oGe_int, oLe_int, oPow_int, uNeg_int, oEq_int, oEq_str, oEq_bl, oNe_int, oNe_str, oNe_bl, cInt_int, cInt_bl, cAbs_int, cLen_ref, cList_ref, stL_ref, gName, gSub, gTup, gCons, gNil, rdSeq, List.getElem?_cons_zero, List.getElem?_cons_succ, List.set_cons_zero, List.set_cons_succ, List.cons_append, List.nil_append, Option.some.injEq, exists_eq_left', V.bl.injEq, V.int.injEq, V.ref.injEq, atI_0, atI_1, atI_2, setI_1, setI_2, Bool.not_true, Bool.not_false, Bool.false_eq_true, if_false, if_true]; exact h)))
    refine ⟨e, od, rfl, .inl ⟨_, upd_same, ?_⟩⟩
    have tl : (tailsV ts).length = ts.length := List.length_map _
    refine dc_mapK (jok_keysK upd_same) (fun j => (tailsV ts).getD j (.inl 0, .non)) (by rw [tl]; have := gd.lT; omega) (fun j hj y H' g' hy R hR => ?_) (fun j hj y H' g' hy R hR => ?_) (fun td H8 h8 hD hd8 => ?_) (by exact fun x => rfl)
    · obtain ⟨kk, v, e1, rfl⟩ := hy
      have eg : (tailsV ts).getD j (.inl 0, .non) = (kk, v) := by rw [List.getD_eq_getElem?_getD, e1]; rfl
      rw [eg] at hR
      (refine evE ?P54 (fun Q h => ?h54) ?_; (case h54 => (simp only [tTest, tOp, tUn, tVar, tC, tCB, tCons, tNil, tAnd, tOr, tNot, tB, tTup, tLst, tIf, tAndV, tOrV, tNotV, tSl, tPart, tNoPart, tCall, iIx_ref, oGt_int, oMod_int, oFdiv_int, oAdd_int, oAdd_str, oSub_int, oMul_int, oLt_int, oGe_int, oLe_int, oPow_int, uNeg_int, oEq_int, oEq_str, oEq_bl, oNe_int, oNe_str, oNe_bl, cInt_int, cInt_bl, cAbs_int, cLen_ref, cList_ref, stL_ref, gName, gSub, gTup, gCons, gNil, rdSeq, List.getElem?_cons_zero, List.getElem?_cons_succ, List.set_cons_zero, List.set_cons_succ, List.cons_append, List.nil_append, Option.some.injEq, exists_eq_left', V.bl.injEq, V.int.injEq, V.ref.injEq, atI_0, atI_1, atI_2, setI_1, setI_2, Bool.not_true, Bool.not_false, Bool.false_eq_true, if_false, if_true, wipe]; exact h)); (try dsimp only [gName, tNext, List.set_cons_zero, List.set_cons_succ]))
      exact hR _ .refl
    · obtain ⟨kk, v, e1, rfl⟩ := hy
      have eg : (tailsV ts).getD j (.inl 0, .non) = (kk, v) := by rw [List.getD_eq_getElem?_getD, e1]; rfl
      rw [eg] at hR
      (refine evE ?P55 (fun Q h => ?h55) ?_; (case h55 => (simp only [tTest, tOp, tUn, tVar, tC, tCB, tCons, tNil, tAnd, tOr, tNot, tB, tTup, tLst, tIf, tAndV, tOrV, tNotV, tSl, tPart, tNoPart, tCall, iIx_ref, oGt_int, oMod_int, oFdiv_int, oAdd_int, oAdd_str, oSub_int, oMul_int, oLt_int, oGe_int, oLe_int, oPow_int, uNeg_int, oEq_int, oEq_str, oEq_bl, oNe_int, oNe_str, oNe_bl, cInt_int, cInt_bl, cAbs_int, cLen_ref, cList_ref, stL_ref, gName, gSub, gTup, gCons, gNil, rdSeq, List.getElem?_cons_zero, List.getElem?_cons_succ, List.set_cons_zero, List.set_cons_succ, List.cons_append, List.nil_append, Option.some.injEq, exists_eq_left', V.bl.injEq, V.int.injEq, V.ref.injEq, atI_0, atI_1, atI_2, setI_1, setI_2, Bool.not_true, Bool.not_false, Bool.false_eq_true, if_false, if_true, wipe, tDGet]; exact h)); (try dsimp only [gName, tNext, List.set_cons_zero, List.set_cons_succ]))
      exact ⟨e, v, rfl, .inl ⟨_, kk, .inr ⟨od, g' _ _ upd_same⟩, rfl, (valV_at ndT e1).symm⟩, hR _ .refl⟩
    rw [foldK_same ndT] at hd8
    obtain ⟨u1, u2⟩ := Grow.unlock M2.he h8
    refine ⟨u1, ?_⟩
    have nd1 : td ≠ e := fun z => by rw [z, upd_same] at hD; cases hD
    have htd : upd H8 e (.dK (tailsV ts)) td = some (.dK (tailsV ts)) := (upd_ne nd1).trans hd8
    replace M2 := M2.grow u2
    replace hsd := u2 _ _ hsd
    clear u1 u2 h8 hD hd8 nd1 ns H7
    generalize upd H8 e (.dK (tailsV ts)) = H9 at *
    (refine evE ?P56 (fun Q h => ?h56) ?_; (case h56 => (simp only [tTest, tOp, tUn, tVar, tC, tCB, tCons, tNil, tAnd, tOr, tNot, tB, tTup, tLst, tIf, tAndV, tOrV, tNotV, tSl, tPart, tNoPart, tCall, iIx_ref, oGt_int, oMod_int, oFdiv_int, oAdd_int, oAdd_str, oSub_int, oMul_int, oLt_int, oGe_int, oLe_int, oPow_int, uNeg_int, oEq_int, oEq_str, oEq_bl, oNe_int, oNe_str, oNe_bl, cInt_int, cInt_bl, cAbs_int, cLen_ref, cList_ref, stL_ref, gName, gSub, gTup, gCons, gNil, rdSeq, List.getElem?_cons_zero, List.getElem?_cons_succ, List.set_cons_zero, List.set_cons_succ, List.cons_append, List.nil_append, Option.some.injEq, exists_eq_left', V.bl.injEq, V.int.injEq, V.ref.injEq, atI_0, atI_1, atI_2, setI_1, setI_2, Bool.not_true, Bool.not_false, Bool.false_eq_true, if_false, if_true]; exact h)); (try dsimp only [gName, tNext, List.set_cons_zero, List.set_cons_succ]))
    refine ⟨x, _, dx, _, rfl, M2.hx, F.cl, F.n3, by show 2 < 1000; decide, ?_⟩
    have ns : sd ≠ x := fun z => by rw [z, M2.hx] at hsd; cases hsd
    have nt : td ≠ x := fun z => by rw [z, M2.hx] at htd; cases htd
    have M3 := M2.put (fs' := [("start", .str st), ("steps", .ref sd), ("tails", .ref td)])
    replace hsd : upd H9 x (.ins A.c_Converter dx [("start", .str st), ("steps", .ref sd), ("tails", .ref td)]) sd = _ := (upd_ne ns).trans hsd
    replace htd : upd H9 x (.ins A.c_Converter dx [("start", .str st), ("steps", .ref sd), ("tails", .ref td)]) td = _ := (upd_ne nt).trans htd
    show t_Converter_init_8 K A _ _ (upd H9 x (.ins A.c_Converter dx [("start", .str st), ("steps", .ref sd), ("tails", .ref td)]))
    generalize upd H9 x (.ins A.c_Converter dx [("start", .str st), ("steps", .ref sd), ("tails", .ref td)]) = H10 at *
    clear M2 H8 H9 ns nt
    -- the states
    refine st_seq (st_fld ?_)
    (refine evE ?P57 (fun Q h => ?h57) ?_; (case h57 => (simp only [tTest, tOp, tUn, tVar, tC, tCB, tCons, tNil, tAnd, tOr, tNot, tB, tTup, tLst, tIf, tAndV, tOrV, tNotV, tSl, tPart, tNoPart, tCall, iIx_ref, oGt_int, oMod_int, oFdiv_int, oAdd_int, oAdd_str, oSub_int, oMul_int, oLt_int, oGe_int, oLe_int, oPow_int, uNeg_int, oEq_int, oEq_str, oEq_bl, oNe_int, oNe_str, oNe_bl, cInt_int, cInt_bl, cAbs_int, cLen_ref, cList_ref, stL_ref, gName, gSub, gTup, gCons, gNil, rdSeq, List.getElem?_cons_zero, List.getElem?_cons_succ, List.set_cons_zero, List.set_cons_succ, List.cons_append, List.nil_append, Option.some.injEq, exists_eq_left', V.bl.injEq, V.int.injEq, V.ref.injEq, atI_0, atI_1, atI_2, setI_1, setI_2, Bool.not_true, Bool.not_false, Bool.false_eq_true, if_false, if_true]; exact h)); (try dsimp only [gName, tNext, List.set_cons_zero, List.set_cons_succ]))
    unfold tStarK
    (refine evE ?P65 (fun Q h => ?h65) ?_; (case h65 => (simp only [tTest, tOp, tUn, tVar, tC, tCB, tCons, tNil, tAnd, tOr, tNot, tB, tTup, tLst, tIf, tAndV, tOrV, tNotV, tSl, tPart, tNoPart, tCall, iIx_ref, oGt_int, oMod_int, oFdiv_int, oAdd_int, oAdd_str, oSub_int, oMul_int, oLt_int, oGe_int, oLe_int, oPow_int, uNeg_int, oEq_int, oEq_str, oEq_bl, oNe_int, oNe_str, oNe_bl, cInt_int, cInt_bl, cAbs_int, cLen_ref, cList_ref, stL_ref, gName, gSub, gTup, gCons, gNil, rdSeq, List.getElem?_cons_zero, List.getElem?_cons_succ, List.set_cons_zero, List.set_cons_succ, List.cons_append, List.nil_append, Option.some.injEq, exists_eq_left', V.bl.injEq, V.int.injEq, V.ref.injEq, atI_0, atI_1, atI_2, setI_1, setI_2, Bool.not_true, Bool.not_false, Bool.false_eq_true, if_false, if_true]; exact h)))
    refine ⟨e, _, rfl, .inl M3.he, ?_⟩
    unfold StX.tStar
    refine lockT M3.hd fun od => ?_
    refine lc_ev ?_
    unfold iKeys
    (refine evE ?P66 (fun Q h => ?h66) ?_; (case h66 => (simp only [tTest, tOp, tUn, tVar, tC, tCB, tCons, tNil, tAnd, tOr, tNot, tB, tTup, tLst, tIf, tAndV, tOrV, tNotV, tSl, tPart, tNoPart, tCall, iIx_ref, oGt_int, oMod_int, oFdiv_int, oAdd_int, oAdd_str, oSub_int, oMul_int, oLt_int, oGe_int, oLe_int, oPow_int, uNeg_int, oEq_int, oEq_str, oEq_bl, oNe_int, oNe_str, oNe_bl, cInt_int, cInt_bl, cAbs_int, cLen_ref, cList_ref, stL_ref, gName, gSub, gTup, gCons, gNil, rdSeq, List.getElem?_cons_zero, List.getElem?_cons_succ, List.set_cons_zero, List.set_cons_succ, List.cons_append, List.nil_append, Option.some.injEq, exists_eq_left', V.bl.injEq, V.int.injEq, V.ref.injEq, atI_0, atI_1, atI_2, setI_1, setI_2, Bool.not_true, Bool.not_false, Bool.false_eq_true, if_false, if_true]; exact h)))
    refine ⟨d, od, rfl, .inr ⟨_, upd_same, ?_⟩⟩
    have sl := stepsV_len M3.G
    refine lc_mapR (jok_keysT upd_same) (fun j => .str (ss.getD j s0).1.1) (by rw [sl]; have := gd.lS; omega) (fun j hj y H' g' hy R hR => ?_) (fun D1 H11 h11 hD hd11 => ?_) (by exact fun x => rfl)
    · obtain ⟨kk, v, q, e1, rfl, hq⟩ := hy
      obtain ⟨s, g, s1, s2, rfl, rfl, s3⟩ := stepsV_at M3.G e1
      have eg : ss.getD j s0 = s := by rw [List.getD_eq_getElem?_getD, s1]; rfl
      rw [eg] at hR
      (refine evE ?P58 (fun Q h => ?h58) ?_; (case h58 => (simp only [tTest, tOp, tUn, tVar, tC, tCB, tCons, tNil, tAnd, tOr, tNot, tB, tTup, tLst, tIf, tAndV, tOrV, tNotV, tSl, tPart, tNoPart, tCall, iIx_ref, oGt_int, oMod_int, oFdiv_int, oAdd_int, oAdd_str, oSub_int, oMul_int, oLt_int, oGe_int, oLe_int, oPow_int, uNeg_int, oEq_int, oEq_str, oEq_bl, oNe_int, oNe_str, oNe_bl, cInt_int, cInt_bl, cAbs_int, cLen_ref, cList_ref, stL_ref, gName, gSub, gTup, gCons, gNil, rdSeq, List.getElem?_cons_zero, List.getElem?_cons_succ, List.set_cons_zero, List.set_cons_succ, List.cons_append, List.nil_append, Option.some.injEq, exists_eq_left', V.bl.injEq, V.int.injEq, V.ref.injEq, atI_0, atI_1, atI_2, setI_1, setI_2, Bool.not_true, Bool.not_false, Bool.false_eq_true, if_false, if_true, wipe]; exact h)); (try dsimp only [gName, tNext, List.set_cons_zero, List.set_cons_succ]))
      exact ixE (.t hq) atI_0 (hR _ .refl)
    rw [sl, map_list ss s0 (fun s => V.str s.1.1)] at hd11
    obtain ⟨u1, u2⟩ := Grow.unlock M3.hd h11
    refine ⟨u1, ?_⟩
    have nd1 : D1 ≠ d := fun z => by rw [z, upd_same] at hD; cases hD
    have hD1 : upd H11 d (.dT (stepsV ss gs)) D1 = _ := (upd_ne nd1).trans hd11
    have M4 := M3.grow u2
    have u10 := u2
    replace hsd := u2 _ _ hsd
    replace htd := u2 _ _ htd
    clear u1 u2 h11 hD hd11 nd1
    generalize upd H11 d (.dT (stepsV ss gs)) = H12 at *
    refine ⟨D1, _, rfl, .inr (SqL.of hD1), ?_⟩
    refine lockT M4.hd fun od => ?_
    refine lc_ev ?_
    (refine evE ?P67 (fun Q h => ?h67) ?_; (case h67 => (simp only [tTest, tOp, tUn, tVar, tC, tCB, tCons, tNil, tAnd, tOr, tNot, tB, tTup, tLst, tIf, tAndV, tOrV, tNotV, tSl, tPart, tNoPart, tCall, iIx_ref, oGt_int, oMod_int, oFdiv_int, oAdd_int, oAdd_str, oSub_int, oMul_int, oLt_int, oGe_int, oLe_int, oPow_int, uNeg_int, oEq_int, oEq_str, oEq_bl, oNe_int, oNe_str, oNe_bl, cInt_int, cInt_bl, cAbs_int, cLen_ref, cList_ref, stL_ref, gName, gSub, gTup, gCons, gNil, rdSeq, List.getElem?_cons_zero, List.getElem?_cons_succ, List.set_cons_zero, List.set_cons_succ, List.cons_append, List.nil_append, Option.some.injEq, exists_eq_left', V.bl.injEq, V.int.injEq, V.ref.injEq, atI_0, atI_1, atI_2, setI_1, setI_2, Bool.not_true, Bool.not_false, Bool.false_eq_true, if_false, if_true]; exact h)))
    refine ⟨d, od, rfl, .inr ⟨_, upd_same, ?_⟩⟩
    refine lc_mapR (jok_keysT upd_same) (fun j => .str (ss.getD j s0).2.2) (by rw [sl]; have := gd.lS; omega) (fun j hj y H' g' hy R hR => ?_) (fun D2 H13 h13 hD hd13 => ?_) (by exact fun x => rfl)
    · obtain ⟨kk, v, q, e1, rfl, hq⟩ := hy
      obtain ⟨s, g, s1, s2, rfl, rfl, s3⟩ := stepsV_at M4.G e1
      have eg : ss.getD j s0 = s := by rw [List.getD_eq_getElem?_getD, s1]; rfl
      rw [eg] at hR
      have hg := g' g _ ((upd_ne (fun z => by rw [z, M4.hd] at s3; cases s3)).trans s3)
      (refine evE ?P59 (fun Q h => ?h59) ?_; (case h59 => (simp only [tTest, tOp, tUn, tVar, tC, tCB, tCons, tNil, tAnd, tOr, tNot, tB, tTup, tLst, tIf, tAndV, tOrV, tNotV, tSl, tPart, tNoPart, tCall, iIx_ref, oGt_int, oMod_int, oFdiv_int, oAdd_int, oAdd_str, oSub_int, oMul_int, oLt_int, oGe_int, oLe_int, oPow_int, uNeg_int, oEq_int, oEq_str, oEq_bl, oNe_int, oNe_str, oNe_bl, cInt_int, cInt_bl, cAbs_int, cLen_ref, cList_ref, stL_ref, gName, gSub, gTup, gCons, gNil, rdSeq, List.getElem?_cons_zero, List.getElem?_cons_succ, List.set_cons_zero, List.set_cons_succ, List.cons_append, List.nil_append, Option.some.injEq, exists_eq_left', V.bl.injEq, V.int.injEq, V.ref.injEq, atI_0, atI_1, atI_2, setI_1, setI_2, Bool.not_true, Bool.not_false, Bool.false_eq_true, if_false, if_true, wipe, tDGet]; exact h)); (try dsimp only [gName, tNext, List.set_cons_zero, List.set_cons_succ]))
      refine ⟨d, .ref g, rfl, .inr ⟨_, stepK s, q, .inr ⟨od, g' _ _ upd_same⟩, rfl, hq, (valV_at ndS e1).symm⟩, ?_⟩
      exact ixE (.t hg) atI_1 (hR _ .refl)
    rw [sl, map_list ss s0 (fun s => V.str s.2.2)] at hd13
    obtain ⟨u1, u2⟩ := Grow.unlock M4.hd h13
    refine ⟨u1, ?_⟩
    have nd1 : D2 ≠ d := fun z => by rw [z, upd_same] at hD; cases hD
    have hD2 : upd H13 d (.dT (stepsV ss gs)) D2 = _ := (upd_ne nd1).trans hd13
    have M5 := M4.grow u2
    replace hsd := u2 _ _ hsd
    replace htd := u2 _ _ htd
    clear u1 u2 h13 hD hd13 nd1 M4 hD1
    generalize upd H13 d (.dT (stepsV ss gs)) = H14 at *
    refine ⟨D2, _, rfl, .inr (SqL.of hD2), ?_⟩
    simp only [tTest, tOp, tUn, tVar, tC, tCB, tCons, tNil, tAnd, tOr, tNot, tB, tTup, tLst, tIf, tAndV, tOrV, tNotV, tSl, tPart, tNoPart, tCall, iIx_ref, oGt_int, oMod_int, oFdiv_int, oAdd_int, oAdd_str, oSub_int, oMul_int, oLt_int, oGe_int, oLe_int, oPow_int, uNeg_int, oEq_int, oEq_str, oEq_bl, oNe_int, oNe_str, oNe_bl, cInt_int, cInt_bl, cAbs_int, cLen_ref, cList_ref, stL_ref, gName, gSub, gTup, gCons, gNil, rdSeq, List.getElem?_cons_zero, List.getElem?_cons_succ, List.set_cons_zero, List.set_cons_succ, List.cons_append, List.nil_append, Option.some.injEq, exists_eq_left', V.bl.injEq, V.int.injEq, V.ref.injEq, atI_0, atI_1, atI_2, setI_1, setI_2, Bool.not_true, Bool.not_false, Bool.false_eq_true, if_false, if_true]
    have eL : (V.str st :: ((tailsV ts).map (fun p => kV p.1) ++ (ss.map (fun s => V.str s.1.1) ++ (ss.map (fun s => V.str s.2.2) ++ [])))) = (statesOf st ss ts).map V.str := by
      unfold statesOf tailsV
      simp only [List.map_cons, List.map_append, List.map_map, List.append_nil]
      rfl
    rw [eL]
    have lS := gd.lS
    have lT := gd.lT
    have lst : (statesOf st ss ts).length ≤ 100000 := by
      unfold statesOf
      simp only [List.length_cons, List.length_append, List.length_map]
      omega
    obtain ⟨z6, z6l, z6m⟩ := gd.l6
    obtain ⟨z4, z4l, z4m⟩ := gd.l4
    refine ⟨by rw [List.length_map]; omega, fun p hp => ⟨statesOf st ss ts, z6, upd_same, lst, z6m, by omega, fun sa sts H15 g15 hsa nds ms sys => ?_⟩⟩
    have g15' := (Grow.new (o := .lst ((statesOf st ss ts).map V.str)) hp).trans g15
    have M6 := M5.grow g15'
    replace hsd := g15' _ _ hsd
    replace htd := g15' _ _ htd
    clear M5 M3 g15 g15' hp hD2 u10 H14 H13 H12 H11
    refine ⟨x, _, dx, _, rfl, M6.hx, F.cl, F.n4, by show 3 < 1000; decide, ?_⟩
    have n1 : sd ≠ x := fun z => by rw [z, M6.hx] at hsd; cases hsd
    have n2 : td ≠ x := fun z => by rw [z, M6.hx] at htd; cases htd
    have n3 : sa ≠ x := fun z => by rw [z, M6.hx] at hsa; cases hsa
    have M7 := M6.put (fs' := [("start", .str st), ("steps", .ref sd), ("tails", .ref td), ("states", .ref sa)])
    replace hsd : upd H15 x (.ins A.c_Converter dx [("start", .str st), ("steps", .ref sd), ("tails", .ref td), ("states", .ref sa)]) sd = _ := (upd_ne n1).trans hsd
    replace htd : upd H15 x (.ins A.c_Converter dx [("start", .str st), ("steps", .ref sd), ("tails", .ref td), ("states", .ref sa)]) td = _ := (upd_ne n2).trans htd
    replace hsa : upd H15 x (.ins A.c_Converter dx [("start", .str st), ("steps", .ref sd), ("tails", .ref td), ("states", .ref sa)]) sa = _ := (upd_ne n3).trans hsa
    show t_Converter_init_9 K A _ _ (upd H15 x (.ins A.c_Converter dx [("start", .str st), ("steps", .ref sd), ("tails", .ref td), ("states", .ref sa)]))
    generalize upd H15 x (.ins A.c_Converter dx [("start", .str st), ("steps", .ref sd), ("tails", .ref td), ("states", .ref sa)]) = H16 at *
    clear M6 H15 n1 n2 n3
    -- the letters
    refine st_seq (st_fld ?_)
    (refine evE ?P68 (fun Q h => ?h68) ?_; (case h68 => (simp only [tTest, tOp, tUn, tVar, tC, tCB, tCons, tNil, tAnd, tOr, tNot, tB, tTup, tLst, tIf, tAndV, tOrV, tNotV, tSl, tPart, tNoPart, tCall, iIx_ref, oGt_int, oMod_int, oFdiv_int, oAdd_int, oAdd_str, oSub_int, oMul_int, oLt_int, oGe_int, oLe_int, oPow_int, uNeg_int, oEq_int, oEq_str, oEq_bl, oNe_int, oNe_str, oNe_bl, cInt_int, cInt_bl, cAbs_int, cLen_ref, cList_ref, stL_ref, gName, gSub, gTup, gCons, gNil, rdSeq, List.getElem?_cons_zero, List.getElem?_cons_succ, List.set_cons_zero, List.set_cons_succ, List.cons_append, List.nil_append, Option.some.injEq, exists_eq_left', V.bl.injEq, V.int.injEq, V.ref.injEq, atI_0, atI_1, atI_2, setI_1, setI_2, Bool.not_true, Bool.not_false, Bool.false_eq_true, if_false, if_true]; exact h)))
    refine lockT M7.hd fun od => ?_
    refine lc_ev ?_
    unfold iKeys
    (refine evE ?P69 (fun Q h => ?h69) ?_; (case h69 => (simp only [tTest, tOp, tUn, tVar, tC, tCB, tCons, tNil, tAnd, tOr, tNot, tB, tTup, tLst, tIf, tAndV, tOrV, tNotV, tSl, tPart, tNoPart, tCall, iIx_ref, oGt_int, oMod_int, oFdiv_int, oAdd_int, oAdd_str, oSub_int, oMul_int, oLt_int, oGe_int, oLe_int, oPow_int, uNeg_int, oEq_int, oEq_str, oEq_bl, oNe_int, oNe_str, oNe_bl, cInt_int, cInt_bl, cAbs_int, cLen_ref, cList_ref, stL_ref, gName, gSub, gTup, gCons, gNil, rdSeq, List.getElem?_cons_zero, List.getElem?_cons_succ, List.set_cons_zero, List.set_cons_succ, List.cons_append, List.nil_append, Option.some.injEq, exists_eq_left', V.bl.injEq, V.int.injEq, V.ref.injEq, atI_0, atI_1, atI_2, setI_1, setI_2, Bool.not_true, Bool.not_false, Bool.false_eq_true, if_false, if_true]; exact h)))
    refine ⟨d, od, rfl, .inr ⟨_, upd_same, ?_⟩⟩
    refine lc_mapR (jok_keysT upd_same) (fun j => .str (ss.getD j s0).1.2) (by rw [sl]; omega) (fun j hj y H' g' hy R hR => ?_) (fun D3 H17 h17 hD hd17 => ?_) (by exact fun x => rfl)
    · obtain ⟨kk, v, q, e1, rfl, hq⟩ := hy
      obtain ⟨s, g, s1, s2, rfl, rfl, s3⟩ := stepsV_at M7.G e1
      have eg : ss.getD j s0 = s := by rw [List.getD_eq_getElem?_getD, s1]; rfl
      rw [eg] at hR
      (refine evE ?P60 (fun Q h => ?h60) ?_; (case h60 => (simp only [tTest, tOp, tUn, tVar, tC, tCB, tCons, tNil, tAnd, tOr, tNot, tB, tTup, tLst, tIf, tAndV, tOrV, tNotV, tSl, tPart, tNoPart, tCall, iIx_ref, oGt_int, oMod_int, oFdiv_int, oAdd_int, oAdd_str, oSub_int, oMul_int, oLt_int, oGe_int, oLe_int, oPow_int, uNeg_int, oEq_int, oEq_str, oEq_bl, oNe_int, oNe_str, oNe_bl, cInt_int, cInt_bl, cAbs_int, cLen_ref, cList_ref, stL_ref, gName, gSub, gTup, gCons, gNil, rdSeq, List.getElem?_cons_zero, List.getElem?_cons_succ, List.set_cons_zero, List.set_cons_succ, List.cons_append, List.nil_append, Option.some.injEq, exists_eq_left', V.bl.injEq, V.int.injEq, V.ref.injEq, atI_0, atI_1, atI_2, setI_1, setI_2, Bool.not_true, Bool.not_false, Bool.false_eq_true, if_false, if_true, wipe]; exact h)); (try dsimp only [gName, tNext, List.set_cons_zero, List.set_cons_succ]))
      exact ixE (.t hq) atI_1 (hR _ .refl)
    rw [sl, map_list ss s0 (fun s => V.str s.1.2)] at hd17
    obtain ⟨u1, u2⟩ := Grow.unlock M7.hd h17
    refine ⟨u1, ?_⟩
    have nd1 : D3 ≠ d := fun z => by rw [z, upd_same] at hD; cases hD
    have hD3 : upd H17 d (.dT (stepsV ss gs)) D3 = some (.lst ((ss.map (·.1.2)).map V.str)) := (upd_ne nd1).trans (by rw [hd17, List.map_map]; rfl)
    have M8 := M7.grow u2
    replace hsd := u2 _ _ hsd
    replace htd := u2 _ _ htd
    replace hsa := u2 _ _ hsa
    clear u1 u2 h17 hD hd17 nd1 M7 H16
    generalize upd H17 d (.dT (stepsV ss gs)) = H18 at *
    refine ⟨ss.map (·.1.2), z4, hD3, by rw [List.length_map]; omega, z4m, by omega, fun la ls H19 g19 hla ndl ml syl => ?_⟩
    have M9 := M8.grow g19
    replace hsd := g19 _ _ hsd
    replace htd := g19 _ _ htd
    replace hsa := g19 _ _ hsa
    clear M8 g19 hD3 H18 H17
    simp only [tTest, tOp, tUn, tVar, tC, tCB, tCons, tNil, tAnd, tOr, tNot, tB, tTup, tLst, tIf, tAndV, tOrV, tNotV, tSl, tPart, tNoPart, tCall, iIx_ref, oGt_int, oMod_int, oFdiv_int, oAdd_int, oAdd_str, oSub_int, oMul_int, oLt_int, oGe_int, oLe_int, oPow_int, uNeg_int, oEq_int, oEq_str, oEq_bl, oNe_int, oNe_str, oNe_bl, cInt_int, cInt_bl, cAbs_int, cLen_ref, cList_ref, stL_ref, gName, gSub, gTup, gCons, gNil, rdSeq, List.getElem?_cons_zero, List.getElem?_cons_succ, List.set_cons_zero, List.set_cons_succ, List.cons_append, List.nil_append, Option.some.injEq, exists_eq_left', V.bl.injEq, V.int.injEq, V.ref.injEq, atI_0, atI_1, atI_2, setI_1, setI_2, Bool.not_true, Bool.not_false, Bool.false_eq_true, if_false, if_true]
    refine ⟨x, _, dx, _, rfl, M9.hx, F.cl, F.n5, by show 4 < 1000; decide, ?_⟩
    have n1 : sd ≠ x := fun z => by rw [z, M9.hx] at hsd; cases hsd
    have n2 : td ≠ x := fun z => by rw [z, M9.hx] at htd; cases htd
    have n3 : sa ≠ x := fun z => by rw [z, M9.hx] at hsa; cases hsa
    have n4 : la ≠ x := fun z => by rw [z, M9.hx] at hla; cases hla
    have MA := M9.put (fs' := [("start", .str st), ("steps", .ref sd), ("tails", .ref td), ("states", .ref sa), ("letters", .ref la)])
    replace hsd : upd H19 x (.ins A.c_Converter dx [("start", .str st), ("steps", .ref sd), ("tails", .ref td), ("states", .ref sa), ("letters", .ref la)]) sd = _ := (upd_ne n1).trans hsd
    replace htd : upd H19 x (.ins A.c_Converter dx [("start", .str st), ("steps", .ref sd), ("tails", .ref td), ("states", .ref sa), ("letters", .ref la)]) td = _ := (upd_ne n2).trans htd
    replace hsa : upd H19 x (.ins A.c_Converter dx [("start", .str st), ("steps", .ref sd), ("tails", .ref td), ("states", .ref sa), ("letters", .ref la)]) sa = _ := (upd_ne n3).trans hsa
    replace hla : upd H19 x (.ins A.c_Converter dx [("start", .str st), ("steps", .ref sd), ("tails", .ref td), ("states", .ref sa), ("letters", .ref la)]) la = _ := (upd_ne n4).trans hla
    show t_Converter_init_10 K A _ _ (upd H19 x (.ins A.c_Converter dx [("start", .str st), ("steps", .ref sd), ("tails", .ref td), ("states", .ref sa), ("letters", .ref la)]))
    generalize upd H19 x (.ins A.c_Converter dx [("start", .str st), ("steps", .ref sd), ("tails", .ref td), ("states", .ref sa), ("letters", .ref la)]) = H20 at *
    clear M9 H19 n1 n2 n3 n4
    have l6 : sts.length ≤ 6 := Nat.le_trans (nodup_le nds fun x hx => z6m x ((ms x).mp hx)) z6l
    have l4 : ls.length ≤ 4 := Nat.le_trans (nodup_le ndl fun x hx => z4m x ((ml x).mp hx)) z4l
    refine st_seq (st_if ?_)
    (refine evT ?P61 (fun Q h => ?h61) ?_; (case h61 => (simp only [tTest, tOp, tUn, tVar, tC, tCB, tCons, tNil, tAnd, tOr, tNot, tB, tTup, tLst, tIf, tAndV, tOrV, tNotV, tSl, tPart, tNoPart, tCall, iIx_ref, oGt_int, oMod_int, oFdiv_int, oAdd_int, oAdd_str, oSub_int, oMul_int, oLt_int, oGe_int, oLe_int, oPow_int, uNeg_int, oEq_int, oEq_str, oEq_bl, oNe_int, oNe_str, oNe_bl, cInt_int, cInt_bl, cAbs_int, cLen_ref, cList_ref, stL_ref, gName, gSub, gTup, gCons, gNil, rdSeq, List.getElem?_cons_zero, List.getElem?_cons_succ, List.set_cons_zero, List.set_cons_succ, List.cons_append, List.nil_append, Option.some.injEq, exists_eq_left', V.bl.injEq, V.int.injEq, V.ref.injEq, atI_0, atI_1, atI_2, setI_1, setI_2, Bool.not_true, Bool.not_false, Bool.false_eq_true, if_false, if_true, tFld_eq, fldR_eq MA.hx F.cl F.n4 rfl, tCInt]; exact h)); (try dsimp only [gName, tNext, List.set_cons_zero, List.set_cons_succ]))
    refine lenE (.t hsa) ?_
    rw [List.length_map]
    simp only [tTest, tOp, tUn, tVar, tC, tCB, tCons, tNil, tAnd, tOr, tNot, tB, tTup, tLst, tIf, tAndV, tOrV, tNotV, tSl, tPart, tNoPart, tCall, iIx_ref, oGt_int, oMod_int, oFdiv_int, oAdd_int, oAdd_str, oSub_int, oMul_int, oLt_int, oGe_int, oLe_int, oPow_int, uNeg_int, oEq_int, oEq_str, oEq_bl, oNe_int, oNe_str, oNe_bl, cInt_int, cInt_bl, cAbs_int, cLen_ref, cList_ref, stL_ref, gName, gSub, gTup, gCons, gNil, rdSeq, List.getElem?_cons_zero, List.getElem?_cons_succ, List.set_cons_zero, List.set_cons_succ, List.cons_append, List.nil_append, Option.some.injEq, exists_eq_left', V.bl.injEq, V.int.injEq, V.ref.injEq, atI_0, atI_1, atI_2, setI_1, setI_2, Bool.not_true, Bool.not_false, Bool.false_eq_true, if_false, if_true, tCInt]
    rw [decide_eq_false (by omega)]
    refine ⟨trivial, if_no ?_⟩
    (try dsimp only [gName, tNext, List.set_cons_zero, List.set_cons_succ])
    show t_Converter_init_12 K A _ _ _
    refine st_if ?_
    (refine evT ?P62 (fun Q h => ?h62) ?_; (case h62 => (simp only [tTest, tOp, tUn, tVar, tC, tCB, tCons, tNil, tAnd, tOr, tNot, tB, tTup, tLst, tIf, tAndV, tOrV, tNotV, tSl, tPart, tNoPart, tCall, iIx_ref, oGt_int, oMod_int, oFdiv_int, oAdd_int, oAdd_str, oSub_int, oMul_int, oLt_int, oGe_int, oLe_int, oPow_int, uNeg_int, oEq_int, oEq_str, oEq_bl, oNe_int, oNe_str, oNe_bl, cInt_int, cInt_bl, cAbs_int, cLen_ref, cList_ref, stL_ref, gName, gSub, gTup, gCons, gNil, rdSeq, List.getElem?_cons_zero, List.getElem?_cons_succ, List.set_cons_zero, List.set_cons_succ, List.cons_append, List.nil_append, Option.some.injEq, exists_eq_left', V.bl.injEq, V.int.injEq, V.ref.injEq, atI_0, atI_1, atI_2, setI_1, setI_2, Bool.not_true, Bool.not_false, Bool.false_eq_true, if_false, if_true, tFld_eq, fldR_eq MA.hx F.cl F.n5 rfl]; exact h)); (try dsimp only [gName, tNext, List.set_cons_zero, List.set_cons_succ]))
    refine lenE (.t hla) ?_
    rw [List.length_map]
    simp only [tTest, tOp, tUn, tVar, tC, tCB, tCons, tNil, tAnd, tOr, tNot, tB, tTup, tLst, tIf, tAndV, tOrV, tNotV, tSl, tPart, tNoPart, tCall, iIx_ref, oGt_int, oMod_int, oFdiv_int, oAdd_int, oAdd_str, oSub_int, oMul_int, oLt_int, oGe_int, oLe_int, oPow_int, uNeg_int, oEq_int, oEq_str, oEq_bl, oNe_int, oNe_str, oNe_bl, cInt_int, cInt_bl, cAbs_int, cLen_ref, cList_ref, stL_ref, gName, gSub, gTup, gCons, gNil, rdSeq, List.getElem?_cons_zero, List.getElem?_cons_succ, List.set_cons_zero, List.set_cons_succ, List.cons_append, List.nil_append, Option.some.injEq, exists_eq_left', V.bl.injEq, V.int.injEq, V.ref.injEq, atI_0, atI_1, atI_2, setI_1, setI_2, Bool.not_true, Bool.not_false, Bool.false_eq_true, if_false, if_true]
    rw [decide_eq_false (by omega)]
    (refine if_no ?_; (try dsimp only [gName, tNext, List.set_cons_zero, List.set_cons_succ]))
    exact k _ MA.kp ⟨gd, dx, sd, td, sa, la, gs, sts, ls, MA.hx, hsd, MA.G, htd, ⟨hsa, nds, ms, sys⟩, hla, ndl, ml, syl⟩
  · exact h.elim

end HG

namespace HG
open PySem L2
/-! ### steps looked up -/
def stepOf (ss : List Step) (s l : Str) : Option (Str × Str) := (ss.find? fun p => decide (p.1 = (s, l))).map (·.2)
def tailOf (ts : List (Str × Str)) (s : Str) : Option Str := (ts.find? fun p => decide (p.1 = s)).map (·.2)
theorem Goals.tail {H : Hp} {s : Step} {ss : List Step} {g : Addr} {gs : List Addr} (h : Goals H (s :: ss) (g :: gs)) : H g = some (.tup [.str s.2.1, .str s.2.2]) ∧ Goals H ss gs :=
  ⟨h.2 0 s g rfl rfl, Nat.succ.inj h.1, fun j s' g' e1 e2 => h.2 (j + 1) s' g' e1 e2⟩
theorem stepK_eq {s : Step} {a b : Str} : stepK s = [.inr a, .inr b] ↔ s.1 = (a, b) := by
  unfold stepK
  constructor
  · intro e
    cases s with
    | mk k v =>
      cases k with
      | mk x y =>
        simp only [List.cons.injEq, Sum.inr.injEq, and_true] at e
        rw [e.1, e.2]
  · intro e
    rw [e]
theorem stepsV_val {H : Hp} {a b : Str} : ∀ {ss : List Step} {gs : List Addr}, Goals H ss gs → (stepOf ss a b = none ∧ valV (stepsV ss gs) [.inr a, .inr b] = none) ∨ ∃ o t g, stepOf ss a b = some (o, t) ∧ valV (stepsV ss gs) [.inr a, .inr b] = some (.ref g) ∧ H g = some (.tup [.str o, .str t])
  | [], gs, h => .inl ⟨rfl, by unfold stepsV; rw [List.zipWith_nil_left]; rfl⟩
  | s :: ss, [], h => absurd h.1 (by simp)
  | s :: ss, g :: gs, h => by
    obtain ⟨hg, h'⟩ := h.tail
    have e0 : stepsV (s :: ss) (g :: gs) = (stepK s, V.ref g) :: stepsV ss gs := rfl
    by_cases e : s.1 = (a, b)
    · refine .inr ⟨s.2.1, s.2.2, g, ?_, ?_, hg⟩
      · unfold stepOf
        simp [List.find?_cons, e]
      · rw [e0]
        exact valV_pos (stepK_eq.mpr e)
    · have f1 : stepOf (s :: ss) a b = stepOf ss a b := by
        unfold stepOf
        rw [List.find?_cons_of_neg (by rw [decide_eq_false e]; exact Bool.false_ne_true)]
      have f2 : valV (stepsV (s :: ss) (g :: gs)) [.inr a, .inr b] = valV (stepsV ss gs) [.inr a, .inr b] := by
        rw [e0]
        exact valV_neg fun z => e (stepK_eq.mp z)
      rw [f1, f2]
      exact stepsV_val h'
theorem tailsV_val {s : Str} : ∀ ts : List (Str × Str), valV (tailsV ts) (.inr s) = (tailOf ts s).map V.str
  | [] => rfl
  | t :: ts => by
    have e0 : tailsV (t :: ts) = ((.inr t.1 : Key), V.str t.2) :: tailsV ts := rfl
    by_cases e : t.1 = s
    · rw [e0, valV_pos (by rw [e])]
      unfold tailOf
      simp [List.find?_cons, e]
    · rw [e0, valV_neg (fun z => e (Sum.inr.inj z)), tailsV_val ts]
      unfold tailOf
      rw [List.find?_cons_of_neg (by rw [decide_eq_false e]; exact Bool.false_ne_true)]
/-- one letter as a text -/
abbrev sgn (c : Nat) : Str := ⟨#[c]⟩
/-- the states that letters lead to: where no step is, or the last state -/
def leads (ss : List Step) : Str → List Nat → Option Str
  | s, [] => some s
  | s, c :: r => match stepOf ss s (sgn c) with
    | none => none
    | some (_, t) => leads ss t r
def takesB (st : Str) (ss : List Step) (ts : List (Str × Str)) (x : Str) : Bool := match leads ss st x.cps.toList with
  | none => false
  | some s => (tailOf ts s).isSome
theorem leads_append (ss : List Step) : ∀ (l m : List Nat) (s : Str), leads ss s (l ++ m) = (leads ss s l).bind fun t => leads ss t m
  | [], m, s => rfl
  | c :: l, m, s => by
    show (match stepOf ss s (sgn c) with | none => none | some (_, t) => leads ss t (l ++ m)) = (match stepOf ss s (sgn c) with | none => none | some (_, t) => leads ss t l).bind _
    cases stepOf ss s (sgn c) with
    | none => rfl
    | some p => exact leads_append ss l m p.2
theorem take_next {x : Str} {i : Nat} (h : i < x.cps.size) : x.cps.toList.take (i + 1) = x.cps.toList.take i ++ [x.cps.getD i 0] := by
  rw [List.take_succ, Array.getElem?_toList, Array.getElem?_eq_getElem h, Array.getD_eq_getD_getElem?, Array.getElem?_eq_getElem h]
  rfl
section
variable {K : PySem.W.Frag} {A : Ad} {H H' : Hp} {c : Addr} {st : Str} {ss : List Step} {ts : List (Str × Str)}
theorem CvAt.grow (h : CvAt K A H c st ss ts) (g : Grow H H') : CvAt K A H' c st ss ts := by
  obtain ⟨gd0, dx, sd, td, sa, la, gs, sts, ls, h1, h2, h3, h4, ⟨h5, h6⟩, h7, h8⟩ := h
  exact ⟨gd0, dx, sd, td, sa, la, gs, sts, ls, g _ _ h1, g _ _ h2, h3.grow g, g _ _ h4, ⟨g _ _ h5, h6⟩, g _ _ h7, h8⟩
theorem CvAt.isI (h : CvAt K A H c st ss ts) : ∃ dx fs, H c = some (.ins A.c_Converter dx fs) := by
  obtain ⟨gd0, dx, sd, td, sa, la, gs, sts, ls, h1, _⟩ := h
  exact ⟨_, _, h1⟩
theorem CvAt.get (F : KF K A) (h : CvAt K A H c st ss ts) {Q : VK} (k : Q (.str st) H) : fldR K (.ref c) "start" H Q := by
  obtain ⟨gd0, dx, sd, td, sa, la, gs, sts, ls, h1, _⟩ := h
  rw [fldR_eq h1 F.cl F.n1 rfl]
  exact k
theorem CvAt.steps (F : KF K A) (h : CvAt K A H c st ss ts) {Q : VK} (k : ∀ sd gs, H sd = some (.dT (stepsV ss gs)) → Goals H ss gs → Q (.ref sd) H) : fldR K (.ref c) "steps" H Q := by
  obtain ⟨gd0, dx, sd, td, sa, la, gs, sts, ls, h1, h2, h3, _⟩ := h
  rw [fldR_eq h1 F.cl F.n2 rfl]
  exact k sd gs h2 h3
theorem CvAt.tails (F : KF K A) (h : CvAt K A H c st ss ts) {Q : VK} (k : ∀ td, H td = some (.dK (tailsV ts)) → Q (.ref td) H) : fldR K (.ref c) "tails" H Q := by
  obtain ⟨gd0, dx, sd, td, sa, la, gs, sts, ls, h1, h2, h3, h4, _⟩ := h
  rw [fldR_eq h1 F.cl F.n3 rfl]
  exact k td h4
theorem CvAt.states (F : KF K A) (h : CvAt K A H c st ss ts) {Q : VK} (k : ∀ sa sts, H sa = some (.tup (sts.map V.str)) → sts.Nodup → (∀ x, x ∈ sts ↔ x ∈ statesOf st ss ts) → PyProof.Rows.sortedS sts = true → Q (.ref sa) H) : fldR K (.ref c) "states" H Q := by
  obtain ⟨gd0, dx, sd, td, sa, la, gs, sts, ls, h1, h2, h3, h4, ⟨h5, h6, h7, h8⟩, _⟩ := h
  rw [fldR_eq h1 F.cl F.n4 rfl]
  exact k sa sts h5 h6 h7 h8
end

end HG

namespace HG
open PySem L2
/-! ### a converter made -/
theorem mkC {K : PySem.W.Frag} {A : Ad} {H : Hp} {d e : Addr} {st : Str} {ss : List Step} {gs : List Addr} {ts : List (Str × Str)} {Q : VK} {G : V → List V} (hd : H d = some (.dT (stepsV ss gs))) (hG : Goals H ss gs) (he : H e = some (.dK (tailsV ts))) (gd : Good st ss ts)
    (k : ∀ c H', Grow H H' → CvAt K A H' c st ss ts → Q (.ref c) H') (hf : ∀ r, G r = [r, .str st, .ref d, .ref e] := by exact fun _ => rfl) : MKf A.c_Converter (sp_Converter_init K A) E0 G H Q := by
  intro x dx hx hdx ne
  rw [hf]
  have nb : ∀ b o, H b = some o → b ≠ x ∧ b ≠ dx := fun b o e => ⟨fun z => (by rw [z, hx] at e; cases e), fun z => (by rw [z, hdx] at e; cases e)⟩
  have up : ∀ b o, H b = some o → upd (upd H dx (.own x)) x (.ins A.c_Converter dx []) b = some o := fun b o e => by rw [upd_ne (nb b o e).1, upd_ne (nb b o e).2]; exact e
  refine ⟨dx, ss, gs, ts, upd_same, up _ _ hd, ⟨hG.1, fun j s g e1 e2 => up _ _ (hG.2 j s g e1 e2)⟩, up _ _ he, gd, fun H' kp C => ⟨rfl, k x H' (fun b o e => kp b o (nb b o e).1 (up b o e)) C⟩⟩

end HG

namespace HG
open PySem L2
/-! ### a text answered -/
def goL (ss : List Step) : Str → List Str → Nat → List Nat → (Nat × Str) ⊕ (Str × List Str)
  | s, ws, _, [] => .inr (s, ws)
  | s, ws, n, c :: r => match stepOf ss s (sgn c) with
    | none => .inl (n, s)
    | some (o, t) => goL ss t (ws ++ [o]) (n + 1) r
inductive Out where
  | ok (x : Str)
  | step (n : Nat) (s : Str)
  | tail (s : Str)
def outOf (st : Str) (ss : List Step) (ts : List (Str × Str)) (x : Str) : Out := match goL ss st [] 0 x.cps.toList with
  | .inl (n, s) => .step n s
  | .inr (s, ws) => match tailOf ts s with
    | none => .tail s
    | some t => .ok (Txt.join ("" : Str) (ws ++ [t]))
/-- what a call of a converter does -/
def Says (A : Ad) (o : Out) (H : Hp) (Q : VK) (E : XK) : Prop := match o with
  | .ok x => ∀ H', Grow H H' → Q (.str x) H'
  | .step n s => ∀ d H', Grow H H' → H' d = some (.xd [("state", .str s), ("at", .int n)]) → E (.ref A.c_NoStep) (some d) H'
  | .tail s => ∀ d H', Grow H H' → H' d = some (.xd [("state", .str s)]) → E (.ref A.c_NoTail) (some d) H'
def sp_Converter_call (K : PySem.W.Frag) (A : Ad) : Sp := fun vs H Q E => match vs with
  | [.ref c, .str x] => ∃ st ss ts, CvAt K A H c st ss ts ∧ rowB x 400 = true ∧ Says A (outOf st ss ts x) H Q E
  | _ => False
def t_Converter_call_1 (K : PySem.W.Frag) (A : Ad) (E : XK) : TS := (tRaise E (tMkO A.c_BadWord (sp_BadWord_init K A) [] (tCons (tVar 1) tNil)))
def t_Converter_call_6 (K : PySem.W.Frag) (A : Ad) (E : XK) : TS := (tRaise E (tMkO A.c_NoStep (sp_NoStep_init K A) [] (tCons (tVar 4) (tCons (tVar 2) tNil))))
def t_Converter_call_8 (K : PySem.W.Frag) (A : Ad) (E : XK) : TS := (tAsg (tOp (rIx K) (tVar 6) (tC (.int 1))) (gName 2))
def t_Converter_call_7 (K : PySem.W.Frag) (A : Ad) (E : XK) : TS := (tSeq (tDrop (tBM K "list" rAppend (tVar 3) (tCons (tOp (rIx K) (tVar 6) (tC (.int 0))) tNil))) (t_Converter_call_8 K A E))
def t_Converter_call_5 (K : PySem.W.Frag) (A : Ad) (E : XK) : TS := (tSeq (tIfS (tTest (tOp oIs (tVar 6) (tC .non))) (t_Converter_call_6 K A E) tNext) (t_Converter_call_7 K A E))
def t_Converter_call_4 (K : PySem.W.Frag) (A : Ad) (E : XK) : TS := (tSeq (tAsg (tDGet1 (tFld K (tVar 0) "steps") (tTup (tCons (tVar 2) (tCons (tVar 5) tNil)))) (gName 6)) (t_Converter_call_5 K A E))
def t_Converter_call_10 (K : PySem.W.Frag) (A : Ad) (E : XK) : TS := (tRaise E (tMkO A.c_NoTail (sp_NoTail_init K A) [] (tCons (tVar 2) tNil)))
def t_Converter_call_11 (K : PySem.W.Frag) (A : Ad) (E : XK) : TS := (tRet (tJoin K (tC (.str "")) (tLst (StX.tStar K (tVar 3) (tCons (tDGet (tFld K (tVar 0) "tails") (tVar 2)) tNil)))))
def t_Converter_call_9 (K : PySem.W.Frag) (A : Ad) (E : XK) : TS := (tSeq (tIfS (tTest (tOp oNotInM (tVar 2) (tFld K (tVar 0) "tails"))) (t_Converter_call_10 K A E) tNext) (t_Converter_call_11 K A E))
def t_Converter_call_3 (K : PySem.W.Frag) (A : Ad) (E : XK) : TS := (tSeq (tFor (iEnumS (tCons (tVar 1) tNil)) (gTup K 2 (gCons (gName 4) (gCons (gName 5) gNil)))
    (t_Converter_call_4 K A E)) (t_Converter_call_9 K A E))
def t_Converter_call_2 (K : PySem.W.Frag) (A : Ad) (E : XK) : TS := (tSeq (tPar 2 3 (tCons (tFld K (tVar 0) "start") (tCons (tLst tNil) tNil))) (t_Converter_call_3 K A E))
def t_Converter_call_0 (K : PySem.W.Frag) (A : Ad) (E : XK) : TS := (tSeq (tIfS (tNot (tB (tCall (sp_is_text K A) [] E0 (tCons (tVar 1) tNil)))) (t_Converter_call_1 K A E) tNext) (t_Converter_call_2 K A E))

theorem stepOf_mem {ss : List Step} {s l o t : Str} (h : stepOf ss s l = some (o, t)) : ((s, l), (o, t)) ∈ ss := by
  unfold stepOf at h
  cases e : ss.find? fun p => decide (p.1 = (s, l)) with
  | none => rw [e] at h; cases h
  | some p =>
    rw [e] at h
    have h1 : p.1 = (s, l) := by simpa using List.find?_some (p := fun p : Step => decide (p.1 = (s, l))) e
    have h2 := List.mem_of_find?_eq_some e
    have h3 : p.2 = (o, t) := Option.some.inj h
    rw [← h1, ← h3]
    exact h2
theorem tailOf_mem {ts : List (Str × Str)} {s t : Str} (h : tailOf ts s = some t) : (s, t) ∈ ts := by
  unfold tailOf at h
  cases e : ts.find? fun p => decide (p.1 = s) with
  | none => rw [e] at h; cases h
  | some p =>
    rw [e] at h
    have h1 : p.1 = s := by simpa using List.find?_some (p := fun p : Str × Str => decide (p.1 = s)) e
    have h2 := List.mem_of_find?_eq_some e
    have h3 : p.2 = t := Option.some.inj h
    rw [← h1, ← h3]
    exact h2
theorem drop_next {x : Str} {i : Nat} (h : i < x.cps.size) : x.cps.toList.drop i = x.cps.getD i 0 :: x.cps.toList.drop (i + 1) := by
  rw [List.drop_eq_getElem_cons (by rw [Array.length_toList]; exact h), Array.getElem_toList, Array.getD_eq_getD_getElem?, Array.getElem?_eq_getElem h]
  rfl
theorem sum_le {ws : List Str} (h : ∀ w ∈ ws, w.length ≤ 4) : (ws.map (·.length)).sum ≤ 4 * ws.length := by
  induction ws with
  | nil => exact Nat.le_refl _
  | cons w r ih =>
    have h1 := h w (List.mem_cons_self ..)
    have h2 := ih fun v hv => h v (List.mem_cons_of_mem _ hv)
    simp only [List.map_cons, List.sum_cons, List.length_cons]
    omega
theorem pure_Converter_call {K : PySem.W.Frag} {A : Ad} {vs : List V} {H : Hp} {Q : VK} {E : XK} (F : KF K A) (h : sp_Converter_call K A vs H Q E) : (t_Converter_call_0 K A E) { nx := fun _ H' => Q .non H', rt := Q } (start ["self", "text", "state", "written", "at", "letter", "step"] vs) H := by
  unfold sp_Converter_call at h
  split at h
  · rename_i c x
    obtain ⟨st, ss, ts, C, hx, k⟩ := h
    have hsz : sizeLine = 16777216 := rfl
    have hxl := rowB_len hx
    have gd := C.1
    show (t_Converter_call_0 K A E) _ [some (.ref c), some (.str x), none, none, none, none, none] H
    refine st_seq (st_if ?_)
    (refine evT ?P70 (fun Q h => ?h70) ?_; (case h70 => (simp only [tTest, tOp, tUn, tVar, tC, tCB, tCons, tNil, tAnd, tOr, tNot, tB, tTup, tLst, tIf, tAndV, tOrV, tNotV, tSl, tPart, tNoPart, tCall, iIx_ref, oGt_int, oMod_int, oFdiv_int, oAdd_int, oAdd_str, oSub_int, oMul_int, oLt_int, oGe_int, oLe_int, oPow_int, uNeg_int, oEq_int, oEq_str, oEq_bl, oNe_int, oNe_str, oNe_bl, cInt_int, cInt_bl, cAbs_int, cLen_ref, cList_ref, stL_ref, gName, gSub, gTup, gCons, gNil, rdSeq, List.getElem?_cons_zero, List.getElem?_cons_succ, List.set_cons_zero, List.set_cons_succ, List.cons_append, List.nil_append, Option.some.injEq, exists_eq_left', V.bl.injEq, V.int.injEq, V.ref.injEq, atI_0, atI_1, atI_2, setI_1, setI_2, Bool.not_true, Bool.not_false, Bool.false_eq_true, if_false, if_true]; exact h)); (try dsimp only [gName, tNext, List.set_cons_zero, List.set_cons_succ]))
    refine ⟨by omega, fun H1 g1 => ?_⟩
    rw [hx]
    refine ⟨_, rfl, if_no ?_⟩
    (try dsimp only [gName, tNext, List.set_cons_zero, List.set_cons_succ])
    have C1 := C.grow g1
    show t_Converter_call_2 K A E _ _ _
    refine st_seq ?_
    unfold tPar
    (refine evA ?P71 (fun Q h => ?h71) ?_; (case h71 => (simp only [tTest, tOp, tUn, tVar, tC, tCB, tCons, tNil, tAnd, tOr, tNot, tB, tTup, tLst, tIf, tAndV, tOrV, tNotV, tSl, tPart, tNoPart, tCall, iIx_ref, oGt_int, oMod_int, oFdiv_int, oAdd_int, oAdd_str, oSub_int, oMul_int, oLt_int, oGe_int, oLe_int, oPow_int, uNeg_int, oEq_int, oEq_str, oEq_bl, oNe_int, oNe_str, oNe_bl, cInt_int, cInt_bl, cAbs_int, cLen_ref, cList_ref, stL_ref, gName, gSub, gTup, gCons, gNil, rdSeq, List.getElem?_cons_zero, List.getElem?_cons_succ, List.set_cons_zero, List.set_cons_succ, List.cons_append, List.nil_append, Option.some.injEq, exists_eq_left', V.bl.injEq, V.int.injEq, V.ref.injEq, atI_0, atI_1, atI_2, setI_1, setI_2, Bool.not_true, Bool.not_false, Bool.false_eq_true, if_false, if_true, tFld_eq]; exact h)); (try dsimp only [gName, tNext, List.set_cons_zero, List.set_cons_succ]))
    refine C1.get F ?_
    refine ⟨by show 0 ≤ sizeLine; decide, fun wl hwl => ?_⟩
    refine ⟨_, _, rfl, ?_⟩
    (try dsimp only [gName, tNext, List.set_cons_zero, List.set_cons_succ])
    have gw := Grow.new (o := .lst []) hwl
    have hw0 : upd H1 wl (.lst []) wl = some (.lst (([] : List Str).map V.str)) := upd_same
    generalize upd H1 wl (.lst []) = H2 at *
    show t_Converter_call_3 K A E _ _ _
    refine st_seq (for_enumS ?_)
    (refine evA ?P79 (fun Q h => ?h79) ?_; (case h79 => (simp only [tTest, tOp, tUn, tVar, tC, tCB, tCons, tNil, tAnd, tOr, tNot, tB, tTup, tLst, tIf, tAndV, tOrV, tNotV, tSl, tPart, tNoPart, tCall, iIx_ref, oGt_int, oMod_int, oFdiv_int, oAdd_int, oAdd_str, oSub_int, oMul_int, oLt_int, oGe_int, oLe_int, oPow_int, uNeg_int, oEq_int, oEq_str, oEq_bl, oNe_int, oNe_str, oNe_bl, cInt_int, cInt_bl, cAbs_int, cLen_ref, cList_ref, stL_ref, gName, gSub, gTup, gCons, gNil, rdSeq, List.getElem?_cons_zero, List.getElem?_cons_succ, List.set_cons_zero, List.set_cons_succ, List.cons_append, List.nil_append, Option.some.injEq, exists_eq_left', V.bl.injEq, V.int.injEq, V.ref.injEq, atI_0, atI_1, atI_2, setI_1, setI_2, Bool.not_true, Bool.not_false, Bool.false_eq_true, if_false, if_true]; exact h)))
    refine ⟨x, rfl, ?_⟩
    refine for_ites (fun i σ H' => Grow H1 H' ∧ ∃ s ws y1 y2 y3, σ = [some (.ref c), some (.str x), some (.str s), some (.ref wl), y1, y2, y3] ∧ H' wl = some (.lst (ws.map V.str)) ∧ ws.length ≤ i ∧ (∀ w ∈ ws, w.length ≤ 4) ∧ goL ss st [] 0 x.cps.toList = goL ss s ws i (x.cps.toList.drop i))
      ⟨gw, st, [], none, none, none, rfl, hw0, Nat.le_refl _, fun w hw => absurd hw (by simp), rfl⟩ (fun σ H' w => ?_) (fun i σ H' T hi w hT => ?_)
    · obtain ⟨g, s, ws, y1, y2, y3, rfl, hw, hl, hm, ho⟩ := w
      rw [List.drop_of_length_le (by rw [Array.length_toList]; exact Nat.le_refl _)] at ho
      have C2 := C1.grow g
      have ho2 : outOf st ss ts x = match tailOf ts s with | none => .tail s | some t => .ok (Txt.join ("" : Str) (ws ++ [t])) := by
        unfold outOf
        rw [ho]
        rfl
      rw [ho2] at k
      show t_Converter_call_9 K A E _ _ _
      refine st_seq (st_if ?_)
      (refine evT ?P72 (fun Q h => ?h72) ?_; (case h72 => (simp only [tTest, tOp, tUn, tVar, tC, tCB, tCons, tNil, tAnd, tOr, tNot, tB, tTup, tLst, tIf, tAndV, tOrV, tNotV, tSl, tPart, tNoPart, tCall, iIx_ref, oGt_int, oMod_int, oFdiv_int, oAdd_int, oAdd_str, oSub_int, oMul_int, oLt_int, oGe_int, oLe_int, oPow_int, uNeg_int, oEq_int, oEq_str, oEq_bl, oNe_int, oNe_str, oNe_bl, cInt_int, cInt_bl, cAbs_int, cLen_ref, cList_ref, stL_ref, gName, gSub, gTup, gCons, gNil, rdSeq, List.getElem?_cons_zero, List.getElem?_cons_succ, List.set_cons_zero, List.set_cons_succ, List.cons_append, List.nil_append, Option.some.injEq, exists_eq_left', V.bl.injEq, V.int.injEq, V.ref.injEq, atI_0, atI_1, atI_2, setI_1, setI_2, Bool.not_true, Bool.not_false, Bool.false_eq_true, if_false, if_true, tFld_eq]; exact h)); (try dsimp only [gName, tNext, List.set_cons_zero, List.set_cons_succ]))
      refine C2.tails F fun td htd => ?_
      have ev := tailsV_val (s := s) ts
      cases et : tailOf ts s with
      | none =>
        rw [et] at ev k
        refine ⟨td, none, rfl, .inl ⟨_, .inr s, .inl htd, rfl, ev.symm⟩, ?_⟩
        refine ⟨_, rfl, if_yes ?_⟩
        (try dsimp only [gName, tNext, List.set_cons_zero, List.set_cons_succ])
        refine raise_ev ?_
        (refine evA ?P73 (fun Q h => ?h73) ?_; (case h73 => (simp only [tTest, tOp, tUn, tVar, tC, tCB, tCons, tNil, tAnd, tOr, tNot, tB, tTup, tLst, tIf, tAndV, tOrV, tNotV, tSl, tPart, tNoPart, tCall, iIx_ref, oGt_int, oMod_int, oFdiv_int, oAdd_int, oAdd_str, oSub_int, oMul_int, oLt_int, oGe_int, oLe_int, oPow_int, uNeg_int, oEq_int, oEq_str, oEq_bl, oNe_int, oNe_str, oNe_bl, cInt_int, cInt_bl, cAbs_int, cLen_ref, cList_ref, stL_ref, gName, gSub, gTup, gCons, gNil, rdSeq, List.getElem?_cons_zero, List.getElem?_cons_succ, List.set_cons_zero, List.set_cons_succ, List.cons_append, List.nil_append, Option.some.injEq, exists_eq_left', V.bl.injEq, V.int.injEq, V.ref.injEq, atI_0, atI_1, atI_2, setI_1, setI_2, Bool.not_true, Bool.not_false, Bool.false_eq_true, if_false, if_true]; exact h)); (try dsimp only [gName, tNext, List.set_cons_zero, List.set_cons_succ]))
        exact raise1 fun d hd => k d _ ((g1.trans g).trans (Grow.new hd)) upd_same
      | some t =>
        rw [et] at ev k
        have ht := answer_len (gd.kts _ (tailOf_mem et)).2
        refine ⟨td, some (.str t), rfl, .inl ⟨_, .inr s, .inl htd, rfl, ev.symm⟩, ?_⟩
        refine ⟨_, rfl, if_no ?_⟩
        (try dsimp only [gName, tNext, List.set_cons_zero, List.set_cons_succ])
        show t_Converter_call_11 K A E _ _ _
        refine st_ret ?_
        (refine evE ?P80 (fun Q h => ?h80) ?_; (case h80 => (simp only [tTest, tOp, tUn, tVar, tC, tCB, tCons, tNil, tAnd, tOr, tNot, tB, tTup, tLst, tIf, tAndV, tOrV, tNotV, tSl, tPart, tNoPart, tCall, iIx_ref, oGt_int, oMod_int, oFdiv_int, oAdd_int, oAdd_str, oSub_int, oMul_int, oLt_int, oGe_int, oLe_int, oPow_int, uNeg_int, oEq_int, oEq_str, oEq_bl, oNe_int, oNe_str, oNe_bl, cInt_int, cInt_bl, cAbs_int, cLen_ref, cList_ref, stL_ref, gName, gSub, gTup, gCons, gNil, rdSeq, List.getElem?_cons_zero, List.getElem?_cons_succ, List.set_cons_zero, List.set_cons_succ, List.cons_append, List.nil_append, Option.some.injEq, exists_eq_left', V.bl.injEq, V.int.injEq, V.ref.injEq, atI_0, atI_1, atI_2, setI_1, setI_2, Bool.not_true, Bool.not_false, Bool.false_eq_true, if_false, if_true, tJoin, tM1, StX.tStar, tDGet, tFld_eq]; exact h)))
        refine ⟨⟨_, rfl⟩, wl, _, rfl, .inr (SqL.of hw), ?_⟩
        refine C2.tails F fun td htd => ?_
        refine ⟨td, .str t, rfl, .inl ⟨_, .inr s, .inl htd, rfl, ev.symm⟩, ?_⟩
        have hxs : x.cps.size = x.length := rfl
        refine ⟨by rw [List.length_append, List.length_map]; simp only [List.length_cons, List.length_nil]; omega, fun p hp => ?_⟩
        refine ⟨_, p, ws ++ [t], rfl, rfl, .inl (SqL.of (by rw [upd_same, List.map_append]; rfl)), ?_, ?_⟩
        · have h4 := sum_le (ws := ws ++ [t]) (fun w hw => by
            rcases List.mem_append.mp hw with q | q
            · exact hm w q
            · rw [List.mem_singleton] at q; rw [q]; exact ht)
          have e0 : (Str.ofString "").length = 0 := rfl
          rw [List.length_append] at h4 ⊢
          simp only [List.length_cons, List.length_nil] at h4 ⊢
          rw [e0, Nat.mul_zero]
          omega
        · exact k _ ((g1.trans g).trans (Grow.new hp))
    · obtain ⟨g, s, ws, y1, y2, y3, rfl, hw, hl, hm, ho⟩ := w
      have gT := Grow.new (o := .tup [.int (i : Nat), .str ⟨#[x.cps.getD i 0]⟩]) hT
      have hTe : upd H' T (.tup [.int (i : Nat), .str ⟨#[x.cps.getD i 0]⟩]) T = some (.tup [.int (i : Nat), .str ⟨#[x.cps.getD i 0]⟩]) := upd_same
      have g2 := g.trans gT
      replace hw := gT _ _ hw
      generalize upd H' T (.tup [.int (i : Nat), .str ⟨#[x.cps.getD i 0]⟩]) = H3 at *
      refine ⟨T, _, rfl, SqT.of hTe, rfl, ?_⟩
      refine ⟨_, _, rfl, ?_⟩
      refine ⟨_, _, rfl, ?_⟩
      refine ⟨rfl, ?_⟩
      (try dsimp only [gName, tNext, List.set_cons_zero, List.set_cons_succ])
      have C2 := C1.grow g2
      clear gT hTe hT g H'
      show t_Converter_call_4 K A E _ _ _
      refine st_seq (st_asg ?_)
      (refine evE ?P74 (fun Q h => ?h74) ?_; (case h74 => (simp only [tTest, tOp, tUn, tVar, tC, tCB, tCons, tNil, tAnd, tOr, tNot, tB, tTup, tLst, tIf, tAndV, tOrV, tNotV, tSl, tPart, tNoPart, tCall, iIx_ref, oGt_int, oMod_int, oFdiv_int, oAdd_int, oAdd_str, oSub_int, oMul_int, oLt_int, oGe_int, oLe_int, oPow_int, uNeg_int, oEq_int, oEq_str, oEq_bl, oNe_int, oNe_str, oNe_bl, cInt_int, cInt_bl, cAbs_int, cLen_ref, cList_ref, stL_ref, gName, gSub, gTup, gCons, gNil, rdSeq, List.getElem?_cons_zero, List.getElem?_cons_succ, List.set_cons_zero, List.set_cons_succ, List.cons_append, List.nil_append, Option.some.injEq, exists_eq_left', V.bl.injEq, V.int.injEq, V.ref.injEq, atI_0, atI_1, atI_2, setI_1, setI_2, Bool.not_true, Bool.not_false, Bool.false_eq_true, if_false, if_true, tDGet1, tFld_eq]; exact h)); (try dsimp only [gName, tNext, List.set_cons_zero, List.set_cons_succ]))
      refine C2.steps F fun sd gs hsd G => ?_
      refine ⟨sd, rfl, .inr ⟨_, .inl hsd⟩, ?_⟩
      refine ⟨by show 2 ≤ sizeLine; decide, fun p hp => ?_⟩
      have gp := Grow.new (o := .tup [.str s, .str (sgn (x.cps.getD i 0))]) hp
      have hpe : upd H3 p (.tup [.str s, .str (sgn (x.cps.getD i 0))]) p = some (.tup ([.inr s, .inr (sgn (x.cps.getD i 0))].map kV)) := upd_same
      rw [drop_next hi] at ho
      have g3 := g2.trans gp
      rcases stepsV_val (a := s) (b := sgn (x.cps.getD i 0)) G with ⟨e1, e2⟩ | ⟨o, t, q, e1, e2, hq⟩
      · refine ⟨none, .inr ⟨_, _, p, .inl (gp _ _ hsd), rfl, hpe, e2.symm⟩, ?_⟩
        have ho2 : outOf st ss ts x = .step i s := by
          unfold outOf
          rw [ho]
          show (match (match stepOf ss s (sgn (x.cps.getD i 0)) with | none => Sum.inl (i, s) | some (o, t) => goL ss t (ws ++ [o]) (i + 1) (x.cps.toList.drop (i + 1))) with | .inl (n, s) => Out.step n s | .inr (s, ws) => _) = _
          rw [e1]
        rw [ho2] at k
        show t_Converter_call_5 K A E _ _ _
        refine st_seq (st_if ?_)
        (refine evT ?P75 (fun Q h => ?h75) ?_; (case h75 => (simp only [tTest, tOp, tUn, tVar, tC, tCB, tCons, tNil, tAnd, tOr, tNot, tB, tTup, tLst, tIf, tAndV, tOrV, tNotV, tSl, tPart, tNoPart, tCall, iIx_ref, oGt_int, oMod_int, oFdiv_int, oAdd_int, oAdd_str, oSub_int, oMul_int, oLt_int, oGe_int, oLe_int, oPow_int, uNeg_int, oEq_int, oEq_str, oEq_bl, oNe_int, oNe_str, oNe_bl, cInt_int, cInt_bl, cAbs_int, cLen_ref, cList_ref, stL_ref, gName, gSub, gTup, gCons, gNil, rdSeq, List.getElem?_cons_zero, List.getElem?_cons_succ, List.set_cons_zero, List.set_cons_succ, List.cons_append, List.nil_append, Option.some.injEq, exists_eq_left', V.bl.injEq, V.int.injEq, V.ref.injEq, atI_0, atI_1, atI_2, setI_1, setI_2, Bool.not_true, Bool.not_false, Bool.false_eq_true, if_false, if_true, oIs, Option.getD]; exact h)); (try dsimp only [gName, tNext, List.set_cons_zero, List.set_cons_succ]))
        (refine if_yes ?_; (try dsimp only [gName, tNext, List.set_cons_zero, List.set_cons_succ]))
        refine raise_ev ?_
        (refine evA ?P76 (fun Q h => ?h76) ?_; (case h76 => (simp only [tTest, tOp, tUn, tVar, tC, tCB, tCons, tNil, tAnd, tOr, tNot, tB, tTup, tLst, tIf, tAndV, tOrV, tNotV, tSl, tPart, tNoPart, tCall, iIx_ref, oGt_int, oMod_int, oFdiv_int, oAdd_int, oAdd_str, oSub_int, oMul_int, oLt_int, oGe_int, oLe_int, oPow_int, uNeg_int, oEq_int, oEq_str, oEq_bl, oNe_int, oNe_str, oNe_bl, cInt_int, cInt_bl, cAbs_int, cLen_ref, cList_ref, stL_ref, gName, gSub, gTup, gCons, gNil, rdSeq, List.getElem?_cons_zero, List.getElem?_cons_succ, List.set_cons_zero, List.set_cons_succ, List.cons_append, List.nil_append, Option.some.injEq, exists_eq_left', V.bl.injEq, V.int.injEq, V.ref.injEq, atI_0, atI_1, atI_2, setI_1, setI_2, Bool.not_true, Bool.not_false, Bool.false_eq_true, if_false, if_true]; exact h)); (try dsimp only [gName, tNext, List.set_cons_zero, List.set_cons_succ]))
        exact raise2 fun d hd => k d _ ((g1.trans g3).trans (Grow.new hd)) upd_same
      · refine ⟨some (.ref q), .inr ⟨_, _, p, .inl (gp _ _ hsd), rfl, hpe, e2.symm⟩, ?_⟩
        have ho3 : goL ss st [] 0 x.cps.toList = goL ss t (ws ++ [o]) (i + 1) (x.cps.toList.drop (i + 1)) := by
          rw [ho]
          show (match stepOf ss s (sgn (x.cps.getD i 0)) with | none => Sum.inl (i, s) | some (o, t) => goL ss t (ws ++ [o]) (i + 1) (x.cps.toList.drop (i + 1))) = _
          rw [e1]
        have lo := answer_len (gd.kss _ (stepOf_mem e1)).2.2.1
        replace hw := gp _ _ hw
        replace hq := gp _ _ hq
        have hws := C2.grow gp
        generalize upd H3 p (.tup [.str s, .str (sgn (x.cps.getD i 0))]) = H4 at *
        clear gp hpe hp hsd G e2 C2 g2 H3
        show t_Converter_call_5 K A E _ _ _
        refine st_seq (st_if ?_)
        (refine evT ?P77 (fun Q h => ?h77) ?_; (case h77 => (simp only [tTest, tOp, tUn, tVar, tC, tCB, tCons, tNil, tAnd, tOr, tNot, tB, tTup, tLst, tIf, tAndV, tOrV, tNotV, tSl, tPart, tNoPart, tCall, iIx_ref, oGt_int, oMod_int, oFdiv_int, oAdd_int, oAdd_str, oSub_int, oMul_int, oLt_int, oGe_int, oLe_int, oPow_int, uNeg_int, oEq_int, oEq_str, oEq_bl, oNe_int, oNe_str, oNe_bl, cInt_int, cInt_bl, cAbs_int, cLen_ref, cList_ref, stL_ref, gName, gSub, gTup, gCons, gNil, rdSeq, List.getElem?_cons_zero, List.getElem?_cons_succ, List.set_cons_zero, List.set_cons_succ, List.cons_append, List.nil_append, Option.some.injEq, exists_eq_left', V.bl.injEq, V.int.injEq, V.ref.injEq, atI_0, atI_1, atI_2, setI_1, setI_2, Bool.not_true, Bool.not_false, Bool.false_eq_true, if_false, if_true, oIs, Option.getD]; exact h)); (try dsimp only [gName, tNext, List.set_cons_zero, List.set_cons_succ]))
        (refine if_no ?_; (try dsimp only [gName, tNext, List.set_cons_zero, List.set_cons_succ]))
        show t_Converter_call_7 K A E _ _ _
        refine st_seq (st_drop ?_)
        (refine evE ?P81 (fun Q h => ?h81) ?_; (case h81 => (simp only [tTest, tOp, tUn, tVar, tC, tCB, tCons, tNil, tAnd, tOr, tNot, tB, tTup, tLst, tIf, tAndV, tOrV, tNotV, tSl, tPart, tNoPart, tCall, iIx_ref, oGt_int, oMod_int, oFdiv_int, oAdd_int, oAdd_str, oSub_int, oMul_int, oLt_int, oGe_int, oLe_int, oPow_int, uNeg_int, oEq_int, oEq_str, oEq_bl, oNe_int, oNe_str, oNe_bl, cInt_int, cInt_bl, cAbs_int, cLen_ref, cList_ref, stL_ref, gName, gSub, gTup, gCons, gNil, rdSeq, List.getElem?_cons_zero, List.getElem?_cons_succ, List.set_cons_zero, List.set_cons_succ, List.cons_append, List.nil_append, Option.some.injEq, exists_eq_left', V.bl.injEq, V.int.injEq, V.ref.injEq, atI_0, atI_1, atI_2, setI_1, setI_2, Bool.not_true, Bool.not_false, Bool.false_eq_true, if_false, if_true, tBM]; exact h)))
        refine ⟨.inl ⟨rfl, _, SqL.of hw⟩, ?_⟩
        refine ixE (.t hq) atI_0 ?_
        have hxs : x.cps.size = x.length := rfl
        refine appE hw (by rw [List.length_map]; omega) ?_
        have nq : q ≠ wl := fun z => by rw [z, hw] at hq; cases hq
        have g4 : Grow H1 (upd H4 wl (.lst (ws.map V.str ++ [.str o]))) := fun b u eb => by rw [upd_ne (fun z => by rw [z, hwl] at eb; cases eb)]; exact g3 b u eb
        have hq4 : upd H4 wl (.lst (ws.map V.str ++ [.str o])) q = _ := (upd_ne nq).trans hq
        have hw4 : upd H4 wl (.lst (ws.map V.str ++ [.str o])) wl = some (.lst ((ws ++ [o]).map V.str)) := by rw [upd_same, List.map_append]; rfl
        generalize upd H4 wl (.lst (ws.map V.str ++ [.str o])) = H5 at *
        (try dsimp only [gName, tNext, List.set_cons_zero, List.set_cons_succ])
        show t_Converter_call_8 K A E _ _ _
        refine st_asg ?_
        (refine evE ?P78 (fun Q h => ?h78) ?_; (case h78 => (simp only [tTest, tOp, tUn, tVar, tC, tCB, tCons, tNil, tAnd, tOr, tNot, tB, tTup, tLst, tIf, tAndV, tOrV, tNotV, tSl, tPart, tNoPart, tCall, iIx_ref, oGt_int, oMod_int, oFdiv_int, oAdd_int, oAdd_str, oSub_int, oMul_int, oLt_int, oGe_int, oLe_int, oPow_int, uNeg_int, oEq_int, oEq_str, oEq_bl, oNe_int, oNe_str, oNe_bl, cInt_int, cInt_bl, cAbs_int, cLen_ref, cList_ref, stL_ref, gName, gSub, gTup, gCons, gNil, rdSeq, List.getElem?_cons_zero, List.getElem?_cons_succ, List.set_cons_zero, List.set_cons_succ, List.cons_append, List.nil_append, Option.some.injEq, exists_eq_left', V.bl.injEq, V.int.injEq, V.ref.injEq, atI_0, atI_1, atI_2, setI_1, setI_2, Bool.not_true, Bool.not_false, Bool.false_eq_true, if_false, if_true]; exact h)); (try dsimp only [gName, tNext, List.set_cons_zero, List.set_cons_succ]))
        refine ixE (.t hq4) atI_1 ?_
        (try dsimp only [gName, tNext, List.set_cons_zero, List.set_cons_succ])
        refine ⟨g4, t, ws ++ [o], _, _, _, rfl, hw4, by rw [List.length_append]; simp only [List.length_cons, List.length_nil]; omega, fun w hw => ?_, ho3⟩
        rcases List.mem_append.mp hw with z | z
        · exact hm w z
        · rw [List.mem_singleton] at z; rw [z]; exact lo
  · exact h.elim

end HG

namespace HG
open PySem L2
/-! ### drawn steps and tails -/
theorem Goals.keep {H H' : Hp} {p l : Addr} {n : Nat} {ss : List Step} {gs : List Addr} (h : Goals H ss gs) (hp : PenL H p l n) (k : Keep p H H') : Goals H' ss gs := ⟨h.1, fun j s g e1 e2 => by
  have hg := h.2 j s g e1 e2
  refine k _ _ (fun z => ?_) hg
  obtain ⟨xs, e⟩ := hp.lst
  rw [z, e] at hg
  cases hg⟩
theorem Goals.updD {H : Hp} {d : Addr} {kvs kvs' : List (List Key × V)} {ss : List Step} {gs : List Addr} (h : Goals H ss gs) (hd : H d = some (.dT kvs)) : Goals (upd H d (.dT kvs')) ss gs := ⟨h.1, fun j s g e1 e2 => by
  have hg := h.2 j s g e1 e2
  rw [upd_ne (fun z => by rw [z, hd] at hg; cases hg)]
  exact hg⟩
theorem Goals.updK {H : Hp} {d : Addr} {kvs kvs' : List (Key × V)} {ss : List Step} {gs : List Addr} (h : Goals H ss gs) (hd : H d = some (.dK kvs)) : Goals (upd H d (.dK kvs')) ss gs := ⟨h.1, fun j s g e1 e2 => by
  have hg := h.2 j s g e1 e2
  rw [upd_ne (fun z => by rw [z, hd] at hg; cases hg)]
  exact hg⟩
/-- a step put into a dict of steps -/
theorem putS {H : Hp} {s : Step} {g : Addr} (hg : H g = some (.tup [.str s.2.1, .str s.2.2])) : ∀ {ss : List Step} {gs : List Addr}, Goals H ss gs → (ss.map stepK).Nodup → ∃ ss' gs', putK (stepsV ss gs) (stepK s) (.ref g) = stepsV ss' gs' ∧ Goals H ss' gs' ∧ (∀ x ∈ ss', x ∈ ss ∨ x = s) ∧ ss'.length ≤ ss.length + 1 := by
  intro ss gs hG nd
  unfold putK
  split
  · -- it was there
    suffices h : ∀ {ss : List Step} {gs : List Addr}, Goals H ss gs → ∃ ss' gs', (stepsV ss gs).map (fun kv => if kv.1 = stepK s then (kv.1, V.ref g) else kv) = stepsV ss' gs' ∧ Goals H ss' gs' ∧ (∀ x ∈ ss', x ∈ ss ∨ x = s) ∧ ss'.length = ss.length by
      obtain ⟨ss', gs', a, b, c, d⟩ := h hG
      exact ⟨ss', gs', a, b, c, by omega⟩
    intro ss
    induction ss with
    | nil => exact fun {gs} h => ⟨[], [], by cases gs <;> rfl, ⟨rfl, fun j s g e => by cases e⟩, fun x hx => absurd hx (by simp), rfl⟩
    | cons t ss ih =>
      intro gs h
      cases gs with
      | nil => exact absurd h.1 (by simp)
      | cons u gs =>
        obtain ⟨hu, h'⟩ := h.tail
        obtain ⟨ss', gs', a, b, c, d⟩ := ih h'
        have e0 : stepsV (t :: ss) (u :: gs) = (stepK t, V.ref u) :: stepsV ss gs := rfl
        rw [e0, List.map_cons, a]
        by_cases e : stepK t = stepK s
        · refine ⟨s :: ss', g :: gs', ?_, ⟨by rw [List.length_cons, List.length_cons, b.1], fun j x y e1 e2 => ?_⟩, fun x hx => ?_, by rw [List.length_cons, List.length_cons, d]⟩
          · show (if stepK t = stepK s then (stepK t, V.ref g) else (stepK t, V.ref u)) :: _ = (stepK s, V.ref g) :: _
            rw [if_pos e, e]
            rfl
          · cases j with
            | zero => cases e1; cases e2; exact hg
            | succ j => exact b.2 j x y e1 e2
          · rcases List.mem_cons.mp hx with z | z
            · exact .inr z
            · rcases c x z with z | z
              · exact .inl (List.mem_cons_of_mem _ z)
              · exact .inr z
        · refine ⟨t :: ss', u :: gs', ?_, ⟨by rw [List.length_cons, List.length_cons, b.1], fun j x y e1 e2 => ?_⟩, fun x hx => ?_, by rw [List.length_cons, List.length_cons, d]⟩
          · show (if stepK t = stepK s then (stepK t, V.ref g) else (stepK t, V.ref u)) :: _ = (stepK t, V.ref u) :: _
            rw [if_neg e]
            rfl
          · cases j with
            | zero => cases e1; cases e2; exact hu
            | succ j => exact b.2 j x y e1 e2
          · rcases List.mem_cons.mp hx with z | z
            · exact .inl (by rw [z]; exact List.mem_cons_self ..)
            · rcases c x z with z | z
              · exact .inl (List.mem_cons_of_mem _ z)
              · exact .inr z
  · refine ⟨ss ++ [s], gs ++ [g], ?_, ⟨by rw [List.length_append, List.length_append, hG.1]; rfl, fun j x y e1 e2 => ?_⟩, fun x hx => ?_, by rw [List.length_append]; exact Nat.le_refl _⟩
    · unfold stepsV
      rw [List.zipWith_append (by rw [hG.1])]
      rfl
    · by_cases hj : j < ss.length
      · rw [List.getElem?_append_left hj] at e1
        rw [List.getElem?_append_left (by rw [hG.1]; exact hj)] at e2
        exact hG.2 j x y e1 e2
      · rw [List.getElem?_append_right (by omega)] at e1
        rw [List.getElem?_append_right (by rw [hG.1]; omega), hG.1] at e2
        by_cases z : j - ss.length = 0
        · rw [z] at e1 e2
          cases e1; cases e2
          exact hg
        · rw [List.getElem?_eq_none (by simp; omega)] at e1
          cases e1
    · rcases List.mem_append.mp hx with z | z
      · exact .inl z
      · exact .inr (List.mem_singleton.mp z)
theorem putT {s a : Str} (ts : List (Str × Str)) : ∃ ts', putK (tailsV ts) (.inr s) (.str a) = tailsV ts' ∧ (∀ x ∈ ts', x ∈ ts ∨ x = (s, a)) ∧ ts'.length ≤ ts.length + 1 := by
  unfold putK
  split
  · refine ⟨ts.map fun t => if t.1 = s then (t.1, a) else t, ?_, fun x hx => ?_, by rw [List.length_map]; omega⟩
    · unfold tailsV
      rw [List.map_map, List.map_map]
      refine List.map_congr_left fun t _ => ?_
      show (if (Sum.inr t.1 : Key) = .inr s then ((Sum.inr t.1 : Key), V.str a) else (.inr t.1, .str t.2)) = ((Sum.inr (if t.1 = s then (t.1, a) else t).1 : Key), V.str (if t.1 = s then (t.1, a) else t).2)
      by_cases e : t.1 = s
      · rw [if_pos (by rw [e]), if_pos e]
      · rw [if_neg (fun z => e (Sum.inr.inj z)), if_neg e]
    · obtain ⟨t, ht, rfl⟩ := List.mem_map.mp hx
      by_cases e : t.1 = s
      · rw [if_pos e, e]; exact .inr rfl
      · rw [if_neg e]; exact .inl ht
  · refine ⟨ts ++ [(s, a)], ?_, fun x hx => ?_, by rw [List.length_append]; exact Nat.le_refl _⟩
    · unfold tailsV
      rw [List.map_append]
      rfl
    · rcases List.mem_append.mp hx with z | z
      · exact .inl z
      · exact .inr (List.mem_singleton.mp z)
def SLs : List (List Str) := [["p"], ["p", "q"], ["s", "st", "t"], ["p", "q", "r", "zzzzzzzz"], ["a", "b", "c", "d", "e", "f"]]
def LLs : List (List Str) := [["a"], ["a", "b"], ["a", "n", "z"], ["b", "a", "x", "y"]]
theorem sl_ok : ∀ sl ∈ SLs, sl.length ≤ 6 ∧ sl ≠ [] ∧ ∀ x ∈ sl, nameB x = true := by decide +kernel
theorem ll_ok : ∀ ll ∈ LLs, ll.length ≤ 4 ∧ ∀ x ∈ ll, letterB x = true ∧ answerB x = true ∧ answerB (x ++ ("n" : Str)) = true := by decide +kernel
theorem ans_ok : ∀ x ∈ (["", "a", "b", "an", "zzzz", "nz", "bbbb"] : List Str), answerB x = true := by decide +kernel

end HG

namespace HG
open PySem L2
/-! ### texts walked -/
theorem sgn_letter {c : Nat} (h : c ∈ abc.cps.toList) : letterB (sgn c) = true := by
  have h1 : ∀ c ∈ abc.cps.toList, letterB (sgn c) = true := by decide +kernel
  exact h1 c h
theorem goal_in {st : Str} {ss : List Step} {ts : List (Str × Str)} {s l o t : Str} (h : stepOf ss s l = some (o, t)) : t ∈ statesOf st ss ts := by
  unfold statesOf
  refine List.mem_cons_of_mem _ (List.mem_append_right _ (List.mem_append_right _ ?_))
  exact List.mem_map.mpr ⟨_, stepOf_mem h, rfl⟩
theorem for_its {x : Str} {H1 : Hp} {g : TG} {tb : TS} {D : Ends} {σ : L2.St} (W : Nat → L2.St → Hp → Prop) (w0 : W 0 σ H1) (fin : ∀ σ H, W x.cps.size σ H → D.nx σ H)
    (step : ∀ i σ H, i < x.cps.size → W i σ H → g (.str ⟨#[x.cps.getD i 0]⟩) σ H fun σ2 H2 => tb { D with nx := W (i + 1), ct := W (i + 1), bk := D.nx } σ2 H2) : ForW (Its x) g tb D σ H1 := by
  refine ⟨fun i m σ H => i ≤ x.cps.size ∧ m = x.cps.size - i ∧ W i σ H, ⟨x.cps.size, by omega, by omega, w0⟩, ?_⟩
  rintro i m σ H ⟨hi, hm, w⟩
  by_cases e : i = x.cps.size
  · subst e
    exact .inl ⟨Nat.le_refl _, fin _ _ w⟩
  · have hl : i < x.cps.size := by omega
    refine .inr ⟨hl, W (i + 1), fun σ' H' q => ⟨x.cps.size - (i + 1), by omega, by omega, rfl, q⟩, fun v H' y => ?_⟩
    obtain ⟨rfl, c, hc, rfl⟩ := y
    have e : c = x.cps.getD i 0 := by rw [Array.getD_eq_getD_getElem?, hc]; rfl
    rw [e]
    exact step i σ _ hl w
/-- a loop over a list that stands at each turn -/
theorem for_lst {K : PySem.W.Frag} {a : Addr} {xs : List V} {H1 : Hp} {g : TG} {tb : TS} {D : Ends} {σ : L2.St} (W : Nat → L2.St → Hp → Prop) (h1 : H1 a = some (.lst xs)) (w0 : W 0 σ H1) (at_ : ∀ i σ H, W i σ H → H a = some (.lst xs)) (fin : ∀ σ H, W xs.length σ H → D.nx σ H)
    (step : ∀ i σ H, i < xs.length → W i σ H → g (xs.getD i .non) σ H fun σ2 H2 => tb { D with nx := W (i + 1), ct := W (i + 1), bk := D.nx } σ2 H2) : SeqW K (.ref a) H1 fun J H1 => ForW J g tb D σ H1 := by
  refine ⟨a, rfl, .inl ⟨⟨xs, SqL.of h1⟩, ?_⟩⟩
  refine ⟨fun i m σ H => i ≤ xs.length ∧ m = xs.length - i ∧ W i σ H, ⟨xs.length, by omega, by omega, w0⟩, ?_⟩
  rintro i m σ H ⟨hi, hm, w⟩
  have ha := SqL.of (K := K) (at_ _ _ _ w)
  by_cases e : i = xs.length
  · subst e
    exact .inl ⟨⟨xs, ha, Nat.le_refl _⟩, fin _ _ w⟩
  · have hl : i < xs.length := by omega
    refine .inr ⟨⟨xs, xs[i], ha, List.getElem?_eq_getElem hl⟩, W (i + 1), fun σ' H' q => ⟨xs.length - (i + 1), by omega, by omega, rfl, q⟩, fun v H' y => ?_⟩
    obtain ⟨rfl, y⟩ := y
    have ey := y xs ha
    have e : v = xs.getD i .non := by rw [List.getD_eq_getElem?_getD, ey]; rfl
    rw [e]
    exact step i σ H' hl w

/-! ### the rest of a text: the plain law -/
def path (ss : List Step) : Str → List Nat → List (Str × Str)
  | _, [] => []
  | s, c :: r => match stepOf ss s (sgn c) with
    | none => []
    | some (o, t) => (o, t) :: path ss t r
theorem path_len (ss : List Step) : ∀ (l : List Nat) (s : Str), (path ss s l).length ≤ l.length
  | [], s => Nat.le_refl _
  | c :: r, s => by
    show (match stepOf ss s (sgn c) with | none => [] | some (o, t) => (o, t) :: path ss t r).length ≤ r.length + 1
    cases e : stepOf ss s (sgn c) with
    | none => exact Nat.zero_le _
    | some p => exact Nat.succ_le_succ (path_len ss r p.2)
/-- the state behind a path -/
def lastS (s : Str) (p : List (Str × Str)) : Str := (p.map (·.2)).getLastD s
theorem lastS_cons (s o t : Str) (p : List (Str × Str)) : lastS s ((o, t) :: p) = lastS t p := by
  unfold lastS
  rw [List.map_cons, List.getLastD_cons]
theorem go_path (ss : List Step) : ∀ (l m : List Nat) (s : Str) (ws : List Str) (n : Nat), (path ss s l).length = l.length → goL ss s ws n (l ++ m) = goL ss (lastS s (path ss s l)) (ws ++ (path ss s l).map (fun p : Str × Str => p.1)) (n + l.length) m
  | [], m, s, ws, n, _ => by
    show goL ss s ws n m = goL ss s (ws ++ []) (n + 0) m
    rw [List.append_nil, Nat.add_zero]
  | c :: r, m, s, ws, n, h => by
    have h' : (match stepOf ss s (sgn c) with | none => ([] : List (Str × Str)) | some (o, t) => (o, t) :: path ss t r).length = r.length + 1 := h
    show (match stepOf ss s (sgn c) with | none => Sum.inl (n, s) | some (o, t) => goL ss t (ws ++ [o]) (n + 1) (r ++ m)) = goL ss (lastS s (match stepOf ss s (sgn c) with | none => ([] : List (Str × Str)) | some (o, t) => (o, t) :: path ss t r)) (ws ++ (match stepOf ss s (sgn c) with | none => ([] : List (Str × Str)) | some (o, t) => (o, t) :: path ss t r).map (fun p : Str × Str => p.1)) (n + (r.length + 1)) m
    cases e : stepOf ss s (sgn c) with
    | none => rw [e] at h'; simp at h'
    | some p =>
      rw [e] at h'
      show goL ss p.2 (ws ++ [p.1]) (n + 1) (r ++ m) = goL ss (lastS s ((p.1, p.2) :: path ss p.2 r)) (ws ++ (p.1 :: (path ss p.2 r).map (fun p : Str × Str => p.1))) _ m
      rw [go_path ss r m p.2 _ _ (Nat.succ.inj h'), lastS_cons, List.append_assoc, Nat.add_assoc, Nat.add_comm 1 r.length]
      rfl
theorem go_shift (ss : List Step) : ∀ (l : List Nat) (s : Str) (ws : List Str) (n : Nat), goL ss s ws n l = match goL ss s [] 0 l with
    | .inl (k, s') => .inl (n + k, s')
    | .inr (s', vs) => .inr (s', ws ++ vs)
  | [], s, ws, n => by show Sum.inr (s, ws) = Sum.inr (s, ws ++ []); rw [List.append_nil]
  | c :: r, s, ws, n => by
    show (match stepOf ss s (sgn c) with | none => Sum.inl (n, s) | some (o, t) => goL ss t (ws ++ [o]) (n + 1) r) = match (match stepOf ss s (sgn c) with | none => Sum.inl (0, s) | some (o, t) => goL ss t ([] ++ [o]) (0 + 1) r) with
      | .inl (k, s') => .inl (n + k, s')
      | .inr (s', vs) => .inr (s', ws ++ vs)
    cases e : stepOf ss s (sgn c) with
    | none => rfl
    | some p =>
      show goL ss p.2 (ws ++ [p.1]) (n + 1) r = match goL ss p.2 ([] ++ [p.1]) (0 + 1) r with
        | .inl (k, s') => .inl (n + k, s')
        | .inr (s', vs) => .inr (s', ws ++ vs)
      rw [go_shift ss r p.2 (ws ++ [p.1]) (n + 1), go_shift ss r p.2 ([] ++ [p.1]) (0 + 1)]
      cases goL ss p.2 [] 0 r with
      | inl q => show Sum.inl (n + 1 + q.1, q.2) = Sum.inl (n + (0 + 1 + q.1), q.2); rw [Nat.zero_add, Nat.add_assoc]
      | inr q => show Sum.inr (q.1, ws ++ [p.1] ++ q.2) = Sum.inr (q.1, ws ++ ([] ++ [p.1] ++ q.2)); rw [List.nil_append, List.append_assoc]
theorem str_ext {a b : Str} (h : a.cps.toList = b.cps.toList) : a = b := by
  cases a with
  | mk x =>
    cases b with
    | mk y =>
      have : x = y := Array.toList_inj.mp h
      rw [this]
theorem app_cps (a b : Str) : (a ++ b).cps.toList = a.cps.toList ++ b.cps.toList := by
  show (a.cps ++ b.cps).toList = _
  rw [Array.toList_append]
theorem join_cps : ∀ ws : List Str, (Txt.join (Str.ofString "") ws).cps.toList = (ws.map (·.cps.toList)).flatten := fun ws => by
  have e : Txt.join (Str.ofString "") ws = Str.join (Str.ofString "") ws := StrLaws.glued_eq_join _ ws
  rw [e]
  induction ws with
  | nil => rfl
  | cons x r ih =>
    have ih := ih (StrLaws.glued_eq_join _ r)
    cases r with
    | nil => show x.cps.toList = _; rw [List.map_cons, List.map_nil, List.flatten_cons, List.flatten_nil, List.append_nil]
    | cons y r =>
      show (x ++ Str.ofString "" ++ Str.join (Str.ofString "") (y :: r)).cps.toList = _
      rw [app_cps, app_cps, ih]
      show x.cps.toList ++ [] ++ _ = _
      rw [List.append_nil]
      rfl
theorem fold_cps : ∀ (ps : List (Str × Str)) (w : Str), (ps.foldl (fun (a : Str) (p : Str × Str) => a ++ p.1) w).cps.toList = w.cps.toList ++ (ps.map (·.1.cps.toList)).flatten
  | [], w => by simp
  | p :: r, w => by
    rw [List.foldl_cons, fold_cps r, app_cps, List.map_cons, List.flatten_cons, List.append_assoc]
theorem go_leads (ss : List Step) : ∀ (l : List Nat) (s : Str) (ws : List Str) (n : Nat), leads ss s l = match goL ss s ws n l with
    | .inl _ => none
    | .inr q => some q.1
  | [], s, ws, n => rfl
  | c :: r, s, ws, n => by
    show (match stepOf ss s (sgn c) with | none => none | some (_, t) => leads ss t r) = match (match stepOf ss s (sgn c) with | none => Sum.inl (n, s) | some (o, t) => goL ss t (ws ++ [o]) (n + 1) r) with
      | .inl _ => none
      | .inr q => some q.1
    cases e : stepOf ss s (sgn c) with
    | none => rfl
    | some p => exact go_leads ss r p.2 _ _
theorem takes_out (st : Str) (ss : List Step) (ts : List (Str × Str)) (x : Str) : takesB st ss ts x = match outOf st ss ts x with
    | .ok _ => true
    | _ => false := by
  unfold takesB outOf
  rw [go_leads ss x.cps.toList st [] 0]
  cases goL ss st [] 0 x.cps.toList with
  | inl q => rfl
  | inr q =>
    show (tailOf ts q.1).isSome = match (match tailOf ts q.1 with | none => Out.tail q.1 | some t => Out.ok (Txt.join ("" : Str) (q.2 ++ [t]))) with
      | .ok _ => true
      | _ => false
    cases tailOf ts q.1 <;> rfl
/-- the answer to a text and that to its rest -/
theorem out_cut {st : Str} {ss : List Step} {ts : List (Str × Str)} {x z : Str} {ys zs : List Nat} (hx : x.cps.toList = ys ++ zs) (hz : z.cps.toList = zs) (hc : (path ss st ys).length = ys.length) :
    (∃ k s, outOf (lastS st (path ss st ys)) ss ts z = .step k s ∧ outOf st ss ts x = .step (ys.length + k) s) ∨ (∃ s, outOf (lastS st (path ss st ys)) ss ts z = .tail s ∧ outOf st ss ts x = .tail s) ∨
      ∃ a, outOf (lastS st (path ss st ys)) ss ts z = .ok a ∧ outOf st ss ts x = .ok ((path ss st ys).foldl (fun (a : Str) (p : Str × Str) => a ++ p.1) (Str.ofString "") ++ a) := by
  unfold outOf
  rw [hx, hz, go_path ss ys zs st [] 0 hc, go_shift ss zs (lastS st (path ss st ys)) ([] ++ (path ss st ys).map (fun p : Str × Str => p.1)) (0 + ys.length)]
  cases goL ss (lastS st (path ss st ys)) [] 0 zs with
  | inl q => exact .inl ⟨q.1, q.2, rfl, by show Out.step (0 + ys.length + q.1) q.2 = _; rw [Nat.zero_add]⟩
  | inr q =>
    refine .inr ?_
    cases q with
    | mk s vs =>
      dsimp only
      cases tailOf ts s with
      | none => exact .inl ⟨_, rfl, rfl⟩
      | some t =>
        refine .inr ⟨_, rfl, congrArg Out.ok (str_ext ?_)⟩
        rw [join_cps, app_cps, fold_cps, join_cps, List.nil_append, List.append_assoc, List.map_append, List.flatten_append, List.map_map]
        show _ = [] ++ _ ++ _
        rw [List.nil_append]
        rfl

end HG

namespace HG
open PySem L2
/-! ### gaps and arrays of texts -/
def maxI (m : Int) (ns : List Int) : Int := ns.foldl (fun a b => if a < b then b else a) m
theorem maxI_snoc (m : Int) (ns : List Int) (n : Int) : maxI m (ns ++ [n]) = if maxI m ns < n then n else maxI m ns := by
  unfold maxI
  rw [List.foldl_append]
  rfl
theorem maxI_le {m c : Int} : ∀ {ns : List Int}, maxI m ns ≤ c ↔ m ≤ c ∧ ∀ n ∈ ns, n ≤ c := by
  intro ns
  induction ns generalizing m with
  | nil => exact ⟨fun h => ⟨h, fun n z => (List.not_mem_nil z).elim⟩, fun h => h.1⟩
  | cons x r ih =>
    show maxI (if m < x then x else m) r ≤ c ↔ _
    rw [ih]
    constructor
    · intro ⟨h1, h2⟩
      refine ⟨by split at h1 <;> omega, fun n hn => ?_⟩
      rcases List.mem_cons.mp hn with z | z
      · rw [z]; split at h1 <;> omega
      · exact h2 n z
    · intro ⟨h1, h2⟩
      have := h2 x (List.mem_cons_self ..)
      exact ⟨by split <;> omega, fun n hn => h2 n (List.mem_cons_of_mem _ hn)⟩
def sp_need_converter (K : PySem.W.Frag) (A : Ad) : Sp := fun vs H Q _ => match vs with
  | [.ref a, .str _] => (∃ dx fs, H a = some (.ins A.c_Converter dx fs)) ∧ Q .non H
  | _ => False
def t_need_converter_1 (K : PySem.W.Frag) (A : Ad) : TS := tNever
def t_need_converter_0 (K : PySem.W.Frag) (A : Ad) : TS := (tIfS (tNot (tB (tCB (cIsi K) (tCons (tVar 0) (tCons (tC (.ref A.c_Converter)) tNil))))) (t_need_converter_1 K A) tNext)

theorem pure_need_converter {K : PySem.W.Frag} {A : Ad} {vs : List V} {H : Hp} {Q : VK} {E : XK} (F : KF K A) (h : sp_need_converter K A vs H Q E) : (t_need_converter_0 K A) { nx := fun _ H' => Q .non H', rt := Q } (start ["value", "part"] vs) H := by
  unfold sp_need_converter at h
  split at h
  · rename_i a p
    obtain ⟨⟨dx, fs, h1⟩, k⟩ := h
    have h2 : tyF H (.ref a) = some (.ref A.c_Converter) := by simp only [tyF, h1]
    show (t_need_converter_0 K A) _ [some (.ref a), some (.str p)] H
    refine st_if ?_
    (refine evT ?P82 (fun Q h => ?h82) ?_; (case h82 => (simp only [tTest, tOp, tUn, tVar, tC, tCB, tCons, tNil, tAnd, tOr, tNot, tB, tTup, tLst, tIf, tAndV, tOrV, tNotV, tSl, tPart, tNoPart, tCall, iIx_ref, oGt_int, oMod_int, oFdiv_int, oAdd_int, oAdd_str, oSub_int, oMul_int, oLt_int, oGe_int, oLe_int, oPow_int, uNeg_int, oEq_int, oEq_str, oEq_bl, oNe_int, oNe_str, oNe_bl, cInt_int, cInt_bl, cAbs_int, cLen_ref, cList_ref, stL_ref, gName, gSub, gTup, gCons, gNil, rdSeq, List.getElem?_cons_zero, List.getElem?_cons_succ, List.set_cons_zero, List.set_cons_succ, List.cons_append, List.nil_append, Option.some.injEq, exists_eq_left', V.bl.injEq, V.int.injEq, V.ref.injEq, atI_0, atI_1, atI_2, setI_1, setI_2, Bool.not_true, Bool.not_false, Bool.false_eq_true, if_false, if_true, cIsi, h2, F.kr]; exact h)); (try dsimp only [gName, tNext, List.set_cons_zero, List.set_cons_succ]))
    exact ⟨F.it, k⟩
  · exact h.elim
def sp_most_of (K : PySem.W.Frag) (A : Ad) : Sp := fun vs H Q _ => match vs with
  | [.ref l, .int m] => ∃ ns : List Int, H l = some (.lst (ns.map V.int)) ∧ Q (.int (maxI m ns)) H
  | _ => False
def t_most_of_3 (K : PySem.W.Frag) (A : Ad) : TS := (tAsg (tVar 3) (gName 2))
def t_most_of_2 (K : PySem.W.Frag) (A : Ad) : TS := (tIfS (tTest (tOp oGt (tVar 3) (tVar 2))) (t_most_of_3 K A) tNext)
def t_most_of_4 (K : PySem.W.Frag) (A : Ad) : TS := (tRet (tVar 2))
def t_most_of_1 (K : PySem.W.Frag) (A : Ad) : TS := (tSeq (tFor (iSeq K (tVar 0)) (gName 3)
    (t_most_of_2 K A)) (t_most_of_4 K A))
def t_most_of_0 (K : PySem.W.Frag) (A : Ad) : TS := (tSeq (tAsg (tVar 1) (gName 2)) (t_most_of_1 K A))

theorem pure_most_of {K : PySem.W.Frag} {A : Ad} {vs : List V} {H : Hp} {Q : VK} {E : XK} (h : sp_most_of K A vs H Q E) : (t_most_of_0 K A) { nx := fun _ H' => Q .non H', rt := Q } (start ["numbers", "least", "found", "number"] vs) H := by
  unfold sp_most_of at h
  split at h
  · rename_i l m
    obtain ⟨ns, h1, k⟩ := h
    show (t_most_of_0 K A) _ [some (.ref l), some (.int m), none, none] H
    refine st_seq (st_asg ?_)
    (refine evE ?P83 (fun Q h => ?h83) ?_; (case h83 => (simp only [tTest, tOp, tUn, tVar, tC, tCB, tCons, tNil, tAnd, tOr, tNot, tB, tTup, tLst, tIf, tAndV, tOrV, tNotV, tSl, tPart, tNoPart, tCall, iIx_ref, oGt_int, oMod_int, oFdiv_int, oAdd_int, oAdd_str, oSub_int, oMul_int, oLt_int, oGe_int, oLe_int, oPow_int, uNeg_int, oEq_int, oEq_str, oEq_bl, oNe_int, oNe_str, oNe_bl, cInt_int, cInt_bl, cAbs_int, cLen_ref, cList_ref, stL_ref, gName, gSub, gTup, gCons, gNil, rdSeq, List.getElem?_cons_zero, List.getElem?_cons_succ, List.set_cons_zero, List.set_cons_succ, List.cons_append, List.nil_append, Option.some.injEq, exists_eq_left', V.bl.injEq, V.int.injEq, V.ref.injEq, atI_0, atI_1, atI_2, setI_1, setI_2, Bool.not_true, Bool.not_false, Bool.false_eq_true, if_false, if_true]; exact h)); (try dsimp only [gName, tNext, List.set_cons_zero, List.set_cons_succ]))
    show t_most_of_1 K A _ _ _
    refine st_seq (for_seq ?_)
    (refine evE ?P91 (fun Q h => ?h91) ?_; (case h91 => (simp only [tTest, tOp, tUn, tVar, tC, tCB, tCons, tNil, tAnd, tOr, tNot, tB, tTup, tLst, tIf, tAndV, tOrV, tNotV, tSl, tPart, tNoPart, tCall, iIx_ref, oGt_int, oMod_int, oFdiv_int, oAdd_int, oAdd_str, oSub_int, oMul_int, oLt_int, oGe_int, oLe_int, oPow_int, uNeg_int, oEq_int, oEq_str, oEq_bl, oNe_int, oNe_str, oNe_bl, cInt_int, cInt_bl, cAbs_int, cLen_ref, cList_ref, stL_ref, gName, gSub, gTup, gCons, gNil, rdSeq, List.getElem?_cons_zero, List.getElem?_cons_succ, List.set_cons_zero, List.set_cons_succ, List.cons_append, List.nil_append, Option.some.injEq, exists_eq_left', V.bl.injEq, V.int.injEq, V.ref.injEq, atI_0, atI_1, atI_2, setI_1, setI_2, Bool.not_true, Bool.not_false, Bool.false_eq_true, if_false, if_true]; exact h)))
    refine for_lst (fun i σ H' => H' = H ∧ ∃ y, σ = [some (.ref l), some (.int m), some (.int (maxI m (ns.take i))), y]) h1 ⟨rfl, none, rfl⟩ (fun i σ H' w => by rw [w.1]; exact h1) (fun σ H' w => ?_) (fun i σ H' hi w => ?_)
    · obtain ⟨rfl, y, rfl⟩ := w
      rw [List.length_map, List.take_length]
      show t_most_of_4 K A _ _ _
      refine st_ret ?_
      (refine evE ?P84 (fun Q h => ?h84) ?_; (case h84 => (simp only [tTest, tOp, tUn, tVar, tC, tCB, tCons, tNil, tAnd, tOr, tNot, tB, tTup, tLst, tIf, tAndV, tOrV, tNotV, tSl, tPart, tNoPart, tCall, iIx_ref, oGt_int, oMod_int, oFdiv_int, oAdd_int, oAdd_str, oSub_int, oMul_int, oLt_int, oGe_int, oLe_int, oPow_int, uNeg_int, oEq_int, oEq_str, oEq_bl, oNe_int, oNe_str, oNe_bl, cInt_int, cInt_bl, cAbs_int, cLen_ref, cList_ref, stL_ref, gName, gSub, gTup, gCons, gNil, rdSeq, List.getElem?_cons_zero, List.getElem?_cons_succ, List.set_cons_zero, List.set_cons_succ, List.cons_append, List.nil_append, Option.some.injEq, exists_eq_left', V.bl.injEq, V.int.injEq, V.ref.injEq, atI_0, atI_1, atI_2, setI_1, setI_2, Bool.not_true, Bool.not_false, Bool.false_eq_true, if_false, if_true]; exact h)); (try dsimp only [gName, tNext, List.set_cons_zero, List.set_cons_succ]))
      exact k
    · obtain ⟨rfl, y, rfl⟩ := w
      rw [List.length_map] at hi
      have e : (ns.map V.int).getD i .non = .int (ns[i]) := by rw [List.getD_eq_getElem?_getD, List.getElem?_map, List.getElem?_eq_getElem hi]; rfl
      have ts : ns.take (i + 1) = ns.take i ++ [ns[i]] := by rw [List.take_succ, List.getElem?_eq_getElem hi]; rfl
      rw [e]
      (try dsimp only [gName, tNext, List.set_cons_zero, List.set_cons_succ])
      show t_most_of_2 K A _ _ _
      refine st_if ?_
      (refine evT ?P85 (fun Q h => ?h85) ?_; (case h85 => (simp only [tTest, tOp, tUn, tVar, tC, tCB, tCons, tNil, tAnd, tOr, tNot, tB, tTup, tLst, tIf, tAndV, tOrV, tNotV, tSl, tPart, tNoPart, tCall, iIx_ref, oGt_int, oMod_int, oFdiv_int, oAdd_int, oAdd_str, oSub_int, oMul_int, oLt_int, oGe_int, oLe_int, oPow_int, uNeg_int, oEq_int, oEq_str, oEq_bl, oNe_int, oNe_str, oNe_bl, cInt_int, cInt_bl, cAbs_int, cLen_ref, cList_ref, stL_ref, gName, gSub, gTup, gCons, gNil, rdSeq, List.getElem?_cons_zero, List.getElem?_cons_succ, List.set_cons_zero, List.set_cons_succ, List.cons_append, List.nil_append, Option.some.injEq, exists_eq_left', V.bl.injEq, V.int.injEq, V.ref.injEq, atI_0, atI_1, atI_2, setI_1, setI_2, Bool.not_true, Bool.not_false, Bool.false_eq_true, if_false, if_true]; exact h)); (try dsimp only [gName, tNext, List.set_cons_zero, List.set_cons_succ]))
      refine ite_dec (fun hc => ?_) (fun hc => ?_)
      · show t_most_of_3 K A _ _ _
        refine st_asg ?_
        (refine evE ?P86 (fun Q h => ?h86) ?_; (case h86 => (simp only [tTest, tOp, tUn, tVar, tC, tCB, tCons, tNil, tAnd, tOr, tNot, tB, tTup, tLst, tIf, tAndV, tOrV, tNotV, tSl, tPart, tNoPart, tCall, iIx_ref, oGt_int, oMod_int, oFdiv_int, oAdd_int, oAdd_str, oSub_int, oMul_int, oLt_int, oGe_int, oLe_int, oPow_int, uNeg_int, oEq_int, oEq_str, oEq_bl, oNe_int, oNe_str, oNe_bl, cInt_int, cInt_bl, cAbs_int, cLen_ref, cList_ref, stL_ref, gName, gSub, gTup, gCons, gNil, rdSeq, List.getElem?_cons_zero, List.getElem?_cons_succ, List.set_cons_zero, List.set_cons_succ, List.cons_append, List.nil_append, Option.some.injEq, exists_eq_left', V.bl.injEq, V.int.injEq, V.ref.injEq, atI_0, atI_1, atI_2, setI_1, setI_2, Bool.not_true, Bool.not_false, Bool.false_eq_true, if_false, if_true]; exact h)); (try dsimp only [gName, tNext, List.set_cons_zero, List.set_cons_succ]))
        exact ⟨rfl, some (.int ns[i]), by rw [ts, maxI_snoc, if_pos hc]⟩
      · exact ⟨rfl, some (.int ns[i]), by rw [ts, maxI_snoc, if_neg hc]⟩
  · exact h.elim
def sp_weight (K : PySem.W.Frag) (A : Ad) : Sp := fun vs H Q _ => match vs with
  | [.str x] => x.length ≤ sizeLine ∧ Q (.int ((x.length : Int) - 1)) H
  | _ => False
def t_weight_0 (K : PySem.W.Frag) (A : Ad) : TS := (tRet (tOp oSub (tCB (cLen K) (tCons (tVar 0) tNil)) (tC (.int 1))))

theorem pure_weight {K : PySem.W.Frag} {A : Ad} {vs : List V} {H : Hp} {Q : VK} {E : XK} (h : sp_weight K A vs H Q E) : (t_weight_0 K A) { nx := fun _ H' => Q .non H', rt := Q } (start ["answer"] vs) H := by
  unfold sp_weight at h
  split at h
  · rename_i x
    obtain ⟨h1, k⟩ := h
    show (t_weight_0 K A) _ [some (.str x)] H
    refine st_ret ?_
    (refine evE ?P87 (fun Q h => ?h87) ?_; (case h87 => (simp only [tTest, tOp, tUn, tVar, tC, tCB, tCons, tNil, tAnd, tOr, tNot, tB, tTup, tLst, tIf, tAndV, tOrV, tNotV, tSl, tPart, tNoPart, tCall, iIx_ref, oGt_int, oMod_int, oFdiv_int, oAdd_int, oAdd_str, oSub_int, oMul_int, oLt_int, oGe_int, oLe_int, oPow_int, uNeg_int, oEq_int, oEq_str, oEq_bl, oNe_int, oNe_str, oNe_bl, cInt_int, cInt_bl, cAbs_int, cLen_ref, cList_ref, stL_ref, gName, gSub, gTup, gCons, gNil, rdSeq, List.getElem?_cons_zero, List.getElem?_cons_succ, List.set_cons_zero, List.set_cons_succ, List.cons_append, List.nil_append, Option.some.injEq, exists_eq_left', V.bl.injEq, V.int.injEq, V.ref.injEq, atI_0, atI_1, atI_2, setI_1, setI_2, Bool.not_true, Bool.not_false, Bool.false_eq_true, if_false, if_true, cLen_str]; exact h)); (try dsimp only [gName, tNext, List.set_cons_zero, List.set_cons_succ]))
    exact ⟨h1, k⟩
  · exact h.elim
/-- the heights behind 0, 1, .. letters -/
def hts : Int → List (Str × Str) → List Int
  | h, [] => [h]
  | h, p :: r => h :: hts (h + ((p.1.length : Int) - 1)) r
def sp_heights_behind (K : PySem.W.Frag) (A : Ad) : Sp := fun vs H Q _ => match vs with
  | [.ref c, .str x] => ∃ st ss ts, CvAt K A H c st ss ts ∧ rowB x 400 = true ∧ (path ss st x.cps.toList).length = x.cps.size ∧ ∀ L H', Grow H H' → H' L = some (.lst ((hts 0 (path ss st x.cps.toList)).map V.int)) → Q (.ref L) H'
  | _ => False
def t_heights_behind_3 (K : PySem.W.Frag) (A : Ad) : TS := (tDrop (tBM K "list" rAppend (tVar 3) (tCons (tOp oAdd (tOp (rIx K) (tVar 3) (tUn uNeg (tC (.int 1)))) (tCall (sp_weight K A) [] E0 (tCons (tVar 5) tNil))) tNil)))
def t_heights_behind_2 (K : PySem.W.Frag) (A : Ad) : TS := (tSeq (tAsg (tDGet (tFld K (tVar 0) "steps") (tTup (tCons (tVar 2) (tCons (tVar 4) tNil)))) (gTup K 2 (gCons (gName 5) (gCons (gName 2) gNil)))) (t_heights_behind_3 K A))
def t_heights_behind_4 (K : PySem.W.Frag) (A : Ad) : TS := (tRet (tVar 3))
def t_heights_behind_1 (K : PySem.W.Frag) (A : Ad) : TS := (tSeq (tFor (iStr (tVar 1)) (gName 4)
    (t_heights_behind_2 K A)) (t_heights_behind_4 K A))
def t_heights_behind_0 (K : PySem.W.Frag) (A : Ad) : TS := (tSeq (tPar 2 3 (tCons (tFld K (tVar 0) "start") (tCons (tLst (tCons (tC (.int 0)) tNil)) tNil))) (t_heights_behind_1 K A))

theorem hts_len : ∀ (p : List (Str × Str)) (h : Int), (hts h p).length = p.length + 1
  | [], h => rfl
  | a :: r, h => by
    show (hts _ r).length + 1 = _
    rw [hts_len r]
    rfl
theorem atI_end {xs : List V} {v : V} : atI (xs ++ [v]) (-1) = some v := atI_last xs v
theorem path_none {ss : List Step} {s : Str} {c : Nat} {r : List Nat} (e : stepOf ss s (sgn c) = none) : path ss s (c :: r) = [] := by
  show (match stepOf ss s (sgn c) with | none => ([] : List (Str × Str)) | some (o, t) => (o, t) :: path ss t r) = _
  rw [e]
theorem path_some {ss : List Step} {s o t : Str} {c : Nat} {r : List Nat} (e : stepOf ss s (sgn c) = some (o, t)) : path ss s (c :: r) = (o, t) :: path ss t r := by
  show (match stepOf ss s (sgn c) with | none => ([] : List (Str × Str)) | some (o, t) => (o, t) :: path ss t r) = _
  rw [e]
theorem pure_heights_behind {K : PySem.W.Frag} {A : Ad} {vs : List V} {H : Hp} {Q : VK} {E : XK} (F : KF K A) (h : sp_heights_behind K A vs H Q E) : (t_heights_behind_0 K A) { nx := fun _ H' => Q .non H', rt := Q } (start ["converter", "text", "state", "found", "letter", "answer"] vs) H := by
  unfold sp_heights_behind at h
  split at h
  · rename_i c x
    obtain ⟨st, ss, ts, C, hx, hp, k⟩ := h
    have hsz : sizeLine = 16777216 := rfl
    have hxl := rowB_len hx
    have hxs : x.cps.size = x.length := rfl
    have gd := C.1
    show (t_heights_behind_0 K A) _ [some (.ref c), some (.str x), none, none, none, none] H
    refine st_seq ?_
    unfold tPar
    (refine evA ?P88 (fun Q h => ?h88) ?_; (case h88 => (simp only [tTest, tOp, tUn, tVar, tC, tCB, tCons, tNil, tAnd, tOr, tNot, tB, tTup, tLst, tIf, tAndV, tOrV, tNotV, tSl, tPart, tNoPart, tCall, iIx_ref, oGt_int, oMod_int, oFdiv_int, oAdd_int, oAdd_str, oSub_int, oMul_int, oLt_int, oGe_int, oLe_int, oPow_int, uNeg_int, oEq_int, oEq_str, oEq_bl, oNe_int, oNe_str, oNe_bl, cInt_int, cInt_bl, cAbs_int, cLen_ref, cList_ref, stL_ref, gName, gSub, gTup, gCons, gNil, rdSeq, List.getElem?_cons_zero, List.getElem?_cons_succ, List.set_cons_zero, List.set_cons_succ, List.cons_append, List.nil_append, Option.some.injEq, exists_eq_left', V.bl.injEq, V.int.injEq, V.ref.injEq, atI_0, atI_1, atI_2, setI_1, setI_2, Bool.not_true, Bool.not_false, Bool.false_eq_true, if_false, if_true, tFld_eq]; exact h)); (try dsimp only [gName, tNext, List.set_cons_zero, List.set_cons_succ]))
    refine C.get F ?_
    refine ⟨by show 1 ≤ sizeLine; decide, fun L hL => ?_⟩
    refine ⟨_, _, rfl, ?_⟩
    (try dsimp only [gName, tNext, List.set_cons_zero, List.set_cons_succ])
    have gw := Grow.new (o := .lst [.int 0]) hL
    have hw0 : upd H L (.lst [.int 0]) L = some (.lst (([] ++ [(0 : Int)]).map V.int)) := upd_same
    generalize upd H L (.lst [.int 0]) = H1 at *
    show t_heights_behind_1 K A _ _ _
    refine st_seq (for_text ?_)
    (refine evE ?P92 (fun Q h => ?h92) ?_; (case h92 => (simp only [tTest, tOp, tUn, tVar, tC, tCB, tCons, tNil, tAnd, tOr, tNot, tB, tTup, tLst, tIf, tAndV, tOrV, tNotV, tSl, tPart, tNoPart, tCall, iIx_ref, oGt_int, oMod_int, oFdiv_int, oAdd_int, oAdd_str, oSub_int, oMul_int, oLt_int, oGe_int, oLe_int, oPow_int, uNeg_int, oEq_int, oEq_str, oEq_bl, oNe_int, oNe_str, oNe_bl, cInt_int, cInt_bl, cAbs_int, cLen_ref, cList_ref, stL_ref, gName, gSub, gTup, gCons, gNil, rdSeq, List.getElem?_cons_zero, List.getElem?_cons_succ, List.set_cons_zero, List.set_cons_succ, List.cons_append, List.nil_append, Option.some.injEq, exists_eq_left', V.bl.injEq, V.int.injEq, V.ref.injEq, atI_0, atI_1, atI_2, setI_1, setI_2, Bool.not_true, Bool.not_false, Bool.false_eq_true, if_false, if_true]; exact h)))
    refine ⟨x, rfl, ?_⟩
    refine for_its (fun i σ H' => Grow H H' ∧ ∃ s h hs y4 y5, σ = [some (.ref c), some (.str x), some (.str s), some (.ref L), y4, y5] ∧ H' L = some (.lst ((hs ++ [h]).map V.int)) ∧ hs.length ≤ i ∧ hts 0 (path ss st x.cps.toList) = hs ++ hts h (path ss s (x.cps.toList.drop i)) ∧ (path ss s (x.cps.toList.drop i)).length = (x.cps.toList.drop i).length)
      ⟨gw, st, 0, [], none, none, rfl, hw0, Nat.le_refl _, rfl, by rw [List.drop_zero, hp, Array.length_toList]⟩ (fun σ H' w => ?_) (fun i σ H' hi w => ?_)
    · obtain ⟨g, s, h, hs, y4, y5, rfl, hw, hl, he, _⟩ := w
      rw [List.drop_of_length_le (by rw [Array.length_toList]; exact Nat.le_refl _)] at he
      have he : hts 0 (path ss st x.cps.toList) = hs ++ [h] := he
      show t_heights_behind_4 K A _ _ _
      refine st_ret ?_
      (refine evE ?P89 (fun Q h => ?h89) ?_; (case h89 => (simp only [tTest, tOp, tUn, tVar, tC, tCB, tCons, tNil, tAnd, tOr, tNot, tB, tTup, tLst, tIf, tAndV, tOrV, tNotV, tSl, tPart, tNoPart, tCall, iIx_ref, oGt_int, oMod_int, oFdiv_int, oAdd_int, oAdd_str, oSub_int, oMul_int, oLt_int, oGe_int, oLe_int, oPow_int, uNeg_int, oEq_int, oEq_str, oEq_bl, oNe_int, oNe_str, oNe_bl, cInt_int, cInt_bl, cAbs_int, cLen_ref, cList_ref, stL_ref, gName, gSub, gTup, gCons, gNil, rdSeq, List.getElem?_cons_zero, List.getElem?_cons_succ, List.set_cons_zero, List.set_cons_succ, List.cons_append, List.nil_append, Option.some.injEq, exists_eq_left', V.bl.injEq, V.int.injEq, V.ref.injEq, atI_0, atI_1, atI_2, setI_1, setI_2, Bool.not_true, Bool.not_false, Bool.false_eq_true, if_false, if_true]; exact h)); (try dsimp only [gName, tNext, List.set_cons_zero, List.set_cons_succ]))
      exact k L _ g (by rw [he]; exact hw)
    · obtain ⟨g, s, h, hs, y4, y5, rfl, hw, hl, he, hq⟩ := w
      rw [drop_next hi] at he hq
      generalize x.cps.getD i 0 = cc at *
      (try dsimp only [gName, tNext, List.set_cons_zero, List.set_cons_succ])
      show t_heights_behind_2 K A _ _ _
      refine st_seq (st_asg ?_)
      (refine evE ?P90 (fun Q h => ?h90) ?_; (case h90 => (simp only [tTest, tOp, tUn, tVar, tC, tCB, tCons, tNil, tAnd, tOr, tNot, tB, tTup, tLst, tIf, tAndV, tOrV, tNotV, tSl, tPart, tNoPart, tCall, iIx_ref, oGt_int, oMod_int, oFdiv_int, oAdd_int, oAdd_str, oSub_int, oMul_int, oLt_int, oGe_int, oLe_int, oPow_int, uNeg_int, oEq_int, oEq_str, oEq_bl, oNe_int, oNe_str, oNe_bl, cInt_int, cInt_bl, cAbs_int, cLen_ref, cList_ref, stL_ref, gName, gSub, gTup, gCons, gNil, rdSeq, List.getElem?_cons_zero, List.getElem?_cons_succ, List.set_cons_zero, List.set_cons_succ, List.cons_append, List.nil_append, Option.some.injEq, exists_eq_left', V.bl.injEq, V.int.injEq, V.ref.injEq, atI_0, atI_1, atI_2, setI_1, setI_2, Bool.not_true, Bool.not_false, Bool.false_eq_true, if_false, if_true, tDGet, tFld_eq]; exact h)); (try dsimp only [gName, tNext, List.set_cons_zero, List.set_cons_succ]))
      refine (C.grow g).steps F fun sd gs hsd G => ?_
      refine ⟨by show 2 ≤ sizeLine; decide, fun q hq2 => ?_⟩
      have gq := Grow.new (o := .tup [.str s, .str (sgn cc)]) hq2
      have hqe : upd H' q (.tup [.str s, .str (sgn cc)]) q = some (.tup ([.inr s, .inr (sgn cc)].map kV)) := upd_same
      rcases stepsV_val (a := s) (b := sgn cc) (G.grow gq) with ⟨e1, e2⟩ | ⟨o, t, u, e1, e2, hu⟩
      · rw [path_none e1] at hq
        simp at hq
      · rw [path_some e1] at he hq
        refine ⟨sd, .ref u, rfl, .inr ⟨_, _, q, .inl (gq _ _ hsd), rfl, hqe, e2.symm⟩, ?_⟩
        have lo : o.length ≤ 4 := answer_len (gd.kss _ (stepOf_mem e1)).2.2.1
        refine ⟨u, _, rfl, SqT.of hu, rfl, ?_⟩
        refine ⟨_, _, rfl, ?_⟩
        refine ⟨_, _, rfl, ?_⟩
        refine ⟨rfl, ?_⟩
        (try dsimp only [gName, tNext, List.set_cons_zero, List.set_cons_succ])
        replace hw := gq _ _ hw
        have g2 := g.trans gq
        generalize upd H' q (.tup [.str s, .str (sgn cc)]) = H2 at *
        show t_heights_behind_3 K A _ _ _
        refine st_drop ?_
        (refine evE ?P93 (fun Q h => ?h93) ?_; (case h93 => (simp only [tTest, tOp, tUn, tVar, tC, tCB, tCons, tNil, tAnd, tOr, tNot, tB, tTup, tLst, tIf, tAndV, tOrV, tNotV, tSl, tPart, tNoPart, tCall, iIx_ref, oGt_int, oMod_int, oFdiv_int, oAdd_int, oAdd_str, oSub_int, oMul_int, oLt_int, oGe_int, oLe_int, oPow_int, uNeg_int, oEq_int, oEq_str, oEq_bl, oNe_int, oNe_str, oNe_bl, cInt_int, cInt_bl, cAbs_int, cLen_ref, cList_ref, stL_ref, gName, gSub, gTup, gCons, gNil, rdSeq, List.getElem?_cons_zero, List.getElem?_cons_succ, List.set_cons_zero, List.set_cons_succ, List.cons_append, List.nil_append, Option.some.injEq, exists_eq_left', V.bl.injEq, V.int.injEq, V.ref.injEq, atI_0, atI_1, atI_2, setI_1, setI_2, Bool.not_true, Bool.not_false, Bool.false_eq_true, if_false, if_true, tBM]; exact h)))
        refine ⟨.inl ⟨rfl, _, SqL.of hw⟩, ?_⟩
        refine ixE (.l hw) (by rw [List.map_append]; exact atI_end) ?_
        refine ⟨by omega, ?_⟩
        simp only [tTest, tOp, tUn, tVar, tC, tCB, tCons, tNil, tAnd, tOr, tNot, tB, tTup, tLst, tIf, tAndV, tOrV, tNotV, tSl, tPart, tNoPart, tCall, iIx_ref, oGt_int, oMod_int, oFdiv_int, oAdd_int, oAdd_str, oSub_int, oMul_int, oLt_int, oGe_int, oLe_int, oPow_int, uNeg_int, oEq_int, oEq_str, oEq_bl, oNe_int, oNe_str, oNe_bl, cInt_int, cInt_bl, cAbs_int, cLen_ref, cList_ref, stL_ref, gName, gSub, gTup, gCons, gNil, rdSeq, List.getElem?_cons_zero, List.getElem?_cons_succ, List.set_cons_zero, List.set_cons_succ, List.cons_append, List.nil_append, Option.some.injEq, exists_eq_left', V.bl.injEq, V.int.injEq, V.ref.injEq, atI_0, atI_1, atI_2, setI_1, setI_2, Bool.not_true, Bool.not_false, Bool.false_eq_true, if_false, if_true]
        refine appE hw (by rw [List.length_map, List.length_append]; simp only [List.length_cons, List.length_nil]; omega) ?_
        have g3 : Grow H (upd H2 L (.lst ((hs ++ [h]).map V.int ++ [.int (h + ((o.length : Int) - 1))]))) := fun b u eb => by rw [upd_ne (fun z => by rw [z, hL] at eb; cases eb)]; exact g2 b u eb
        refine ⟨g3, t, h + ((o.length : Int) - 1), hs ++ [h], _, _, rfl, ?_, by rw [List.length_append]; simp only [List.length_cons, List.length_nil]; omega, ?_, by simpa using hq⟩
        · rw [upd_same]; simp
        · rw [he]
          show hs ++ h :: hts (h + ((o.length : Int) - 1)) _ = _
          rw [List.append_assoc]
          rfl
  · exact h.elim

end HG

namespace HG
open PySem L2
theorem cut_last (xs : List V) : cutV xs none (some (-1)) = xs.dropLast := by
  have e : HT.sIx xs.length xs.length (some (-1)) = xs.length - 1 := by
    show (if (-1 : Int) < 0 then ((-1 : Int) + (xs.length : Int)).toNat else min (-1 : Int).toNat xs.length) = _
    rw [if_pos (by decide)]
    omega
  unfold cutV
  rw [HT.sIx_none, List.drop_zero, Nat.sub_zero, List.dropLast_eq_take, e]
def gapOf (p : List (Str × Str)) : Int := maxI 0 (hts 0 p).dropLast
def arrOf (n : Nat) (p : List (Str × Str)) (y : Str) : Int := maxI y.length [(n : Int) + gapOf p]
/-- a text that is taken: its run is whole -/
theorem ok_path {st y x : Str} {ss : List Step} {ts : List (Str × Str)} (h : outOf st ss ts x = .ok y) : (path ss st x.cps.toList).length = x.cps.size ∧ ∃ t, tailOf ts (lastS st (path ss st x.cps.toList)) = some t ∧ y.cps.toList = ((path ss st x.cps.toList).map (·.1.cps.toList)).flatten ++ t.cps.toList := by
  have key : ∀ (l : List Nat) (s : Str) (ws : List Str) (n : Nat) (s' : Str) (vs : List Str), goL ss s ws n l = .inr (s', vs) → (path ss s l).length = l.length := by
    intro l
    induction l with
    | nil => exact fun _ _ _ _ _ _ => rfl
    | cons c r ih =>
      intro s ws n s' vs e
      have e' : (match stepOf ss s (sgn c) with | none => Sum.inl (n, s) | some (o, t) => goL ss t (ws ++ [o]) (n + 1) r) = .inr (s', vs) := e
      cases e1 : stepOf ss s (sgn c) with
      | none => rw [e1] at e'; cases e'
      | some p =>
        rw [e1] at e'
        rw [path_some (o := p.1) (t := p.2) e1, List.length_cons, ih _ _ _ _ _ e', List.length_cons]
  have hc : (path ss st x.cps.toList).length = x.cps.toList.length := by
    unfold outOf at h
    cases e : goL ss st [] 0 x.cps.toList with
    | inl q => rw [e] at h; cases h
    | inr q => exact key _ _ _ _ _ _ e
  have g := go_path ss x.cps.toList [] st [] 0 hc
  rw [List.append_nil] at g
  have g2 : goL ss st [] 0 x.cps.toList = .inr (lastS st (path ss st x.cps.toList), (path ss st x.cps.toList).map (fun p : Str × Str => p.1)) := g
  unfold outOf at h
  rw [g2] at h
  have h : (match tailOf ts (lastS st (path ss st x.cps.toList)) with | none => Out.tail (lastS st (path ss st x.cps.toList)) | some t => .ok (Txt.join ("" : Str) ((path ss st x.cps.toList).map (fun p : Str × Str => p.1) ++ [t]))) = .ok y := h
  refine ⟨by rw [hc, Array.length_toList], ?_⟩
  cases e : tailOf ts (lastS st (path ss st x.cps.toList)) with
  | none => rw [e] at h; cases h
  | some t =>
    rw [e] at h
    have hy : Txt.join ("" : Str) ((path ss st x.cps.toList).map (fun p : Str × Str => p.1) ++ [t]) = y := Out.ok.inj h
    refine ⟨t, rfl, ?_⟩
    rw [← hy]
    exact (join_cps _).trans (by rw [List.map_append, List.flatten_append, List.map_map]; simp [Function.comp_def])
def TakenAt (K : PySem.W.Frag) (A : Ad) (H : Hp) (c : Addr) (st : Str) (ss : List Step) (ts : List (Str × Str)) (x y : Str) : Prop := CvAt K A H c st ss ts ∧ rowB x 400 = true ∧ outOf st ss ts x = .ok y ∧ y.length ≤ 4000
theorem TakenAt.grow {K : PySem.W.Frag} {A : Ad} {H H' : Hp} {c : Addr} {st : Str} {ss : List Step} {ts : List (Str × Str)} {x y : Str} (h : TakenAt K A H c st ss ts x y) (g : Grow H H') : TakenAt K A H' c st ss ts x y := ⟨h.1.grow g, h.2⟩
def sp_text_gap (K : PySem.W.Frag) (A : Ad) : Sp := fun vs H Q _ => match vs with
  | [.ref c, .str x] => ∃ st ss ts y, TakenAt K A H c st ss ts x y ∧ ∀ H', Grow H H' → Q (.int (gapOf (path ss st x.cps.toList))) H'
  | _ => False
def sp_text_array (K : PySem.W.Frag) (A : Ad) : Sp := fun vs H Q _ => match vs with
  | [.ref c, .str x] => ∃ st ss ts y, TakenAt K A H c st ss ts x y ∧ ∀ H', Grow H H' → Q (.int (arrOf x.length (path ss st x.cps.toList) y)) H'
  | _ => False
def extOf (n : Nat) (p : List (Str × Str)) (y : Str) : Int := arrOf n p y - (if (n : Int) < (y.length : Int) then (y.length : Int) else (n : Int))
def sp_text_extra (K : PySem.W.Frag) (A : Ad) : Sp := fun vs H Q _ => match vs with
  | [.ref c, .str x] => ∃ st ss ts y, TakenAt K A H c st ss ts x y ∧ ∀ H', Grow H H' → Q (.int (extOf x.length (path ss st x.cps.toList) y)) H'
  | _ => False
def sp_array_of (K : PySem.W.Frag) (A : Ad) : Sp := sp_text_array K A
def sp_extra_of (K : PySem.W.Frag) (A : Ad) : Sp := sp_text_extra K A
def t_text_gap_0 (K : PySem.W.Frag) (A : Ad) : TS := (tRet (tCall (sp_most_of K A) [] E0 (tCons (tSl (rSlL K) (tCall (sp_heights_behind K A) [] E0 (tCons (tVar 0) (tCons (tVar 1) tNil))) tNoPart (tPart (tUn uNeg (tC (.int 1))))) (tCons (tC (.int 0)) tNil))))

def t_text_array_0 (K : PySem.W.Frag) (A : Ad) : TS := (tRet (tCall (sp_most_of K A) [] E0 (tCons (tLst (tCons (tOp oAdd (tCB (cLen K) (tCons (tVar 1) tNil)) (tCall (sp_text_gap K A) [] E0 (tCons (tVar 0) (tCons (tVar 1) tNil)))) tNil)) (tCons (tCB (cLen K) (tCons (tCallI A.c_Converter (sp_Converter_call K A) E0 (tVar 0) (tCons (tVar 1) tNil)) tNil)) tNil))))

def t_text_extra_0 (K : PySem.W.Frag) (A : Ad) : TS := (tRet (tOp oSub (tCall (sp_text_array K A) [] E0 (tCons (tVar 0) (tCons (tVar 1) tNil))) (tCB (cMax K) (tCons (tCB (cLen K) (tCons (tVar 1) tNil)) (tCons (tCB (cLen K) (tCons (tCallI A.c_Converter (sp_Converter_call K A) E0 (tVar 0) (tCons (tVar 1) tNil)) tNil)) tNil)))))

def t_array_of_2 (K : PySem.W.Frag) (A : Ad) : TS := (tRet (tCall (sp_text_array K A) [] E0 (tCons (tVar 0) (tCons (tVar 1) tNil))))
def t_array_of_1 (K : PySem.W.Frag) (A : Ad) : TS := (tSeq (tDrop (tCallI A.c_Converter (sp_Converter_call K A) E0 (tVar 0) (tCons (tVar 1) tNil))) (t_array_of_2 K A))
def t_array_of_0 (K : PySem.W.Frag) (A : Ad) : TS := (tSeq (tDrop (tCall (sp_need_converter K A) [] E0 (tCons (tVar 0) (tCons (tC (.str "converter")) tNil)))) (t_array_of_1 K A))

def t_extra_of_2 (K : PySem.W.Frag) (A : Ad) : TS := (tRet (tCall (sp_text_extra K A) [] E0 (tCons (tVar 0) (tCons (tVar 1) tNil))))
def t_extra_of_1 (K : PySem.W.Frag) (A : Ad) : TS := (tSeq (tDrop (tCallI A.c_Converter (sp_Converter_call K A) E0 (tVar 0) (tCons (tVar 1) tNil))) (t_extra_of_2 K A))
def t_extra_of_0 (K : PySem.W.Frag) (A : Ad) : TS := (tSeq (tDrop (tCall (sp_need_converter K A) [] E0 (tCons (tVar 0) (tCons (tC (.str "converter")) tNil)))) (t_extra_of_1 K A))

theorem pure_text_gap {K : PySem.W.Frag} {A : Ad} {vs : List V} {H : Hp} {Q : VK} {E : XK} (F : KF K A) (h : sp_text_gap K A vs H Q E) : (t_text_gap_0 K A) { nx := fun _ H' => Q .non H', rt := Q } (start ["converter", "text"] vs) H := by
  unfold sp_text_gap at h
  split at h
  · rename_i c x
    obtain ⟨st, ss, ts, y, ⟨C, hx, ho, hy⟩, k⟩ := h
    show (t_text_gap_0 K A) _ [some (.ref c), some (.str x)] H
    refine st_ret ?_
    (refine evE ?P94 (fun Q h => ?h94) ?_; (case h94 => (simp only [tTest, tOp, tUn, tVar, tC, tCB, tCons, tNil, tAnd, tOr, tNot, tB, tTup, tLst, tIf, tAndV, tOrV, tNotV, tSl, tPart, tNoPart, tCall, iIx_ref, oGt_int, oMod_int, oFdiv_int, oAdd_int, oAdd_str, oSub_int, oMul_int, oLt_int, oGe_int, oLe_int, oPow_int, uNeg_int, oEq_int, oEq_str, oEq_bl, oNe_int, oNe_str, oNe_bl, cInt_int, cInt_bl, cAbs_int, cLen_ref, cList_ref, stL_ref, gName, gSub, gTup, gCons, gNil, rdSeq, List.getElem?_cons_zero, List.getElem?_cons_succ, List.set_cons_zero, List.set_cons_succ, List.cons_append, List.nil_append, Option.some.injEq, exists_eq_left', V.bl.injEq, V.int.injEq, V.ref.injEq, atI_0, atI_1, atI_2, setI_1, setI_2, Bool.not_true, Bool.not_false, Bool.false_eq_true, if_false, if_true]; exact h)); (try dsimp only [gName, tNext, List.set_cons_zero, List.set_cons_succ]))
    refine ⟨st, ss, ts, C, hx, (ok_path ho).1, fun L H1 g1 hL => ?_⟩
    refine ⟨L, _, rfl, SqL.of hL, fun q hq => ?_⟩
    have gq := Grow.new (o := .lst (cutV ((hts 0 (path ss st x.cps.toList)).map V.int) none (some (-1)))) hq
    refine ⟨(hts 0 (path ss st x.cps.toList)).dropLast, by rw [upd_same, cut_last, List.map_dropLast], ?_⟩
    exact k _ (g1.trans gq)
  · exact h.elim
/-- a converter called with a text that it takes -/
theorem callT {K : PySem.W.Frag} {A : Ad} {H : Hp} {c : Addr} {st : Str} {ss : List Step} {ts : List (Str × Str)} {x y : Str} {Q : VK} {E : XK} (C : TakenAt K A H c st ss ts x y) (k : ∀ H', Grow H H' → Q (.str y) H') : (∃ dx fs, H c = some (.ins A.c_Converter dx fs)) ∧ sp_Converter_call K A [.ref c, .str x] H Q E := by
  refine ⟨C.1.isI, st, ss, ts, C.1, C.2.1, ?_⟩
  rw [C.2.2.1]
  exact k
theorem pure_text_array {K : PySem.W.Frag} {A : Ad} {vs : List V} {H : Hp} {Q : VK} {E : XK} (F : KF K A) (h : sp_text_array K A vs H Q E) : (t_text_array_0 K A) { nx := fun _ H' => Q .non H', rt := Q } (start ["converter", "text"] vs) H := by
  unfold sp_text_array at h
  split at h
  · rename_i c x
    obtain ⟨st, ss, ts, y, T, k⟩ := h
    have hsz : sizeLine = 16777216 := rfl
    have hxl := rowB_len T.2.1
    have hyl := T.2.2.2
    show (t_text_array_0 K A) _ [some (.ref c), some (.str x)] H
    refine st_ret ?_
    (refine evE ?P95 (fun Q h => ?h95) ?_; (case h95 => (simp only [tTest, tOp, tUn, tVar, tC, tCB, tCons, tNil, tAnd, tOr, tNot, tB, tTup, tLst, tIf, tAndV, tOrV, tNotV, tSl, tPart, tNoPart, tCall, iIx_ref, oGt_int, oMod_int, oFdiv_int, oAdd_int, oAdd_str, oSub_int, oMul_int, oLt_int, oGe_int, oLe_int, oPow_int, uNeg_int, oEq_int, oEq_str, oEq_bl, oNe_int, oNe_str, oNe_bl, cInt_int, cInt_bl, cAbs_int, cLen_ref, cList_ref, stL_ref, gName, gSub, gTup, gCons, gNil, rdSeq, List.getElem?_cons_zero, List.getElem?_cons_succ, List.set_cons_zero, List.set_cons_succ, List.cons_append, List.nil_append, Option.some.injEq, exists_eq_left', V.bl.injEq, V.int.injEq, V.ref.injEq, atI_0, atI_1, atI_2, setI_1, setI_2, Bool.not_true, Bool.not_false, Bool.false_eq_true, if_false, if_true, cLen_str, tCallI]; exact h)); (try dsimp only [gName, tNext, List.set_cons_zero, List.set_cons_succ]))
    refine ⟨by omega, ?_⟩
    refine ⟨st, ss, ts, y, T, fun H1 g1 => ?_⟩
    simp only [tTest, tOp, tUn, tVar, tC, tCB, tCons, tNil, tAnd, tOr, tNot, tB, tTup, tLst, tIf, tAndV, tOrV, tNotV, tSl, tPart, tNoPart, tCall, iIx_ref, oGt_int, oMod_int, oFdiv_int, oAdd_int, oAdd_str, oSub_int, oMul_int, oLt_int, oGe_int, oLe_int, oPow_int, uNeg_int, oEq_int, oEq_str, oEq_bl, oNe_int, oNe_str, oNe_bl, cInt_int, cInt_bl, cAbs_int, cLen_ref, cList_ref, stL_ref, gName, gSub, gTup, gCons, gNil, rdSeq, List.getElem?_cons_zero, List.getElem?_cons_succ, List.set_cons_zero, List.set_cons_succ, List.cons_append, List.nil_append, Option.some.injEq, exists_eq_left', V.bl.injEq, V.int.injEq, V.ref.injEq, atI_0, atI_1, atI_2, setI_1, setI_2, Bool.not_true, Bool.not_false, Bool.false_eq_true, if_false, if_true]
    refine ⟨by show 1 ≤ sizeLine; decide, fun q hq => ?_⟩
    have gq := Grow.new (o := .lst [.int ((x.length : Int) + gapOf (path ss st x.cps.toList))]) hq
    have g2 := g1.trans gq
    refine callT (T.grow g2) fun H3 g3 => ?_
    simp only [tTest, tOp, tUn, tVar, tC, tCB, tCons, tNil, tAnd, tOr, tNot, tB, tTup, tLst, tIf, tAndV, tOrV, tNotV, tSl, tPart, tNoPart, tCall, iIx_ref, oGt_int, oMod_int, oFdiv_int, oAdd_int, oAdd_str, oSub_int, oMul_int, oLt_int, oGe_int, oLe_int, oPow_int, uNeg_int, oEq_int, oEq_str, oEq_bl, oNe_int, oNe_str, oNe_bl, cInt_int, cInt_bl, cAbs_int, cLen_ref, cList_ref, stL_ref, gName, gSub, gTup, gCons, gNil, rdSeq, List.getElem?_cons_zero, List.getElem?_cons_succ, List.set_cons_zero, List.set_cons_succ, List.cons_append, List.nil_append, Option.some.injEq, exists_eq_left', V.bl.injEq, V.int.injEq, V.ref.injEq, atI_0, atI_1, atI_2, setI_1, setI_2, Bool.not_true, Bool.not_false, Bool.false_eq_true, if_false, if_true, cLen_str]
    refine ⟨by omega, ?_⟩
    refine ⟨[(x.length : Int) + gapOf (path ss st x.cps.toList)], g3 _ _ upd_same, ?_⟩
    exact k _ (g2.trans g3)
  · exact h.elim
theorem pure_text_extra {K : PySem.W.Frag} {A : Ad} {vs : List V} {H : Hp} {Q : VK} {E : XK} (F : KF K A) (h : sp_text_extra K A vs H Q E) : (t_text_extra_0 K A) { nx := fun _ H' => Q .non H', rt := Q } (start ["converter", "text"] vs) H := by
  unfold sp_text_extra at h
  split at h
  · rename_i c x
    obtain ⟨st, ss, ts, y, T, k⟩ := h
    have hsz : sizeLine = 16777216 := rfl
    have hxl := rowB_len T.2.1
    have hyl := T.2.2.2
    show (t_text_extra_0 K A) _ [some (.ref c), some (.str x)] H
    refine st_ret ?_
    (refine evE ?P96 (fun Q h => ?h96) ?_; (case h96 => (simp only [tTest, tOp, tUn, tVar, tC, tCB, tCons, tNil, tAnd, tOr, tNot, tB, tTup, tLst, tIf, tAndV, tOrV, tNotV, tSl, tPart, tNoPart, tCall, iIx_ref, oGt_int, oMod_int, oFdiv_int, oAdd_int, oAdd_str, oSub_int, oMul_int, oLt_int, oGe_int, oLe_int, oPow_int, uNeg_int, oEq_int, oEq_str, oEq_bl, oNe_int, oNe_str, oNe_bl, cInt_int, cInt_bl, cAbs_int, cLen_ref, cList_ref, stL_ref, gName, gSub, gTup, gCons, gNil, rdSeq, List.getElem?_cons_zero, List.getElem?_cons_succ, List.set_cons_zero, List.set_cons_succ, List.cons_append, List.nil_append, Option.some.injEq, exists_eq_left', V.bl.injEq, V.int.injEq, V.ref.injEq, atI_0, atI_1, atI_2, setI_1, setI_2, Bool.not_true, Bool.not_false, Bool.false_eq_true, if_false, if_true, cLen_str, tCallI]; exact h)); (try dsimp only [gName, tNext, List.set_cons_zero, List.set_cons_succ]))
    refine ⟨st, ss, ts, y, T, fun H1 g1 => ?_⟩
    refine ⟨by omega, ?_⟩
    refine callT (T.grow g1) fun H3 g3 => ?_
    simp only [tTest, tOp, tUn, tVar, tC, tCB, tCons, tNil, tAnd, tOr, tNot, tB, tTup, tLst, tIf, tAndV, tOrV, tNotV, tSl, tPart, tNoPart, tCall, iIx_ref, oGt_int, oMod_int, oFdiv_int, oAdd_int, oAdd_str, oSub_int, oMul_int, oLt_int, oGe_int, oLe_int, oPow_int, uNeg_int, oEq_int, oEq_str, oEq_bl, oNe_int, oNe_str, oNe_bl, cInt_int, cInt_bl, cAbs_int, cLen_ref, cList_ref, stL_ref, gName, gSub, gTup, gCons, gNil, rdSeq, List.getElem?_cons_zero, List.getElem?_cons_succ, List.set_cons_zero, List.set_cons_succ, List.cons_append, List.nil_append, Option.some.injEq, exists_eq_left', V.bl.injEq, V.int.injEq, V.ref.injEq, atI_0, atI_1, atI_2, setI_1, setI_2, Bool.not_true, Bool.not_false, Bool.false_eq_true, if_false, if_true, cLen_str, cMax]
    refine ⟨by omega, ?_⟩
    exact k _ (g1.trans g3)
  · exact h.elim
theorem pure_array_of {K : PySem.W.Frag} {A : Ad} {vs : List V} {H : Hp} {Q : VK} {E : XK} (F : KF K A) (h : sp_array_of K A vs H Q E) : (t_array_of_0 K A) { nx := fun _ H' => Q .non H', rt := Q } (start ["converter", "text"] vs) H := by
  unfold sp_array_of sp_text_array at h
  split at h
  · rename_i c x
    obtain ⟨st, ss, ts, y, T, k⟩ := h
    show (t_array_of_0 K A) _ [some (.ref c), some (.str x)] H
    refine st_seq (st_drop ?_)
    (refine evE ?P97 (fun Q h => ?h97) ?_; (case h97 => (simp only [tTest, tOp, tUn, tVar, tC, tCB, tCons, tNil, tAnd, tOr, tNot, tB, tTup, tLst, tIf, tAndV, tOrV, tNotV, tSl, tPart, tNoPart, tCall, iIx_ref, oGt_int, oMod_int, oFdiv_int, oAdd_int, oAdd_str, oSub_int, oMul_int, oLt_int, oGe_int, oLe_int, oPow_int, uNeg_int, oEq_int, oEq_str, oEq_bl, oNe_int, oNe_str, oNe_bl, cInt_int, cInt_bl, cAbs_int, cLen_ref, cList_ref, stL_ref, gName, gSub, gTup, gCons, gNil, rdSeq, List.getElem?_cons_zero, List.getElem?_cons_succ, List.set_cons_zero, List.set_cons_succ, List.cons_append, List.nil_append, Option.some.injEq, exists_eq_left', V.bl.injEq, V.int.injEq, V.ref.injEq, atI_0, atI_1, atI_2, setI_1, setI_2, Bool.not_true, Bool.not_false, Bool.false_eq_true, if_false, if_true]; exact h)); (try dsimp only [gName, tNext, List.set_cons_zero, List.set_cons_succ]))
    refine ⟨T.1.isI, ?_⟩
    show t_array_of_1 K A _ _ _
    refine st_seq (st_drop ?_)
    (refine evE ?P98 (fun Q h => ?h98) ?_; (case h98 => (simp only [tTest, tOp, tUn, tVar, tC, tCB, tCons, tNil, tAnd, tOr, tNot, tB, tTup, tLst, tIf, tAndV, tOrV, tNotV, tSl, tPart, tNoPart, tCall, iIx_ref, oGt_int, oMod_int, oFdiv_int, oAdd_int, oAdd_str, oSub_int, oMul_int, oLt_int, oGe_int, oLe_int, oPow_int, uNeg_int, oEq_int, oEq_str, oEq_bl, oNe_int, oNe_str, oNe_bl, cInt_int, cInt_bl, cAbs_int, cLen_ref, cList_ref, stL_ref, gName, gSub, gTup, gCons, gNil, rdSeq, List.getElem?_cons_zero, List.getElem?_cons_succ, List.set_cons_zero, List.set_cons_succ, List.cons_append, List.nil_append, Option.some.injEq, exists_eq_left', V.bl.injEq, V.int.injEq, V.ref.injEq, atI_0, atI_1, atI_2, setI_1, setI_2, Bool.not_true, Bool.not_false, Bool.false_eq_true, if_false, if_true, tCallI]; exact h)); (try dsimp only [gName, tNext, List.set_cons_zero, List.set_cons_succ]))
    refine callT T fun H1 g1 => ?_
    show t_array_of_2 K A _ _ _
    refine st_ret ?_
    (refine evE ?P99 (fun Q h => ?h99) ?_; (case h99 => (simp only [tTest, tOp, tUn, tVar, tC, tCB, tCons, tNil, tAnd, tOr, tNot, tB, tTup, tLst, tIf, tAndV, tOrV, tNotV, tSl, tPart, tNoPart, tCall, iIx_ref, oGt_int, oMod_int, oFdiv_int, oAdd_int, oAdd_str, oSub_int, oMul_int, oLt_int, oGe_int, oLe_int, oPow_int, uNeg_int, oEq_int, oEq_str, oEq_bl, oNe_int, oNe_str, oNe_bl, cInt_int, cInt_bl, cAbs_int, cLen_ref, cList_ref, stL_ref, gName, gSub, gTup, gCons, gNil, rdSeq, List.getElem?_cons_zero, List.getElem?_cons_succ, List.set_cons_zero, List.set_cons_succ, List.cons_append, List.nil_append, Option.some.injEq, exists_eq_left', V.bl.injEq, V.int.injEq, V.ref.injEq, atI_0, atI_1, atI_2, setI_1, setI_2, Bool.not_true, Bool.not_false, Bool.false_eq_true, if_false, if_true]; exact h)); (try dsimp only [gName, tNext, List.set_cons_zero, List.set_cons_succ]))
    exact ⟨st, ss, ts, y, T.grow g1, fun H2 g2 => k _ (g1.trans g2)⟩
  · exact h.elim
theorem pure_extra_of {K : PySem.W.Frag} {A : Ad} {vs : List V} {H : Hp} {Q : VK} {E : XK} (F : KF K A) (h : sp_extra_of K A vs H Q E) : (t_extra_of_0 K A) { nx := fun _ H' => Q .non H', rt := Q } (start ["converter", "text"] vs) H := by
  unfold sp_extra_of sp_text_extra at h
  split at h
  · rename_i c x
    obtain ⟨st, ss, ts, y, T, k⟩ := h
    show (t_extra_of_0 K A) _ [some (.ref c), some (.str x)] H
    refine st_seq (st_drop ?_)
    (refine evE ?P100 (fun Q h => ?h100) ?_; (case h100 => (simp only [tTest, tOp, tUn, tVar, tC, tCB, tCons, tNil, tAnd, tOr, tNot, tB, tTup, tLst, tIf, tAndV, tOrV, tNotV, tSl, tPart, tNoPart, tCall, iIx_ref, oGt_int, oMod_int, oFdiv_int, oAdd_int, oAdd_str, oSub_int, oMul_int, oLt_int, oGe_int, oLe_int, oPow_int, uNeg_int, oEq_int, oEq_str, oEq_bl, oNe_int, oNe_str, oNe_bl, cInt_int, cInt_bl, cAbs_int, cLen_ref, cList_ref, stL_ref, gName, gSub, gTup, gCons, gNil, rdSeq, List.getElem?_cons_zero, List.getElem?_cons_succ, List.set_cons_zero, List.set_cons_succ, List.cons_append, List.nil_append, Option.some.injEq, exists_eq_left', V.bl.injEq, V.int.injEq, V.ref.injEq, atI_0, atI_1, atI_2, setI_1, setI_2, Bool.not_true, Bool.not_false, Bool.false_eq_true, if_false, if_true]; exact h)); (try dsimp only [gName, tNext, List.set_cons_zero, List.set_cons_succ]))
    refine ⟨T.1.isI, ?_⟩
    show t_extra_of_1 K A _ _ _
    refine st_seq (st_drop ?_)
    (refine evE ?P101 (fun Q h => ?h101) ?_; (case h101 => (simp only [tTest, tOp, tUn, tVar, tC, tCB, tCons, tNil, tAnd, tOr, tNot, tB, tTup, tLst, tIf, tAndV, tOrV, tNotV, tSl, tPart, tNoPart, tCall, iIx_ref, oGt_int, oMod_int, oFdiv_int, oAdd_int, oAdd_str, oSub_int, oMul_int, oLt_int, oGe_int, oLe_int, oPow_int, uNeg_int, oEq_int, oEq_str, oEq_bl, oNe_int, oNe_str, oNe_bl, cInt_int, cInt_bl, cAbs_int, cLen_ref, cList_ref, stL_ref, gName, gSub, gTup, gCons, gNil, rdSeq, List.getElem?_cons_zero, List.getElem?_cons_succ, List.set_cons_zero, List.set_cons_succ, List.cons_append, List.nil_append, Option.some.injEq, exists_eq_left', V.bl.injEq, V.int.injEq, V.ref.injEq, atI_0, atI_1, atI_2, setI_1, setI_2, Bool.not_true, Bool.not_false, Bool.false_eq_true, if_false, if_true, tCallI]; exact h)); (try dsimp only [gName, tNext, List.set_cons_zero, List.set_cons_succ]))
    refine callT T fun H1 g1 => ?_
    show t_extra_of_2 K A _ _ _
    refine st_ret ?_
    (refine evE ?P102 (fun Q h => ?h102) ?_; (case h102 => (simp only [tTest, tOp, tUn, tVar, tC, tCB, tCons, tNil, tAnd, tOr, tNot, tB, tTup, tLst, tIf, tAndV, tOrV, tNotV, tSl, tPart, tNoPart, tCall, iIx_ref, oGt_int, oMod_int, oFdiv_int, oAdd_int, oAdd_str, oSub_int, oMul_int, oLt_int, oGe_int, oLe_int, oPow_int, uNeg_int, oEq_int, oEq_str, oEq_bl, oNe_int, oNe_str, oNe_bl, cInt_int, cInt_bl, cAbs_int, cLen_ref, cList_ref, stL_ref, gName, gSub, gTup, gCons, gNil, rdSeq, List.getElem?_cons_zero, List.getElem?_cons_succ, List.set_cons_zero, List.set_cons_succ, List.cons_append, List.nil_append, Option.some.injEq, exists_eq_left', V.bl.injEq, V.int.injEq, V.ref.injEq, atI_0, atI_1, atI_2, setI_1, setI_2, Bool.not_true, Bool.not_false, Bool.false_eq_true, if_false, if_true]; exact h)); (try dsimp only [gName, tNext, List.set_cons_zero, List.set_cons_succ]))
    exact ⟨st, ss, ts, y, T.grow g1, fun H2 g2 => k _ (g1.trans g2)⟩
  · exact h.elim

end HG

namespace HG
open PySem L2
/-! ### drawn plans -/
structure DS (H : Hp) (d : Addr) (sl ll : List Str) (k : Nat) (ss : List Step) (gs : List Addr) : Prop where
  hd : H d = some (.dT (stepsV ss gs))
  G : Goals H ss gs
  kS : ∀ s ∈ ss, s.1.1 ∈ sl ∧ s.1.2 ∈ ll ∧ answerB s.2.1 = true ∧ s.2.2 ∈ sl
  nS : ((stepsV ss gs).map (·.1)).Nodup
  lS : ss.length ≤ k
section
variable {H H' : Hp} {d p l : Addr} {n : Nat} {sl ll : List Str} {k k' : Nat} {ss : List Step} {gs : List Addr}
theorem DS.keep (h : DS H d sl ll k ss gs) (hp : PenL H p l n) (kp : Keep p H H') : DS H' d sl ll k ss gs := by
  obtain ⟨xs, ex⟩ := hp.lst
  refine ⟨kp _ _ (fun z => ?_) h.hd, h.G.keep hp kp, h.kS, h.nS, h.lS⟩
  have := h.hd; rw [z, ex] at this; cases this
theorem DS.grow (h : DS H d sl ll k ss gs) (g : Grow H H') : DS H' d sl ll k ss gs := ⟨g _ _ h.hd, h.G.grow g, h.kS, h.nS, h.lS⟩
theorem DS.up (h : DS H d sl ll k ss gs) (hk : k ≤ k') : DS H d sl ll k' ss gs := { h with lS := Nat.le_trans h.lS hk }
theorem DS.putS {s : Step} {g : Addr} (h : DS H d sl ll k ss gs) (hg : H g = some (.tup [.str s.2.1, .str s.2.2])) (hs : s.1.1 ∈ sl ∧ s.1.2 ∈ ll ∧ answerB s.2.1 = true ∧ s.2.2 ∈ sl) :
    ∃ ss' gs', DS (upd H d (.dT (putK (stepsV ss gs) (stepK s) (.ref g)))) d sl ll (k + 1) ss' gs' := by
  have nS := h.nS
  obtain ⟨ss', gs', a, b, c, dd⟩ := HG.putS hg h.G (by rw [← stepsV_keys h.G]; exact nS)
  have nd := putK_nodup (k := stepK s) (v := V.ref g) nS
  rw [a] at nd
  refine ⟨ss', gs', by rw [upd_same, a], b.updD h.hd, fun x hx => ?_, nd, ?_⟩
  · rcases c x hx with z | z
    · exact h.kS x z
    · rw [z]; exact hs
  · have := h.lS
    omega
theorem DS.nl (h : DS H d sl ll k ss gs) (hp : PenL H p l n) : d ≠ l := fun z => by
  obtain ⟨c, t, r, h1, h2, h3⟩ := hp
  have := h.hd; rw [z, h2] at this; cases this
end
structure DL (H : Hp) (e : Addr) (sl : List Str) (k : Nat) (ts : List (Str × Str)) : Prop where
  he : H e = some (.dK (tailsV ts))
  kT : ∀ t ∈ ts, t.1 ∈ sl ∧ answerB t.2 = true
  nT : ((tailsV ts).map (·.1)).Nodup
  lT : ts.length ≤ k
section
variable {H H' : Hp} {e p l : Addr} {n : Nat} {sl : List Str} {k k' : Nat} {ts : List (Str × Str)}
theorem DL.keep (h : DL H e sl k ts) (hp : PenL H p l n) (kp : Keep p H H') : DL H' e sl k ts := by
  obtain ⟨xs, ex⟩ := hp.lst
  refine ⟨kp _ _ (fun z => ?_) h.he, h.kT, h.nT, h.lT⟩
  have := h.he; rw [z, ex] at this; cases this
theorem DL.grow (h : DL H e sl k ts) (g : Grow H H') : DL H' e sl k ts := ⟨g _ _ h.he, h.kT, h.nT, h.lT⟩
theorem DL.up (h : DL H e sl k ts) (hk : k ≤ k') : DL H e sl k' ts := { h with lT := Nat.le_trans h.lT hk }
theorem DL.putT {s a : Str} (h : DL H e sl k ts) (hs : s ∈ sl) (ha : answerB a = true) : ∃ ts', DL (upd H e (.dK (putK (tailsV ts) (.inr s) (.str a)))) e sl (k + 1) ts' := by
  obtain ⟨ts', e1, e2, e3⟩ := HG.putT (s := s) (a := a) ts
  have nd := putK_nodup (k := (.inr s : Key)) (v := V.str a) h.nT
  rw [e1] at nd
  refine ⟨ts', by rw [upd_same, e1], fun x hx => ?_, nd, ?_⟩
  · rcases e2 x hx with z | z
    · exact h.kT x z
    · rw [z]; exact ⟨hs, ha⟩
  · have := h.lT
    omega
theorem DL.nl (h : DL H e sl k ts) (hp : PenL H p l n) : e ≠ l := fun z => by
  obtain ⟨c, t, r, h1, h2, h3⟩ := hp
  have := h.he; rw [z, h2] at this; cases this
end
theorem ds_good {H : Hp} {d e : Addr} {sl ll : List Str} {k : Nat} {ss : List Step} {gs : List Addr} {ts : List (Str × Str)} {st : Str} (h : DS H d sl ll k ss gs) (h2 : DL H e sl k ts) (s6 : sl.length ≤ 6) (sN : ∀ x ∈ sl, nameB x = true) (l4 : ll.length ≤ 4) (lN : ∀ x ∈ ll, letterB x = true) (hst : st ∈ sl) (hk : k ≤ 1000) : Good st ss ts := by
  refine ⟨sN _ hst, fun s hs => ?_, fun t ht => ?_, ?_, ?_, Nat.le_trans h.lS hk, Nat.le_trans h2.lT hk, ⟨sl, s6, fun x hx => ?_⟩, ⟨ll, l4, fun x hx => ?_⟩⟩
  · obtain ⟨a, b, c, d⟩ := h.kS s hs
    exact ⟨sN _ a, lN _ b, c, sN _ d⟩
  · obtain ⟨a, b⟩ := h2.kT t ht
    exact ⟨sN _ a, b⟩
  · have := h.nS
    rw [stepsV_keys h.G] at this
    exact this
  · have := h2.nT
    rw [tailsV_keys, List.Nodup, List.pairwise_map] at this
    exact this.imp fun hn z => hn (by rw [z])
  · unfold statesOf at hx
    rcases List.mem_cons.mp hx with z | hx
    · rw [z]; exact hst
    · rcases List.mem_append.mp hx with z | hx
      · obtain ⟨t, ht, rfl⟩ := List.mem_map.mp z
        exact (h2.kT t ht).1
      · rcases List.mem_append.mp hx with z | z
        · obtain ⟨t, ht, rfl⟩ := List.mem_map.mp z
          exact (h.kS t ht).1
        · obtain ⟨t, ht, rfl⟩ := List.mem_map.mp z
          exact (h.kS t ht).2.2.2
  · obtain ⟨t, ht, rfl⟩ := List.mem_map.mp hx
    exact (h.kS t ht).2.1
theorem str_at {S : List Str} {j : Nat} (hj : j < S.length) : (S.map V.str).getD j .non = .str (S.getD j Str.empty) ∧ S.getD j Str.empty ∈ S := by
  refine ⟨?_, ?_⟩
  · rw [List.getD_eq_getElem?_getD, List.getElem?_map, List.getElem?_eq_getElem hj, List.getD_eq_getElem?_getD, List.getElem?_eq_getElem hj]; rfl
  · rw [List.getD_eq_getElem?_getD, List.getElem?_eq_getElem hj]; exact List.getElem_mem _
theorem lst_pen {H : Hp} {a p l : Addr} {n : Nat} {S : List Str} (hp : PenL H p l n) (h : H a = some (.lst (S.map V.str))) : a ≠ p := fun z => by
  obtain ⟨cells, turn, rest, q1, q2⟩ := hp
  rw [z, q1] at h
  cases S with
  | nil => cases h
  | cons x r => cases h
/-- letters of a text, as texts -/
def lls (x : Str) : List Str := x.cps.toList.map sgn
theorem lls_at {x : Str} {i : Nat} (h : i < x.cps.size) : sgn (x.cps.getD i 0) ∈ lls x := List.mem_map.mpr ⟨_, by
  rw [Array.getD_eq_getD_getElem?, Array.getElem?_eq_getElem h]
  exact Array.mem_toList_iff.mpr (Array.getElem_mem h), rfl⟩
theorem lls_len {x : Str} : (lls x).length = x.cps.size := by unfold lls; rw [List.length_map, Array.length_toList]
def sp_law_steps (K : PySem.W.Frag) (A : Ad) : Sp := fun vs H Q _ => match vs with
  | [.ref p, .ref sa, .str x] => ∃ (l : Addr) (n : Nat) (S : List Str), PenL H p l n ∧ n ≤ 800000 ∧ H sa = some (.lst (S.map V.str)) ∧ S ≠ [] ∧ S.length ≤ 6 ∧ x.cps.size ≤ 4 ∧
      ∀ (d : Addr) (ss : List Step) (gs : List Addr) H', PenL H' p l (n + 100) → Keep p H H' → H d = none → DS H' d S (lls x) 24 ss gs → Q (.ref d) H'
  | _ => False
def t_law_steps_5 (K : PySem.W.Frag) (A : Ad) : TS := (sDPut (tVar 3) (tTup (tCons (tVar 4) (tCons (tVar 5) tNil))) (tTup (tCons (tVar 6) (tCons (tCall (sp_law_pick K A) [] E0 (tCons (tVar 0) (tCons (tVar 1) tNil))) tNil))))
def t_law_steps_4 (K : PySem.W.Frag) (A : Ad) : TS := (tSeq (tAsg (tCall (sp_law_pick K A) [] E0 (tCons (tVar 0) (tCons (tLst (tCons (tC (.str "")) (tCons (tC (.str "")) (tCons (tC (.str "a")) (tCons (tC (.str "b")) (tCons (tC (.str "a")) (tCons (tC (.str "ab")) (tCons (tC (.str "bb")) (tCons (tC (.str "abc")) (tCons (tC (.str "cccc")) tNil)))))))))) tNil))) (gName 6)) (t_law_steps_5 K A))
def t_law_steps_3 (K : PySem.W.Frag) (A : Ad) : TS := (tIfS (tTest (tOp oGt (tCall (sp_law_draw K A) [] E0 (tCons (tVar 0) (tCons (tC (.int 7)) tNil))) (tC (.int 0)))) (t_law_steps_4 K A) tNext)
def t_law_steps_2 (K : PySem.W.Frag) (A : Ad) : TS := (tFor (iStr (tVar 2)) (gName 5)
    (t_law_steps_3 K A))
def t_law_steps_6 (K : PySem.W.Frag) (A : Ad) : TS := (tRet (tVar 3))
def t_law_steps_1 (K : PySem.W.Frag) (A : Ad) : TS := (tSeq (tFor (iSeq K (tVar 1)) (gName 4)
    (t_law_steps_2 K A)) (t_law_steps_6 K A))
def t_law_steps_0 (K : PySem.W.Frag) (A : Ad) : TS := (tSeq (tAsg tDNewT (gName 3)) (t_law_steps_1 K A))

theorem ansS_ok : ∀ x ∈ (["", "a", "b", "ab", "bb", "abc", "cccc", "cab"] : List Str), answerB x = true := by decide +kernel
theorem pure_law_steps {K : PySem.W.Frag} {A : Ad} {vs : List V} {H : Hp} {Q : VK} {E : XK} (h : sp_law_steps K A vs H Q E) : (t_law_steps_0 K A) { nx := fun _ H' => Q .non H', rt := Q } (start ["_law_pen_here", "_law_states", "_law_letters", "_law_steps_here", "_law_state", "_law_letter", "_law_answer"] vs) H := by
  unfold sp_law_steps at h
  split at h
  · rename_i p sa x
    obtain ⟨l, n, S, hp, hn, hS, S0, S6, x4, k⟩ := h
    have hsz : sizeLine = 16777216 := rfl
    have nS := lst_pen hp hS
    show (t_law_steps_0 K A) _ [some (.ref p), some (.ref sa), some (.str x), none, none, none, none] H
    refine st_seq (st_asg ?_)
    refine fun d hd => ?_
    (try dsimp only [gName, tNext, List.set_cons_zero, List.set_cons_succ])
    have gd := Grow.new (o := .dT []) hd
    have hde : upd H d (.dT []) d = some (.dT (stepsV [] [])) := upd_same
    have ndp := hp.fresh hd
    have hp1 := hp.grow gd
    have hS1 := gd _ _ hS
    have K1 : Keep p H (upd H d (.dT [])) := gd.keep
    generalize upd H d (.dT []) = H1 at *
    let St : Nat → Nat → Hp → Prop := fun c k H' => ∃ ss gs, DS H' d S (lls x) k ss gs ∧ PenL H' p l (n + c) ∧ Keep p H H' ∧ H' sa = some (.lst (S.map V.str))
    have P0 : DS H1 d S (lls x) 0 [] [] := ⟨hde, ⟨rfl, fun j s g z => by cases z⟩, fun s hs => absurd hs (by simp), List.nodup_nil, Nat.le_refl _⟩
    have St0 : St 0 0 H1 := ⟨[], [], P0, hp1.up (by omega), K1, hS1⟩
    clear P0 hp1 K1 hde
    show t_law_steps_1 K A _ _ _
    refine st_seq (for_seq ?_)
    (refine evE ?P106 (fun Q h => ?h106) ?_; (case h106 => (simp only [tTest, tOp, tUn, tVar, tC, tCB, tCons, tNil, tAnd, tOr, tNot, tB, tTup, tLst, tIf, tAndV, tOrV, tNotV, tSl, tPart, tNoPart, tCall, iIx_ref, oGt_int, oMod_int, oFdiv_int, oAdd_int, oAdd_str, oSub_int, oMul_int, oLt_int, oGe_int, oLe_int, oPow_int, uNeg_int, oEq_int, oEq_str, oEq_bl, oNe_int, oNe_str, oNe_bl, cInt_int, cInt_bl, cAbs_int, cLen_ref, cList_ref, stL_ref, gName, gSub, gTup, gCons, gNil, rdSeq, List.getElem?_cons_zero, List.getElem?_cons_succ, List.set_cons_zero, List.set_cons_succ, List.cons_append, List.nil_append, Option.some.injEq, exists_eq_left', V.bl.injEq, V.int.injEq, V.ref.injEq, atI_0, atI_1, atI_2, setI_1, setI_2, Bool.not_true, Bool.not_false, Bool.false_eq_true, if_false, if_true]; exact h)))
    refine for_lst (fun i σ H' => (∃ x4 x5 x6, σ = [some (.ref p), some (.ref sa), some (.str x), some (.ref d), x4, x5, x6]) ∧ St (12 * i) (4 * i) H') hS1 ⟨⟨_, _, _, rfl⟩, St0⟩ (fun i σ H' w => by obtain ⟨_, _, _, _, _, _, z⟩ := w; exact z) (fun σ H' w => ?_) (fun i σ H' hi w => ?_)
    · obtain ⟨⟨x4, x5, x6, rfl⟩, ss, gs, P1, hp1, K1, h1⟩ := w
      rw [List.length_map] at hp1 P1
      show t_law_steps_6 K A _ _ _
      refine st_ret ?_
      (refine evE ?P103 (fun Q h => ?h103) ?_; (case h103 => (simp only [tTest, tOp, tUn, tVar, tC, tCB, tCons, tNil, tAnd, tOr, tNot, tB, tTup, tLst, tIf, tAndV, tOrV, tNotV, tSl, tPart, tNoPart, tCall, iIx_ref, oGt_int, oMod_int, oFdiv_int, oAdd_int, oAdd_str, oSub_int, oMul_int, oLt_int, oGe_int, oLe_int, oPow_int, uNeg_int, oEq_int, oEq_str, oEq_bl, oNe_int, oNe_str, oNe_bl, cInt_int, cInt_bl, cAbs_int, cLen_ref, cList_ref, stL_ref, gName, gSub, gTup, gCons, gNil, rdSeq, List.getElem?_cons_zero, List.getElem?_cons_succ, List.set_cons_zero, List.set_cons_succ, List.cons_append, List.nil_append, Option.some.injEq, exists_eq_left', V.bl.injEq, V.int.injEq, V.ref.injEq, atI_0, atI_1, atI_2, setI_1, setI_2, Bool.not_true, Bool.not_false, Bool.false_eq_true, if_false, if_true]; exact h)); (try dsimp only [gName, tNext, List.set_cons_zero, List.set_cons_succ]))
      exact k d ss gs H' (hp1.up (by omega)) K1 hd (P1.up (by omega))
    · obtain ⟨⟨y4, y5, y6, rfl⟩, S1⟩ := w
      rw [List.length_map] at hi
      obtain ⟨e1, m1⟩ := str_at hi
      rw [e1]
      generalize S.getD i Str.empty = s at *
      clear e1
      (try dsimp only [gName, tNext, List.set_cons_zero, List.set_cons_succ])
      show t_law_steps_2 K A _ _ _
      refine for_text ?_
      (refine evE ?P107 (fun Q h => ?h107) ?_; (case h107 => (simp only [tTest, tOp, tUn, tVar, tC, tCB, tCons, tNil, tAnd, tOr, tNot, tB, tTup, tLst, tIf, tAndV, tOrV, tNotV, tSl, tPart, tNoPart, tCall, iIx_ref, oGt_int, oMod_int, oFdiv_int, oAdd_int, oAdd_str, oSub_int, oMul_int, oLt_int, oGe_int, oLe_int, oPow_int, uNeg_int, oEq_int, oEq_str, oEq_bl, oNe_int, oNe_str, oNe_bl, cInt_int, cInt_bl, cAbs_int, cLen_ref, cList_ref, stL_ref, gName, gSub, gTup, gCons, gNil, rdSeq, List.getElem?_cons_zero, List.getElem?_cons_succ, List.set_cons_zero, List.set_cons_succ, List.cons_append, List.nil_append, Option.some.injEq, exists_eq_left', V.bl.injEq, V.int.injEq, V.ref.injEq, atI_0, atI_1, atI_2, setI_1, setI_2, Bool.not_true, Bool.not_false, Bool.false_eq_true, if_false, if_true]; exact h)))
      refine ⟨x, rfl, ?_⟩
      refine for_its (fun j σ H'' => (∃ x5 x6, σ = [some (.ref p), some (.ref sa), some (.str x), some (.ref d), some (.str s), x5, x6]) ∧ St (12 * i + 3 * j) (4 * i + j) H'') ⟨⟨_, _, rfl⟩, S1⟩ (fun σ H'' w => ?_) (fun j σ H'' hj w => ?_)
      · obtain ⟨⟨x5, x6, rfl⟩, ss, gs, P1, hp1, K1, h1⟩ := w
        exact ⟨⟨_, _, _, rfl⟩, ss, gs, P1.up (by omega), hp1.up (by omega), K1, h1⟩
      · obtain ⟨⟨x5, x6, rfl⟩, ss, gs, P1, hp1, K1, h1⟩ := w
        have m2 := lls_at hj
        generalize x.cps.getD j 0 = cc at *
        (try dsimp only [gName, tNext, List.set_cons_zero, List.set_cons_succ])
        show t_law_steps_3 K A _ _ _
        refine st_if ?_
        (refine evT ?P104 (fun Q h => ?h104) ?_; (case h104 => (simp only [tTest, tOp, tUn, tVar, tC, tCB, tCons, tNil, tAnd, tOr, tNot, tB, tTup, tLst, tIf, tAndV, tOrV, tNotV, tSl, tPart, tNoPart, tCall, iIx_ref, oGt_int, oMod_int, oFdiv_int, oAdd_int, oAdd_str, oSub_int, oMul_int, oLt_int, oGe_int, oLe_int, oPow_int, uNeg_int, oEq_int, oEq_str, oEq_bl, oNe_int, oNe_str, oNe_bl, cInt_int, cInt_bl, cAbs_int, cLen_ref, cList_ref, stL_ref, gName, gSub, gTup, gCons, gNil, rdSeq, List.getElem?_cons_zero, List.getElem?_cons_succ, List.set_cons_zero, List.set_cons_succ, List.cons_append, List.nil_append, Option.some.injEq, exists_eq_left', V.bl.injEq, V.int.injEq, V.ref.injEq, atI_0, atI_1, atI_2, setI_1, setI_2, Bool.not_true, Bool.not_false, Bool.false_eq_true, if_false, if_true]; exact h)); (try dsimp only [gName, tNext, List.set_cons_zero, List.set_cons_succ]))
        refine ⟨l, _, hp1, by omega, by decide, by decide, fun dd H2 d0 d1 hp2 k2 => ?_⟩
        have P2 := P1.keep hp1 k2
        have h1' := k2 _ _ nS h1
        simp only [tTest, tOp, tUn, tVar, tC, tCB, tCons, tNil, tAnd, tOr, tNot, tB, tTup, tLst, tIf, tAndV, tOrV, tNotV, tSl, tPart, tNoPart, tCall, iIx_ref, oGt_int, oMod_int, oFdiv_int, oAdd_int, oAdd_str, oSub_int, oMul_int, oLt_int, oGe_int, oLe_int, oPow_int, uNeg_int, oEq_int, oEq_str, oEq_bl, oNe_int, oNe_str, oNe_bl, cInt_int, cInt_bl, cAbs_int, cLen_ref, cList_ref, stL_ref, gName, gSub, gTup, gCons, gNil, rdSeq, List.getElem?_cons_zero, List.getElem?_cons_succ, List.set_cons_zero, List.set_cons_succ, List.cons_append, List.nil_append, Option.some.injEq, exists_eq_left', V.bl.injEq, V.int.injEq, V.ref.injEq, atI_0, atI_1, atI_2, setI_1, setI_2, Bool.not_true, Bool.not_false, Bool.false_eq_true, if_false, if_true]
        refine ite_dec (fun hc => ?_) (fun hc => ?_)
        · (try dsimp only [gName, tNext, List.set_cons_zero, List.set_cons_succ])
          show t_law_steps_4 K A _ _ _
          refine st_seq (st_asg ?_)
          (refine evE ?P105 (fun Q h => ?h105) ?_; (case h105 => (simp only [tTest, tOp, tUn, tVar, tC, tCB, tCons, tNil, tAnd, tOr, tNot, tB, tTup, tLst, tIf, tAndV, tOrV, tNotV, tSl, tPart, tNoPart, tCall, iIx_ref, oGt_int, oMod_int, oFdiv_int, oAdd_int, oAdd_str, oSub_int, oMul_int, oLt_int, oGe_int, oLe_int, oPow_int, uNeg_int, oEq_int, oEq_str, oEq_bl, oNe_int, oNe_str, oNe_bl, cInt_int, cInt_bl, cAbs_int, cLen_ref, cList_ref, stL_ref, gName, gSub, gTup, gCons, gNil, rdSeq, List.getElem?_cons_zero, List.getElem?_cons_succ, List.set_cons_zero, List.set_cons_succ, List.cons_append, List.nil_append, Option.some.injEq, exists_eq_left', V.bl.injEq, V.int.injEq, V.ref.injEq, atI_0, atI_1, atI_2, setI_1, setI_2, Bool.not_true, Bool.not_false, Bool.false_eq_true, if_false, if_true]; exact h)); (try dsimp only [gName, tNext, List.set_cons_zero, List.set_cons_succ]))
          refine ⟨by show 9 ≤ sizeLine; decide, fun q hq => ?_⟩
          have gq := Grow.new (o := .lst [.str "", .str "", .str "a", .str "b", .str "a", .str "ab", .str "bb", .str "abc", .str "cccc"]) hq
          have hq1 := hp2.fresh hq
          refine ⟨l, _, _, hp2.grow gq, by omega, upd_same, hq1, by simp, by show 9 ≤ 100000; decide, fun y H3 hy hp3 k3 => ?_⟩
          obtain ⟨an, rfl, han⟩ : ∃ an, y = .str an ∧ answerB an = true := by
            simp only [List.mem_cons, List.not_mem_nil, or_false] at hy
            rcases hy with rfl | rfl | rfl | rfl | rfl | rfl | rfl | rfl | rfl <;> exact ⟨_, rfl, ansS_ok _ (by simp)⟩
          have P3 := (P2.grow gq).keep (hp2.grow gq) k3
          have kk := K1.trans (k2.trans (gq.keep.trans k3))
          have h1'' := k3 _ _ nS (gq _ _ h1')
          clear P2 hp2 k2 gq hq hq1 k3 hy h1' P1 hp1 K1 h1 H2
          (try dsimp only [gName, tNext, List.set_cons_zero, List.set_cons_succ])
          show t_law_steps_5 K A _ _ _
          unfold t_law_steps_5 sDPut
          (refine evE ?P108 (fun Q h => ?h108) ?_; (case h108 => (simp only [tTest, tOp, tUn, tVar, tC, tCB, tCons, tNil, tAnd, tOr, tNot, tB, tTup, tLst, tIf, tAndV, tOrV, tNotV, tSl, tPart, tNoPart, tCall, iIx_ref, oGt_int, oMod_int, oFdiv_int, oAdd_int, oAdd_str, oSub_int, oMul_int, oLt_int, oGe_int, oLe_int, oPow_int, uNeg_int, oEq_int, oEq_str, oEq_bl, oNe_int, oNe_str, oNe_bl, cInt_int, cInt_bl, cAbs_int, cLen_ref, cList_ref, stL_ref, gName, gSub, gTup, gCons, gNil, rdSeq, List.getElem?_cons_zero, List.getElem?_cons_succ, List.set_cons_zero, List.set_cons_succ, List.cons_append, List.nil_append, Option.some.injEq, exists_eq_left', V.bl.injEq, V.int.injEq, V.ref.injEq, atI_0, atI_1, atI_2, setI_1, setI_2, Bool.not_true, Bool.not_false, Bool.false_eq_true, if_false, if_true]; exact h)))
          refine ⟨l, _, _, hp3, by omega, h1'', nS, by simpa using S0, by rw [List.length_map]; omega, fun y H4 hy hp4 k4 => ?_⟩
          obtain ⟨go, hgo, rfl⟩ := List.mem_map.mp hy
          refine ⟨by show 2 ≤ sizeLine; decide, fun v hv => ?_⟩
          have gv := Grow.new (o := .tup [.str an, .str go]) hv
          have hve : upd H4 v (.tup [.str an, .str go]) v = some (.tup [.str an, .str go]) := upd_same
          have P4 := (P3.keep hp3 k4).grow gv
          have hp5 := hp4.grow gv
          have kk2 := kk.trans (k4.trans gv.keep)
          have h14 := gv _ _ (k4 _ _ nS h1'')
          generalize upd H4 v (.tup [.str an, .str go]) = H5' at *
          clear gv hv hp4 k4 P3 hp3 kk h1'' hy H4 H3
          simp only [tTest, tOp, tUn, tVar, tC, tCB, tCons, tNil, tAnd, tOr, tNot, tB, tTup, tLst, tIf, tAndV, tOrV, tNotV, tSl, tPart, tNoPart, tCall, iIx_ref, oGt_int, oMod_int, oFdiv_int, oAdd_int, oAdd_str, oSub_int, oMul_int, oLt_int, oGe_int, oLe_int, oPow_int, uNeg_int, oEq_int, oEq_str, oEq_bl, oNe_int, oNe_str, oNe_bl, cInt_int, cInt_bl, cAbs_int, cLen_ref, cList_ref, stL_ref, gName, gSub, gTup, gCons, gNil, rdSeq, List.getElem?_cons_zero, List.getElem?_cons_succ, List.set_cons_zero, List.set_cons_succ, List.cons_append, List.nil_append, Option.some.injEq, exists_eq_left', V.bl.injEq, V.int.injEq, V.ref.injEq, atI_0, atI_1, atI_2, setI_1, setI_2, Bool.not_true, Bool.not_false, Bool.false_eq_true, if_false, if_true]
          refine ⟨by show 2 ≤ sizeLine; decide, fun w hw => ?_⟩
          have gw := Grow.new (o := .tup [.str s, .str (sgn cc)]) hw
          have hwe : upd H5' w (.tup [.str s, .str (sgn cc)]) w = some (.tup ((stepK ((s, sgn cc), (an, go))).map kV)) := upd_same
          have P5 := P4.grow gw
          have hp6 := hp5.grow gw
          have kk3 := kk2.trans gw.keep
          have h15 := gw _ _ h14
          replace hve := gw _ _ hve
          generalize upd H5' w (.tup [.str s, .str (sgn cc)]) = H6 at *
          clear gw hw P4 hp5 kk2 h14 H5'
          have n1 := P5.nl hp6
          obtain ⟨ss', gs', P6⟩ := P5.putS (s := ((s, sgn cc), (an, go))) (g := v) hve ⟨m1, m2, han, hgo⟩
          refine ⟨d, _, rfl, .inr ⟨stepsV ss gs, stepK ((s, sgn cc), (an, go)), w, P5.hd, rfl, hwe, by have := P5.lS; rw [stepsV_len P5.G]; omega, rfl⟩, ?_⟩
          exact ⟨⟨_, _, rfl⟩, ss', gs', P6.up (by omega), (hp6.upd ndp n1).up (by omega), (fun b u nb eb => by rw [upd_ne (fun z => by rw [z, hd] at eb; cases eb)]; exact kk3 b u nb eb),
            (upd_ne (fun z => by rw [z, P5.hd] at h15; cases h15)).trans h15⟩
        · exact ⟨⟨_, _, rfl⟩, ss, gs, P2.up (by omega), hp2.up (by omega), K1.trans k2, h1'⟩
  · exact h.elim

end HG

namespace HG
open PySem L2
theorem DS.updK {H : Hp} {d e : Addr} {sl ll : List Str} {k : Nat} {ss : List Step} {gs : List Addr} {kvs kvs' : List (Key × V)} (h : DS H d sl ll k ss gs) (he : H e = some (.dK kvs)) : DS (upd H e (.dK kvs')) d sl ll k ss gs :=
  ⟨(upd_ne fun z => by have := h.hd; rw [z, he] at this; cases this).trans h.hd, h.G.updK he, h.kS, h.nS, h.lS⟩
def SL6 : List Str := ["s", "t", "u", "v", "w", "xx"]
theorem sl6_ok : ∀ x ∈ SL6, nameB x = true := by decide +kernel
theorem cut_take (xs : List V) (k : Nat) : cutV xs none (some (k : Int)) = xs.take k := by
  unfold cutV
  rw [HT.sIx_none, List.drop_zero, Nat.sub_zero, HT.sIx_nat]
  by_cases h : k ≤ xs.length
  · rw [Nat.min_eq_left h]
  · rw [Nat.min_eq_right (by omega), List.take_length, List.take_of_length_le (by omega)]
def PlanAt (H : Hp) (r : Addr) (st : Str) (ss : List Step) (ts : List (Str × Str)) : Prop := ∃ (d e : Addr) (gs : List Addr), H r = some (.tup [.str st, .ref d, .ref e]) ∧ H d = some (.dT (stepsV ss gs)) ∧ Goals H ss gs ∧ H e = some (.dK (tailsV ts))
theorem PlanAt.grow {H H' : Hp} {r : Addr} {st : Str} {ss : List Step} {ts : List (Str × Str)} (h : PlanAt H r st ss ts) (g : Grow H H') : PlanAt H' r st ss ts := by
  obtain ⟨d, e, gs, h1, h2, h3, h4⟩ := h
  exact ⟨d, e, gs, g _ _ h1, g _ _ h2, h3.grow g, g _ _ h4⟩
theorem PlanAt.keep {H H' : Hp} {r p l : Addr} {n : Nat} {st : Str} {ss : List Step} {ts : List (Str × Str)} (h : PlanAt H r st ss ts) (hp : PenL H p l n) (k : Keep p H H') : PlanAt H' r st ss ts := by
  obtain ⟨d, e, gs, h1, h2, h3, h4⟩ := h
  obtain ⟨xs, ex⟩ := hp.lst
  exact ⟨d, e, gs, k _ _ (fun z => by rw [z, ex] at h1; cases h1) h1, k _ _ (fun z => by rw [z, ex] at h2; cases h2) h2, h3.keep hp k, k _ _ (fun z => by rw [z, ex] at h4; cases h4) h4⟩
theorem CvAt.keep {K : PySem.W.Frag} {A : Ad} {H H' : Hp} {c p l : Addr} {n : Nat} {st : Str} {ss : List Step} {ts : List (Str × Str)} (h : CvAt K A H c st ss ts) (hp : PenL H p l n) (k : Keep p H H') : CvAt K A H' c st ss ts := by
  obtain ⟨xs, hl⟩ := hp.lst
  have ex : ∀ {b : Addr} {o : HO}, H b = some o → (∀ ys, o ≠ .lst ys) → H' b = some o := fun {b o} e n => k b o (fun z => by rw [z, hl] at e; exact n xs (Option.some.inj e).symm) e
  obtain ⟨gd0, dx, sd, td, sa, la, gs, sts, ls, h1, h2, h3, h4, ⟨h5, h6⟩, h7, h8⟩ := h
  exact ⟨gd0, dx, sd, td, sa, la, gs, sts, ls, ex h1 (fun _ z => by cases z), ex h2 (fun _ z => by cases z), h3.keep hp k, ex h4 (fun _ z => by cases z), ⟨ex h5 (fun _ z => by cases z), h6⟩, ex h7 (fun _ z => by cases z), h8⟩
def sp_law_plan (K : PySem.W.Frag) (A : Ad) : Sp := fun vs H Q _ => match vs with
  | [.ref p, .int m, .str x] => ∃ (l : Addr) (n : Nat), PenL H p l n ∧ n ≤ 700000 ∧ 1 ≤ m ∧ m ≤ 6 ∧ x.cps.size ≤ 4 ∧ (∀ y ∈ lls x, letterB y = true) ∧
      ∀ (r : Addr) (st : Str) (ss : List Step) (ts : List (Str × Str)) H', PenL H' p l (n + 200) → Keep p H H' → PlanAt H' r st ss ts → Good st ss ts → (∀ s ∈ ss, s.1.2 ∈ lls x) → Q (.ref r) H'
  | _ => False
def t_law_plan_4 (K : PySem.W.Frag) (A : Ad) : TS := (sDPut (tVar 5) (tVar 6) (tCall (sp_law_pick K A) [] E0 (tCons (tVar 0) (tCons (tLst (tCons (tC (.str "")) (tCons (tC (.str "")) (tCons (tC (.str "a")) (tCons (tC (.str "bb")) (tCons (tC (.str "cab")) tNil)))))) tNil))))
def t_law_plan_3 (K : PySem.W.Frag) (A : Ad) : TS := (tIfS (tTest (tOp oGt (tCall (sp_law_draw K A) [] E0 (tCons (tVar 0) (tCons (tC (.int 3)) tNil))) (tC (.int 0)))) (t_law_plan_4 K A) tNext)
def t_law_plan_5 (K : PySem.W.Frag) (A : Ad) : TS := (tRet (tTup (tCons (tCall (sp_law_pick K A) [] E0 (tCons (tVar 0) (tCons (tVar 3) tNil))) (tCons (tVar 4) (tCons (tVar 5) tNil)))))
def t_law_plan_2 (K : PySem.W.Frag) (A : Ad) : TS := (tSeq (tFor (iSeq K (tVar 3)) (gName 6)
    (t_law_plan_3 K A)) (t_law_plan_5 K A))
def t_law_plan_1 (K : PySem.W.Frag) (A : Ad) : TS := (tSeq (tPar 4 5 (tCons (tCall (sp_law_steps K A) [] E0 (tCons (tVar 0) (tCons (tVar 3) (tCons (tVar 2) tNil)))) (tCons tDNewK tNil))) (t_law_plan_2 K A))
def t_law_plan_0 (K : PySem.W.Frag) (A : Ad) : TS := (tSeq (tAsg (tSl (rSlL K) (tLst (tCons (tC (.str "s")) (tCons (tC (.str "t")) (tCons (tC (.str "u")) (tCons (tC (.str "v")) (tCons (tC (.str "w")) (tCons (tC (.str "xx")) tNil))))))) tNoPart (tPart (tVar 1))) (gName 3)) (t_law_plan_1 K A))

theorem pure_law_plan {K : PySem.W.Frag} {A : Ad} {vs : List V} {H : Hp} {Q : VK} {E : XK} (h : sp_law_plan K A vs H Q E) : (t_law_plan_0 K A) { nx := fun _ H' => Q .non H', rt := Q } (start ["_law_pen_here", "_law_many", "_law_letters", "_law_states", "_law_steps_here", "_law_tails", "_law_state"] vs) H := by
  unfold sp_law_plan at h
  split at h
  · rename_i p m x
    obtain ⟨l, n, hp, hn, m0, m1, x4, xl, k⟩ := h
    have hsz : sizeLine = 16777216 := rfl
    obtain ⟨m, rfl⟩ : ∃ j : Nat, m = j := ⟨m.toNat, by omega⟩
    show (t_law_plan_0 K A) _ [some (.ref p), some (.int m), some (.str x), none, none, none, none] H
    refine st_seq (st_asg ?_)
    (refine evE ?P109 (fun Q h => ?h109) ?_; (case h109 => (simp only [tTest, tOp, tUn, tVar, tC, tCB, tCons, tNil, tAnd, tOr, tNot, tB, tTup, tLst, tIf, tAndV, tOrV, tNotV, tSl, tPart, tNoPart, tCall, iIx_ref, oGt_int, oMod_int, oFdiv_int, oAdd_int, oAdd_str, oSub_int, oMul_int, oLt_int, oGe_int, oLe_int, oPow_int, uNeg_int, oEq_int, oEq_str, oEq_bl, oNe_int, oNe_str, oNe_bl, cInt_int, cInt_bl, cAbs_int, cLen_ref, cList_ref, stL_ref, gName, gSub, gTup, gCons, gNil, rdSeq, List.getElem?_cons_zero, List.getElem?_cons_succ, List.set_cons_zero, List.set_cons_succ, List.cons_append, List.nil_append, Option.some.injEq, exists_eq_left', V.bl.injEq, V.int.injEq, V.ref.injEq, atI_0, atI_1, atI_2, setI_1, setI_2, Bool.not_true, Bool.not_false, Bool.false_eq_true, if_false, if_true]; exact h)); (try dsimp only [gName, tNext, List.set_cons_zero, List.set_cons_succ]))
    refine ⟨by show 6 ≤ sizeLine; decide, fun a ha => ?_⟩
    have ga := Grow.new (o := .lst [.str "s", .str "t", .str "u", .str "v", .str "w", .str "xx"]) ha
    have hae : upd H a (.lst [.str "s", .str "t", .str "u", .str "v", .str "w", .str "xx"]) a = some (.lst (SL6.map V.str)) := upd_same
    refine ⟨a, _, rfl, SqL.of hae, fun q hq => ?_⟩
    have gq := Grow.new (o := .lst (cutV (SL6.map V.str) none (some (m : Int)))) hq
    have hqe : upd (upd H a (.lst [.str "s", .str "t", .str "u", .str "v", .str "w", .str "xx"])) q (.lst (cutV (SL6.map V.str) none (some (m : Int)))) q = some (.lst ((SL6.take m).map V.str)) := by rw [upd_same, cut_take, List.map_take]
    have hp1 := hp.grow (ga.trans gq)
    have K1 : Keep p H _ := (ga.trans gq).keep
    generalize upd (upd H a (.lst [.str "s", .str "t", .str "u", .str "v", .str "w", .str "xx"])) q (.lst (cutV (SL6.map V.str) none (some (m : Int)))) = H1 at *
    clear ga gq ha hq hae
    have S0 : SL6.take m ≠ [] := by
      intro z
      have := congrArg List.length z
      rw [List.length_take] at this
      have : min m 6 = 0 := this
      omega
    have S6 : (SL6.take m).length ≤ 6 := by rw [List.length_take]; exact Nat.min_le_right _ _
    have SN : ∀ y ∈ SL6.take m, nameB y = true := fun y hy => sl6_ok y (List.mem_of_mem_take hy)
    generalize SL6.take m = S at *
    have nq := lst_pen hp1 hqe
    (try dsimp only [gName, tNext, List.set_cons_zero, List.set_cons_succ])
    show t_law_plan_1 K A _ _ _
    refine st_seq ?_
    unfold tPar
    (refine evA ?P110 (fun Q h => ?h110) ?_; (case h110 => (simp only [tTest, tOp, tUn, tVar, tC, tCB, tCons, tNil, tAnd, tOr, tNot, tB, tTup, tLst, tIf, tAndV, tOrV, tNotV, tSl, tPart, tNoPart, tCall, iIx_ref, oGt_int, oMod_int, oFdiv_int, oAdd_int, oAdd_str, oSub_int, oMul_int, oLt_int, oGe_int, oLe_int, oPow_int, uNeg_int, oEq_int, oEq_str, oEq_bl, oNe_int, oNe_str, oNe_bl, cInt_int, cInt_bl, cAbs_int, cLen_ref, cList_ref, stL_ref, gName, gSub, gTup, gCons, gNil, rdSeq, List.getElem?_cons_zero, List.getElem?_cons_succ, List.set_cons_zero, List.set_cons_succ, List.cons_append, List.nil_append, Option.some.injEq, exists_eq_left', V.bl.injEq, V.int.injEq, V.ref.injEq, atI_0, atI_1, atI_2, setI_1, setI_2, Bool.not_true, Bool.not_false, Bool.false_eq_true, if_false, if_true]; exact h)); (try dsimp only [gName, tNext, List.set_cons_zero, List.set_cons_succ]))
    refine ⟨l, n, S, hp1, by omega, hqe, S0, S6, x4, fun d ss gs H2 hp2 k2 hd2 P2 => ?_⟩
    have K2 := K1.trans k2
    have hq2 := k2 _ _ nq hqe
    refine fun e he => ?_
    refine ⟨_, _, rfl, ?_⟩
    (try dsimp only [gName, tNext, List.set_cons_zero, List.set_cons_succ])
    have ge := Grow.new (o := .dK []) he
    have hee : upd H2 e (.dK []) e = some (.dK (tailsV [])) := upd_same
    have nep := hp2.fresh he
    have heH : H e = none := by
      cases z : H e with
      | none => rfl
      | some o => have := K2 _ _ nep z; rw [he] at this; cases this
    have hp3 := hp2.grow ge
    have K3 := K2.trans ge.keep
    have P3 := P2.grow ge
    have hq3 := ge _ _ hq2
    generalize upd H2 e (.dK []) = H3 at *
    clear ge he hp1 K1 hqe k2 hd2 hp2 K2 P2 hq2 H2 H1
    let St : Nat → Nat → Hp → Prop := fun c k H' => ∃ ts, DL H' e S k ts ∧ DS H' d S (lls x) 24 ss gs ∧ PenL H' p l (n + 100 + c) ∧ Keep p H H' ∧ H' q = some (.lst (S.map V.str))
    have St0 : St 0 0 H3 := ⟨[], ⟨hee, fun s hs => absurd hs (by simp), List.nodup_nil, Nat.le_refl _⟩, P3, hp3.up (by omega), K3, hq3⟩
    clear hee P3 hp3 K3
    show t_law_plan_2 K A _ _ _
    refine st_seq (for_seq ?_)
    (refine evE ?P116 (fun Q h => ?h116) ?_; (case h116 => (simp only [tTest, tOp, tUn, tVar, tC, tCB, tCons, tNil, tAnd, tOr, tNot, tB, tTup, tLst, tIf, tAndV, tOrV, tNotV, tSl, tPart, tNoPart, tCall, iIx_ref, oGt_int, oMod_int, oFdiv_int, oAdd_int, oAdd_str, oSub_int, oMul_int, oLt_int, oGe_int, oLe_int, oPow_int, uNeg_int, oEq_int, oEq_str, oEq_bl, oNe_int, oNe_str, oNe_bl, cInt_int, cInt_bl, cAbs_int, cLen_ref, cList_ref, stL_ref, gName, gSub, gTup, gCons, gNil, rdSeq, List.getElem?_cons_zero, List.getElem?_cons_succ, List.set_cons_zero, List.set_cons_succ, List.cons_append, List.nil_append, Option.some.injEq, exists_eq_left', V.bl.injEq, V.int.injEq, V.ref.injEq, atI_0, atI_1, atI_2, setI_1, setI_2, Bool.not_true, Bool.not_false, Bool.false_eq_true, if_false, if_true]; exact h)))
    refine for_lst (fun i σ H' => (∃ x6, σ = [some (.ref p), some (.int m), some (.str x), some (.ref q), some (.ref d), some (.ref e), x6]) ∧ St (2 * i) i H') hq3 ⟨⟨_, rfl⟩, St0⟩ (fun i σ H' w => by obtain ⟨_, _, _, _, _, _, z⟩ := w; exact z) (fun σ H' w => ?_) (fun i σ H' hi w => ?_)
    · obtain ⟨⟨x6, rfl⟩, ts, T1, P1, hp1, K1, h1⟩ := w
      rw [List.length_map] at hp1 T1
      show t_law_plan_5 K A _ _ _
      refine st_ret ?_
      (refine evE ?P111 (fun Q h => ?h111) ?_; (case h111 => (simp only [tTest, tOp, tUn, tVar, tC, tCB, tCons, tNil, tAnd, tOr, tNot, tB, tTup, tLst, tIf, tAndV, tOrV, tNotV, tSl, tPart, tNoPart, tCall, iIx_ref, oGt_int, oMod_int, oFdiv_int, oAdd_int, oAdd_str, oSub_int, oMul_int, oLt_int, oGe_int, oLe_int, oPow_int, uNeg_int, oEq_int, oEq_str, oEq_bl, oNe_int, oNe_str, oNe_bl, cInt_int, cInt_bl, cAbs_int, cLen_ref, cList_ref, stL_ref, gName, gSub, gTup, gCons, gNil, rdSeq, List.getElem?_cons_zero, List.getElem?_cons_succ, List.set_cons_zero, List.set_cons_succ, List.cons_append, List.nil_append, Option.some.injEq, exists_eq_left', V.bl.injEq, V.int.injEq, V.ref.injEq, atI_0, atI_1, atI_2, setI_1, setI_2, Bool.not_true, Bool.not_false, Bool.false_eq_true, if_false, if_true]; exact h)); (try dsimp only [gName, tNext, List.set_cons_zero, List.set_cons_succ]))
      refine ⟨l, _, _, hp1, by omega, h1, nq, by simpa using S0, by rw [List.length_map]; omega, fun y H2 hy hp2 k2 => ?_⟩
      obtain ⟨st, hst, rfl⟩ := List.mem_map.mp hy
      refine ⟨by show 3 ≤ sizeLine; decide, fun r hr => ?_⟩
      have gr := Grow.new (o := .tup [.str st, .ref d, .ref e]) hr
      have P2 := (P1.keep hp1 k2).grow gr
      have T2 := (T1.keep hp1 k2).grow gr
      exact k r st ss ts _ ((hp2.grow gr).up (by omega)) (K1.trans (k2.trans gr.keep)) ⟨d, e, gs, upd_same, P2.hd, P2.G, T2.he⟩ (ds_good P2 (T2.up (k' := 24) (by omega)) S6 SN (by rw [lls_len]; exact x4) xl hst (by omega)) (fun s hs => (P2.kS s hs).2.1)
    · obtain ⟨⟨x6, rfl⟩, ts, T1, P1, hp1, K1, h1⟩ := w
      rw [List.length_map] at hi
      obtain ⟨e1, m1⟩ := str_at hi
      rw [e1]
      generalize S.getD i Str.empty = s at *
      clear e1
      (try dsimp only [gName, tNext, List.set_cons_zero, List.set_cons_succ])
      show t_law_plan_3 K A _ _ _
      refine st_if ?_
      (refine evT ?P112 (fun Q h => ?h112) ?_; (case h112 => (simp only [tTest, tOp, tUn, tVar, tC, tCB, tCons, tNil, tAnd, tOr, tNot, tB, tTup, tLst, tIf, tAndV, tOrV, tNotV, tSl, tPart, tNoPart, tCall, iIx_ref, oGt_int, oMod_int, oFdiv_int, oAdd_int, oAdd_str, oSub_int, oMul_int, oLt_int, oGe_int, oLe_int, oPow_int, uNeg_int, oEq_int, oEq_str, oEq_bl, oNe_int, oNe_str, oNe_bl, cInt_int, cInt_bl, cAbs_int, cLen_ref, cList_ref, stL_ref, gName, gSub, gTup, gCons, gNil, rdSeq, List.getElem?_cons_zero, List.getElem?_cons_succ, List.set_cons_zero, List.set_cons_succ, List.cons_append, List.nil_append, Option.some.injEq, exists_eq_left', V.bl.injEq, V.int.injEq, V.ref.injEq, atI_0, atI_1, atI_2, setI_1, setI_2, Bool.not_true, Bool.not_false, Bool.false_eq_true, if_false, if_true]; exact h)); (try dsimp only [gName, tNext, List.set_cons_zero, List.set_cons_succ]))
      refine ⟨l, _, hp1, by omega, by decide, by decide, fun dd H2 d0 d1 hp2 k2 => ?_⟩
      have P2 := P1.keep hp1 k2
      have T2 := T1.keep hp1 k2
      have h1' := k2 _ _ nq h1
      simp only [tTest, tOp, tUn, tVar, tC, tCB, tCons, tNil, tAnd, tOr, tNot, tB, tTup, tLst, tIf, tAndV, tOrV, tNotV, tSl, tPart, tNoPart, tCall, iIx_ref, oGt_int, oMod_int, oFdiv_int, oAdd_int, oAdd_str, oSub_int, oMul_int, oLt_int, oGe_int, oLe_int, oPow_int, uNeg_int, oEq_int, oEq_str, oEq_bl, oNe_int, oNe_str, oNe_bl, cInt_int, cInt_bl, cAbs_int, cLen_ref, cList_ref, stL_ref, gName, gSub, gTup, gCons, gNil, rdSeq, List.getElem?_cons_zero, List.getElem?_cons_succ, List.set_cons_zero, List.set_cons_succ, List.cons_append, List.nil_append, Option.some.injEq, exists_eq_left', V.bl.injEq, V.int.injEq, V.ref.injEq, atI_0, atI_1, atI_2, setI_1, setI_2, Bool.not_true, Bool.not_false, Bool.false_eq_true, if_false, if_true]
      refine ite_dec (fun hc => ?_) (fun hc => ?_)
      · (try dsimp only [gName, tNext, List.set_cons_zero, List.set_cons_succ])
        show t_law_plan_4 K A _ _ _
        unfold t_law_plan_4 sDPut
        (refine evE ?P117 (fun Q h => ?h117) ?_; (case h117 => (simp only [tTest, tOp, tUn, tVar, tC, tCB, tCons, tNil, tAnd, tOr, tNot, tB, tTup, tLst, tIf, tAndV, tOrV, tNotV, tSl, tPart, tNoPart, tCall, iIx_ref, oGt_int, oMod_int, oFdiv_int, oAdd_int, oAdd_str, oSub_int, oMul_int, oLt_int, oGe_int, oLe_int, oPow_int, uNeg_int, oEq_int, oEq_str, oEq_bl, oNe_int, oNe_str, oNe_bl, cInt_int, cInt_bl, cAbs_int, cLen_ref, cList_ref, stL_ref, gName, gSub, gTup, gCons, gNil, rdSeq, List.getElem?_cons_zero, List.getElem?_cons_succ, List.set_cons_zero, List.set_cons_succ, List.cons_append, List.nil_append, Option.some.injEq, exists_eq_left', V.bl.injEq, V.int.injEq, V.ref.injEq, atI_0, atI_1, atI_2, setI_1, setI_2, Bool.not_true, Bool.not_false, Bool.false_eq_true, if_false, if_true]; exact h)))
        refine ⟨by show 5 ≤ sizeLine; decide, fun w hw => ?_⟩
        have gw := Grow.new (o := .lst [.str "", .str "", .str "a", .str "bb", .str "cab"]) hw
        have hw1 := hp2.fresh hw
        refine ⟨l, _, _, hp2.grow gw, by omega, upd_same, hw1, by simp, by show 5 ≤ 100000; decide, fun y H3 hy hp3 k3 => ?_⟩
        obtain ⟨an, rfl, han⟩ : ∃ an, y = .str an ∧ answerB an = true := by
          simp only [List.mem_cons, List.not_mem_nil, or_false] at hy
          rcases hy with rfl | rfl | rfl | rfl | rfl <;> exact ⟨_, rfl, ansS_ok _ (by simp)⟩
        have P3 := (P2.grow gw).keep (hp2.grow gw) k3
        have T3 := (T2.grow gw).keep (hp2.grow gw) k3
        have kk := K1.trans (k2.trans (gw.keep.trans k3))
        have h1'' := k3 _ _ nq (gw _ _ h1')
        have n2 := T3.nl hp3
        obtain ⟨ts', T4⟩ := T3.putT m1 han
        have P4 := P3.updK (kvs' := putK (tailsV ts) (.inr s) (.str an)) T3.he
        (refine evE ?P113 (fun Q h => ?h113) ?_; (case h113 => (simp only [tTest, tOp, tUn, tVar, tC, tCB, tCons, tNil, tAnd, tOr, tNot, tB, tTup, tLst, tIf, tAndV, tOrV, tNotV, tSl, tPart, tNoPart, tCall, iIx_ref, oGt_int, oMod_int, oFdiv_int, oAdd_int, oAdd_str, oSub_int, oMul_int, oLt_int, oGe_int, oLe_int, oPow_int, uNeg_int, oEq_int, oEq_str, oEq_bl, oNe_int, oNe_str, oNe_bl, cInt_int, cInt_bl, cAbs_int, cLen_ref, cList_ref, stL_ref, gName, gSub, gTup, gCons, gNil, rdSeq, List.getElem?_cons_zero, List.getElem?_cons_succ, List.set_cons_zero, List.set_cons_succ, List.cons_append, List.nil_append, Option.some.injEq, exists_eq_left', V.bl.injEq, V.int.injEq, V.ref.injEq, atI_0, atI_1, atI_2, setI_1, setI_2, Bool.not_true, Bool.not_false, Bool.false_eq_true, if_false, if_true]; exact h)); (try dsimp only [gName, tNext, List.set_cons_zero, List.set_cons_succ]))
        (refine evE ?P114 (fun Q h => ?h114) ?_; (case h114 => (simp only [tTest, tOp, tUn, tVar, tC, tCB, tCons, tNil, tAnd, tOr, tNot, tB, tTup, tLst, tIf, tAndV, tOrV, tNotV, tSl, tPart, tNoPart, tCall, iIx_ref, oGt_int, oMod_int, oFdiv_int, oAdd_int, oAdd_str, oSub_int, oMul_int, oLt_int, oGe_int, oLe_int, oPow_int, uNeg_int, oEq_int, oEq_str, oEq_bl, oNe_int, oNe_str, oNe_bl, cInt_int, cInt_bl, cAbs_int, cLen_ref, cList_ref, stL_ref, gName, gSub, gTup, gCons, gNil, rdSeq, List.getElem?_cons_zero, List.getElem?_cons_succ, List.set_cons_zero, List.set_cons_succ, List.cons_append, List.nil_append, Option.some.injEq, exists_eq_left', V.bl.injEq, V.int.injEq, V.ref.injEq, atI_0, atI_1, atI_2, setI_1, setI_2, Bool.not_true, Bool.not_false, Bool.false_eq_true, if_false, if_true]; exact h)); (try dsimp only [gName, tNext, List.set_cons_zero, List.set_cons_succ]))
        refine ⟨e, _, rfl, .inl ⟨tailsV ts, .inr s, T3.he, rfl, by have := T3.lT; show (tailsV ts).length < _; unfold tailsV; rw [List.length_map]; omega, rfl⟩, ?_⟩
        exact ⟨⟨_, rfl⟩, ts', T4, P4, (hp3.upd nep n2).up (by omega), (fun b u nb eb => by rw [upd_ne (fun z => by rw [z, heH] at eb; cases eb)]; exact kk b u nb eb),
          (upd_ne (fun z => by rw [z, T3.he] at h1''; cases h1'')).trans h1''⟩
      · exact ⟨⟨_, rfl⟩, ts, T2.up (by omega), P2, hp2.up (by omega), K1.trans k2, h1'⟩
  · exact h.elim
def sp_law_made (K : PySem.W.Frag) (A : Ad) : Sp := fun vs H Q _ => match vs with
  | [.ref r] => ∃ st ss ts, PlanAt H r st ss ts ∧ Good st ss ts ∧ ∀ c H', Grow H H' → CvAt K A H' c st ss ts → Q (.ref c) H'
  | _ => False
def t_law_made_0 (K : PySem.W.Frag) (A : Ad) : TS := (tRet (tMake A.c_Converter (sp_Converter_init K A) [] E0 (tCons (tOp (rIx K) (tVar 0) (tC (.int 0))) (tCons (tOp (rIx K) (tVar 0) (tC (.int 1))) (tCons (tOp (rIx K) (tVar 0) (tC (.int 2))) tNil)))))

theorem pure_law_made {K : PySem.W.Frag} {A : Ad} {vs : List V} {H : Hp} {Q : VK} {E : XK} (F : KF K A) (h : sp_law_made K A vs H Q E) : (t_law_made_0 K A) { nx := fun _ H' => Q .non H', rt := Q } (start ["_law_plan_here"] vs) H := by
  unfold sp_law_made at h
  split at h
  · rename_i r
    obtain ⟨st, ss, ts, ⟨d, e, gs, hr, hd, hG, he⟩, gd, k⟩ := h
    show (t_law_made_0 K A) _ [some (.ref r)] H
    refine st_ret ?_
    (refine evE ?P115 (fun Q h => ?h115) ?_; (case h115 => (simp only [tTest, tOp, tUn, tVar, tC, tCB, tCons, tNil, tAnd, tOr, tNot, tB, tTup, tLst, tIf, tAndV, tOrV, tNotV, tSl, tPart, tNoPart, tCall, iIx_ref, oGt_int, oMod_int, oFdiv_int, oAdd_int, oAdd_str, oSub_int, oMul_int, oLt_int, oGe_int, oLe_int, oPow_int, uNeg_int, oEq_int, oEq_str, oEq_bl, oNe_int, oNe_str, oNe_bl, cInt_int, cInt_bl, cAbs_int, cLen_ref, cList_ref, stL_ref, gName, gSub, gTup, gCons, gNil, rdSeq, List.getElem?_cons_zero, List.getElem?_cons_succ, List.set_cons_zero, List.set_cons_succ, List.cons_append, List.nil_append, Option.some.injEq, exists_eq_left', V.bl.injEq, V.int.injEq, V.ref.injEq, atI_0, atI_1, atI_2, setI_1, setI_2, Bool.not_true, Bool.not_false, Bool.false_eq_true, if_false, if_true, tMake_eq]; exact h)); (try dsimp only [gName, tNext, List.set_cons_zero, List.set_cons_succ]))
    refine ixE (.t hr) atI_0 ?_
    refine ixE (.t hr) atI_1 ?_
    refine ixE (.t hr) atI_2 ?_
    exact mkC hd hG he gd k
  · exact h.elim

end HG

namespace HG
open PySem L2
/-! ### a drawn plan's run -/
def sp_law_run (K : PySem.W.Frag) (A : Ad) : Sp := fun vs H Q _ => match vs with
  | [.ref r, .str x] => ∃ st ss ts, PlanAt H r st ss ts ∧ Good st ss ts ∧ x.cps.size ≤ 400 ∧ (∀ y, outOf st ss ts x = .ok y → y.length ≤ 4000 → ∀ (q Sa Ha : Addr) H', Grow H H' → H' q = some (.tup [.ref Sa, .ref Ha, .str y]) → Q (.ref q) H') ∧ ((∀ y, outOf st ss ts x ≠ .ok y) → ∀ H', Grow H H' → Q .non H')
  | _ => False
def t_law_run_4 (K : PySem.W.Frag) (A : Ad) : TS := (tRet (tC .non))
def t_law_run_7 (K : PySem.W.Frag) (A : Ad) : TS := (tAsg (tOp oAdd (tVar 7) (tVar 9)) (gName 7))
def t_law_run_6 (K : PySem.W.Frag) (A : Ad) : TS := (tSeq (tPar 5 6 (tCons (tOp oAdd (tVar 5) (tLst (tCons (tVar 10) tNil))) (tCons (tOp oAdd (tVar 6) (tLst (tCons (tOp oSub (tOp oAdd (tOp (rIx K) (tVar 6) (tUn uNeg (tC (.int 1)))) (tCB (cLen K) (tCons (tVar 9) tNil))) (tC (.int 1))) tNil))) tNil))) (t_law_run_7 K A))
def t_law_run_5 (K : PySem.W.Frag) (A : Ad) : TS := (tSeq (tAsg (tDGet (tVar 3) (tTup (tCons (tOp (rIx K) (tVar 5) (tUn uNeg (tC (.int 1)))) (tCons (tVar 8) tNil)))) (gTup K 2 (gCons (gName 9) (gCons (gName 10) gNil)))) (t_law_run_6 K A))
def t_law_run_3 (K : PySem.W.Frag) (A : Ad) : TS := (tSeq (tIfS (tTest (tOp oNotInM (tTup (tCons (tOp (rIx K) (tVar 5) (tUn uNeg (tC (.int 1)))) (tCons (tVar 8) tNil))) (tVar 3))) (t_law_run_4 K A) tNext) (t_law_run_5 K A))
def t_law_run_8 (K : PySem.W.Frag) (A : Ad) : TS := (tRet (tIf (tTest (tOp oNotInM (tOp (rIx K) (tVar 5) (tUn uNeg (tC (.int 1)))) (tVar 4))) (tC .non) (tTup (tCons (tVar 5) (tCons (tVar 6) (tCons (tOp oAdd (tVar 7) (tDGet (tVar 4) (tOp (rIx K) (tVar 5) (tUn uNeg (tC (.int 1)))))) tNil))))))
def t_law_run_2 (K : PySem.W.Frag) (A : Ad) : TS := (tSeq (tFor (iStr (tVar 1)) (gName 8)
    (t_law_run_3 K A)) (t_law_run_8 K A))
def t_law_run_1 (K : PySem.W.Frag) (A : Ad) : TS := (tSeq (tPar3 5 6 7 (tCons (tLst (tCons (tVar 2) tNil)) (tCons (tLst (tCons (tC (.int 0)) tNil)) (tCons (tC (.str "")) tNil)))) (t_law_run_2 K A))
def t_law_run_0 (K : PySem.W.Frag) (A : Ad) : TS := (tSeq (tAsg (tVar 0) (gTup K 3 (gCons (gName 2) (gCons (gName 3) (gCons (gName 4) gNil))))) (t_law_run_1 K A))

theorem list_end {S : List Str} {s : Str} : atI ((S ++ [s]).map V.str) (-1) = some (.str s) := by rw [List.map_append]; exact atI_end
theorem list_endI {S : List Int} {s : Int} : atI ((S ++ [s]).map V.int) (-1) = some (.int s) := by rw [List.map_append]; exact atI_end
theorem pure_law_run {K : PySem.W.Frag} {A : Ad} {vs : List V} {H : Hp} {Q : VK} {E : XK} (h : sp_law_run K A vs H Q E) : (t_law_run_0 K A) { nx := fun _ H' => Q .non H', rt := Q } (start ["_law_plan_here", "_law_text", "_law_start", "_law_steps_here", "_law_tails", "_law_states", "_law_heights", "_law_answer", "_law_letter", "_law_written", "_law_goal"] vs) H := by
  unfold sp_law_run at h
  split at h
  · rename_i r x
    obtain ⟨st, ss, ts, ⟨d, e, gs, hr, hd, hG, he⟩, gd, hx, k1, k2⟩ := h
    have hsz : sizeLine = 16777216 := rfl
    show (t_law_run_0 K A) _ [some (.ref r), some (.str x), none, none, none, none, none, none, none, none, none] H
    refine st_seq (st_asg ?_)
    (refine evE ?P118 (fun Q h => ?h118) ?_; (case h118 => (simp only [tTest, tOp, tUn, tVar, tC, tCB, tCons, tNil, tAnd, tOr, tNot, tB, tTup, tLst, tIf, tAndV, tOrV, tNotV, tSl, tPart, tNoPart, tCall, iIx_ref, oGt_int, oMod_int, oFdiv_int, oAdd_int, oAdd_str, oSub_int, oMul_int, oLt_int, oGe_int, oLe_int, oPow_int, uNeg_int, oEq_int, oEq_str, oEq_bl, oNe_int, oNe_str, oNe_bl, cInt_int, cInt_bl, cAbs_int, cLen_ref, cList_ref, stL_ref, gName, gSub, gTup, gCons, gNil, rdSeq, List.getElem?_cons_zero, List.getElem?_cons_succ, List.set_cons_zero, List.set_cons_succ, List.cons_append, List.nil_append, Option.some.injEq, exists_eq_left', V.bl.injEq, V.int.injEq, V.ref.injEq, atI_0, atI_1, atI_2, setI_1, setI_2, Bool.not_true, Bool.not_false, Bool.false_eq_true, if_false, if_true]; exact h)); (try dsimp only [gName, tNext, List.set_cons_zero, List.set_cons_succ]))
    refine ⟨r, _, rfl, SqT.of hr, rfl, ?_⟩
    refine ⟨_, _, rfl, ?_⟩
    refine ⟨_, _, rfl, ?_⟩
    refine ⟨_, _, rfl, ?_⟩
    refine ⟨rfl, ?_⟩
    (try dsimp only [gName, tNext, List.set_cons_zero, List.set_cons_succ])
    show t_law_run_1 K A _ _ _
    refine st_seq ?_
    unfold tPar3
    (refine evA ?P119 (fun Q h => ?h119) ?_; (case h119 => (simp only [tTest, tOp, tUn, tVar, tC, tCB, tCons, tNil, tAnd, tOr, tNot, tB, tTup, tLst, tIf, tAndV, tOrV, tNotV, tSl, tPart, tNoPart, tCall, iIx_ref, oGt_int, oMod_int, oFdiv_int, oAdd_int, oAdd_str, oSub_int, oMul_int, oLt_int, oGe_int, oLe_int, oPow_int, uNeg_int, oEq_int, oEq_str, oEq_bl, oNe_int, oNe_str, oNe_bl, cInt_int, cInt_bl, cAbs_int, cLen_ref, cList_ref, stL_ref, gName, gSub, gTup, gCons, gNil, rdSeq, List.getElem?_cons_zero, List.getElem?_cons_succ, List.set_cons_zero, List.set_cons_succ, List.cons_append, List.nil_append, Option.some.injEq, exists_eq_left', V.bl.injEq, V.int.injEq, V.ref.injEq, atI_0, atI_1, atI_2, setI_1, setI_2, Bool.not_true, Bool.not_false, Bool.false_eq_true, if_false, if_true]; exact h)); (try dsimp only [gName, tNext, List.set_cons_zero, List.set_cons_succ]))
    refine ⟨by show 1 ≤ sizeLine; decide, fun Sa hSa => ?_⟩
    have g1 := Grow.new (o := .lst [.str st]) hSa
    have eS : upd H Sa (.lst [.str st]) Sa = some (.lst (([] ++ [st] : List Str).map V.str)) := upd_same
    generalize upd H Sa (.lst [.str st]) = H1 at *
    refine ⟨by show 1 ≤ sizeLine; decide, fun Ha hHa => ?_⟩
    have g2 := Grow.new (o := .lst [.int 0]) hHa
    have eH : upd H1 Ha (.lst [.int 0]) Ha = some (.lst (([] ++ [0] : List Int).map V.int)) := upd_same
    replace eS := g2 _ _ eS
    have g3 := g1.trans g2
    generalize upd H1 Ha (.lst [.int 0]) = H2 at *
    refine ⟨_, _, _, rfl, ?_⟩
    (try dsimp only [gName, tNext, List.set_cons_zero, List.set_cons_succ])
    clear g1 g2 hSa hHa
    show t_law_run_2 K A _ _ _
    refine st_seq (for_text ?_)
    (refine evE ?P128 (fun Q h => ?h128) ?_; (case h128 => (simp only [tTest, tOp, tUn, tVar, tC, tCB, tCons, tNil, tAnd, tOr, tNot, tB, tTup, tLst, tIf, tAndV, tOrV, tNotV, tSl, tPart, tNoPart, tCall, iIx_ref, oGt_int, oMod_int, oFdiv_int, oAdd_int, oAdd_str, oSub_int, oMul_int, oLt_int, oGe_int, oLe_int, oPow_int, uNeg_int, oEq_int, oEq_str, oEq_bl, oNe_int, oNe_str, oNe_bl, cInt_int, cInt_bl, cAbs_int, cLen_ref, cList_ref, stL_ref, gName, gSub, gTup, gCons, gNil, rdSeq, List.getElem?_cons_zero, List.getElem?_cons_succ, List.set_cons_zero, List.set_cons_succ, List.cons_append, List.nil_append, Option.some.injEq, exists_eq_left', V.bl.injEq, V.int.injEq, V.ref.injEq, atI_0, atI_1, atI_2, setI_1, setI_2, Bool.not_true, Bool.not_false, Bool.false_eq_true, if_false, if_true]; exact h)))
    refine ⟨x, rfl, ?_⟩
    refine for_its (fun i σ H' => Grow H H' ∧ ∃ s S h Hs w ws Sa Ha y8 y9 y10, σ = [some (.ref r), some (.str x), some (.str st), some (.ref d), some (.ref e), some (.ref Sa), some (.ref Ha), some (.str w), y8, y9, y10] ∧ H' Sa = some (.lst ((S ++ [s]).map V.str)) ∧ H' Ha = some (.lst ((Hs ++ [h]).map V.int)) ∧ S.length ≤ i ∧ Hs.length ≤ i ∧ w.length ≤ 4 * i ∧ w.cps.toList = (ws.map (·.cps.toList)).flatten ∧ goL ss st [] 0 x.cps.toList = goL ss s ws i (x.cps.toList.drop i))
      ⟨g3, st, [], 0, [], Str.ofString "", [], Sa, Ha, none, none, none, rfl, eS, eH, Nat.le_refl _, Nat.le_refl _, Nat.le_refl _, rfl, rfl⟩ (fun σ H' w => ?_) (fun i σ H' hi w => ?_)
    · obtain ⟨g, s, S, h, Hs, w, ws, Sa, Ha, y8, y9, y10, rfl, hS, hH, lS, lH, lw, ew, ho⟩ := w
      rw [List.drop_of_length_le (by rw [Array.length_toList]; exact Nat.le_refl _)] at ho
      have ho2 : outOf st ss ts x = match tailOf ts s with | none => .tail s | some t => .ok (Txt.join ("" : Str) (ws ++ [t])) := by
        unfold outOf
        rw [ho]
        rfl
      have ev := tailsV_val (s := s) ts
      show t_law_run_8 K A _ _ _
      refine st_ret ?_
      unfold tIf
      (refine evT ?P120 (fun Q h => ?h120) ?_; (case h120 => (simp only [tTest, tOp, tUn, tVar, tC, tCB, tCons, tNil, tAnd, tOr, tNot, tB, tTup, tLst, tIf, tAndV, tOrV, tNotV, tSl, tPart, tNoPart, tCall, iIx_ref, oGt_int, oMod_int, oFdiv_int, oAdd_int, oAdd_str, oSub_int, oMul_int, oLt_int, oGe_int, oLe_int, oPow_int, uNeg_int, oEq_int, oEq_str, oEq_bl, oNe_int, oNe_str, oNe_bl, cInt_int, cInt_bl, cAbs_int, cLen_ref, cList_ref, stL_ref, gName, gSub, gTup, gCons, gNil, rdSeq, List.getElem?_cons_zero, List.getElem?_cons_succ, List.set_cons_zero, List.set_cons_succ, List.cons_append, List.nil_append, Option.some.injEq, exists_eq_left', V.bl.injEq, V.int.injEq, V.ref.injEq, atI_0, atI_1, atI_2, setI_1, setI_2, Bool.not_true, Bool.not_false, Bool.false_eq_true, if_false, if_true]; exact h)); (try dsimp only [gName, tNext, List.set_cons_zero, List.set_cons_succ]))
      refine ixE (.l hS) list_end ?_
      cases et : tailOf ts s with
      | none =>
        rw [et] at ev ho2
        refine ⟨e, none, rfl, .inl ⟨_, .inr s, .inl (g _ _ he), rfl, ev.symm⟩, ?_⟩
        refine ⟨_, rfl, if_yes ?_⟩
        (refine evE ?P121 (fun Q h => ?h121) ?_; (case h121 => (simp only [tTest, tOp, tUn, tVar, tC, tCB, tCons, tNil, tAnd, tOr, tNot, tB, tTup, tLst, tIf, tAndV, tOrV, tNotV, tSl, tPart, tNoPart, tCall, iIx_ref, oGt_int, oMod_int, oFdiv_int, oAdd_int, oAdd_str, oSub_int, oMul_int, oLt_int, oGe_int, oLe_int, oPow_int, uNeg_int, oEq_int, oEq_str, oEq_bl, oNe_int, oNe_str, oNe_bl, cInt_int, cInt_bl, cAbs_int, cLen_ref, cList_ref, stL_ref, gName, gSub, gTup, gCons, gNil, rdSeq, List.getElem?_cons_zero, List.getElem?_cons_succ, List.set_cons_zero, List.set_cons_succ, List.cons_append, List.nil_append, Option.some.injEq, exists_eq_left', V.bl.injEq, V.int.injEq, V.ref.injEq, atI_0, atI_1, atI_2, setI_1, setI_2, Bool.not_true, Bool.not_false, Bool.false_eq_true, if_false, if_true]; exact h)); (try dsimp only [gName, tNext, List.set_cons_zero, List.set_cons_succ]))
        exact k2 (fun y z => by rw [ho2] at z; cases z) _ g
      | some t =>
        rw [et] at ev ho2
        have ht : t.length ≤ 4 := answer_len (gd.kts _ (tailOf_mem et)).2
        refine ⟨e, some (.str t), rfl, .inl ⟨_, .inr s, .inl (g _ _ he), rfl, ev.symm⟩, ?_⟩
        refine ⟨_, rfl, if_no ?_⟩
        (refine evE ?P122 (fun Q h => ?h122) ?_; (case h122 => (simp only [tTest, tOp, tUn, tVar, tC, tCB, tCons, tNil, tAnd, tOr, tNot, tB, tTup, tLst, tIf, tAndV, tOrV, tNotV, tSl, tPart, tNoPart, tCall, iIx_ref, oGt_int, oMod_int, oFdiv_int, oAdd_int, oAdd_str, oSub_int, oMul_int, oLt_int, oGe_int, oLe_int, oPow_int, uNeg_int, oEq_int, oEq_str, oEq_bl, oNe_int, oNe_str, oNe_bl, cInt_int, cInt_bl, cAbs_int, cLen_ref, cList_ref, stL_ref, gName, gSub, gTup, gCons, gNil, rdSeq, List.getElem?_cons_zero, List.getElem?_cons_succ, List.set_cons_zero, List.set_cons_succ, List.cons_append, List.nil_append, Option.some.injEq, exists_eq_left', V.bl.injEq, V.int.injEq, V.ref.injEq, atI_0, atI_1, atI_2, setI_1, setI_2, Bool.not_true, Bool.not_false, Bool.false_eq_true, if_false, if_true, tDGet]; exact h)); (try dsimp only [gName, tNext, List.set_cons_zero, List.set_cons_succ]))
        refine ixE (.l hS) list_end ?_
        refine ⟨e, .str t, rfl, .inl ⟨_, .inr s, .inl (g _ _ he), rfl, ev.symm⟩, ?_⟩
        simp only [tTest, tOp, tUn, tVar, tC, tCB, tCons, tNil, tAnd, tOr, tNot, tB, tTup, tLst, tIf, tAndV, tOrV, tNotV, tSl, tPart, tNoPart, tCall, iIx_ref, oGt_int, oMod_int, oFdiv_int, oAdd_int, oAdd_str, oSub_int, oMul_int, oLt_int, oGe_int, oLe_int, oPow_int, uNeg_int, oEq_int, oEq_str, oEq_bl, oNe_int, oNe_str, oNe_bl, cInt_int, cInt_bl, cAbs_int, cLen_ref, cList_ref, stL_ref, gName, gSub, gTup, gCons, gNil, rdSeq, List.getElem?_cons_zero, List.getElem?_cons_succ, List.set_cons_zero, List.set_cons_succ, List.cons_append, List.nil_append, Option.some.injEq, exists_eq_left', V.bl.injEq, V.int.injEq, V.ref.injEq, atI_0, atI_1, atI_2, setI_1, setI_2, Bool.not_true, Bool.not_false, Bool.false_eq_true, if_false, if_true]
        refine ⟨by omega, ?_⟩
        have ey : w ++ t = Txt.join ("" : Str) (ws ++ [t]) := by
          refine str_ext ?_
          rw [app_cps, ew]
          exact ((join_cps _).trans (by rw [List.map_append, List.flatten_append]; simp)).symm
        refine ⟨by show 3 ≤ sizeLine; decide, fun q hq => ?_⟩
        have gq := Grow.new (o := .tup [.ref Sa, .ref Ha, .str (w ++ t)]) hq
        refine k1 (w ++ t) (by rw [ho2, ey]) ?_ q Sa Ha _ (g.trans gq) upd_same
        have : (w ++ t).length = w.length + t.length := by
          show (w.cps ++ t.cps).size = _
          rw [Array.size_append]
          rfl
        omega
    · obtain ⟨g, s, S, h, Hs, w, ws, Sa, Ha, y8, y9, y10, rfl, hS, hH, lS, lH, lw, ew, ho⟩ := w
      rw [drop_next hi] at ho
      generalize x.cps.getD i 0 = cc at *
      (try dsimp only [gName, tNext, List.set_cons_zero, List.set_cons_succ])
      show t_law_run_3 K A _ _ _
      refine st_seq (st_if ?_)
      (refine evT ?P123 (fun Q h => ?h123) ?_; (case h123 => (simp only [tTest, tOp, tUn, tVar, tC, tCB, tCons, tNil, tAnd, tOr, tNot, tB, tTup, tLst, tIf, tAndV, tOrV, tNotV, tSl, tPart, tNoPart, tCall, iIx_ref, oGt_int, oMod_int, oFdiv_int, oAdd_int, oAdd_str, oSub_int, oMul_int, oLt_int, oGe_int, oLe_int, oPow_int, uNeg_int, oEq_int, oEq_str, oEq_bl, oNe_int, oNe_str, oNe_bl, cInt_int, cInt_bl, cAbs_int, cLen_ref, cList_ref, stL_ref, gName, gSub, gTup, gCons, gNil, rdSeq, List.getElem?_cons_zero, List.getElem?_cons_succ, List.set_cons_zero, List.set_cons_succ, List.cons_append, List.nil_append, Option.some.injEq, exists_eq_left', V.bl.injEq, V.int.injEq, V.ref.injEq, atI_0, atI_1, atI_2, setI_1, setI_2, Bool.not_true, Bool.not_false, Bool.false_eq_true, if_false, if_true]; exact h)); (try dsimp only [gName, tNext, List.set_cons_zero, List.set_cons_succ]))
      refine ixE (.l hS) list_end ?_
      refine ⟨by show 2 ≤ sizeLine; decide, fun q hq => ?_⟩
      have gq := Grow.new (o := .tup [.str s, .str (sgn cc)]) hq
      have hqe : upd H' q (.tup [.str s, .str (sgn cc)]) q = some (.tup ([.inr s, .inr (sgn cc)].map kV)) := upd_same
      have g4 := g.trans gq
      replace hS := gq _ _ hS
      replace hH := gq _ _ hH
      generalize upd H' q (.tup [.str s, .str (sgn cc)]) = H3 at *
      rcases stepsV_val (a := s) (b := sgn cc) (hG.grow g4) with ⟨e1, e2⟩ | ⟨o, t, u, e1, e2, hu⟩
      · refine ⟨d, none, rfl, .inr ⟨_, _, q, .inl (g4 _ _ hd), rfl, hqe, e2.symm⟩, ?_⟩
        refine ⟨_, rfl, if_yes ?_⟩
        (try dsimp only [gName, tNext, List.set_cons_zero, List.set_cons_succ])
        refine st_ret ?_
        (refine evE ?P124 (fun Q h => ?h124) ?_; (case h124 => (simp only [tTest, tOp, tUn, tVar, tC, tCB, tCons, tNil, tAnd, tOr, tNot, tB, tTup, tLst, tIf, tAndV, tOrV, tNotV, tSl, tPart, tNoPart, tCall, iIx_ref, oGt_int, oMod_int, oFdiv_int, oAdd_int, oAdd_str, oSub_int, oMul_int, oLt_int, oGe_int, oLe_int, oPow_int, uNeg_int, oEq_int, oEq_str, oEq_bl, oNe_int, oNe_str, oNe_bl, cInt_int, cInt_bl, cAbs_int, cLen_ref, cList_ref, stL_ref, gName, gSub, gTup, gCons, gNil, rdSeq, List.getElem?_cons_zero, List.getElem?_cons_succ, List.set_cons_zero, List.set_cons_succ, List.cons_append, List.nil_append, Option.some.injEq, exists_eq_left', V.bl.injEq, V.int.injEq, V.ref.injEq, atI_0, atI_1, atI_2, setI_1, setI_2, Bool.not_true, Bool.not_false, Bool.false_eq_true, if_false, if_true]; exact h)); (try dsimp only [gName, tNext, List.set_cons_zero, List.set_cons_succ]))
        refine k2 (fun y z => ?_) _ g4
        unfold outOf at z
        rw [ho] at z
        have z : (match (match stepOf ss s (sgn cc) with | none => Sum.inl (i, s) | some (o, t) => goL ss t (ws ++ [o]) (i + 1) (x.cps.toList.drop (i + 1))) with | .inl (n, s) => Out.step n s | .inr (s, ws) => match tailOf ts s with | none => Out.tail s | some t => .ok (Txt.join ("" : Str) (ws ++ [t]))) = .ok y := z
        rw [e1] at z
        cases z
      · refine ⟨d, some (.ref u), rfl, .inr ⟨_, _, q, .inl (g4 _ _ hd), rfl, hqe, e2.symm⟩, ?_⟩
        refine ⟨_, rfl, if_no ?_⟩
        have lo : o.length ≤ 4 := answer_len (gd.kss _ (stepOf_mem e1)).2.2.1
        have ho3 : goL ss st [] 0 x.cps.toList = goL ss t (ws ++ [o]) (i + 1) (x.cps.toList.drop (i + 1)) := by
          rw [ho]
          show (match stepOf ss s (sgn cc) with | none => Sum.inl (i, s) | some (o, t) => goL ss t (ws ++ [o]) (i + 1) (x.cps.toList.drop (i + 1))) = _
          rw [e1]
        (try dsimp only [gName, tNext, List.set_cons_zero, List.set_cons_succ])
        show t_law_run_5 K A _ _ _
        refine st_seq (st_asg ?_)
        (refine evE ?P125 (fun Q h => ?h125) ?_; (case h125 => (simp only [tTest, tOp, tUn, tVar, tC, tCB, tCons, tNil, tAnd, tOr, tNot, tB, tTup, tLst, tIf, tAndV, tOrV, tNotV, tSl, tPart, tNoPart, tCall, iIx_ref, oGt_int, oMod_int, oFdiv_int, oAdd_int, oAdd_str, oSub_int, oMul_int, oLt_int, oGe_int, oLe_int, oPow_int, uNeg_int, oEq_int, oEq_str, oEq_bl, oNe_int, oNe_str, oNe_bl, cInt_int, cInt_bl, cAbs_int, cLen_ref, cList_ref, stL_ref, gName, gSub, gTup, gCons, gNil, rdSeq, List.getElem?_cons_zero, List.getElem?_cons_succ, List.set_cons_zero, List.set_cons_succ, List.cons_append, List.nil_append, Option.some.injEq, exists_eq_left', V.bl.injEq, V.int.injEq, V.ref.injEq, atI_0, atI_1, atI_2, setI_1, setI_2, Bool.not_true, Bool.not_false, Bool.false_eq_true, if_false, if_true, tDGet]; exact h)); (try dsimp only [gName, tNext, List.set_cons_zero, List.set_cons_succ]))
        refine ixE (.l hS) list_end ?_
        refine ⟨by show 2 ≤ sizeLine; decide, fun q2 hq2 => ?_⟩
        have gq2 := Grow.new (o := .tup [.str s, .str (sgn cc)]) hq2
        have hqe2 : upd H3 q2 (.tup [.str s, .str (sgn cc)]) q2 = some (.tup ([.inr s, .inr (sgn cc)].map kV)) := upd_same
        refine ⟨d, .ref u, rfl, .inr ⟨_, _, q2, .inl (gq2 _ _ (g4 _ _ hd)), rfl, hqe2, e2.symm⟩, ?_⟩
        refine ⟨u, _, rfl, SqT.of (gq2 _ _ hu), rfl, ?_⟩
        refine ⟨_, _, rfl, ?_⟩
        refine ⟨_, _, rfl, ?_⟩
        refine ⟨rfl, ?_⟩
        (try dsimp only [gName, tNext, List.set_cons_zero, List.set_cons_succ])
        replace hS := gq2 _ _ hS
        replace hH := gq2 _ _ hH
        have g5 := g4.trans gq2
        generalize upd H3 q2 (.tup [.str s, .str (sgn cc)]) = H4 at *
        clear gq hq hqe hu gq2 hq2 hqe2 g4 H3
        show t_law_run_6 K A _ _ _
        refine st_seq ?_
        unfold tPar
        (refine evA ?P126 (fun Q h => ?h126) ?_; (case h126 => (simp only [tTest, tOp, tUn, tVar, tC, tCB, tCons, tNil, tAnd, tOr, tNot, tB, tTup, tLst, tIf, tAndV, tOrV, tNotV, tSl, tPart, tNoPart, tCall, iIx_ref, oGt_int, oMod_int, oFdiv_int, oAdd_int, oAdd_str, oSub_int, oMul_int, oLt_int, oGe_int, oLe_int, oPow_int, uNeg_int, oEq_int, oEq_str, oEq_bl, oNe_int, oNe_str, oNe_bl, cInt_int, cInt_bl, cAbs_int, cLen_ref, cList_ref, stL_ref, gName, gSub, gTup, gCons, gNil, rdSeq, List.getElem?_cons_zero, List.getElem?_cons_succ, List.set_cons_zero, List.set_cons_succ, List.cons_append, List.nil_append, Option.some.injEq, exists_eq_left', V.bl.injEq, V.int.injEq, V.ref.injEq, atI_0, atI_1, atI_2, setI_1, setI_2, Bool.not_true, Bool.not_false, Bool.false_eq_true, if_false, if_true, cLen_str]; exact h)); (try dsimp only [gName, tNext, List.set_cons_zero, List.set_cons_succ]))
        refine ⟨by show 1 ≤ sizeLine; decide, fun b1 hb1 => ?_⟩
        have gb1 := Grow.new (o := .lst [.str t]) hb1
        refine catE (gb1 _ _ hS) upd_same (by rw [List.length_map, List.length_append]; simp only [List.length_cons, List.length_nil]; omega) fun L1 H6 g6 hL1 => ?_
        replace hH := g6 _ _ (gb1 _ _ hH)
        refine ixE (.l hH) list_endI ?_
        refine ⟨by omega, ?_⟩
        simp only [tTest, tOp, tUn, tVar, tC, tCB, tCons, tNil, tAnd, tOr, tNot, tB, tTup, tLst, tIf, tAndV, tOrV, tNotV, tSl, tPart, tNoPart, tCall, iIx_ref, oGt_int, oMod_int, oFdiv_int, oAdd_int, oAdd_str, oSub_int, oMul_int, oLt_int, oGe_int, oLe_int, oPow_int, uNeg_int, oEq_int, oEq_str, oEq_bl, oNe_int, oNe_str, oNe_bl, cInt_int, cInt_bl, cAbs_int, cLen_ref, cList_ref, stL_ref, gName, gSub, gTup, gCons, gNil, rdSeq, List.getElem?_cons_zero, List.getElem?_cons_succ, List.set_cons_zero, List.set_cons_succ, List.cons_append, List.nil_append, Option.some.injEq, exists_eq_left', V.bl.injEq, V.int.injEq, V.ref.injEq, atI_0, atI_1, atI_2, setI_1, setI_2, Bool.not_true, Bool.not_false, Bool.false_eq_true, if_false, if_true]
        refine ⟨by show 1 ≤ sizeLine; decide, fun b2 hb2 => ?_⟩
        have gb2 := Grow.new (o := .lst [.int (h + (o.length : Int) - 1)]) hb2
        refine catE (gb2 _ _ hH) upd_same (by rw [List.length_map, List.length_append]; simp only [List.length_cons, List.length_nil]; omega) fun L2 H7 g7 hL2 => ?_
        replace hL1 := g7 _ _ (gb2 _ _ hL1)
        have g8 := g5.trans (gb1.trans (g6.trans (gb2.trans g7)))
        refine ⟨_, _, rfl, ?_⟩
        (try dsimp only [gName, tNext, List.set_cons_zero, List.set_cons_succ])
        show t_law_run_7 K A _ _ _
        refine st_asg ?_
        (refine evE ?P127 (fun Q h => ?h127) ?_; (case h127 => (simp only [tTest, tOp, tUn, tVar, tC, tCB, tCons, tNil, tAnd, tOr, tNot, tB, tTup, tLst, tIf, tAndV, tOrV, tNotV, tSl, tPart, tNoPart, tCall, iIx_ref, oGt_int, oMod_int, oFdiv_int, oAdd_int, oAdd_str, oSub_int, oMul_int, oLt_int, oGe_int, oLe_int, oPow_int, uNeg_int, oEq_int, oEq_str, oEq_bl, oNe_int, oNe_str, oNe_bl, cInt_int, cInt_bl, cAbs_int, cLen_ref, cList_ref, stL_ref, gName, gSub, gTup, gCons, gNil, rdSeq, List.getElem?_cons_zero, List.getElem?_cons_succ, List.set_cons_zero, List.set_cons_succ, List.cons_append, List.nil_append, Option.some.injEq, exists_eq_left', V.bl.injEq, V.int.injEq, V.ref.injEq, atI_0, atI_1, atI_2, setI_1, setI_2, Bool.not_true, Bool.not_false, Bool.false_eq_true, if_false, if_true]; exact h)); (try dsimp only [gName, tNext, List.set_cons_zero, List.set_cons_succ]))
        refine ⟨by omega, ?_⟩
        (try dsimp only [gName, tNext, List.set_cons_zero, List.set_cons_succ])
        refine ⟨g8, t, S ++ [s], h + (o.length : Int) - 1, Hs ++ [h], w ++ o, ws ++ [o], L1, L2, _, _, _, rfl, by rw [hL1]; simp, by rw [hL2]; simp, by rw [List.length_append]; simp only [List.length_cons, List.length_nil]; omega, by rw [List.length_append]; simp only [List.length_cons, List.length_nil]; omega, ?_, ?_, ho3⟩
        · have : (w ++ o).length = w.length + o.length := by
            show (w.cps ++ o.cps).size = _
            rw [Array.size_append]
            rfl
          omega
        · rw [app_cps, ew, List.map_append, List.flatten_append]
          simp
  · exact h.elim

end HG

namespace HG
open PySem L2
/-! ### whether an array keeps a text -/
/-- what is written behind i letters -/
def Wr (p : List (Str × Str)) (i : Nat) : Nat := ((p.take i).map (fun a => a.1.length)).sum
theorem Wr_zero (p : List (Str × Str)) : Wr p 0 = 0 := rfl
theorem Wr_cons (a : Str × Str) (p : List (Str × Str)) (i : Nat) : Wr (a :: p) (i + 1) = a.1.length + Wr p i := by
  unfold Wr
  rw [List.take_succ_cons, List.map_cons, List.sum_cons]
theorem Wr_succ {p : List (Str × Str)} {i : Nat} {a : Str × Str} (h : p[i]? = some a) : Wr p (i + 1) = Wr p i + a.1.length := by
  unfold Wr
  rw [List.take_succ, h]
  simp
theorem Wr_mono {p : List (Str × Str)} : ∀ {i j : Nat}, i ≤ j → Wr p i ≤ Wr p j := fun {i j} h => by
  induction h with
  | refl => exact Nat.le_refl _
  | @step m _ ih =>
    refine Nat.le_trans ih ?_
    cases e : p[m]? with
    | none =>
      have : p.length ≤ m := List.getElem?_eq_none_iff.mp e
      unfold Wr
      rw [List.take_of_length_le this, List.take_of_length_le (by omega)]
      exact Nat.le_refl _
    | some a => rw [Wr_succ e]; omega
theorem Wr_le {p : List (Str × Str)} (h : ∀ a ∈ p, a.1.length ≤ 4) : ∀ i, Wr p i ≤ 4 * i
  | 0 => Nat.le_refl _
  | i + 1 => by
    have ih := Wr_le h i
    cases e : p[i]? with
    | none =>
      have : p.length ≤ i := List.getElem?_eq_none_iff.mp e
      have e2 : Wr p (i + 1) = Wr p i := by
        unfold Wr
        rw [List.take_of_length_le this, List.take_of_length_le (by omega)]
      omega
    | some a =>
      rw [Wr_succ e]
      have := h a (List.mem_of_getElem? e)
      omega
theorem hts_drop : ∀ (p : List (Str × Str)) (h : Int), (hts h p).dropLast = (List.range p.length).map fun i => h + (Wr p i : Int) - i
  | [], h => rfl
  | a :: r, h => by
    have ne : hts (h + ((a.1.length : Int) - 1)) r ≠ [] := by
      intro z
      have := hts_len r (h + ((a.1.length : Int) - 1))
      rw [z] at this
      cases this
    show (h :: hts (h + ((a.1.length : Int) - 1)) r).dropLast = _
    rw [List.dropLast_cons_of_ne_nil ne, hts_drop r, List.length_cons, List.range_succ_eq_map, List.map_cons, List.map_map]
    congr 1
    · rw [Wr_zero]; simp
    · refine List.map_congr_left fun i _ => ?_
      show h + ((a.1.length : Int) - 1) + (Wr r i : Int) - i = h + (Wr (a :: r) (i + 1) : Int) - ((i + 1 : Nat) : Int)
      rw [Wr_cons]
      omega
theorem arr_le {n : Nat} {p : List (Str × Str)} {y : Str} {c : Int} : arrOf n p y ≤ c ↔ (y.length : Int) ≤ c ∧ (n : Int) ≤ c ∧ ∀ i, i < p.length → (Wr p i : Int) - i ≤ c - n := by
  unfold arrOf
  rw [maxI_le]
  have e : (n : Int) + gapOf p ≤ c ↔ (n : Int) ≤ c ∧ ∀ i, i < p.length → (Wr p i : Int) - i ≤ c - n := by
    have : (n : Int) + gapOf p ≤ c ↔ gapOf p ≤ c - n := by omega
    rw [this]
    unfold gapOf
    rw [maxI_le, hts_drop]
    constructor
    · intro ⟨h1, h2⟩
      refine ⟨by omega, fun i hi => ?_⟩
      have := h2 (0 + (Wr p i : Int) - i) (List.mem_map.mpr ⟨i, List.mem_range.mpr hi, rfl⟩)
      omega
    · intro ⟨h1, h2⟩
      refine ⟨by omega, fun v hv => ?_⟩
      obtain ⟨i, hi, rfl⟩ := List.mem_map.mp hv
      have := h2 i (List.mem_range.mp hi)
      omega
  constructor
  · intro ⟨h1, h2⟩
    have := e.mp (h2 _ (List.mem_singleton.mpr rfl))
    exact ⟨h1, this⟩
  · intro ⟨h1, h2⟩
    refine ⟨h1, fun v hv => ?_⟩
    rw [List.mem_singleton.mp hv]
    exact e.mpr h2
theorem path_small {ss : List Step} (h : ∀ s ∈ ss, okStep s) : ∀ (l : List Nat) (s : Str), ∀ a ∈ path ss s l, a.1.length ≤ 4
  | [], s, a, ha => by cases ha
  | c :: r, s, a, ha => by
    cases e : stepOf ss s (sgn c) with
    | none => rw [path_none e] at ha; cases ha
    | some p =>
      rw [path_some (o := p.1) (t := p.2) e] at ha
      rcases List.mem_cons.mp ha with z | z
      · rw [z]; exact answer_len (h _ (stepOf_mem (o := p.1) (t := p.2) e)).2.2.1
      · exact path_small h r p.2 a z
theorem ok_len {st y x : Str} {ss : List Step} {ts : List (Str × Str)} (h : outOf st ss ts x = .ok y) : ∃ t, tailOf ts (lastS st (path ss st x.cps.toList)) = some t ∧ y.length = Wr (path ss st x.cps.toList) x.cps.size + t.length := by
  obtain ⟨h1, t, h2, h3⟩ := ok_path h
  refine ⟨t, h2, ?_⟩
  have := congrArg List.length h3
  rw [show y.cps.toList.length = y.length from Array.length_toList, List.length_append, show t.cps.toList.length = t.length from Array.length_toList, List.length_flatten, List.map_map] at this
  have e : Wr (path ss st x.cps.toList) x.cps.size = ((path ss st x.cps.toList).map (List.length ∘ fun a : Str × Str => a.1.cps.toList)).sum := by
    unfold Wr
    rw [List.take_of_length_le (by omega)]
    exact congrArg List.sum (List.map_congr_left fun a _ => Array.length_toList.symm)
  rw [e]
  exact this
/-- what a plan has, and a text that it takes -/
def Kept (H : Hp) (r : Addr) (st : Str) (ss : List Step) (ts : List (Str × Str)) (x y : Str) : Prop := PlanAt H r st ss ts ∧ Good st ss ts ∧ x.cps.size ≤ 400 ∧ outOf st ss ts x = .ok y
def sp_law_is_kept (K : PySem.W.Frag) (A : Ad) : Sp := fun vs H Q _ => match vs with
  | [.ref r, .str x, .int c] => ∃ st ss ts y, Kept H r st ss ts x y ∧ ∀ H', Grow H H' → Q (.bl (decide (arrOf x.length (path ss st x.cps.toList) y ≤ c))) H'
  | _ => False
def sp_law_array (K : PySem.W.Frag) (A : Ad) : Sp := fun vs H Q _ => match vs with
  | [.ref r, .str x] => ∃ st ss ts y, Kept H r st ss ts x y ∧ ∀ H', Grow H H' → Q (.int (arrOf x.length (path ss st x.cps.toList) y)) H'
  | _ => False
def t_law_is_kept_3 (K : PySem.W.Frag) (A : Ad) : TS := (tRet (tC (.bl false)))
def t_law_is_kept_8 (K : PySem.W.Frag) (A : Ad) : TS := (tRet (tC (.bl false)))
def t_law_is_kept_9 (K : PySem.W.Frag) (A : Ad) : TS := (tAsg (tOp oAdd (tVar 7) (tC (.int 1))) (gName 7))
def t_law_is_kept_7 (K : PySem.W.Frag) (A : Ad) : TS := (tSeq (tIfS (tOr (tTest (tOp oGe (tVar 7) (tVar 2))) (tTest (tChain oLt oLt (tOp oAdd (tVar 6) (tVar 9)) (tVar 7) (tVar 2)))) (t_law_is_kept_8 K A) tNext) (t_law_is_kept_9 K A))
def t_law_is_kept_6 (K : PySem.W.Frag) (A : Ad) : TS := (tFor (iStr (tVar 10)) (gName 11)
    (t_law_is_kept_7 K A))
def t_law_is_kept_5 (K : PySem.W.Frag) (A : Ad) : TS := (tSeq (tAsg (tDGet (tVar 4) (tTup (tCons (tVar 8) (tCons (tOp rIxS (tVar 1) (tVar 9)) tNil)))) (gTup K 2 (gCons (gName 10) (gCons (gName 8) gNil)))) (t_law_is_kept_6 K A))
def t_law_is_kept_10 (K : PySem.W.Frag) (A : Ad) : TS := (tRet (tOp oLe (tOp oAdd (tVar 7) (tCB (cLen K) (tCons (tDGet (tVar 5) (tVar 8)) tNil))) (tVar 2)))
def t_law_is_kept_4 (K : PySem.W.Frag) (A : Ad) : TS := (tSeq (tFor (iRng1 (tCons (tCB (cLen K) (tCons (tVar 1) tNil)) tNil)) (gName 9)
    (t_law_is_kept_5 K A)) (t_law_is_kept_10 K A))
def t_law_is_kept_2 (K : PySem.W.Frag) (A : Ad) : TS := (tSeq (tIfS (tTest (tOp oLt (tVar 6) (tC (.int 0)))) (t_law_is_kept_3 K A) tNext) (t_law_is_kept_4 K A))
def t_law_is_kept_1 (K : PySem.W.Frag) (A : Ad) : TS := (tSeq (tPar3 6 7 8 (tCons (tOp oSub (tVar 2) (tCB (cLen K) (tCons (tVar 1) tNil))) (tCons (tC (.int 0)) (tCons (tVar 3) tNil)))) (t_law_is_kept_2 K A))
def t_law_is_kept_0 (K : PySem.W.Frag) (A : Ad) : TS := (tSeq (tAsg (tVar 0) (gTup K 3 (gCons (gName 3) (gCons (gName 4) (gCons (gName 5) gNil))))) (t_law_is_kept_1 K A))

def t_law_array_2 (K : PySem.W.Frag) (A : Ad) : TS := (tRet (tVar 2))
def t_law_array_1 (K : PySem.W.Frag) (A : Ad) : TS := (tIfS (tB (tCall (sp_law_is_kept K A) [] E0 (tCons (tVar 0) (tCons (tVar 1) (tCons (tVar 2) tNil))))) (t_law_array_2 K A) tNext)
def t_law_array_3 (K : PySem.W.Frag) (A : Ad) : TS := (tRet (tC .non))
def t_law_array_0 (K : PySem.W.Frag) (A : Ad) : TS := (tSeq (tFor (iRng2 (tCons (tCB (cLen K) (tCons (tVar 1) tNil)) (tCons (tOp oAdd (tOp oMul (tC (.int 9)) (tCB (cLen K) (tCons (tVar 1) tNil))) (tC (.int 9))) tNil))) (gName 2)
    (t_law_array_1 K A)) (t_law_array_3 K A))

theorem pure_law_is_kept {K : PySem.W.Frag} {A : Ad} {vs : List V} {H : Hp} {Q : VK} {E : XK} (h : sp_law_is_kept K A vs H Q E) : (t_law_is_kept_0 K A) { nx := fun _ H' => Q .non H', rt := Q } (start ["_law_plan_here", "_law_text", "_law_cells", "_law_start", "_law_steps_here", "_law_tails", "_law_ahead", "_law_writer", "_law_state", "_law_at", "_law_answer", "_law_letter"] vs) H := by
  unfold sp_law_is_kept at h
  split at h
  · rename_i r x c
    obtain ⟨st, ss, ts, y, ⟨⟨d, e, gs, hr, hd, hG, he⟩, gd, hx, ho⟩, k⟩ := h
    have hsz : sizeLine = 16777216 := rfl
    have hxl : x.length = x.cps.size := rfl
    obtain ⟨hp, -⟩ := ok_path ho
    obtain ⟨tl, htl, hyl⟩ := ok_len ho
    have pe : path ss st x.cps.toList = (path ss st x.cps.toList).drop 0 := rfl
    have hlast : lastS st (path ss st x.cps.toList) = lastS st ((path ss st x.cps.toList).drop 0) := rfl
    have psm := path_small gd.kss x.cps.toList st
    revert k hyl htl hp psm
    generalize hP : path ss st x.cps.toList = P
    intro k hp htl hyl psm
    have key : ∀ b : Bool, (b = true ↔ (y.length : Int) ≤ c ∧ (x.length : Int) ≤ c ∧ ∀ i, i < P.length → (Wr P i : Int) - i ≤ c - x.length) → ∀ H', Grow H H' → Q (.bl b) H' := fun b hb H' g => by
      have := k H' g
      have e : b = decide (arrOf x.length P y ≤ c) := by
        by_cases z : arrOf x.length P y ≤ c
        · rw [decide_eq_true z]; exact hb.mpr (arr_le.mp z)
        · rw [decide_eq_false z]
          cases b with
          | false => rfl
          | true => exact absurd (arr_le.mpr (hb.mp rfl)) z
      rw [e]
      exact this
    clear k
    show (t_law_is_kept_0 K A) _ [some (.ref r), some (.str x), some (.int c), none, none, none, none, none, none, none, none, none] H
    refine st_seq (st_asg ?_)
    (refine evE ?P129 (fun Q h => ?h129) ?_; (case h129 => (simp only [tTest, tOp, tUn, tVar, tC, tCB, tCons, tNil, tAnd, tOr, tNot, tB, tTup, tLst, tIf, tAndV, tOrV, tNotV, tSl, tPart, tNoPart, tCall, iIx_ref, oGt_int, oMod_int, oFdiv_int, oAdd_int, oAdd_str, oSub_int, oMul_int, oLt_int, oGe_int, oLe_int, oPow_int, uNeg_int, oEq_int, oEq_str, oEq_bl, oNe_int, oNe_str, oNe_bl, cInt_int, cInt_bl, cAbs_int, cLen_ref, cList_ref, stL_ref, gName, gSub, gTup, gCons, gNil, rdSeq, List.getElem?_cons_zero, List.getElem?_cons_succ, List.set_cons_zero, List.set_cons_succ, List.cons_append, List.nil_append, Option.some.injEq, exists_eq_left', V.bl.injEq, V.int.injEq, V.ref.injEq, atI_0, atI_1, atI_2, setI_1, setI_2, Bool.not_true, Bool.not_false, Bool.false_eq_true, if_false, if_true]; exact h)); (try dsimp only [gName, tNext, List.set_cons_zero, List.set_cons_succ]))
    refine ⟨r, _, rfl, SqT.of hr, rfl, ?_⟩
    refine ⟨_, _, rfl, ?_⟩
    refine ⟨_, _, rfl, ?_⟩
    refine ⟨_, _, rfl, ?_⟩
    refine ⟨rfl, ?_⟩
    (try dsimp only [gName, tNext, List.set_cons_zero, List.set_cons_succ])
    show t_law_is_kept_1 K A _ _ _
    refine st_seq ?_
    unfold tPar3
    (refine evA ?P130 (fun Q h => ?h130) ?_; (case h130 => (simp only [tTest, tOp, tUn, tVar, tC, tCB, tCons, tNil, tAnd, tOr, tNot, tB, tTup, tLst, tIf, tAndV, tOrV, tNotV, tSl, tPart, tNoPart, tCall, iIx_ref, oGt_int, oMod_int, oFdiv_int, oAdd_int, oAdd_str, oSub_int, oMul_int, oLt_int, oGe_int, oLe_int, oPow_int, uNeg_int, oEq_int, oEq_str, oEq_bl, oNe_int, oNe_str, oNe_bl, cInt_int, cInt_bl, cAbs_int, cLen_ref, cList_ref, stL_ref, gName, gSub, gTup, gCons, gNil, rdSeq, List.getElem?_cons_zero, List.getElem?_cons_succ, List.set_cons_zero, List.set_cons_succ, List.cons_append, List.nil_append, Option.some.injEq, exists_eq_left', V.bl.injEq, V.int.injEq, V.ref.injEq, atI_0, atI_1, atI_2, setI_1, setI_2, Bool.not_true, Bool.not_false, Bool.false_eq_true, if_false, if_true, cLen_str]; exact h)); (try dsimp only [gName, tNext, List.set_cons_zero, List.set_cons_succ]))
    refine ⟨by omega, ?_⟩
    refine ⟨_, _, _, rfl, ?_⟩
    (try dsimp only [gName, tNext, List.set_cons_zero, List.set_cons_succ])
    show t_law_is_kept_2 K A _ _ _
    refine st_seq (st_if ?_)
    (refine evT ?P131 (fun Q h => ?h131) ?_; (case h131 => (simp only [tTest, tOp, tUn, tVar, tC, tCB, tCons, tNil, tAnd, tOr, tNot, tB, tTup, tLst, tIf, tAndV, tOrV, tNotV, tSl, tPart, tNoPart, tCall, iIx_ref, oGt_int, oMod_int, oFdiv_int, oAdd_int, oAdd_str, oSub_int, oMul_int, oLt_int, oGe_int, oLe_int, oPow_int, uNeg_int, oEq_int, oEq_str, oEq_bl, oNe_int, oNe_str, oNe_bl, cInt_int, cInt_bl, cAbs_int, cLen_ref, cList_ref, stL_ref, gName, gSub, gTup, gCons, gNil, rdSeq, List.getElem?_cons_zero, List.getElem?_cons_succ, List.set_cons_zero, List.set_cons_succ, List.cons_append, List.nil_append, Option.some.injEq, exists_eq_left', V.bl.injEq, V.int.injEq, V.ref.injEq, atI_0, atI_1, atI_2, setI_1, setI_2, Bool.not_true, Bool.not_false, Bool.false_eq_true, if_false, if_true]; exact h)); (try dsimp only [gName, tNext, List.set_cons_zero, List.set_cons_succ]))
    refine ite_dec (fun hc => ?_) (fun hc => ?_)
    · (try dsimp only [gName, tNext, List.set_cons_zero, List.set_cons_succ])
      refine st_ret ?_
      (refine evE ?P132 (fun Q h => ?h132) ?_; (case h132 => (simp only [tTest, tOp, tUn, tVar, tC, tCB, tCons, tNil, tAnd, tOr, tNot, tB, tTup, tLst, tIf, tAndV, tOrV, tNotV, tSl, tPart, tNoPart, tCall, iIx_ref, oGt_int, oMod_int, oFdiv_int, oAdd_int, oAdd_str, oSub_int, oMul_int, oLt_int, oGe_int, oLe_int, oPow_int, uNeg_int, oEq_int, oEq_str, oEq_bl, oNe_int, oNe_str, oNe_bl, cInt_int, cInt_bl, cAbs_int, cLen_ref, cList_ref, stL_ref, gName, gSub, gTup, gCons, gNil, rdSeq, List.getElem?_cons_zero, List.getElem?_cons_succ, List.set_cons_zero, List.set_cons_succ, List.cons_append, List.nil_append, Option.some.injEq, exists_eq_left', V.bl.injEq, V.int.injEq, V.ref.injEq, atI_0, atI_1, atI_2, setI_1, setI_2, Bool.not_true, Bool.not_false, Bool.false_eq_true, if_false, if_true]; exact h)); (try dsimp only [gName, tNext, List.set_cons_zero, List.set_cons_succ]))
      exact key false ⟨fun z => (Bool.noConfusion z), fun z => by omega⟩ _ .refl
    · (try dsimp only [gName, tNext, List.set_cons_zero, List.set_cons_succ])
      show t_law_is_kept_4 K A _ _ _
      refine st_seq (for_rng1 ?_)
      (refine evA ?P141 (fun Q h => ?h141) ?_; (case h141 => (simp only [tTest, tOp, tUn, tVar, tC, tCB, tCons, tNil, tAnd, tOr, tNot, tB, tTup, tLst, tIf, tAndV, tOrV, tNotV, tSl, tPart, tNoPart, tCall, iIx_ref, oGt_int, oMod_int, oFdiv_int, oAdd_int, oAdd_str, oSub_int, oMul_int, oLt_int, oGe_int, oLe_int, oPow_int, uNeg_int, oEq_int, oEq_str, oEq_bl, oNe_int, oNe_str, oNe_bl, cInt_int, cInt_bl, cAbs_int, cLen_ref, cList_ref, stL_ref, gName, gSub, gTup, gCons, gNil, rdSeq, List.getElem?_cons_zero, List.getElem?_cons_succ, List.set_cons_zero, List.set_cons_succ, List.cons_append, List.nil_append, Option.some.injEq, exists_eq_left', V.bl.injEq, V.int.injEq, V.ref.injEq, atI_0, atI_1, atI_2, setI_1, setI_2, Bool.not_true, Bool.not_false, Bool.false_eq_true, if_false, if_true, cLen_str]; exact h)))
      refine ⟨by omega, _, rfl, by omega, by omega, ?_⟩
      refine for_itr (fun i σ H' => i ≤ x.cps.size ∧ Grow H H' ∧ ∃ s y9 y10 y11, σ = [some (.ref r), some (.str x), some (.int c), some (.str st), some (.ref d), some (.ref e), some (.int (c - (x.length : Int))), some (.int (Wr P i)), some (.str s), y9, y10, y11] ∧ (∀ j, j ≤ i → (Wr P j : Int) - j ≤ c - x.length) ∧ path ss s (x.cps.toList.drop i) = P.drop i ∧ lastS s (P.drop i) = lastS st P) ?_ (fun σ H' w => ?_) (fun i σ H' hi w => ?_)
      · exact ⟨Nat.zero_le _, .refl, st, none, none, none, rfl, fun j hj => by rw [Nat.le_zero.mp hj, Wr_zero]; omega, hP, rfl⟩
      · obtain ⟨_, g, s, y9, y10, y11, rfl, hh, hq, hl⟩ := w
        have en : ((x.length : Nat) : Int).toNat = x.cps.size := by omega
        rw [en] at hh hq hl ⊢
        rw [List.drop_of_length_le (by omega)] at hl
        have hl : s = lastS st P := hl
        rw [← hl] at htl
        have ev := tailsV_val (s := s) ts
        rw [htl] at ev
        have ht : tl.length ≤ 4 := answer_len (gd.kts _ (tailOf_mem htl)).2
        show t_law_is_kept_10 K A _ _ _
        refine st_ret ?_
        (refine evE ?P133 (fun Q h => ?h133) ?_; (case h133 => (simp only [tTest, tOp, tUn, tVar, tC, tCB, tCons, tNil, tAnd, tOr, tNot, tB, tTup, tLst, tIf, tAndV, tOrV, tNotV, tSl, tPart, tNoPart, tCall, iIx_ref, oGt_int, oMod_int, oFdiv_int, oAdd_int, oAdd_str, oSub_int, oMul_int, oLt_int, oGe_int, oLe_int, oPow_int, uNeg_int, oEq_int, oEq_str, oEq_bl, oNe_int, oNe_str, oNe_bl, cInt_int, cInt_bl, cAbs_int, cLen_ref, cList_ref, stL_ref, gName, gSub, gTup, gCons, gNil, rdSeq, List.getElem?_cons_zero, List.getElem?_cons_succ, List.set_cons_zero, List.set_cons_succ, List.cons_append, List.nil_append, Option.some.injEq, exists_eq_left', V.bl.injEq, V.int.injEq, V.ref.injEq, atI_0, atI_1, atI_2, setI_1, setI_2, Bool.not_true, Bool.not_false, Bool.false_eq_true, if_false, if_true, tDGet]; exact h)); (try dsimp only [gName, tNext, List.set_cons_zero, List.set_cons_succ]))
        refine ⟨e, .str tl, rfl, .inl ⟨_, .inr s, .inl (g _ _ he), rfl, ev.symm⟩, ?_⟩
        simp only [tTest, tOp, tUn, tVar, tC, tCB, tCons, tNil, tAnd, tOr, tNot, tB, tTup, tLst, tIf, tAndV, tOrV, tNotV, tSl, tPart, tNoPart, tCall, iIx_ref, oGt_int, oMod_int, oFdiv_int, oAdd_int, oAdd_str, oSub_int, oMul_int, oLt_int, oGe_int, oLe_int, oPow_int, uNeg_int, oEq_int, oEq_str, oEq_bl, oNe_int, oNe_str, oNe_bl, cInt_int, cInt_bl, cAbs_int, cLen_ref, cList_ref, stL_ref, gName, gSub, gTup, gCons, gNil, rdSeq, List.getElem?_cons_zero, List.getElem?_cons_succ, List.set_cons_zero, List.set_cons_succ, List.cons_append, List.nil_append, Option.some.injEq, exists_eq_left', V.bl.injEq, V.int.injEq, V.ref.injEq, atI_0, atI_1, atI_2, setI_1, setI_2, Bool.not_true, Bool.not_false, Bool.false_eq_true, if_false, if_true, cLen_str]
        refine ⟨by omega, ?_⟩
        refine key _ ?_ _ g
        rw [decide_eq_true_iff]
        constructor
        · intro z
          exact ⟨by omega, by omega, fun j hj => hh j (by omega)⟩
        · intro ⟨z, _⟩
          omega
      · obtain ⟨hix, g, s, y9, y10, y11, rfl, hh, hq, hl⟩ := w
        have hi' : i < x.cps.size := by omega
        rw [drop_next hi'] at hq
        have hat : x.cps.toList[i]? = some (x.cps.getD i 0) := by
          rw [Array.getElem?_toList, Array.getElem?_eq_getElem hi', Array.getD_eq_getD_getElem?, Array.getElem?_eq_getElem hi']
          rfl
        generalize x.cps.getD i 0 = cc at *
        have hpl : i < P.length := by omega
        (try dsimp only [gName, tNext, List.set_cons_zero, List.set_cons_succ])
        show t_law_is_kept_5 K A _ _ _
        refine st_seq (st_asg ?_)
        (refine evE ?P134 (fun Q h => ?h134) ?_; (case h134 => (simp only [tTest, tOp, tUn, tVar, tC, tCB, tCons, tNil, tAnd, tOr, tNot, tB, tTup, tLst, tIf, tAndV, tOrV, tNotV, tSl, tPart, tNoPart, tCall, iIx_ref, oGt_int, oMod_int, oFdiv_int, oAdd_int, oAdd_str, oSub_int, oMul_int, oLt_int, oGe_int, oLe_int, oPow_int, uNeg_int, oEq_int, oEq_str, oEq_bl, oNe_int, oNe_str, oNe_bl, cInt_int, cInt_bl, cAbs_int, cLen_ref, cList_ref, stL_ref, gName, gSub, gTup, gCons, gNil, rdSeq, List.getElem?_cons_zero, List.getElem?_cons_succ, List.set_cons_zero, List.set_cons_succ, List.cons_append, List.nil_append, Option.some.injEq, exists_eq_left', V.bl.injEq, V.int.injEq, V.ref.injEq, atI_0, atI_1, atI_2, setI_1, setI_2, Bool.not_true, Bool.not_false, Bool.false_eq_true, if_false, if_true, tDGet]; exact h)); (try dsimp only [gName, tNext, List.set_cons_zero, List.set_cons_succ]))
        have hat2 : atI x.cps.toList (0 + (i : Int)) = some cc := by rw [show (0 + (i : Int)) = ((i : Nat) : Int) from by omega]; exact atI_nat hat
        refine ⟨x, _, cc, rfl, rfl, by omega, hat2, ?_⟩
        refine ⟨by show 2 ≤ sizeLine; decide, fun q hq2 => ?_⟩
        have gq := Grow.new (o := .tup [.str s, .str (sgn cc)]) hq2
        have hqe : upd H' q (.tup [.str s, .str (sgn cc)]) q = some (.tup ([.inr s, .inr (sgn cc)].map kV)) := upd_same
        have g4 := g.trans gq
        generalize upd H' q (.tup [.str s, .str (sgn cc)]) = H3 at *
        rcases stepsV_val (a := s) (b := sgn cc) (hG.grow g4) with ⟨e1, e2⟩ | ⟨o, t, u, e1, e2, hu⟩
        · rw [path_none e1] at hq
          have := congrArg List.length hq
          rw [List.length_drop] at this
          simp only [List.length_nil] at this
          omega
        · rw [path_some e1] at hq
          have hPi : P[i]? = some (o, t) := by
            have := congrArg (fun l => l[0]?) hq
            simpa using this.symm
          have hq' : path ss t (x.cps.toList.drop (i + 1)) = P.drop (i + 1) := by
            have := congrArg List.tail hq
            rw [List.tail_drop] at this
            exact this
          have hl' : lastS t (P.drop (i + 1)) = lastS st P := by
            rw [← hl, ← hq, lastS_cons, hq']
          have lo : o.length ≤ 4 := answer_len (gd.kss _ (stepOf_mem e1)).2.2.1
          have wsu := Wr_succ hPi
          refine ⟨d, .ref u, rfl, .inr ⟨_, _, q, .inl (g4 _ _ hd), rfl, hqe, e2.symm⟩, ?_⟩
          refine ⟨u, _, rfl, SqT.of hu, rfl, ?_⟩
          refine ⟨_, _, rfl, ?_⟩
          refine ⟨_, _, rfl, ?_⟩
          refine ⟨rfl, ?_⟩
          (try dsimp only [gName, tNext, List.set_cons_zero, List.set_cons_succ])
          show t_law_is_kept_6 K A _ _ _
          refine for_text ?_
          (refine evE ?P142 (fun Q h => ?h142) ?_; (case h142 => (simp only [tTest, tOp, tUn, tVar, tC, tCB, tCons, tNil, tAnd, tOr, tNot, tB, tTup, tLst, tIf, tAndV, tOrV, tNotV, tSl, tPart, tNoPart, tCall, iIx_ref, oGt_int, oMod_int, oFdiv_int, oAdd_int, oAdd_str, oSub_int, oMul_int, oLt_int, oGe_int, oLe_int, oPow_int, uNeg_int, oEq_int, oEq_str, oEq_bl, oNe_int, oNe_str, oNe_bl, cInt_int, cInt_bl, cAbs_int, cLen_ref, cList_ref, stL_ref, gName, gSub, gTup, gCons, gNil, rdSeq, List.getElem?_cons_zero, List.getElem?_cons_succ, List.set_cons_zero, List.set_cons_succ, List.cons_append, List.nil_append, Option.some.injEq, exists_eq_left', V.bl.injEq, V.int.injEq, V.ref.injEq, atI_0, atI_1, atI_2, setI_1, setI_2, Bool.not_true, Bool.not_false, Bool.false_eq_true, if_false, if_true]; exact h)))
          refine ⟨o, rfl, ?_⟩
          refine for_its (fun k σ H'' => Grow H H'' ∧ ∃ y11, σ = [some (.ref r), some (.str x), some (.int c), some (.str st), some (.ref d), some (.ref e), some (.int (c - (x.length : Int))), some (.int ((Wr P i + k : Nat) : Int)), some (.str t), some (.int (0 + (i : Int))), some (.str o), y11] ∧ (0 < k → ((Wr P i + k : Nat) : Int) ≤ c - x.length + i + 1)) ⟨g4, _, rfl, fun z => absurd z (by decide)⟩ (fun σ H'' w => ?_) (fun k σ H'' hk w => ?_)
          · obtain ⟨g5, y11, rfl, hw⟩ := w
            have lo2 : o.cps.size = o.length := rfl
            refine ⟨hi', g5, t, _, _, _, by rw [wsu]; rfl, fun j hj => ?_, hq', hl'⟩
            by_cases z : j ≤ i
            · exact hh j z
            · have : j = i + 1 := by omega
              subst this
              have h1 := hh i (Nat.le_refl _)
              have wsu' : Wr P (i + 1) = Wr P i + o.length := wsu
              by_cases z0 : 0 < o.length
              · have := hw z0
                omega
              · omega
          · obtain ⟨g5, y11, rfl, hw⟩ := w
            have lo2 : o.cps.size = o.length := rfl
            have wsu' : Wr P (i + 1) = Wr P i + o.length := wsu
            generalize o.cps.getD k 0 = c2 at *
            (try dsimp only [gName, tNext, List.set_cons_zero, List.set_cons_succ])
            show t_law_is_kept_7 K A _ _ _
            have bad : c - x.length + i < ((Wr P i + k : Nat) : Int) → ∀ H', Grow H H' → Q (.bl false) H' := fun z => key false ⟨fun z => Bool.noConfusion z, fun ⟨z1, z2, z3⟩ => by
              by_cases e : i + 1 < P.length
              · have := z3 (i + 1) e
                omega
              · have e3 : i + 1 = x.cps.size := by omega
                rw [e3] at wsu'
                omega⟩
            refine st_seq (st_if ?_)
            (refine evT ?P135 (fun Q h => ?h135) ?_; (case h135 => (simp only [tTest, tOp, tUn, tVar, tC, tCB, tCons, tNil, tAnd, tOr, tNot, tB, tTup, tLst, tIf, tAndV, tOrV, tNotV, tSl, tPart, tNoPart, tCall, iIx_ref, oGt_int, oMod_int, oFdiv_int, oAdd_int, oAdd_str, oSub_int, oMul_int, oLt_int, oGe_int, oLe_int, oPow_int, uNeg_int, oEq_int, oEq_str, oEq_bl, oNe_int, oNe_str, oNe_bl, cInt_int, cInt_bl, cAbs_int, cLen_ref, cList_ref, stL_ref, gName, gSub, gTup, gCons, gNil, rdSeq, List.getElem?_cons_zero, List.getElem?_cons_succ, List.set_cons_zero, List.set_cons_succ, List.cons_append, List.nil_append, Option.some.injEq, exists_eq_left', V.bl.injEq, V.int.injEq, V.ref.injEq, atI_0, atI_1, atI_2, setI_1, setI_2, Bool.not_true, Bool.not_false, Bool.false_eq_true, if_false, if_true, tChain]; exact h)); (try dsimp only [gName, tNext, List.set_cons_zero, List.set_cons_succ]))
            refine ite_dec (fun hc1 => ?_) (fun hc1 => ?_)
            · refine if_yes ?_
              (try dsimp only [gName, tNext, List.set_cons_zero, List.set_cons_succ])
              refine st_ret ?_
              (refine evE ?P136 (fun Q h => ?h136) ?_; (case h136 => (simp only [tTest, tOp, tUn, tVar, tC, tCB, tCons, tNil, tAnd, tOr, tNot, tB, tTup, tLst, tIf, tAndV, tOrV, tNotV, tSl, tPart, tNoPart, tCall, iIx_ref, oGt_int, oMod_int, oFdiv_int, oAdd_int, oAdd_str, oSub_int, oMul_int, oLt_int, oGe_int, oLe_int, oPow_int, uNeg_int, oEq_int, oEq_str, oEq_bl, oNe_int, oNe_str, oNe_bl, cInt_int, cInt_bl, cAbs_int, cLen_ref, cList_ref, stL_ref, gName, gSub, gTup, gCons, gNil, rdSeq, List.getElem?_cons_zero, List.getElem?_cons_succ, List.set_cons_zero, List.set_cons_succ, List.cons_append, List.nil_append, Option.some.injEq, exists_eq_left', V.bl.injEq, V.int.injEq, V.ref.injEq, atI_0, atI_1, atI_2, setI_1, setI_2, Bool.not_true, Bool.not_false, Bool.false_eq_true, if_false, if_true]; exact h)); (try dsimp only [gName, tNext, List.set_cons_zero, List.set_cons_succ]))
              exact bad (by omega) _ g5
            · have pass : ∀ D : Ends, D.nx [some (.ref r), some (.str x), some (.int c), some (.str st), some (.ref d), some (.ref e), some (.int (c - (x.length : Int))), some (.int ((Wr P i + (k + 1) : Nat) : Int)), some (.str t), some (.int (0 + (i : Int))), some (.str o), some (.str ⟨#[c2]⟩)] H'' → t_law_is_kept_9 K A D [some (.ref r), some (.str x), some (.int c), some (.str st), some (.ref d), some (.ref e), some (.int (c - (x.length : Int))), some (.int ((Wr P i + k : Nat) : Int)), some (.str t), some (.int (0 + (i : Int))), some (.str o), some (.str ⟨#[c2]⟩)] H'' := fun D hD => by
                refine st_asg ?_
                (refine evE ?P137 (fun Q h => ?h137) ?_; (case h137 => (simp only [tTest, tOp, tUn, tVar, tC, tCB, tCons, tNil, tAnd, tOr, tNot, tB, tTup, tLst, tIf, tAndV, tOrV, tNotV, tSl, tPart, tNoPart, tCall, iIx_ref, oGt_int, oMod_int, oFdiv_int, oAdd_int, oAdd_str, oSub_int, oMul_int, oLt_int, oGe_int, oLe_int, oPow_int, uNeg_int, oEq_int, oEq_str, oEq_bl, oNe_int, oNe_str, oNe_bl, cInt_int, cInt_bl, cAbs_int, cLen_ref, cList_ref, stL_ref, gName, gSub, gTup, gCons, gNil, rdSeq, List.getElem?_cons_zero, List.getElem?_cons_succ, List.set_cons_zero, List.set_cons_succ, List.cons_append, List.nil_append, Option.some.injEq, exists_eq_left', V.bl.injEq, V.int.injEq, V.ref.injEq, atI_0, atI_1, atI_2, setI_1, setI_2, Bool.not_true, Bool.not_false, Bool.false_eq_true, if_false, if_true]; exact h)); (try dsimp only [gName, tNext, List.set_cons_zero, List.set_cons_succ]))
                rw [show ((Wr P i + k : Nat) : Int) + 1 = ((Wr P i + (k + 1) : Nat) : Int) from by omega]
                exact hD
              refine ite_dec (fun hc2 => ?_) (fun hc2 => ?_)
              · refine ite_dec (fun hc3 => ?_) (fun hc3 => ?_)
                · (try dsimp only [gName, tNext, List.set_cons_zero, List.set_cons_succ])
                  refine st_ret ?_
                  (refine evE ?P138 (fun Q h => ?h138) ?_; (case h138 => (simp only [tTest, tOp, tUn, tVar, tC, tCB, tCons, tNil, tAnd, tOr, tNot, tB, tTup, tLst, tIf, tAndV, tOrV, tNotV, tSl, tPart, tNoPart, tCall, iIx_ref, oGt_int, oMod_int, oFdiv_int, oAdd_int, oAdd_str, oSub_int, oMul_int, oLt_int, oGe_int, oLe_int, oPow_int, uNeg_int, oEq_int, oEq_str, oEq_bl, oNe_int, oNe_str, oNe_bl, cInt_int, cInt_bl, cAbs_int, cLen_ref, cList_ref, stL_ref, gName, gSub, gTup, gCons, gNil, rdSeq, List.getElem?_cons_zero, List.getElem?_cons_succ, List.set_cons_zero, List.set_cons_succ, List.cons_append, List.nil_append, Option.some.injEq, exists_eq_left', V.bl.injEq, V.int.injEq, V.ref.injEq, atI_0, atI_1, atI_2, setI_1, setI_2, Bool.not_true, Bool.not_false, Bool.false_eq_true, if_false, if_true]; exact h)); (try dsimp only [gName, tNext, List.set_cons_zero, List.set_cons_succ]))
                  exact bad (by omega) _ g5
                · exact pass _ ⟨g5, _, rfl, fun _ => by omega⟩
              · exact pass _ ⟨g5, _, rfl, fun _ => by omega⟩
  · exact h.elim
theorem pure_law_array {K : PySem.W.Frag} {A : Ad} {vs : List V} {H : Hp} {Q : VK} {E : XK} (h : sp_law_array K A vs H Q E) : (t_law_array_0 K A) { nx := fun _ H' => Q .non H', rt := Q } (start ["_law_plan_here", "_law_text", "_law_cells"] vs) H := by
  unfold sp_law_array at h
  split at h
  · rename_i r x
    obtain ⟨st, ss, ts, y, KP, k⟩ := h
    have hsz : sizeLine = 16777216 := rfl
    have hxl : x.length = x.cps.size := rfl
    have hx := KP.2.2.1
    have gd := KP.2.1
    obtain ⟨hp, -⟩ := ok_path KP.2.2.2
    obtain ⟨tl, htl, hyl⟩ := ok_len KP.2.2.2
    have psm := path_small gd.kss x.cps.toList st
    have ht : tl.length ≤ 4 := answer_len (gd.kts _ (tailOf_mem htl)).2
    have wl := Wr_le psm
    have lo : (x.length : Int) ≤ arrOf x.length (path ss st x.cps.toList) y := (arr_le.mp (Int.le_refl _)).2.1
    have hi : arrOf x.length (path ss st x.cps.toList) y ≤ 9 * x.length + 8 := arr_le.mpr ⟨by have := wl x.cps.size; omega, by omega, fun i hi => by have := wl i; omega⟩
    generalize hA : arrOf x.length (path ss st x.cps.toList) y = a at *
    show (t_law_array_0 K A) _ [some (.ref r), some (.str x), none] H
    refine st_seq (for_rng2 ?_)
    (refine evA ?P143 (fun Q h => ?h143) ?_; (case h143 => (simp only [tTest, tOp, tUn, tVar, tC, tCB, tCons, tNil, tAnd, tOr, tNot, tB, tTup, tLst, tIf, tAndV, tOrV, tNotV, tSl, tPart, tNoPart, tCall, iIx_ref, oGt_int, oMod_int, oFdiv_int, oAdd_int, oAdd_str, oSub_int, oMul_int, oLt_int, oGe_int, oLe_int, oPow_int, uNeg_int, oEq_int, oEq_str, oEq_bl, oNe_int, oNe_str, oNe_bl, cInt_int, cInt_bl, cAbs_int, cLen_ref, cList_ref, stL_ref, gName, gSub, gTup, gCons, gNil, rdSeq, List.getElem?_cons_zero, List.getElem?_cons_succ, List.set_cons_zero, List.set_cons_succ, List.cons_append, List.nil_append, Option.some.injEq, exists_eq_left', V.bl.injEq, V.int.injEq, V.ref.injEq, atI_0, atI_1, atI_2, setI_1, setI_2, Bool.not_true, Bool.not_false, Bool.false_eq_true, if_false, if_true, cLen_str]; exact h)))
    refine ⟨by omega, by omega, mulok_left (by decide) (by decide), ?_⟩
    refine ⟨_, _, rfl, ⟨by omega, by omega, by omega, by omega⟩, ?_⟩
    refine for_itr (fun i σ H' => Grow H H' ∧ (∃ y2, σ = [some (.ref r), some (.str x), y2]) ∧ ∀ j, j < i → ¬ a ≤ (x.length : Int) + j) ?_ (fun σ H' w => ?_) (fun i σ H' hi2 w => ?_)
    · exact ⟨.refl, ⟨_, rfl⟩, fun j hj => absurd hj (Nat.not_lt_zero j)⟩
    · obtain ⟨g, _, hn⟩ := w
      exact absurd (by omega) (hn (8 * x.length + 8) (by omega))
    · obtain ⟨g, ⟨y2, rfl⟩, hn⟩ := w
      (try dsimp only [gName, tNext, List.set_cons_zero, List.set_cons_succ])
      show t_law_array_1 K A _ _ _
      refine st_if ?_
      (refine evT ?P139 (fun Q h => ?h139) ?_; (case h139 => (simp only [tTest, tOp, tUn, tVar, tC, tCB, tCons, tNil, tAnd, tOr, tNot, tB, tTup, tLst, tIf, tAndV, tOrV, tNotV, tSl, tPart, tNoPart, tCall, iIx_ref, oGt_int, oMod_int, oFdiv_int, oAdd_int, oAdd_str, oSub_int, oMul_int, oLt_int, oGe_int, oLe_int, oPow_int, uNeg_int, oEq_int, oEq_str, oEq_bl, oNe_int, oNe_str, oNe_bl, cInt_int, cInt_bl, cAbs_int, cLen_ref, cList_ref, stL_ref, gName, gSub, gTup, gCons, gNil, rdSeq, List.getElem?_cons_zero, List.getElem?_cons_succ, List.set_cons_zero, List.set_cons_succ, List.cons_append, List.nil_append, Option.some.injEq, exists_eq_left', V.bl.injEq, V.int.injEq, V.ref.injEq, atI_0, atI_1, atI_2, setI_1, setI_2, Bool.not_true, Bool.not_false, Bool.false_eq_true, if_false, if_true]; exact h)); (try dsimp only [gName, tNext, List.set_cons_zero, List.set_cons_succ]))
      refine ⟨st, ss, ts, y, ⟨KP.1.grow g, KP.2⟩, fun H2 g2 => ?_⟩
      rw [hA]
      simp only [tTest, tOp, tUn, tVar, tC, tCB, tCons, tNil, tAnd, tOr, tNot, tB, tTup, tLst, tIf, tAndV, tOrV, tNotV, tSl, tPart, tNoPart, tCall, iIx_ref, oGt_int, oMod_int, oFdiv_int, oAdd_int, oAdd_str, oSub_int, oMul_int, oLt_int, oGe_int, oLe_int, oPow_int, uNeg_int, oEq_int, oEq_str, oEq_bl, oNe_int, oNe_str, oNe_bl, cInt_int, cInt_bl, cAbs_int, cLen_ref, cList_ref, stL_ref, gName, gSub, gTup, gCons, gNil, rdSeq, List.getElem?_cons_zero, List.getElem?_cons_succ, List.set_cons_zero, List.set_cons_succ, List.cons_append, List.nil_append, Option.some.injEq, exists_eq_left', V.bl.injEq, V.int.injEq, V.ref.injEq, atI_0, atI_1, atI_2, setI_1, setI_2, Bool.not_true, Bool.not_false, Bool.false_eq_true, if_false, if_true]
      refine ite_dec (fun hc => ?_) (fun hc => ?_)
      · (try dsimp only [gName, tNext, List.set_cons_zero, List.set_cons_succ])
        show t_law_array_2 K A _ _ _
        refine st_ret ?_
        (refine evE ?P140 (fun Q h => ?h140) ?_; (case h140 => (simp only [tTest, tOp, tUn, tVar, tC, tCB, tCons, tNil, tAnd, tOr, tNot, tB, tTup, tLst, tIf, tAndV, tOrV, tNotV, tSl, tPart, tNoPart, tCall, iIx_ref, oGt_int, oMod_int, oFdiv_int, oAdd_int, oAdd_str, oSub_int, oMul_int, oLt_int, oGe_int, oLe_int, oPow_int, uNeg_int, oEq_int, oEq_str, oEq_bl, oNe_int, oNe_str, oNe_bl, cInt_int, cInt_bl, cAbs_int, cLen_ref, cList_ref, stL_ref, gName, gSub, gTup, gCons, gNil, rdSeq, List.getElem?_cons_zero, List.getElem?_cons_succ, List.set_cons_zero, List.set_cons_succ, List.cons_append, List.nil_append, Option.some.injEq, exists_eq_left', V.bl.injEq, V.int.injEq, V.ref.injEq, atI_0, atI_1, atI_2, setI_1, setI_2, Bool.not_true, Bool.not_false, Bool.false_eq_true, if_false, if_true]; exact h)); (try dsimp only [gName, tNext, List.set_cons_zero, List.set_cons_succ]))
        have e : (x.length : Int) + (i : Int) = a := by
          by_cases z : i = 0
          · subst z; omega
          · have := hn (i - 1) (by omega)
            omega
        rw [e]
        exact k _ (g.trans g2)
      · refine ⟨g.trans g2, ⟨_, rfl⟩, fun j hj => ?_⟩
        by_cases z : j = i
        · subst z; exact hc
        · exact hn j (by omega)
  · exact h.elim

end HG

namespace HG
open PySem L2
/-! ### texts of letters -/
def Word (x : Str) (k : Nat) : Prop := x.cps.size ≤ k ∧ ∀ c ∈ x.cps.toList, c ∈ abc.cps.toList
theorem Word.row {x : Str} {k : Nat} (h : Word x k) (hk : k ≤ 400) : rowB x 400 = true := by
  unfold rowB
  rw [Bool.and_eq_true_iff]
  refine ⟨decide_eq_true (by have := h.1; show ((x.cps.size : Nat) : Int) ≤ 400; omega), List.all_eq_true.mpr fun j hj => decide_eq_true (h.2 _ ?_)⟩
  rw [List.mem_range] at hj
  rw [Array.getD_eq_getD_getElem?, Array.getElem?_eq_getElem hj]
  exact Array.mem_toList_iff.mpr (Array.getElem_mem hj)
theorem name_abc {s : Str} {n : Int} (h : rowB s n = true) : ∀ c ∈ s.cps.toList, c ∈ abc.cps.toList := fun c hc => by
  obtain ⟨h2, h3⟩ := Bool.and_eq_true_iff.mp h
  obtain ⟨j, hj, rfl⟩ := List.mem_iff_getElem.mp hc
  rw [Array.length_toList] at hj
  have h6 := List.all_eq_true.mp h3 j (List.mem_range.mpr hj)
  have h7 : s.cps.getD j 0 ∈ abc.cps.toList := of_decide_eq_true h6
  rw [Array.getD_eq_getD_getElem?, Array.getElem?_eq_getElem hj] at h7
  rw [Array.getElem_toList]
  exact h7

/-! ### the law -/
def sp_law (K : PySem.W.Frag) (A : Ad) : Sp := spLaw K
def t_law_11 (K : PySem.W.Frag) (A : Ad) : TS := (tRet (tC (.bl false)))
def t_law_14 (K : PySem.W.Frag) (A : Ad) : TS := (tRet (tC (.bl false)))
def t_law_13 (K : PySem.W.Frag) (A : Ad) : TS := (tIfS (tOr (tTest (tOp (oNe K) (tCall (sp_extra_of K A) [] E0 (tCons (tVar 5) (tCons (tVar 7) tNil))) (tVar 10))) (tTest (tOp (oNe K) (tCallK0 2 (sp_extra_of K A) kw_extra_of_text_converter E0 (tCons (tVar 7) (tCons (tVar 5) tNil))) (tVar 10)))) (t_law_14 K A) tNext)
def t_law_12 (K : PySem.W.Frag) (A : Ad) : TS := (tSeq (tAsg (tOp oSub (tVar 9) (tCB (cMax K) (tCons (tCB (cLen K) (tCons (tVar 7) tNil)) (tCons (tCB (cLen K) (tCons (tOp (rIx K) (tVar 8) (tC (.int 2))) tNil)) tNil)))) (gName 10)) (t_law_13 K A))
def t_law_10 (K : PySem.W.Frag) (A : Ad) : TS := (tSeq (tIfS (tOr (tTest (tOp (oNe K) (tCall (sp_array_of K A) [] E0 (tCons (tVar 5) (tCons (tVar 7) tNil))) (tVar 9))) (tTest (tOp (oNe K) (tCallK0 2 (sp_array_of K A) kw_array_of_text_converter E0 (tCons (tVar 7) (tCons (tVar 5) tNil))) (tVar 9)))) (t_law_11 K A) tNext) (t_law_12 K A))
def t_law_9 (K : PySem.W.Frag) (A : Ad) : TS := (tSeq (tAsg (tCall (sp_law_array K A) [] E0 (tCons (tVar 4) (tCons (tVar 7) tNil))) (gName 9)) (t_law_10 K A))
def t_law_8 (K : PySem.W.Frag) (A : Ad) : TS := (tIfS (tTest (tOp oIsNot (tVar 8) (tC .non))) (t_law_9 K A) tNext)
def t_law_7 (K : PySem.W.Frag) (A : Ad) : TS := (tSeq (tAsg (tCall (sp_law_run K A) [] E0 (tCons (tVar 4) (tCons (tVar 7) tNil))) (gName 8)) (t_law_8 K A))
def t_law_6 (K : PySem.W.Frag) (A : Ad) : TS := (tSeq (tAsg (tJoin K (tC (.str "")) (tLc (iRng1 (tCons (tCall (sp_law_draw K A) [] E0 (tCons (tVar 1) (tCons (tC (.int 11)) tNil))) tNil)) (gName 11) tYes (tCall (sp_law_pick K A) [] E0 (tCons (tVar 1) (tCons (tCB cListS (tCons (tVar 3) tNil)) tNil))) [11])) (gName 7)) (t_law_7 K A))
def t_law_5 (K : PySem.W.Frag) (A : Ad) : TS := (tFor (iRng1 (tCons (tC (.int 9)) tNil)) (gName 6)
    (t_law_6 K A))
def t_law_4 (K : PySem.W.Frag) (A : Ad) : TS := (tSeq (tAsg (tCall (sp_law_made K A) [] E0 (tCons (tVar 4) tNil)) (gName 5)) (t_law_5 K A))
def t_law_3 (K : PySem.W.Frag) (A : Ad) : TS := (tSeq (tAsg (tCall (sp_law_plan K A) [] E0 (tCons (tVar 1) (tCons (tOp oAdd (tC (.int 1)) (tCall (sp_law_draw K A) [] E0 (tCons (tVar 1) (tCons (tC (.int 6)) tNil)))) (tCons (tVar 3) tNil)))) (gName 4)) (t_law_4 K A))
def t_law_2 (K : PySem.W.Frag) (A : Ad) : TS := (tSeq (tAsg (tSl rSlS (tC (.str "abc")) tNoPart (tPart (tOp oAdd (tC (.int 1)) (tCall (sp_law_draw K A) [] E0 (tCons (tVar 1) (tCons (tC (.int 3)) tNil)))))) (gName 3)) (t_law_3 K A))
def t_law_15 (K : PySem.W.Frag) (A : Ad) : TS := (tRet (tC (.bl true)))
def t_law_1 (K : PySem.W.Frag) (A : Ad) : TS := (tSeq (tFor (iRng1 (tCons (tC (.int 6)) tNil)) (gName 2)
    (t_law_2 K A)) (t_law_15 K A))
def t_law_0 (K : PySem.W.Frag) (A : Ad) : TS := (tSeq (tAsg (tCall (sp_law_pen K A) [] E0 (tCons (tVar 0) tNil)) (gName 1)) (t_law_1 K A))

theorem list12 {α : Type} {l : List α} (h : l.length = 12) : ∃ a0 a1 a2 a3 a4 a5 a6 a7 a8 a9 a10 a11, l = [a0, a1, a2, a3, a4, a5, a6, a7, a8, a9, a10, a11] := by
  match l, h with
  | [a0, a1, a2, a3, a4, a5, a6, a7, a8, a9, a10, a11], _ => exact ⟨_, _, _, _, _, _, _, _, _, _, _, _, rfl⟩
theorem abc_lls : ∀ k : Nat, k ≤ 3 → (cutS ("abc" : Str) none (some (k : Int))).cps.size = k ∧ ∀ y ∈ lls (cutS ("abc" : Str) none (some (k : Int))), letterB y = true := by
  intro k hk
  have : k = 0 ∨ k = 1 ∨ k = 2 ∨ k = 3 := by omega
  rcases this with rfl | rfl | rfl | rfl <;> decide +kernel
theorem sgn_abc {x y : Str} (h : ∀ y ∈ lls x, letterB y = true) (hy : y ∈ lls x) : ∃ c, c ∈ abc.cps.toList ∧ y = sgn c := by
  have hl := h y hy
  obtain ⟨c, hc, rfl⟩ := List.mem_map.mp hy
  refine ⟨c, ?_, rfl⟩
  have h1 : rowB (sgn c) 1 = true := (Bool.and_eq_true_iff.mp hl).1
  exact name_abc h1 c (by simp [sgn])
theorem join_word {ys : List Str} (h : ∀ y ∈ ys, ∃ c, c ∈ abc.cps.toList ∧ y = sgn c) : Word (Txt.join (Str.ofString "") ys) ys.length ∧ (ys.map (·.length)).sum = ys.length := by
  have e := join_cps ys
  have k : ∀ ys : List Str, (∀ y ∈ ys, ∃ c, c ∈ abc.cps.toList ∧ y = sgn c) → ((ys.map (·.cps.toList)).flatten).length = ys.length ∧ (∀ c ∈ (ys.map (·.cps.toList)).flatten, c ∈ abc.cps.toList) ∧ (ys.map (·.length)).sum = ys.length := by
    intro ys
    induction ys with
    | nil => exact fun _ => ⟨rfl, fun c z => (List.not_mem_nil (show c ∈ ([] : List Nat) from z)).elim, rfl⟩
    | cons y r ih =>
      intro h
      obtain ⟨c, hc, rfl⟩ := h y (List.mem_cons_self ..)
      obtain ⟨a, b, d⟩ := ih fun z hz => h z (List.mem_cons_of_mem _ hz)
      refine ⟨?_, fun z hz => ?_, ?_⟩
      · rw [List.map_cons, List.flatten_cons, List.length_append, a]
        show 1 + r.length = r.length + 1
        omega
      · rw [List.map_cons, List.flatten_cons] at hz
        rcases List.mem_append.mp hz with q | q
        · have : z = c := by simpa [sgn] using q
          rw [this]; exact hc
        · exact b z q
      · have e1 : (sgn c).length = 1 := rfl
        have e2 : ((sgn c :: r).map fun y => y.length).sum = (sgn c).length + (r.map fun y => y.length).sum := rfl
        have e3 : (sgn c :: r).length = r.length + 1 := rfl
        omega
  obtain ⟨a, b, d⟩ := k ys h
  refine ⟨⟨?_, fun c hc => ?_⟩, d⟩
  · have := congrArg List.length e
    rw [show (Txt.join (Str.ofString "") ys).cps.toList.length = (Txt.join (Str.ofString "") ys).cps.size from Array.length_toList, a] at this
    omega
  · rw [e] at hc
    exact b c hc
theorem strs_of {P : Str → Prop} : ∀ {vs : List V}, (∀ v ∈ vs, ∃ y : Str, v = .str y ∧ P y) → ∃ ys : List Str, vs = ys.map V.str ∧ ∀ y ∈ ys, P y
  | [], _ => ⟨[], rfl, fun y z => (List.not_mem_nil z).elim⟩
  | v :: r, h => by
    obtain ⟨y, rfl, hy⟩ := h v (List.mem_cons_self ..)
    obtain ⟨ys, rfl, hys⟩ := strs_of (vs := r) fun z hz => h z (List.mem_cons_of_mem _ hz)
    exact ⟨y :: ys, rfl, fun z hz => by
      rcases List.mem_cons.mp hz with q | q
      · rw [q]; exact hy
      · exact hys z q⟩
theorem pure_law {K : PySem.W.Frag} {A : Ad} {vs : List V} {H : Hp} {Q : VK} {E : XK} (F : KF K A) (h : sp_law K A vs H Q E) : (t_law_0 K A) { nx := fun _ H' => Q .non H', rt := Q } (start ["_law_script", "_law_pen_here", "_law_turn", "_law_letters", "_law_plan_here", "_law_made_here", "_law_lap", "_law_drawn", "_law_run_here", "_law_due", "_law_more", "_law_k"] vs) H := by
  unfold sp_law spLaw at h
  split at h
  · rename_i sc
    obtain ⟨⟨ns, hs⟩, k⟩ := h
    have hsz : sizeLine = 16777216 := rfl
    show (t_law_0 K A) _ [some (.ref sc), none, none, none, none, none, none, none, none, none, none, none] H
    refine st_seq (st_asg ?_)
    (refine evE ?P144 (fun Q h => ?h144) ?_; (case h144 => (simp only [tTest, tOp, tUn, tVar, tC, tCB, tCons, tNil, tAnd, tOr, tNot, tB, tTup, tLst, tIf, tAndV, tOrV, tNotV, tSl, tPart, tNoPart, tCall, iIx_ref, oGt_int, oMod_int, oFdiv_int, oAdd_int, oAdd_str, oSub_int, oMul_int, oLt_int, oGe_int, oLe_int, oPow_int, uNeg_int, oEq_int, oEq_str, oEq_bl, oNe_int, oNe_str, oNe_bl, cInt_int, cInt_bl, cAbs_int, cLen_ref, cList_ref, stL_ref, gName, gSub, gTup, gCons, gNil, rdSeq, List.getElem?_cons_zero, List.getElem?_cons_succ, List.set_cons_zero, List.set_cons_succ, List.cons_append, List.nil_append, Option.some.injEq, exists_eq_left', V.bl.injEq, V.int.injEq, V.ref.injEq, atI_0, atI_1, atI_2, setI_1, setI_2, Bool.not_true, Bool.not_false, Bool.false_eq_true, if_false, if_true]; exact h)); (try dsimp only [gName, tNext, List.set_cons_zero, List.set_cons_succ]))
    refine ⟨ns, hs, fun p l H' hp g0 _ => ?_⟩
    (try dsimp only [gName, tNext, List.set_cons_zero, List.set_cons_succ])
    show t_law_1 K A _ _ _
    refine st_seq (for_rng1 ?_)
    (refine evA ?P157 (fun Q h => ?h157) ?_; (case h157 => (simp only [tTest, tOp, tUn, tVar, tC, tCB, tCons, tNil, tAnd, tOr, tNot, tB, tTup, tLst, tIf, tAndV, tOrV, tNotV, tSl, tPart, tNoPart, tCall, iIx_ref, oGt_int, oMod_int, oFdiv_int, oAdd_int, oAdd_str, oSub_int, oMul_int, oLt_int, oGe_int, oLe_int, oPow_int, uNeg_int, oEq_int, oEq_str, oEq_bl, oNe_int, oNe_str, oNe_bl, cInt_int, cInt_bl, cAbs_int, cLen_ref, cList_ref, stL_ref, gName, gSub, gTup, gCons, gNil, rdSeq, List.getElem?_cons_zero, List.getElem?_cons_succ, List.set_cons_zero, List.set_cons_succ, List.cons_append, List.nil_append, Option.some.injEq, exists_eq_left', V.bl.injEq, V.int.injEq, V.ref.injEq, atI_0, atI_1, atI_2, setI_1, setI_2, Bool.not_true, Bool.not_false, Bool.false_eq_true, if_false, if_true]; exact h)))
    refine ⟨6, rfl, by decide, by decide, ?_⟩
    refine for_itr (fun i σ H => σ.length = 12 ∧ σ[1]? = some (some (.ref p)) ∧ PenL H p l (1000 * i)) ?_ (fun σ H w => ?_) (fun i σ H hi w => ?_)
    · exact ⟨rfl, rfl, hp⟩
    · obtain ⟨hl, h1, hp⟩ := w
      (try dsimp only [gName, tNext, List.set_cons_zero, List.set_cons_succ])
      show t_law_15 K A _ _ _
      refine st_ret ?_
      (refine evE ?P145 (fun Q h => ?h145) ?_; (case h145 => (simp only [tTest, tOp, tUn, tVar, tC, tCB, tCons, tNil, tAnd, tOr, tNot, tB, tTup, tLst, tIf, tAndV, tOrV, tNotV, tSl, tPart, tNoPart, tCall, iIx_ref, oGt_int, oMod_int, oFdiv_int, oAdd_int, oAdd_str, oSub_int, oMul_int, oLt_int, oGe_int, oLe_int, oPow_int, uNeg_int, oEq_int, oEq_str, oEq_bl, oNe_int, oNe_str, oNe_bl, cInt_int, cInt_bl, cAbs_int, cLen_ref, cList_ref, stL_ref, gName, gSub, gTup, gCons, gNil, rdSeq, List.getElem?_cons_zero, List.getElem?_cons_succ, List.set_cons_zero, List.set_cons_succ, List.cons_append, List.nil_append, Option.some.injEq, exists_eq_left', V.bl.injEq, V.int.injEq, V.ref.injEq, atI_0, atI_1, atI_2, setI_1, setI_2, Bool.not_true, Bool.not_false, Bool.false_eq_true, if_false, if_true]; exact h)); (try dsimp only [gName, tNext, List.set_cons_zero, List.set_cons_succ]))
      exact k _
    · clear hp g0 hs H'
      obtain ⟨hl, h1, hp⟩ := w
      obtain ⟨a0, a1, a2, a3, a4, a5, a6, a7, a8, a9, a10, a11, rfl⟩ := list12 hl
      have e1 : a1 = some (.ref p) := Option.some.inj h1
      subst e1
      clear hl h1
      (try dsimp only [gName, tNext, List.set_cons_zero, List.set_cons_succ])
      show t_law_2 K A _ _ _
      refine st_seq (st_asg ?_)
      (refine evE ?P146 (fun Q h => ?h146) ?_; (case h146 => (simp only [tTest, tOp, tUn, tVar, tC, tCB, tCons, tNil, tAnd, tOr, tNot, tB, tTup, tLst, tIf, tAndV, tOrV, tNotV, tSl, tPart, tNoPart, tCall, iIx_ref, oGt_int, oMod_int, oFdiv_int, oAdd_int, oAdd_str, oSub_int, oMul_int, oLt_int, oGe_int, oLe_int, oPow_int, uNeg_int, oEq_int, oEq_str, oEq_bl, oNe_int, oNe_str, oNe_bl, cInt_int, cInt_bl, cAbs_int, cLen_ref, cList_ref, stL_ref, gName, gSub, gTup, gCons, gNil, rdSeq, List.getElem?_cons_zero, List.getElem?_cons_succ, List.set_cons_zero, List.set_cons_succ, List.cons_append, List.nil_append, Option.some.injEq, exists_eq_left', V.bl.injEq, V.int.injEq, V.ref.injEq, atI_0, atI_1, atI_2, setI_1, setI_2, Bool.not_true, Bool.not_false, Bool.false_eq_true, if_false, if_true]; exact h)); (try dsimp only [gName, tNext, List.set_cons_zero, List.set_cons_succ]))
      refine ⟨l, _, hp, by omega, by decide, by decide, fun kk H1 d0 d1 hp1 k1 => ?_⟩
      simp only [tTest, tOp, tUn, tVar, tC, tCB, tCons, tNil, tAnd, tOr, tNot, tB, tTup, tLst, tIf, tAndV, tOrV, tNotV, tSl, tPart, tNoPart, tCall, iIx_ref, oGt_int, oMod_int, oFdiv_int, oAdd_int, oAdd_str, oSub_int, oMul_int, oLt_int, oGe_int, oLe_int, oPow_int, uNeg_int, oEq_int, oEq_str, oEq_bl, oNe_int, oNe_str, oNe_bl, cInt_int, cInt_bl, cAbs_int, cLen_ref, cList_ref, stL_ref, gName, gSub, gTup, gCons, gNil, rdSeq, List.getElem?_cons_zero, List.getElem?_cons_succ, List.set_cons_zero, List.set_cons_succ, List.cons_append, List.nil_append, Option.some.injEq, exists_eq_left', V.bl.injEq, V.int.injEq, V.ref.injEq, atI_0, atI_1, atI_2, setI_1, setI_2, Bool.not_true, Bool.not_false, Bool.false_eq_true, if_false, if_true]
      refine ⟨"abc", rfl, by decide, ?_⟩
      (try dsimp only [gName, tNext, List.set_cons_zero, List.set_cons_succ])
      obtain ⟨kk, rfl⟩ : ∃ j : Nat, kk = j := ⟨kk.toNat, by omega⟩
      rw [show (1 : Int) + (kk : Int) = ((1 + kk : Nat) : Int) from by omega]
      obtain ⟨lx, ly⟩ := abc_lls (1 + kk) (by omega)
      generalize cutS ("abc" : Str) none (some ((1 + kk : Nat) : Int)) = L at *
      show t_law_3 K A _ _ _
      refine st_seq (st_asg ?_)
      (refine evE ?P147 (fun Q h => ?h147) ?_; (case h147 => (simp only [tTest, tOp, tUn, tVar, tC, tCB, tCons, tNil, tAnd, tOr, tNot, tB, tTup, tLst, tIf, tAndV, tOrV, tNotV, tSl, tPart, tNoPart, tCall, iIx_ref, oGt_int, oMod_int, oFdiv_int, oAdd_int, oAdd_str, oSub_int, oMul_int, oLt_int, oGe_int, oLe_int, oPow_int, uNeg_int, oEq_int, oEq_str, oEq_bl, oNe_int, oNe_str, oNe_bl, cInt_int, cInt_bl, cAbs_int, cLen_ref, cList_ref, stL_ref, gName, gSub, gTup, gCons, gNil, rdSeq, List.getElem?_cons_zero, List.getElem?_cons_succ, List.set_cons_zero, List.set_cons_succ, List.cons_append, List.nil_append, Option.some.injEq, exists_eq_left', V.bl.injEq, V.int.injEq, V.ref.injEq, atI_0, atI_1, atI_2, setI_1, setI_2, Bool.not_true, Bool.not_false, Bool.false_eq_true, if_false, if_true]; exact h)); (try dsimp only [gName, tNext, List.set_cons_zero, List.set_cons_succ]))
      refine ⟨l, _, hp1, by omega, by decide, by decide, fun mm H2 m0 m1 hp2 k2 => ?_⟩
      simp only [tTest, tOp, tUn, tVar, tC, tCB, tCons, tNil, tAnd, tOr, tNot, tB, tTup, tLst, tIf, tAndV, tOrV, tNotV, tSl, tPart, tNoPart, tCall, iIx_ref, oGt_int, oMod_int, oFdiv_int, oAdd_int, oAdd_str, oSub_int, oMul_int, oLt_int, oGe_int, oLe_int, oPow_int, uNeg_int, oEq_int, oEq_str, oEq_bl, oNe_int, oNe_str, oNe_bl, cInt_int, cInt_bl, cAbs_int, cLen_ref, cList_ref, stL_ref, gName, gSub, gTup, gCons, gNil, rdSeq, List.getElem?_cons_zero, List.getElem?_cons_succ, List.set_cons_zero, List.set_cons_succ, List.cons_append, List.nil_append, Option.some.injEq, exists_eq_left', V.bl.injEq, V.int.injEq, V.ref.injEq, atI_0, atI_1, atI_2, setI_1, setI_2, Bool.not_true, Bool.not_false, Bool.false_eq_true, if_false, if_true]
      refine ⟨l, _, hp2, by omega, by omega, by omega, by omega, ly, fun r st ss ts H3 hp3 k3 P gd hss => ?_⟩
      (try dsimp only [gName, tNext, List.set_cons_zero, List.set_cons_succ])
      show t_law_4 K A _ _ _
      refine st_seq (st_asg ?_)
      (refine evE ?P148 (fun Q h => ?h148) ?_; (case h148 => (simp only [tTest, tOp, tUn, tVar, tC, tCB, tCons, tNil, tAnd, tOr, tNot, tB, tTup, tLst, tIf, tAndV, tOrV, tNotV, tSl, tPart, tNoPart, tCall, iIx_ref, oGt_int, oMod_int, oFdiv_int, oAdd_int, oAdd_str, oSub_int, oMul_int, oLt_int, oGe_int, oLe_int, oPow_int, uNeg_int, oEq_int, oEq_str, oEq_bl, oNe_int, oNe_str, oNe_bl, cInt_int, cInt_bl, cAbs_int, cLen_ref, cList_ref, stL_ref, gName, gSub, gTup, gCons, gNil, rdSeq, List.getElem?_cons_zero, List.getElem?_cons_succ, List.set_cons_zero, List.set_cons_succ, List.cons_append, List.nil_append, Option.some.injEq, exists_eq_left', V.bl.injEq, V.int.injEq, V.ref.injEq, atI_0, atI_1, atI_2, setI_1, setI_2, Bool.not_true, Bool.not_false, Bool.false_eq_true, if_false, if_true]; exact h)); (try dsimp only [gName, tNext, List.set_cons_zero, List.set_cons_succ]))
      refine ⟨st, ss, ts, P, gd, fun c H4 g4 C => ?_⟩
      (try dsimp only [gName, tNext, List.set_cons_zero, List.set_cons_succ])
      show t_law_5 K A _ _ _
      refine for_rng1 ?_
      (refine evA ?P158 (fun Q h => ?h158) ?_; (case h158 => (simp only [tTest, tOp, tUn, tVar, tC, tCB, tCons, tNil, tAnd, tOr, tNot, tB, tTup, tLst, tIf, tAndV, tOrV, tNotV, tSl, tPart, tNoPart, tCall, iIx_ref, oGt_int, oMod_int, oFdiv_int, oAdd_int, oAdd_str, oSub_int, oMul_int, oLt_int, oGe_int, oLe_int, oPow_int, uNeg_int, oEq_int, oEq_str, oEq_bl, oNe_int, oNe_str, oNe_bl, cInt_int, cInt_bl, cAbs_int, cLen_ref, cList_ref, stL_ref, gName, gSub, gTup, gCons, gNil, rdSeq, List.getElem?_cons_zero, List.getElem?_cons_succ, List.set_cons_zero, List.set_cons_succ, List.cons_append, List.nil_append, Option.some.injEq, exists_eq_left', V.bl.injEq, V.int.injEq, V.ref.injEq, atI_0, atI_1, atI_2, setI_1, setI_2, Bool.not_true, Bool.not_false, Bool.false_eq_true, if_false, if_true]; exact h)))
      refine ⟨9, rfl, by decide, by decide, ?_⟩
      have hp4 := hp3.grow g4
      have P4 := P.grow g4
      clear hp hp1 k1 hp2 k2 hp3 k3 P g4
      refine for_itr (fun j σ H => (∃ y0 y2 y6 y7 y8 y9 y10 y11, σ = [y0, some (.ref p), y2, some (.str L), some (.ref r), some (.ref c), y6, y7, y8, y9, y10, y11]) ∧ PenL H p l (1000 * i + 300 + 50 * j) ∧ PlanAt H r st ss ts ∧ CvAt K A H c st ss ts) ?_ (fun σ H w => ?_) (fun j σ H hj w => ?_)
      · exact ⟨⟨_, _, _, _, _, _, _, _, rfl⟩, hp4.up (by omega), P4, C⟩
      · obtain ⟨⟨_, _, _, _, _, _, _, _, rfl⟩, hp, _⟩ := w
        exact ⟨rfl, rfl, hp.up (by omega)⟩
      · clear hp4 P4 C H4 H3 H2 H1
        obtain ⟨⟨y0, y2, y6, y7, y8, y9, y10, y11, rfl⟩, hp, P, C⟩ := w
        (try dsimp only [gName, tNext, List.set_cons_zero, List.set_cons_succ])
        show t_law_6 K A _ _ _
        refine st_seq (st_asg ?_)
        (refine evE ?P159 (fun Q h => ?h159) ?_; (case h159 => (simp only [tTest, tOp, tUn, tVar, tC, tCB, tCons, tNil, tAnd, tOr, tNot, tB, tTup, tLst, tIf, tAndV, tOrV, tNotV, tSl, tPart, tNoPart, tCall, iIx_ref, oGt_int, oMod_int, oFdiv_int, oAdd_int, oAdd_str, oSub_int, oMul_int, oLt_int, oGe_int, oLe_int, oPow_int, uNeg_int, oEq_int, oEq_str, oEq_bl, oNe_int, oNe_str, oNe_bl, cInt_int, cInt_bl, cAbs_int, cLen_ref, cList_ref, stL_ref, gName, gSub, gTup, gCons, gNil, rdSeq, List.getElem?_cons_zero, List.getElem?_cons_succ, List.set_cons_zero, List.set_cons_succ, List.cons_append, List.nil_append, Option.some.injEq, exists_eq_left', V.bl.injEq, V.int.injEq, V.ref.injEq, atI_0, atI_1, atI_2, setI_1, setI_2, Bool.not_true, Bool.not_false, Bool.false_eq_true, if_false, if_true, tJoin, tM1]; exact h)))
        refine ⟨⟨_, rfl⟩, lc_ev ?_⟩
        unfold iRng1
        (refine evA ?P160 (fun Q h => ?h160) ?_; (case h160 => (simp only [tTest, tOp, tUn, tVar, tC, tCB, tCons, tNil, tAnd, tOr, tNot, tB, tTup, tLst, tIf, tAndV, tOrV, tNotV, tSl, tPart, tNoPart, tCall, iIx_ref, oGt_int, oMod_int, oFdiv_int, oAdd_int, oAdd_str, oSub_int, oMul_int, oLt_int, oGe_int, oLe_int, oPow_int, uNeg_int, oEq_int, oEq_str, oEq_bl, oNe_int, oNe_str, oNe_bl, cInt_int, cInt_bl, cAbs_int, cLen_ref, cList_ref, stL_ref, gName, gSub, gTup, gCons, gNil, rdSeq, List.getElem?_cons_zero, List.getElem?_cons_succ, List.set_cons_zero, List.set_cons_succ, List.cons_append, List.nil_append, Option.some.injEq, exists_eq_left', V.bl.injEq, V.int.injEq, V.ref.injEq, atI_0, atI_1, atI_2, setI_1, setI_2, Bool.not_true, Bool.not_false, Bool.false_eq_true, if_false, if_true]; exact h)))
        refine ⟨l, _, hp, by omega, by decide, by decide, fun dd H1 d0 d1 hp1 k1 => ?_⟩
        refine ⟨dd, rfl, by omega, by omega, ?_⟩
        obtain ⟨z1, z2, z3⟩ := keep_rng (p := p) (H1 := H1) (lo := 0) (n := dd.toNat)
        refine lc_pen (fun v => ∃ y : Str, v = .str y ∧ y ∈ lls L) 1 hp1 z1 z2 z3 (by omega) (fun q hq H' hp' k' R hR => ?_) (fun D H2 vs hvl hvs hp2 k2 hD hd => ?_) (by exact fun x => rfl)
        · (refine evE ?P149 (fun Q h => ?h149) ?_; (case h149 => (simp only [tTest, tOp, tUn, tVar, tC, tCB, tCons, tNil, tAnd, tOr, tNot, tB, tTup, tLst, tIf, tAndV, tOrV, tNotV, tSl, tPart, tNoPart, tCall, iIx_ref, oGt_int, oMod_int, oFdiv_int, oAdd_int, oAdd_str, oSub_int, oMul_int, oLt_int, oGe_int, oLe_int, oPow_int, uNeg_int, oEq_int, oEq_str, oEq_bl, oNe_int, oNe_str, oNe_bl, cInt_int, cInt_bl, cAbs_int, cLen_ref, cList_ref, stL_ref, gName, gSub, gTup, gCons, gNil, rdSeq, List.getElem?_cons_zero, List.getElem?_cons_succ, List.set_cons_zero, List.set_cons_succ, List.cons_append, List.nil_append, Option.some.injEq, exists_eq_left', V.bl.injEq, V.int.injEq, V.ref.injEq, atI_0, atI_1, atI_2, setI_1, setI_2, Bool.not_true, Bool.not_false, Bool.false_eq_true, if_false, if_true, wipe]; exact h)); (try dsimp only [gName, tNext, List.set_cons_zero, List.set_cons_succ]))
          refine ⟨L, rfl, by omega, fun b hb => ?_⟩
          have gb := Grow.new (o := .lst (signsV L)) hb
          have sl : signsV L = (lls L).map V.str := by unfold signsV lls; rw [List.map_map]; rfl
          have ll : (lls L).length = L.cps.size := lls_len
          refine ⟨l, _, _, hp'.grow gb, by omega, upd_same, hp'.fresh hb, ?_, ?_, fun y H3 hy hp3 k3 => ?_⟩
          · rw [sl]; intro z
            have := congrArg List.length z
            rw [List.length_map] at this
            simp only [List.length_nil] at this
            omega
          · rw [sl, List.length_map]; omega
          · rw [sl] at hy
            obtain ⟨y, hy2, rfl⟩ := List.mem_map.mp hy
            exact hR _ _ ⟨y, rfl, hy2⟩ (hp3.up (by omega)) (gb.keep.trans k3)
        obtain ⟨ys, rfl, hys⟩ := strs_of hvs
        rw [List.length_map] at hvl
        obtain ⟨W, sm⟩ := join_word fun y hy => sgn_abc ly (hys y hy)
        refine ⟨_, D, ys, rfl, rfl, .inl (SqL.of hd), ?_, ?_⟩
        · have e0 : (Str.ofString "").length = 0 := rfl
          rw [sm, e0, Nat.mul_zero]
          omega
        have hx4 : Word (Txt.join (Str.ofString "") ys) 400 := ⟨by have := W.1; omega, W.2⟩
        have hx10 := W.1
        generalize Txt.join (Str.ofString "") ys = x at *
        have P2 := (P.keep hp k1).keep hp1 k2
        have C2 := (C.keep hp k1).keep hp1 k2
        have hxr : rowB x 400 = true := hx4.row (by decide)
        have hxl : x.length = x.cps.size := rfl
        clear P C hp hp1 k1 k2 hd hD hvs hys sm z1 z2 z3 H1 H
        (try dsimp only [gName, tNext, List.set_cons_zero, List.set_cons_succ])
        show t_law_7 K A _ _ _
        refine st_seq (st_asg ?_)
        (refine evE ?P150 (fun Q h => ?h150) ?_; (case h150 => (simp only [tTest, tOp, tUn, tVar, tC, tCB, tCons, tNil, tAnd, tOr, tNot, tB, tTup, tLst, tIf, tAndV, tOrV, tNotV, tSl, tPart, tNoPart, tCall, iIx_ref, oGt_int, oMod_int, oFdiv_int, oAdd_int, oAdd_str, oSub_int, oMul_int, oLt_int, oGe_int, oLe_int, oPow_int, uNeg_int, oEq_int, oEq_str, oEq_bl, oNe_int, oNe_str, oNe_bl, cInt_int, cInt_bl, cAbs_int, cLen_ref, cList_ref, stL_ref, gName, gSub, gTup, gCons, gNil, rdSeq, List.getElem?_cons_zero, List.getElem?_cons_succ, List.set_cons_zero, List.set_cons_succ, List.cons_append, List.nil_append, Option.some.injEq, exists_eq_left', V.bl.injEq, V.int.injEq, V.ref.injEq, atI_0, atI_1, atI_2, setI_1, setI_2, Bool.not_true, Bool.not_false, Bool.false_eq_true, if_false, if_true]; exact h)); (try dsimp only [gName, tNext, List.set_cons_zero, List.set_cons_succ]))
        refine ⟨st, ss, ts, P2, gd, by omega, fun y hy hyl q Sa Ha H4 g4 hq => ?_, fun hno H4 g4 => ?_⟩
        · (try dsimp only [gName, tNext, List.set_cons_zero, List.set_cons_succ])
          show t_law_8 K A _ _ _
          refine st_if ?_
          (refine evT ?P151 (fun Q h => ?h151) ?_; (case h151 => (simp only [tTest, tOp, tUn, tVar, tC, tCB, tCons, tNil, tAnd, tOr, tNot, tB, tTup, tLst, tIf, tAndV, tOrV, tNotV, tSl, tPart, tNoPart, tCall, iIx_ref, oGt_int, oMod_int, oFdiv_int, oAdd_int, oAdd_str, oSub_int, oMul_int, oLt_int, oGe_int, oLe_int, oPow_int, uNeg_int, oEq_int, oEq_str, oEq_bl, oNe_int, oNe_str, oNe_bl, cInt_int, cInt_bl, cAbs_int, cLen_ref, cList_ref, stL_ref, gName, gSub, gTup, gCons, gNil, rdSeq, List.getElem?_cons_zero, List.getElem?_cons_succ, List.set_cons_zero, List.set_cons_succ, List.cons_append, List.nil_append, Option.some.injEq, exists_eq_left', V.bl.injEq, V.int.injEq, V.ref.injEq, atI_0, atI_1, atI_2, setI_1, setI_2, Bool.not_true, Bool.not_false, Bool.false_eq_true, if_false, if_true, oIsNot]; exact h)); (try dsimp only [gName, tNext, List.set_cons_zero, List.set_cons_succ]))
          (refine if_yes ?_; (try dsimp only [gName, tNext, List.set_cons_zero, List.set_cons_succ]))
          have T4 : TakenAt K A H4 c st ss ts x y := ⟨C2.grow g4, hxr, hy, hyl⟩
          have P4 := P2.grow g4
          have hp4 := hp2.grow g4
          show t_law_9 K A _ _ _
          refine st_seq (st_asg ?_)
          (refine evE ?P152 (fun Q h => ?h152) ?_; (case h152 => (simp only [tTest, tOp, tUn, tVar, tC, tCB, tCons, tNil, tAnd, tOr, tNot, tB, tTup, tLst, tIf, tAndV, tOrV, tNotV, tSl, tPart, tNoPart, tCall, iIx_ref, oGt_int, oMod_int, oFdiv_int, oAdd_int, oAdd_str, oSub_int, oMul_int, oLt_int, oGe_int, oLe_int, oPow_int, uNeg_int, oEq_int, oEq_str, oEq_bl, oNe_int, oNe_str, oNe_bl, cInt_int, cInt_bl, cAbs_int, cLen_ref, cList_ref, stL_ref, gName, gSub, gTup, gCons, gNil, rdSeq, List.getElem?_cons_zero, List.getElem?_cons_succ, List.set_cons_zero, List.set_cons_succ, List.cons_append, List.nil_append, Option.some.injEq, exists_eq_left', V.bl.injEq, V.int.injEq, V.ref.injEq, atI_0, atI_1, atI_2, setI_1, setI_2, Bool.not_true, Bool.not_false, Bool.false_eq_true, if_false, if_true]; exact h)); (try dsimp only [gName, tNext, List.set_cons_zero, List.set_cons_succ]))
          refine ⟨st, ss, ts, y, ⟨P4, gd, by omega, hy⟩, fun H5 g5 => ?_⟩
          (try dsimp only [gName, tNext, List.set_cons_zero, List.set_cons_succ])
          show t_law_10 K A _ _ _
          refine st_seq (st_if ?_)
          (refine evT ?P153 (fun Q h => ?h153) ?_; (case h153 => (simp only [tTest, tOp, tUn, tVar, tC, tCB, tCons, tNil, tAnd, tOr, tNot, tB, tTup, tLst, tIf, tAndV, tOrV, tNotV, tSl, tPart, tNoPart, tCall, iIx_ref, oGt_int, oMod_int, oFdiv_int, oAdd_int, oAdd_str, oSub_int, oMul_int, oLt_int, oGe_int, oLe_int, oPow_int, uNeg_int, oEq_int, oEq_str, oEq_bl, oNe_int, oNe_str, oNe_bl, cInt_int, cInt_bl, cAbs_int, cLen_ref, cList_ref, stL_ref, gName, gSub, gTup, gCons, gNil, rdSeq, List.getElem?_cons_zero, List.getElem?_cons_succ, List.set_cons_zero, List.set_cons_succ, List.cons_append, List.nil_append, Option.some.injEq, exists_eq_left', V.bl.injEq, V.int.injEq, V.ref.injEq, atI_0, atI_1, atI_2, setI_1, setI_2, Bool.not_true, Bool.not_false, Bool.false_eq_true, if_false, if_true]; exact h)); (try dsimp only [gName, tNext, List.set_cons_zero, List.set_cons_succ]))
          refine ⟨st, ss, ts, y, T4.grow g5, fun H6 g6 => ?_⟩
          generalize hA : arrOf x.length (path ss st x.cps.toList) y = ar at *
          refine (show oNe K (.int ar) (.int ar) _ _ from ?_)
          rw [oNe_int, decide_eq_true rfl]
          refine ⟨_, rfl, if_no ?_⟩
          simp only [tTest, tOp, tUn, tVar, tC, tCB, tCons, tNil, tAnd, tOr, tNot, tB, tTup, tLst, tIf, tAndV, tOrV, tNotV, tSl, tPart, tNoPart, tCall, iIx_ref, oGt_int, oMod_int, oFdiv_int, oAdd_int, oAdd_str, oSub_int, oMul_int, oLt_int, oGe_int, oLe_int, oPow_int, uNeg_int, oEq_int, oEq_str, oEq_bl, oNe_int, oNe_str, oNe_bl, cInt_int, cInt_bl, cAbs_int, cLen_ref, cList_ref, stL_ref, gName, gSub, gTup, gCons, gNil, rdSeq, List.getElem?_cons_zero, List.getElem?_cons_succ, List.set_cons_zero, List.set_cons_succ, List.cons_append, List.nil_append, Option.some.injEq, exists_eq_left', V.bl.injEq, V.int.injEq, V.ref.injEq, atI_0, atI_1, atI_2, setI_1, setI_2, Bool.not_true, Bool.not_false, Bool.false_eq_true, if_false, if_true, tCallK0]
          refine ⟨rfl, ?_⟩
          show sp_array_of K A [.ref c, .str x] _ _ _
          refine ⟨st, ss, ts, y, T4.grow (g5.trans g6), fun H7 g7 => ?_⟩
          rw [hA]
          refine (show oNe K (.int ar) (.int ar) _ _ from ?_)
          rw [oNe_int, decide_eq_true rfl]
          refine ⟨_, rfl, if_no ?_⟩
          have g8 := g5.trans (g6.trans g7)
          (try dsimp only [gName, tNext, List.set_cons_zero, List.set_cons_succ])
          show t_law_12 K A _ _ _
          refine st_seq (st_asg ?_)
          (refine evE ?P154 (fun Q h => ?h154) ?_; (case h154 => (simp only [tTest, tOp, tUn, tVar, tC, tCB, tCons, tNil, tAnd, tOr, tNot, tB, tTup, tLst, tIf, tAndV, tOrV, tNotV, tSl, tPart, tNoPart, tCall, iIx_ref, oGt_int, oMod_int, oFdiv_int, oAdd_int, oAdd_str, oSub_int, oMul_int, oLt_int, oGe_int, oLe_int, oPow_int, uNeg_int, oEq_int, oEq_str, oEq_bl, oNe_int, oNe_str, oNe_bl, cInt_int, cInt_bl, cAbs_int, cLen_ref, cList_ref, stL_ref, gName, gSub, gTup, gCons, gNil, rdSeq, List.getElem?_cons_zero, List.getElem?_cons_succ, List.set_cons_zero, List.set_cons_succ, List.cons_append, List.nil_append, Option.some.injEq, exists_eq_left', V.bl.injEq, V.int.injEq, V.ref.injEq, atI_0, atI_1, atI_2, setI_1, setI_2, Bool.not_true, Bool.not_false, Bool.false_eq_true, if_false, if_true, cLen_str, cMax]; exact h)); (try dsimp only [gName, tNext, List.set_cons_zero, List.set_cons_succ]))
          refine ⟨by omega, ?_⟩
          refine ixE (.t (g8 _ _ hq)) atI_2 ?_
          simp only [tTest, tOp, tUn, tVar, tC, tCB, tCons, tNil, tAnd, tOr, tNot, tB, tTup, tLst, tIf, tAndV, tOrV, tNotV, tSl, tPart, tNoPart, tCall, iIx_ref, oGt_int, oMod_int, oFdiv_int, oAdd_int, oAdd_str, oSub_int, oMul_int, oLt_int, oGe_int, oLe_int, oPow_int, uNeg_int, oEq_int, oEq_str, oEq_bl, oNe_int, oNe_str, oNe_bl, cInt_int, cInt_bl, cAbs_int, cLen_ref, cList_ref, stL_ref, gName, gSub, gTup, gCons, gNil, rdSeq, List.getElem?_cons_zero, List.getElem?_cons_succ, List.set_cons_zero, List.set_cons_succ, List.cons_append, List.nil_append, Option.some.injEq, exists_eq_left', V.bl.injEq, V.int.injEq, V.ref.injEq, atI_0, atI_1, atI_2, setI_1, setI_2, Bool.not_true, Bool.not_false, Bool.false_eq_true, if_false, if_true, cLen_str, cMax]
          refine ⟨by omega, ?_⟩
          (try dsimp only [gName, tNext, List.set_cons_zero, List.set_cons_succ])
          show t_law_13 K A _ _ _
          refine st_if ?_
          (refine evT ?P155 (fun Q h => ?h155) ?_; (case h155 => (simp only [tTest, tOp, tUn, tVar, tC, tCB, tCons, tNil, tAnd, tOr, tNot, tB, tTup, tLst, tIf, tAndV, tOrV, tNotV, tSl, tPart, tNoPart, tCall, iIx_ref, oGt_int, oMod_int, oFdiv_int, oAdd_int, oAdd_str, oSub_int, oMul_int, oLt_int, oGe_int, oLe_int, oPow_int, uNeg_int, oEq_int, oEq_str, oEq_bl, oNe_int, oNe_str, oNe_bl, cInt_int, cInt_bl, cAbs_int, cLen_ref, cList_ref, stL_ref, gName, gSub, gTup, gCons, gNil, rdSeq, List.getElem?_cons_zero, List.getElem?_cons_succ, List.set_cons_zero, List.set_cons_succ, List.cons_append, List.nil_append, Option.some.injEq, exists_eq_left', V.bl.injEq, V.int.injEq, V.ref.injEq, atI_0, atI_1, atI_2, setI_1, setI_2, Bool.not_true, Bool.not_false, Bool.false_eq_true, if_false, if_true]; exact h)); (try dsimp only [gName, tNext, List.set_cons_zero, List.set_cons_succ]))
          refine ⟨st, ss, ts, y, T4.grow g8, fun H9 g9 => ?_⟩
          have hE : extOf x.length (path ss st x.cps.toList) y = ar - (if (x.length : Int) < (y.length : Int) then (y.length : Int) else (x.length : Int)) := by unfold extOf; rw [hA]
          rw [hE]
          generalize ar - (if (x.length : Int) < (y.length : Int) then (y.length : Int) else (x.length : Int)) = er at *
          refine (show oNe K (.int er) (.int er) _ _ from ?_)
          rw [oNe_int, decide_eq_true rfl]
          refine ⟨_, rfl, if_no ?_⟩
          simp only [tTest, tOp, tUn, tVar, tC, tCB, tCons, tNil, tAnd, tOr, tNot, tB, tTup, tLst, tIf, tAndV, tOrV, tNotV, tSl, tPart, tNoPart, tCall, iIx_ref, oGt_int, oMod_int, oFdiv_int, oAdd_int, oAdd_str, oSub_int, oMul_int, oLt_int, oGe_int, oLe_int, oPow_int, uNeg_int, oEq_int, oEq_str, oEq_bl, oNe_int, oNe_str, oNe_bl, cInt_int, cInt_bl, cAbs_int, cLen_ref, cList_ref, stL_ref, gName, gSub, gTup, gCons, gNil, rdSeq, List.getElem?_cons_zero, List.getElem?_cons_succ, List.set_cons_zero, List.set_cons_succ, List.cons_append, List.nil_append, Option.some.injEq, exists_eq_left', V.bl.injEq, V.int.injEq, V.ref.injEq, atI_0, atI_1, atI_2, setI_1, setI_2, Bool.not_true, Bool.not_false, Bool.false_eq_true, if_false, if_true, tCallK0]
          refine ⟨rfl, ?_⟩
          show sp_extra_of K A [.ref c, .str x] _ _ _
          refine ⟨st, ss, ts, y, T4.grow (g8.trans g9), fun H10 g10 => ?_⟩
          rw [hE]
          refine (show oNe K (.int er) (.int er) _ _ from ?_)
          rw [oNe_int, decide_eq_true rfl]
          refine ⟨_, rfl, if_no ?_⟩
          have g11 := g8.trans (g9.trans g10)
          exact ⟨⟨_, _, _, _, _, _, _, _, rfl⟩, (hp4.grow g11).up (by omega), P4.grow g11, T4.1.grow g11⟩
        · (try dsimp only [gName, tNext, List.set_cons_zero, List.set_cons_succ])
          show t_law_8 K A _ _ _
          refine st_if ?_
          (refine evT ?P156 (fun Q h => ?h156) ?_; (case h156 => (simp only [tTest, tOp, tUn, tVar, tC, tCB, tCons, tNil, tAnd, tOr, tNot, tB, tTup, tLst, tIf, tAndV, tOrV, tNotV, tSl, tPart, tNoPart, tCall, iIx_ref, oGt_int, oMod_int, oFdiv_int, oAdd_int, oAdd_str, oSub_int, oMul_int, oLt_int, oGe_int, oLe_int, oPow_int, uNeg_int, oEq_int, oEq_str, oEq_bl, oNe_int, oNe_str, oNe_bl, cInt_int, cInt_bl, cAbs_int, cLen_ref, cList_ref, stL_ref, gName, gSub, gTup, gCons, gNil, rdSeq, List.getElem?_cons_zero, List.getElem?_cons_succ, List.set_cons_zero, List.set_cons_succ, List.cons_append, List.nil_append, Option.some.injEq, exists_eq_left', V.bl.injEq, V.int.injEq, V.ref.injEq, atI_0, atI_1, atI_2, setI_1, setI_2, Bool.not_true, Bool.not_false, Bool.false_eq_true, if_false, if_true, oIsNot]; exact h)); (try dsimp only [gName, tNext, List.set_cons_zero, List.set_cons_succ]))
          (refine if_no ?_; (try dsimp only [gName, tNext, List.set_cons_zero, List.set_cons_succ]))
          exact ⟨⟨_, _, _, _, _, _, _, _, rfl⟩, (hp2.grow g4).up (by omega), P2.grow g4, C2.grow g4⟩
  · exact h.elim

end HG

namespace HG
open PySem L2
def top (i : Nat) : Stmt := PySem.Challenge.pw_headgap_k52_arrays_of_texts.main.body.getD i (.Pass ⟨0, 0, 0, 0⟩)
abbrev s_is_row_checks : Stmt := (top 21)
theorem sc_is_row_checks : FnScope ["value", "longest", "sign"] ["value", "longest"] (defScope s_is_row_checks) := ⟨rfl, rfl, rfl, by decide +kernel, rfl, by decide +kernel, by decide +kernel⟩
abbrev s_is_letter : Stmt := (top 23)
theorem sc_is_letter : FnScope ["value"] ["value"] (defScope s_is_letter) := ⟨rfl, rfl, rfl, by decide +kernel, rfl, by decide +kernel, by decide +kernel⟩
abbrev s_is_text : Stmt := (top 24)
theorem sc_is_text : FnScope ["value"] ["value"] (defScope s_is_text) := ⟨rfl, rfl, rfl, by decide +kernel, rfl, by decide +kernel, by decide +kernel⟩
abbrev s_is_answer : Stmt := (top 25)
theorem sc_is_answer : FnScope ["value"] ["value"] (defScope s_is_answer) := ⟨rfl, rfl, rfl, by decide +kernel, rfl, by decide +kernel, by decide +kernel⟩
abbrev s_is_name : Stmt := (top 26)
theorem sc_is_name : FnScope ["value"] ["value"] (defScope s_is_name) := ⟨rfl, rfl, rfl, by decide +kernel, rfl, by decide +kernel, by decide +kernel⟩
abbrev s_ascending : Stmt := (top 47)
theorem sc_ascending : FnScope ["strings", "string", "one"] ["strings"] (defScope s_ascending) := ⟨rfl, rfl, rfl, by decide +kernel, rfl, by decide +kernel, by decide +kernel⟩
abbrev s_is_key : Stmt := (top 48)
theorem sc_is_key : FnScope ["value"] ["value"] (defScope s_is_key) := ⟨rfl, rfl, rfl, by decide +kernel, rfl, by decide +kernel, by decide +kernel⟩
abbrev s_is_goal : Stmt := (top 49)
theorem sc_is_goal : FnScope ["value"] ["value"] (defScope s_is_goal) := ⟨rfl, rfl, rfl, by decide +kernel, rfl, by decide +kernel, by decide +kernel⟩
abbrev s_are_steps : Stmt := (top 50)
theorem sc_are_steps : FnScope ["value", "key"] ["value"] (defScope s_are_steps) := ⟨rfl, rfl, rfl, by decide +kernel, rfl, by decide +kernel, by decide +kernel⟩
abbrev s_are_tails : Stmt := (top 51)
theorem sc_are_tails : FnScope ["value", "key"] ["value"] (defScope s_are_tails) := ⟨rfl, rfl, rfl, by decide +kernel, rfl, by decide +kernel, by decide +kernel⟩
abbrev s_need_name : Stmt := (top 52)
theorem sc_need_name : FnScope ["value"] ["value"] (defScope s_need_name) := ⟨rfl, rfl, rfl, by decide +kernel, rfl, by decide +kernel, by decide +kernel⟩
abbrev s_need_letter : Stmt := (top 53)
theorem sc_need_letter : FnScope ["value"] ["value"] (defScope s_need_letter) := ⟨rfl, rfl, rfl, by decide +kernel, rfl, by decide +kernel, by decide +kernel⟩
abbrev s_BadWord_init : Stmt := (inClass (top 8) 0)
theorem scx_BadWord_init : ScX ["self", "value"] (defScope s_BadWord_init) := ⟨rfl, rfl, rfl, by decide +kernel, by decide +kernel, by decide +kernel, by decide +kernel, rfl, rfl⟩
abbrev s_NoStep_init : Stmt := (inClass (top 10) 0)
theorem scx_NoStep_init : ScX ["self", "at", "state"] (defScope s_NoStep_init) := ⟨rfl, rfl, rfl, by decide +kernel, by decide +kernel, by decide +kernel, by decide +kernel, rfl, rfl⟩
abbrev s_NoTail_init : Stmt := (inClass (top 11) 0)
theorem scx_NoTail_init : ScX ["self", "state"] (defScope s_NoTail_init) := ⟨rfl, rfl, rfl, by decide +kernel, by decide +kernel, by decide +kernel, by decide +kernel, rfl, rfl⟩
abbrev s_Converter_init : Stmt := (inClass (top 54) 2)
theorem sc_Converter_init : FnScope ["self", "start", "steps", "tails", "key", "state"] ["self", "start", "steps", "tails"] (defScope s_Converter_init) := ⟨rfl, rfl, rfl, by decide +kernel, rfl, by decide +kernel, by decide +kernel⟩
abbrev s_Converter_call : Stmt := (inClass (top 54) 5)
theorem sc_Converter_call : FnScope ["self", "text", "state", "written", "at", "letter", "step"] ["self", "text"] (defScope s_Converter_call) := ⟨rfl, rfl, rfl, by decide +kernel, rfl, by decide +kernel, by decide +kernel⟩
abbrev s_need_converter : Stmt := (top 67)
theorem sc_need_converter : FnScope ["value", "part"] ["value", "part"] (defScope s_need_converter) := ⟨rfl, rfl, rfl, by decide +kernel, rfl, by decide +kernel, by decide +kernel⟩
abbrev s_most_of : Stmt := (top 69)
theorem sc_most_of : FnScope ["numbers", "least", "found", "number"] ["numbers", "least"] (defScope s_most_of) := ⟨rfl, rfl, rfl, by decide +kernel, rfl, by decide +kernel, by decide +kernel⟩
abbrev s_weight : Stmt := (top 70)
theorem sc_weight : FnScope ["answer"] ["answer"] (defScope s_weight) := ⟨rfl, rfl, rfl, by decide +kernel, rfl, by decide +kernel, by decide +kernel⟩
abbrev s_heights_behind : Stmt := (top 71)
theorem sc_heights_behind : FnScope ["converter", "text", "state", "found", "letter", "answer"] ["converter", "text"] (defScope s_heights_behind) := ⟨rfl, rfl, rfl, by decide +kernel, rfl, by decide +kernel, by decide +kernel⟩
abbrev s_text_gap : Stmt := (top 73)
theorem sc_text_gap : FnScope ["converter", "text"] ["converter", "text"] (defScope s_text_gap) := ⟨rfl, rfl, rfl, by decide +kernel, rfl, by decide +kernel, by decide +kernel⟩
abbrev s_text_array : Stmt := (top 75)
theorem sc_text_array : FnScope ["converter", "text"] ["converter", "text"] (defScope s_text_array) := ⟨rfl, rfl, rfl, by decide +kernel, rfl, by decide +kernel, by decide +kernel⟩
abbrev s_text_extra : Stmt := (top 76)
theorem sc_text_extra : FnScope ["converter", "text"] ["converter", "text"] (defScope s_text_extra) := ⟨rfl, rfl, rfl, by decide +kernel, rfl, by decide +kernel, by decide +kernel⟩
abbrev s_array_of : Stmt := (top 77)
theorem sc_array_of : FnScope ["converter", "text"] ["converter", "text"] (defScope s_array_of) := ⟨rfl, rfl, rfl, by decide +kernel, rfl, by decide +kernel, by decide +kernel⟩
abbrev s_extra_of : Stmt := (top 78)
theorem sc_extra_of : FnScope ["converter", "text"] ["converter", "text"] (defScope s_extra_of) := ⟨rfl, rfl, rfl, by decide +kernel, rfl, by decide +kernel, by decide +kernel⟩
abbrev s_law_pen : Stmt := (top 80)
theorem sc_law_pen : FnScope ["_law_script"] ["_law_script"] (defScope s_law_pen) := ⟨rfl, rfl, rfl, by decide +kernel, rfl, by decide +kernel, by decide +kernel⟩
abbrev s_law_draw : Stmt := (top 81)
theorem sc_law_draw : FnScope ["_law_pen_here", "_law_many", "_law_digit", "_law_at", "_law_cell", "_law_great", "_law_stirred"] ["_law_pen_here", "_law_many"] (defScope s_law_draw) := ⟨rfl, rfl, rfl, by decide +kernel, rfl, by decide +kernel, by decide +kernel⟩
abbrev s_law_pick : Stmt := (top 82)
theorem sc_law_pick : FnScope ["_law_pen_here", "_law_some"] ["_law_pen_here", "_law_some"] (defScope s_law_pick) := ⟨rfl, rfl, rfl, by decide +kernel, rfl, by decide +kernel, by decide +kernel⟩
abbrev s_law_steps : Stmt := (top 83)
theorem sc_law_steps : FnScope ["_law_pen_here", "_law_states", "_law_letters", "_law_steps_here", "_law_state", "_law_letter", "_law_answer"] ["_law_pen_here", "_law_states", "_law_letters"] (defScope s_law_steps) := ⟨rfl, rfl, rfl, by decide +kernel, rfl, by decide +kernel, by decide +kernel⟩
abbrev s_law_plan : Stmt := (top 84)
theorem sc_law_plan : FnScope ["_law_pen_here", "_law_many", "_law_letters", "_law_states", "_law_steps_here", "_law_tails", "_law_state"] ["_law_pen_here", "_law_many", "_law_letters"] (defScope s_law_plan) := ⟨rfl, rfl, rfl, by decide +kernel, rfl, by decide +kernel, by decide +kernel⟩
abbrev s_law_made : Stmt := (top 85)
theorem sc_law_made : FnScope ["_law_plan_here"] ["_law_plan_here"] (defScope s_law_made) := ⟨rfl, rfl, rfl, by decide +kernel, rfl, by decide +kernel, by decide +kernel⟩
abbrev s_law_run : Stmt := (top 89)
theorem sc_law_run : FnScope ["_law_plan_here", "_law_text", "_law_start", "_law_steps_here", "_law_tails", "_law_states", "_law_heights", "_law_answer", "_law_letter", "_law_written", "_law_goal"] ["_law_plan_here", "_law_text"] (defScope s_law_run) := ⟨rfl, rfl, rfl, by decide +kernel, rfl, by decide +kernel, by decide +kernel⟩
abbrev s_law_is_kept : Stmt := (top 91)
theorem sc_law_is_kept : FnScope ["_law_plan_here", "_law_text", "_law_cells", "_law_start", "_law_steps_here", "_law_tails", "_law_ahead", "_law_writer", "_law_state", "_law_at", "_law_answer", "_law_letter"] ["_law_plan_here", "_law_text", "_law_cells"] (defScope s_law_is_kept) := ⟨rfl, rfl, rfl, by decide +kernel, rfl, by decide +kernel, by decide +kernel⟩
abbrev s_law_array : Stmt := (top 92)
theorem sc_law_array : FnScope ["_law_plan_here", "_law_text", "_law_cells"] ["_law_plan_here", "_law_text"] (defScope s_law_array) := ⟨rfl, rfl, rfl, by decide +kernel, rfl, by decide +kernel, by decide +kernel⟩
abbrev s_law : Stmt := (top 94)
theorem sc_law : FnScope ["_law_script", "_law_pen_here", "_law_turn", "_law_letters", "_law_plan_here", "_law_made_here", "_law_lap", "_law_drawn", "_law_run_here", "_law_due", "_law_more", "_law_k"] ["_law_script"] (defScope s_law) := ⟨rfl, rfl, rfl, by decide +kernel, rfl, by decide +kernel, by decide +kernel⟩

structure Txt (P : Program) (K : PySem.W.Frag) (mg : Str → Option Value) (A : Ad) : Prop where
  kf : KF K A
  xsup : mg "super" = none
  g_BadWord : mg "BadWord" = some (.ref A.c_BadWord)
  g_NoStep : mg "NoStep" = some (.ref A.c_NoStep)
  g_NoTail : mg "NoTail" = some (.ref A.c_NoTail)
  g_HeadError : mg "HeadError" = some (.ref A.c_HeadError)
  xs_BadWord : SupF P K A.c_BadWord A.cda_BadWord A.cel_BadWord
  xo_BadWord : OexC K A.c_BadWord
  xi_BadWord : PySem.W.findIn K (.ref A.c_BadWord) "__init__" = some (some (.ref A.f_BadWord_init))
  xt_BadWord : PySem.W.typeIn K (.ref A.f_BadWord_init) = some (.type "function")
  xn_BadWord_value : PySem.W.findIn K (.ref A.c_BadWord) "value" = some none
  xs_NoStep : SupF P K A.c_NoStep A.cda_NoStep A.cel_NoStep
  xo_NoStep : OexC K A.c_NoStep
  xi_NoStep : PySem.W.findIn K (.ref A.c_NoStep) "__init__" = some (some (.ref A.f_NoStep_init))
  xt_NoStep : PySem.W.typeIn K (.ref A.f_NoStep_init) = some (.type "function")
  xn_NoStep_at : PySem.W.findIn K (.ref A.c_NoStep) "at" = some none
  xn_NoStep_state : PySem.W.findIn K (.ref A.c_NoStep) "state" = some none
  xs_NoTail : SupF P K A.c_NoTail A.cda_NoTail A.cel_NoTail
  xo_NoTail : OexC K A.c_NoTail
  xi_NoTail : PySem.W.findIn K (.ref A.c_NoTail) "__init__" = some (some (.ref A.f_NoTail_init))
  xt_NoTail : PySem.W.typeIn K (.ref A.f_NoTail_init) = some (.type "function")
  xn_NoTail_state : PySem.W.findIn K (.ref A.c_NoTail) "state" = some none
  b_abs : mg "abs" = none
  b_all : mg "all" = none
  b_dict : mg "dict" = none
  b_enumerate : mg "enumerate" = none
  b_int : mg "int" = none
  b_isinstance : mg "isinstance" = none
  b_len : mg "len" = none
  b_list : mg "list" = none
  b_max : mg "max" = none
  b_range : mg "range" = none
  b_sorted : mg "sorted" = none
  b_str : mg "str" = none
  b_tuple : mg "tuple" = none
  g_Converter : mg "Converter" = some (.ref A.c_Converter)
  M_Converter : Mk K A.c_Converter A.f_Converter_init
  g_is_row_checks : mg "is_row_checks" = some (.ref A.f_is_row_checks)
  F_is_row_checks : Fun K "is_row" "is_row" s_is_row_checks A.f_is_row_checks A.d_is_row_checks
  B_is_row_checks : Binds K A.d_is_row_checks ["value", "longest"] []
  g_is_letter : mg "is_letter" = some (.ref A.f_is_letter)
  F_is_letter : Fun K "is_letter" "is_letter" s_is_letter A.f_is_letter A.d_is_letter
  B_is_letter : Binds K A.d_is_letter ["value"] []
  g_is_text : mg "is_text" = some (.ref A.f_is_text)
  F_is_text : Fun K "is_text" "is_text" s_is_text A.f_is_text A.d_is_text
  B_is_text : Binds K A.d_is_text ["value"] []
  g_is_answer : mg "is_answer" = some (.ref A.f_is_answer)
  F_is_answer : Fun K "is_answer" "is_answer" s_is_answer A.f_is_answer A.d_is_answer
  B_is_answer : Binds K A.d_is_answer ["value"] []
  g_is_name : mg "is_name" = some (.ref A.f_is_name)
  F_is_name : Fun K "is_name" "is_name" s_is_name A.f_is_name A.d_is_name
  B_is_name : Binds K A.d_is_name ["value"] []
  g_ascending : mg "ascending" = some (.ref A.f_ascending)
  F_ascending : Fun K "ascending" "ascending" s_ascending A.f_ascending A.d_ascending
  B_ascending : Binds K A.d_ascending ["strings"] []
  g_is_key : mg "is_key" = some (.ref A.f_is_key)
  F_is_key : Fun K "is_key" "is_key" s_is_key A.f_is_key A.d_is_key
  B_is_key : Binds K A.d_is_key ["value"] []
  g_is_goal : mg "is_goal" = some (.ref A.f_is_goal)
  F_is_goal : Fun K "is_goal" "is_goal" s_is_goal A.f_is_goal A.d_is_goal
  B_is_goal : Binds K A.d_is_goal ["value"] []
  g_are_steps : mg "are_steps" = some (.ref A.f_are_steps)
  F_are_steps : Fun K "are_steps" "are_steps" s_are_steps A.f_are_steps A.d_are_steps
  B_are_steps : Binds K A.d_are_steps ["value"] []
  g_are_tails : mg "are_tails" = some (.ref A.f_are_tails)
  F_are_tails : Fun K "are_tails" "are_tails" s_are_tails A.f_are_tails A.d_are_tails
  B_are_tails : Binds K A.d_are_tails ["value"] []
  g_need_name : mg "need_name" = some (.ref A.f_need_name)
  F_need_name : Fun K "need_name" "need_name" s_need_name A.f_need_name A.d_need_name
  B_need_name : Binds K A.d_need_name ["value"] []
  g_need_letter : mg "need_letter" = some (.ref A.f_need_letter)
  F_need_letter : Fun K "need_letter" "need_letter" s_need_letter A.f_need_letter A.d_need_letter
  B_need_letter : Binds K A.d_need_letter ["value"] []
  F_BadWord_init : FunX K "__init__" "BadWord.__init__" s_BadWord_init A.f_BadWord_init A.d_BadWord_init A.cda_BadWord A.cel_BadWord
  B_BadWord_init : Binds K A.d_BadWord_init ["self", "value"] []
  F_NoStep_init : FunX K "__init__" "NoStep.__init__" s_NoStep_init A.f_NoStep_init A.d_NoStep_init A.cda_NoStep A.cel_NoStep
  B_NoStep_init : Binds K A.d_NoStep_init ["self", "at", "state"] []
  F_NoTail_init : FunX K "__init__" "NoTail.__init__" s_NoTail_init A.f_NoTail_init A.d_NoTail_init A.cda_NoTail A.cel_NoTail
  B_NoTail_init : Binds K A.d_NoTail_init ["self", "state"] []
  F_Converter_init : Fun K "__init__" "Converter.__init__" s_Converter_init A.f_Converter_init A.d_Converter_init
  B_Converter_init : Binds K A.d_Converter_init ["self", "start", "steps", "tails"] []
  F_Converter_call : Fun K "__call__" "Converter.__call__" s_Converter_call A.f_Converter_call A.d_Converter_call
  B_Converter_call : Binds K A.d_Converter_call ["self", "text"] []
  g_need_converter : mg "need_converter" = some (.ref A.f_need_converter)
  F_need_converter : FunD K "need_converter" "need_converter" (defArgs s_need_converter) (defBody s_need_converter) (defScope s_need_converter) [.str "converter"] [] A.f_need_converter A.d_need_converter
  B_need_converter : Binds K A.d_need_converter ["value", "part"] []
  g_most_of : mg "most_of" = some (.ref A.f_most_of)
  F_most_of : Fun K "most_of" "most_of" s_most_of A.f_most_of A.d_most_of
  B_most_of : Binds K A.d_most_of ["numbers", "least"] []
  g_weight : mg "weight" = some (.ref A.f_weight)
  F_weight : Fun K "weight" "weight" s_weight A.f_weight A.d_weight
  B_weight : Binds K A.d_weight ["answer"] []
  g_heights_behind : mg "heights_behind" = some (.ref A.f_heights_behind)
  F_heights_behind : Fun K "heights_behind" "heights_behind" s_heights_behind A.f_heights_behind A.d_heights_behind
  B_heights_behind : Binds K A.d_heights_behind ["converter", "text"] []
  g_text_gap : mg "text_gap" = some (.ref A.f_text_gap)
  F_text_gap : Fun K "text_gap" "text_gap" s_text_gap A.f_text_gap A.d_text_gap
  B_text_gap : Binds K A.d_text_gap ["converter", "text"] []
  g_text_array : mg "text_array" = some (.ref A.f_text_array)
  F_text_array : Fun K "text_array" "text_array" s_text_array A.f_text_array A.d_text_array
  B_text_array : Binds K A.d_text_array ["converter", "text"] []
  g_text_extra : mg "text_extra" = some (.ref A.f_text_extra)
  F_text_extra : Fun K "text_extra" "text_extra" s_text_extra A.f_text_extra A.d_text_extra
  B_text_extra : Binds K A.d_text_extra ["converter", "text"] []
  g_array_of : mg "array_of" = some (.ref A.f_array_of)
  F_array_of : Fun K "array_of" "array_of" s_array_of A.f_array_of A.d_array_of
  B_array_of : Binds K A.d_array_of ["converter", "text"] []
  g_extra_of : mg "extra_of" = some (.ref A.f_extra_of)
  F_extra_of : Fun K "extra_of" "extra_of" s_extra_of A.f_extra_of A.d_extra_of
  B_extra_of : Binds K A.d_extra_of ["converter", "text"] []
  g_law_pen : mg "_law_pen" = some (.ref A.f_law_pen)
  F_law_pen : Fun K "_law_pen" "_law_pen" s_law_pen A.f_law_pen A.d_law_pen
  B_law_pen : Binds K A.d_law_pen ["_law_script"] []
  g_law_draw : mg "_law_draw" = some (.ref A.f_law_draw)
  F_law_draw : Fun K "_law_draw" "_law_draw" s_law_draw A.f_law_draw A.d_law_draw
  B_law_draw : Binds K A.d_law_draw ["_law_pen_here", "_law_many"] []
  g_law_pick : mg "_law_pick" = some (.ref A.f_law_pick)
  F_law_pick : Fun K "_law_pick" "_law_pick" s_law_pick A.f_law_pick A.d_law_pick
  B_law_pick : Binds K A.d_law_pick ["_law_pen_here", "_law_some"] []
  g_law_steps : mg "_law_steps" = some (.ref A.f_law_steps)
  F_law_steps : Fun K "_law_steps" "_law_steps" s_law_steps A.f_law_steps A.d_law_steps
  B_law_steps : Binds K A.d_law_steps ["_law_pen_here", "_law_states", "_law_letters"] []
  g_law_plan : mg "_law_plan" = some (.ref A.f_law_plan)
  F_law_plan : Fun K "_law_plan" "_law_plan" s_law_plan A.f_law_plan A.d_law_plan
  B_law_plan : Binds K A.d_law_plan ["_law_pen_here", "_law_many", "_law_letters"] []
  g_law_made : mg "_law_made" = some (.ref A.f_law_made)
  F_law_made : Fun K "_law_made" "_law_made" s_law_made A.f_law_made A.d_law_made
  B_law_made : Binds K A.d_law_made ["_law_plan_here"] []
  g_law_run : mg "_law_run" = some (.ref A.f_law_run)
  F_law_run : Fun K "_law_run" "_law_run" s_law_run A.f_law_run A.d_law_run
  B_law_run : Binds K A.d_law_run ["_law_plan_here", "_law_text"] []
  g_law_is_kept : mg "_law_is_kept" = some (.ref A.f_law_is_kept)
  F_law_is_kept : Fun K "_law_is_kept" "_law_is_kept" s_law_is_kept A.f_law_is_kept A.d_law_is_kept
  B_law_is_kept : Binds K A.d_law_is_kept ["_law_plan_here", "_law_text", "_law_cells"] []
  g_law_array : mg "_law_array" = some (.ref A.f_law_array)
  F_law_array : Fun K "_law_array" "_law_array" s_law_array A.f_law_array A.d_law_array
  B_law_array : Binds K A.d_law_array ["_law_plan_here", "_law_text"] []
  F_law : Fun K "law" "law" s_law A.f_law A.d_law
  gi_LONGEST_NAME : ∃ t, mg "LONGEST_NAME" = some (.int 8 t)
  gi_LONGEST_TEXT : ∃ t, mg "LONGEST_TEXT" = some (.int 400 t)
  gi_LONGEST_ANSWER : ∃ t, mg "LONGEST_ANSWER" = some (.int 4 t)
  gs_LETTERS : ∃ t, mg "LETTERS" = some (.str "abcdefghijklmnopqrstuvwxyz" t)
  ca_Converter_MOST : CInt K A.c_Converter "MOST" 6
  co_Converter : StX.CallO K A.c_Converter A.f_Converter_call
  KW_array_of_text_converter : ∃ g, KBn K A.d_array_of ["converter", "text"] 0 ["text", "converter"] g kw_array_of_text_converter
  KW_extra_of_text_converter : ∃ g, KBn K A.d_extra_of ["converter", "text"] 0 ["text", "converter"] g kw_extra_of_text_converter


theorem ok_is_row_checks {P : Program} {w : World} {K : PySem.W.Frag} {mg : Str → Option Value} {base : Heap} {A : Ad} (T : Txt P K mg A) :
    FnG P w K mg base CX0 1 A.f_is_row_checks A.d_is_row_checks ["value", "longest"] (sp_is_row_checks K A) := by
  obtain ⟨ts_LETTERS, gs_LETTERS⟩ := T.gs_LETTERS
  refine okG T.F_is_row_checks sc_is_row_checks (fun vs H Q E h => ?_) (fun cdv A' outer s H vs Q E hr hG h => ⟨(t_is_row_checks_0 K A), ?_, pure_is_row_checks h⟩)
  · unfold sp_is_row_checks at h
    try unfold spPenL at h
    try unfold spDrawL at h
    try unfold spPickL at h
    try unfold spLaw at h
    try unfold sp_text_array at h
    try unfold sp_text_extra at h
    split at h <;> first | rfl | exact h.elim
  · exact (pss_cons (ps_if (PW.pt (pw_or (pt_not (pt_val (pe_callB call_isiU (by rfl) T.b_isinstance (by decide +kernel) (pa_cons (pv 0) (pa_cons (pe_bltn rfl T.b_str (by decide +kernel) rfl) pa_nil))))) (pw_or1 (pt_cmpR op_gtU (pe_callB call_lenU (by rfl) T.b_len PySem.boot_len (pa_cons (pv 0) pa_nil)) (pv 1) (nomark _))))) (pss_one (ps_ret pe_bl)) pss_nil)
    (pss_one (ps_ret (pe_callB (call_allU rfl) (by rfl) T.b_all (by decide +kernel) (pa_cons (pe_lc (own := [("sign", 2)]) (g := (gName 2)) (tt := tYes) (by rfl) sc_is_row_checks.nd (pi_str (pv 0)) (blkOk_by (own := [("sign", 2)]) (N := ["value", "longest", "sign"]) (sc := defScope s_is_row_checks) (by decide +kernel)) (fun _ _ _ _ _ => (pg_name (i := 2) sc_is_row_checks.nd rfl (Or.inl rfl))) (fun _ _ _ _ _ => pts_nil) (fun _ _ _ _ _ => (pe_cmpR op_inS (pv 2) (pe_glob rfl gs_LETTERS ⟨_, rfl⟩) rfl))) pa_nil)))))
theorem ok_is_letter {P : Program} {w : World} {K : PySem.W.Frag} {mg : Str → Option Value} {base : Heap} {A : Ad} (T : Txt P K mg A)
    (G_is_row_checks : FnG P w K mg base CX0 1 A.f_is_row_checks A.d_is_row_checks ["value", "longest"] (sp_is_row_checks K A)) :
    FnG P w K mg base CX0 3 A.f_is_letter A.d_is_letter ["value"] (sp_is_letter K A) := by
  refine okG T.F_is_letter sc_is_letter (fun vs H Q E h => ?_) (fun cdv A' outer s H vs Q E hr hG h => ⟨(t_is_letter_0 K A), ?_, pure_is_letter h⟩)
  · unfold sp_is_letter at h
    try unfold spPenL at h
    try unfold spDrawL at h
    try unfold spPickL at h
    try unfold spLaw at h
    try unfold sp_text_array at h
    try unfold sp_text_extra at h
    split at h <;> first | rfl | exact h.elim
  · exact (pss_one (ps_ret (pe_and (pe_callG G_is_row_checks (hr.mono (by decide)) hG rfl T.g_is_row_checks T.F_is_row_checks.kp T.B_is_row_checks .nil pass0 (pa_cons (pv 0) (pa_cons pe_int pa_nil))) (pe_one (pe_cmpR (op_neU hr.units) (pv 0) pe_str (nomark _))))))
theorem ok_is_text {P : Program} {w : World} {K : PySem.W.Frag} {mg : Str → Option Value} {base : Heap} {A : Ad} (T : Txt P K mg A)
    (G_is_row_checks : FnG P w K mg base CX0 1 A.f_is_row_checks A.d_is_row_checks ["value", "longest"] (sp_is_row_checks K A)) :
    FnG P w K mg base CX0 3 A.f_is_text A.d_is_text ["value"] (sp_is_text K A) := by
  obtain ⟨ti_LONGEST_TEXT, gi_LONGEST_TEXT⟩ := T.gi_LONGEST_TEXT
  refine okG T.F_is_text sc_is_text (fun vs H Q E h => ?_) (fun cdv A' outer s H vs Q E hr hG h => ⟨(t_is_text_0 K A), ?_, pure_is_text h⟩)
  · unfold sp_is_text at h
    try unfold spPenL at h
    try unfold spDrawL at h
    try unfold spPickL at h
    try unfold spLaw at h
    try unfold sp_text_array at h
    try unfold sp_text_extra at h
    split at h <;> first | rfl | exact h.elim
  · exact (pss_one (ps_ret (pe_callG G_is_row_checks (hr.mono (by decide)) hG rfl T.g_is_row_checks T.F_is_row_checks.kp T.B_is_row_checks .nil pass0 (pa_cons (pv 0) (pa_cons (pe_glob rfl gi_LONGEST_TEXT ⟨_, rfl⟩) pa_nil)))))
theorem ok_is_answer {P : Program} {w : World} {K : PySem.W.Frag} {mg : Str → Option Value} {base : Heap} {A : Ad} (T : Txt P K mg A)
    (G_is_row_checks : FnG P w K mg base CX0 1 A.f_is_row_checks A.d_is_row_checks ["value", "longest"] (sp_is_row_checks K A)) :
    FnG P w K mg base CX0 3 A.f_is_answer A.d_is_answer ["value"] (sp_is_answer K A) := by
  obtain ⟨ti_LONGEST_ANSWER, gi_LONGEST_ANSWER⟩ := T.gi_LONGEST_ANSWER
  refine okG T.F_is_answer sc_is_answer (fun vs H Q E h => ?_) (fun cdv A' outer s H vs Q E hr hG h => ⟨(t_is_answer_0 K A), ?_, pure_is_answer h⟩)
  · unfold sp_is_answer at h
    try unfold spPenL at h
    try unfold spDrawL at h
    try unfold spPickL at h
    try unfold spLaw at h
    try unfold sp_text_array at h
    try unfold sp_text_extra at h
    split at h <;> first | rfl | exact h.elim
  · exact (pss_one (ps_ret (pe_callG G_is_row_checks (hr.mono (by decide)) hG rfl T.g_is_row_checks T.F_is_row_checks.kp T.B_is_row_checks .nil pass0 (pa_cons (pv 0) (pa_cons (pe_glob rfl gi_LONGEST_ANSWER ⟨_, rfl⟩) pa_nil)))))
theorem ok_is_name {P : Program} {w : World} {K : PySem.W.Frag} {mg : Str → Option Value} {base : Heap} {A : Ad} (T : Txt P K mg A)
    (G_is_row_checks : FnG P w K mg base CX0 1 A.f_is_row_checks A.d_is_row_checks ["value", "longest"] (sp_is_row_checks K A)) :
    FnG P w K mg base CX0 3 A.f_is_name A.d_is_name ["value"] (sp_is_name K A) := by
  obtain ⟨ti_LONGEST_NAME, gi_LONGEST_NAME⟩ := T.gi_LONGEST_NAME
  refine okG T.F_is_name sc_is_name (fun vs H Q E h => ?_) (fun cdv A' outer s H vs Q E hr hG h => ⟨(t_is_name_0 K A), ?_, pure_is_name h⟩)
  · unfold sp_is_name at h
    try unfold spPenL at h
    try unfold spDrawL at h
    try unfold spPickL at h
    try unfold spLaw at h
    try unfold sp_text_array at h
    try unfold sp_text_extra at h
    split at h <;> first | rfl | exact h.elim
  · exact (pss_one (ps_ret (pe_and (pe_callG G_is_row_checks (hr.mono (by decide)) hG rfl T.g_is_row_checks T.F_is_row_checks.kp T.B_is_row_checks .nil pass0 (pa_cons (pv 0) (pa_cons (pe_glob rfl gi_LONGEST_NAME ⟨_, rfl⟩) pa_nil))) (pe_one (pe_cmpR (op_neU hr.units) (pv 0) pe_str (nomark _))))))
theorem ok_ascending {P : Program} {w : World} {K : PySem.W.Frag} {mg : Str → Option Value} {base : Heap} {A : Ad} (T : Txt P K mg A) :
    FnG P w K mg base CX0 1 A.f_ascending A.d_ascending ["strings"] (sp_ascending K A) := by
  refine okG T.F_ascending sc_ascending (fun vs H Q E h => ?_) (fun cdv A' outer s H vs Q E hr hG h => ⟨(t_ascending_0 K A), ?_, pure_ascending h⟩)
  · unfold sp_ascending at h
    try unfold spPenL at h
    try unfold spDrawL at h
    try unfold spPickL at h
    try unfold spLaw at h
    try unfold sp_text_array at h
    try unfold sp_text_extra at h
    split at h <;> first | rfl | exact h.elim
  · exact (pss_one (ps_ret (pe_callTy call_tupE (by rfl) T.b_tuple (by decide +kernel) (pa_cons (pe_callB cr_sortedS (by rfl) T.b_sorted (by decide +kernel) (pa_cons (pe_lc (own := [("string", 1)]) (g := (gName 1)) (tt := tYes) (by rfl) sc_ascending.nd (pi_keysLK (pe_dc (own := [("one", 2)]) (g := (gName 2)) (tt := tYes) (by rfl) sc_ascending.nd (pi_seq (pv 0)) (blkOk_by (own := [("one", 2)]) (N := ["strings", "string", "one"]) (sc := defScope s_ascending) (by decide +kernel)) (fun _ _ _ _ _ => (pg_name (i := 2) sc_ascending.nd rfl (Or.inl rfl))) (fun _ _ _ _ _ => pts_nil) (fun _ _ _ _ _ => (pv 2)) (fun _ _ _ _ _ => pe_bl))) (blkOk_by (own := [("string", 1)]) (N := ["strings", "string", "one"]) (sc := defScope s_ascending) (by decide +kernel)) (fun _ _ _ _ _ => (pg_name (i := 1) sc_ascending.nd rfl (Or.inl rfl))) (fun _ _ _ _ _ => pts_nil) (fun _ _ _ _ _ => (pe_callTy call_strU (by rfl) T.b_str (by decide +kernel) (pa_cons (pv 1) pa_nil)))) pa_nil)) pa_nil))))
theorem ok_is_key {P : Program} {w : World} {K : PySem.W.Frag} {mg : Str → Option Value} {base : Heap} {A : Ad} (T : Txt P K mg A)
    (G_is_letter : FnG P w K mg base CX0 3 A.f_is_letter A.d_is_letter ["value"] (sp_is_letter K A))
    (G_is_name : FnG P w K mg base CX0 3 A.f_is_name A.d_is_name ["value"] (sp_is_name K A)) :
    FnG P w K mg base CX0 5 A.f_is_key A.d_is_key ["value"] (sp_is_key K A) := by
  refine okG T.F_is_key sc_is_key (fun vs H Q E h => ?_) (fun cdv A' outer s H vs Q E hr hG h => ⟨(t_is_key_0 K A), ?_, pure_is_key h⟩)
  · unfold sp_is_key at h
    try unfold spPenL at h
    try unfold spDrawL at h
    try unfold spPickL at h
    try unfold spLaw at h
    try unfold sp_text_array at h
    try unfold sp_text_extra at h
    split at h <;> first | rfl | exact h.elim
  · exact (pss_one (ps_ret (pe_and (pe_callB call_isiU (by rfl) T.b_isinstance (by decide +kernel) (pa_cons (pv 0) (pa_cons (pe_bltn rfl T.b_tuple (by decide +kernel) rfl) pa_nil))) (pe_and (pe_cmpR (op_eqU hr.units) (pe_callB call_lenE (by rfl) T.b_len PySem.boot_len (pa_cons (pv 0) pa_nil)) pe_int (nomark _)) (pe_and (pe_callG G_is_name (hr.mono (by decide)) hG rfl T.g_is_name T.F_is_name.kp T.B_is_name .nil pass0 (pa_cons (pe_ix ix_seq (pv 0) pe_int (fun _ _ => rfl)) pa_nil)) (pe_one (pe_callG G_is_letter (hr.mono (by decide)) hG rfl T.g_is_letter T.F_is_letter.kp T.B_is_letter .nil pass0 (pa_cons (pe_ix ix_seq (pv 0) pe_int (fun _ _ => rfl)) pa_nil))))))))
theorem ok_is_goal {P : Program} {w : World} {K : PySem.W.Frag} {mg : Str → Option Value} {base : Heap} {A : Ad} (T : Txt P K mg A)
    (G_is_answer : FnG P w K mg base CX0 3 A.f_is_answer A.d_is_answer ["value"] (sp_is_answer K A))
    (G_is_name : FnG P w K mg base CX0 3 A.f_is_name A.d_is_name ["value"] (sp_is_name K A)) :
    FnG P w K mg base CX0 5 A.f_is_goal A.d_is_goal ["value"] (sp_is_goal K A) := by
  refine okG T.F_is_goal sc_is_goal (fun vs H Q E h => ?_) (fun cdv A' outer s H vs Q E hr hG h => ⟨(t_is_goal_0 K A), ?_, pure_is_goal h⟩)
  · unfold sp_is_goal at h
    try unfold spPenL at h
    try unfold spDrawL at h
    try unfold spPickL at h
    try unfold spLaw at h
    try unfold sp_text_array at h
    try unfold sp_text_extra at h
    split at h <;> first | rfl | exact h.elim
  · exact (pss_one (ps_ret (pe_and (pe_callB call_isiU (by rfl) T.b_isinstance (by decide +kernel) (pa_cons (pv 0) (pa_cons (pe_bltn rfl T.b_tuple (by decide +kernel) rfl) pa_nil))) (pe_and (pe_cmpR (op_eqU hr.units) (pe_callB call_lenE (by rfl) T.b_len PySem.boot_len (pa_cons (pv 0) pa_nil)) pe_int (nomark _)) (pe_and (pe_callG G_is_answer (hr.mono (by decide)) hG rfl T.g_is_answer T.F_is_answer.kp T.B_is_answer .nil pass0 (pa_cons (pe_ix ix_seq (pv 0) pe_int (fun _ _ => rfl)) pa_nil)) (pe_one (pe_callG G_is_name (hr.mono (by decide)) hG rfl T.g_is_name T.F_is_name.kp T.B_is_name .nil pass0 (pa_cons (pe_ix ix_seq (pv 0) pe_int (fun _ _ => rfl)) pa_nil))))))))
theorem ok_are_steps {P : Program} {w : World} {K : PySem.W.Frag} {mg : Str → Option Value} {base : Heap} {A : Ad} (T : Txt P K mg A)
    (G_is_key : FnG P w K mg base CX0 5 A.f_is_key A.d_is_key ["value"] (sp_is_key K A))
    (G_is_goal : FnG P w K mg base CX0 5 A.f_is_goal A.d_is_goal ["value"] (sp_is_goal K A)) :
    FnG P w K mg base CX0 7 A.f_are_steps A.d_are_steps ["value"] (sp_are_steps K A) := by
  refine okG T.F_are_steps sc_are_steps (fun vs H Q E h => ?_) (fun cdv A' outer s H vs Q E hr hG h => ⟨(t_are_steps_0 K A), ?_, pure_are_steps h⟩)
  · unfold sp_are_steps at h
    try unfold spPenL at h
    try unfold spDrawL at h
    try unfold spPickL at h
    try unfold spLaw at h
    try unfold sp_text_array at h
    try unfold sp_text_extra at h
    split at h <;> first | rfl | exact h.elim
  · exact (pss_one (ps_ret (pe_and (pe_callB call_isiU (by rfl) T.b_isinstance (by decide +kernel) (pa_cons (pv 0) (pa_cons (pe_bltn rfl T.b_dict (by decide +kernel) rfl) pa_nil))) (pe_one (pe_callB (call_allU rfl) (by rfl) T.b_all (by decide +kernel) (pa_cons (pe_lock (pe_lc (own := [("key", 1)]) (g := (gName 1)) (tt := tYes) (by rfl) sc_are_steps.nd (pi_keys (pv 0)) (blkOk_by (own := [("key", 1)]) (N := ["value", "key"]) (sc := defScope s_are_steps) (by decide +kernel)) (fun _ _ _ _ _ => (pg_name (i := 1) sc_are_steps.nd rfl (Or.inl rfl))) (fun _ _ _ _ _ => pts_nil) (fun _ _ _ _ _ => (pe_and (pe_callG G_is_key (hr.mono (by decide)) hG rfl T.g_is_key T.F_is_key.kp T.B_is_key .nil pass0 (pa_cons (pv 1) pa_nil)) (pe_one (pe_callG G_is_goal (hr.mono (by decide)) hG rfl T.g_is_goal T.F_is_goal.kp T.B_is_goal .nil pass0 (pa_cons (pe_dget hr.units1 (pv 0) (pv 1) (fun _ _ => rfl)) pa_nil))))))) pa_nil))))))
theorem ok_are_tails {P : Program} {w : World} {K : PySem.W.Frag} {mg : Str → Option Value} {base : Heap} {A : Ad} (T : Txt P K mg A)
    (G_is_answer : FnG P w K mg base CX0 3 A.f_is_answer A.d_is_answer ["value"] (sp_is_answer K A))
    (G_is_name : FnG P w K mg base CX0 3 A.f_is_name A.d_is_name ["value"] (sp_is_name K A)) :
    FnG P w K mg base CX0 5 A.f_are_tails A.d_are_tails ["value"] (sp_are_tails K A) := by
  refine okG T.F_are_tails sc_are_tails (fun vs H Q E h => ?_) (fun cdv A' outer s H vs Q E hr hG h => ⟨(t_are_tails_0 K A), ?_, pure_are_tails h⟩)
  · unfold sp_are_tails at h
    try unfold spPenL at h
    try unfold spDrawL at h
    try unfold spPickL at h
    try unfold spLaw at h
    try unfold sp_text_array at h
    try unfold sp_text_extra at h
    split at h <;> first | rfl | exact h.elim
  · exact (pss_one (ps_ret (pe_and (pe_callB call_isiU (by rfl) T.b_isinstance (by decide +kernel) (pa_cons (pv 0) (pa_cons (pe_bltn rfl T.b_dict (by decide +kernel) rfl) pa_nil))) (pe_one (pe_callB (call_allU rfl) (by rfl) T.b_all (by decide +kernel) (pa_cons (pe_lock (pe_lc (own := [("key", 1)]) (g := (gName 1)) (tt := tYes) (by rfl) sc_are_tails.nd (pi_keys (pv 0)) (blkOk_by (own := [("key", 1)]) (N := ["value", "key"]) (sc := defScope s_are_tails) (by decide +kernel)) (fun _ _ _ _ _ => (pg_name (i := 1) sc_are_tails.nd rfl (Or.inl rfl))) (fun _ _ _ _ _ => pts_nil) (fun _ _ _ _ _ => (pe_and (pe_callG G_is_name (hr.mono (by decide)) hG rfl T.g_is_name T.F_is_name.kp T.B_is_name .nil pass0 (pa_cons (pv 1) pa_nil)) (pe_one (pe_callG G_is_answer (hr.mono (by decide)) hG rfl T.g_is_answer T.F_is_answer.kp T.B_is_answer .nil pass0 (pa_cons (pe_dget hr.units1 (pv 0) (pv 1) (fun _ _ => rfl)) pa_nil))))))) pa_nil))))))
theorem ok_need_name {P : Program} {w : World} {K : PySem.W.Frag} {mg : Str → Option Value} {base : Heap} {A : Ad} (T : Txt P K mg A)
    (G_is_name : FnG P w K mg base CX0 3 A.f_is_name A.d_is_name ["value"] (sp_is_name K A)) :
    FnG P w K mg base CX0 5 A.f_need_name A.d_need_name ["value"] (sp_need_name K A) := by
  refine okG T.F_need_name sc_need_name (fun vs H Q E h => ?_) (fun cdv A' outer s H vs Q E hr hG h => ⟨(t_need_name_0 K A), ?_, pure_need_name h⟩)
  · unfold sp_need_name at h
    try unfold spPenL at h
    try unfold spDrawL at h
    try unfold spPickL at h
    try unfold spLaw at h
    try unfold sp_text_array at h
    try unfold sp_text_extra at h
    split at h <;> first | rfl | exact h.elim
  · exact (pss_one (ps_if (pt_not (pt_val (pe_callG G_is_name (hr.mono (by decide)) hG rfl T.g_is_name T.F_is_name.kp T.B_is_name .nil pass0 (pa_cons (pv 0) pa_nil)))) (pss_one ps_never) pss_nil))
theorem ok_need_letter {P : Program} {w : World} {K : PySem.W.Frag} {mg : Str → Option Value} {base : Heap} {A : Ad} (T : Txt P K mg A)
    (G_is_letter : FnG P w K mg base CX0 3 A.f_is_letter A.d_is_letter ["value"] (sp_is_letter K A)) :
    FnG P w K mg base CX0 5 A.f_need_letter A.d_need_letter ["value"] (sp_need_letter K A) := by
  refine okG T.F_need_letter sc_need_letter (fun vs H Q E h => ?_) (fun cdv A' outer s H vs Q E hr hG h => ⟨(t_need_letter_0 K A), ?_, pure_need_letter h⟩)
  · unfold sp_need_letter at h
    try unfold spPenL at h
    try unfold spDrawL at h
    try unfold spPickL at h
    try unfold spLaw at h
    try unfold sp_text_array at h
    try unfold sp_text_extra at h
    split at h <;> first | rfl | exact h.elim
  · exact (pss_one (ps_if (pt_not (pt_val (pe_callG G_is_letter (hr.mono (by decide)) hG rfl T.g_is_letter T.F_is_letter.kp T.B_is_letter .nil pass0 (pa_cons (pv 0) pa_nil)))) (pss_one ps_never) pss_nil))
theorem ok_BadWord_init {P : Program} {w : World} {K : PySem.W.Frag} {mg : Str → Option Value} {base : Heap} {A : Ad} (T : Txt P K mg A) : FnOk P w K mg base CX0 1 A.f_BadWord_init A.d_BadWord_init ["self", "value"] (sp_BadWord_init K A) :=
  okX1 T.F_BadWord_init scx_BadWord_init T.xs_BadWord T.xsup T.xn_BadWord_value (by decide) (by decide) (by decide) (by decide) rfl rfl rfl (fun _ => ⟨_, rfl⟩) (fun _ => rfl) (fun _ => rfl) (fun _ => rfl)
theorem ok_NoStep_init {P : Program} {w : World} {K : PySem.W.Frag} {mg : Str → Option Value} {base : Heap} {A : Ad} (T : Txt P K mg A) : FnOk P w K mg base CX0 1 A.f_NoStep_init A.d_NoStep_init ["self", "at", "state"] (sp_NoStep_init K A) :=
  okX2 T.F_NoStep_init scx_NoStep_init T.xs_NoStep T.xsup T.xn_NoStep_at T.xn_NoStep_state (by decide) (by decide) (by decide) (by decide) (by decide) (by decide) rfl rfl rfl (fun _ => ⟨_, rfl⟩) (fun _ => rfl) (fun _ => rfl) (fun _ => rfl) (fun _ => rfl)
theorem ok_NoTail_init {P : Program} {w : World} {K : PySem.W.Frag} {mg : Str → Option Value} {base : Heap} {A : Ad} (T : Txt P K mg A) : FnOk P w K mg base CX0 1 A.f_NoTail_init A.d_NoTail_init ["self", "state"] (sp_NoTail_init K A) :=
  okX1 T.F_NoTail_init scx_NoTail_init T.xs_NoTail T.xsup T.xn_NoTail_state (by decide) (by decide) (by decide) (by decide) rfl rfl rfl (fun _ => ⟨_, rfl⟩) (fun _ => rfl) (fun _ => rfl) (fun _ => rfl)
theorem ok_Converter_init {P : Program} {w : World} {K : PySem.W.Frag} {mg : Str → Option Value} {base : Heap} {A : Ad} (T : Txt P K mg A)
    (G_ascending : FnG P w K mg base CX0 1 A.f_ascending A.d_ascending ["strings"] (sp_ascending K A))
    (G_are_steps : FnG P w K mg base CX0 7 A.f_are_steps A.d_are_steps ["value"] (sp_are_steps K A))
    (G_are_tails : FnG P w K mg base CX0 5 A.f_are_tails A.d_are_tails ["value"] (sp_are_tails K A))
    (G_need_name : FnG P w K mg base CX0 5 A.f_need_name A.d_need_name ["value"] (sp_need_name K A)) :
    FnG P w K mg base CX0 9 A.f_Converter_init A.d_Converter_init ["self", "start", "steps", "tails"] (sp_Converter_init K A) := by
  refine okG T.F_Converter_init sc_Converter_init (fun vs H Q E h => ?_) (fun cdv A' outer s H vs Q E hr hG h => ⟨(t_Converter_init_0 K A), ?_, pure_Converter_init T.kf h⟩)
  · unfold sp_Converter_init at h
    try unfold spPenL at h
    try unfold spDrawL at h
    try unfold spPickL at h
    try unfold spLaw at h
    try unfold sp_text_array at h
    try unfold sp_text_extra at h
    split at h <;> first | rfl | exact h.elim
  · exact (pss_cons (ps_expr (pe_callG G_need_name (hr.mono (by decide)) hG rfl T.g_need_name T.F_need_name.kp T.B_need_name .nil pass0 (pa_cons (pv 1) pa_nil)))
    (pss_cons (ps_if (pt_not (pt_val (pe_callG G_are_steps (hr.mono (by decide)) hG rfl T.g_are_steps T.F_are_steps.kp T.B_are_steps .nil pass0 (pa_cons (pv 2) pa_nil)))) (pss_one ps_never) pss_nil)
    (pss_cons (ps_if (pt_not (pt_val (pe_callG G_are_tails (hr.mono (by decide)) hG rfl T.g_are_tails T.F_are_tails.kp T.B_are_tails .nil pass0 (pa_cons (pv 3) pa_nil)))) (pss_one ps_never) pss_nil)
    (pss_cons (ps_fld (pv 0) (pv 1) rfl)
    (pss_cons (ps_fld (pv 0) (pe_lock (pe_dcT (own := [("key", 4)]) (g := (gName 4)) (tt := tYes) hr.units1 (by rfl) sc_Converter_init.nd (pi_keys (pv 2)) (blkOk_by (own := [("key", 4)]) (N := ["self", "start", "steps", "tails", "key", "state"]) (sc := defScope s_Converter_init) (by decide +kernel)) (fun _ _ _ _ _ => (pg_name (i := 4) sc_Converter_init.nd rfl (Or.inl rfl))) (fun _ _ _ _ _ => pts_nil) (fun _ _ _ _ _ => (pv 4)) (fun _ _ _ _ _ => (pe_dget hr.units1 (pv 2) (pv 4) (fun _ _ => rfl))))) rfl)
    (pss_cons (ps_fld (pv 0) (pe_lock (pe_dc (own := [("state", 5)]) (g := (gName 5)) (tt := tYes) (by rfl) sc_Converter_init.nd (pi_keys (pv 3)) (blkOk_by (own := [("state", 5)]) (N := ["self", "start", "steps", "tails", "key", "state"]) (sc := defScope s_Converter_init) (by decide +kernel)) (fun _ _ _ _ _ => (pg_name (i := 5) sc_Converter_init.nd rfl (Or.inl rfl))) (fun _ _ _ _ _ => pts_nil) (fun _ _ _ _ _ => (pv 5)) (fun _ _ _ _ _ => (pe_dget hr.units1 (pv 3) (pv 5) (fun _ _ => rfl))))) rfl)
    (pss_cons (ps_fld (pv 0) (pe_callG G_ascending (hr.mono (by decide)) hG rfl T.g_ascending T.F_ascending.kp T.B_ascending .nil pass0 (pa_cons (pe_lst (pa_cons (pv 1) (pa_starK (by rfl) (pv 3) (StX.pa_star (pe_lock (pe_lc (own := [("key", 4)]) (g := (gName 4)) (tt := tYes) (by rfl) sc_Converter_init.nd (pi_keys (pv 2)) (blkOk_by (own := [("key", 4)]) (N := ["self", "start", "steps", "tails", "key", "state"]) (sc := defScope s_Converter_init) (by decide +kernel)) (fun _ _ _ _ _ => (pg_name (i := 4) sc_Converter_init.nd rfl (Or.inl rfl))) (fun _ _ _ _ _ => pts_nil) (fun _ _ _ _ _ => (pe_ix ix_seq (pv 4) pe_int (fun _ _ => rfl))))) (StX.pa_star (pe_lock (pe_lc (own := [("key", 4)]) (g := (gName 4)) (tt := tYes) (by rfl) sc_Converter_init.nd (pi_keys (pv 2)) (blkOk_by (own := [("key", 4)]) (N := ["self", "start", "steps", "tails", "key", "state"]) (sc := defScope s_Converter_init) (by decide +kernel)) (fun _ _ _ _ _ => (pg_name (i := 4) sc_Converter_init.nd rfl (Or.inl rfl))) (fun _ _ _ _ _ => pts_nil) (fun _ _ _ _ _ => (pe_ix ix_seq (pe_dget hr.units1 (pv 2) (pv 4) (fun _ _ => rfl)) pe_int (fun _ _ => rfl))))) pa_nil))))) pa_nil)) rfl)
    (pss_cons (ps_fld (pv 0) (pe_callG G_ascending (hr.mono (by decide)) hG rfl T.g_ascending T.F_ascending.kp T.B_ascending .nil pass0 (pa_cons (pe_lock (pe_lc (own := [("key", 4)]) (g := (gName 4)) (tt := tYes) (by rfl) sc_Converter_init.nd (pi_keys (pv 2)) (blkOk_by (own := [("key", 4)]) (N := ["self", "start", "steps", "tails", "key", "state"]) (sc := defScope s_Converter_init) (by decide +kernel)) (fun _ _ _ _ _ => (pg_name (i := 4) sc_Converter_init.nd rfl (Or.inl rfl))) (fun _ _ _ _ _ => pts_nil) (fun _ _ _ _ _ => (pe_ix ix_seq (pv 4) pe_int (fun _ _ => rfl))))) pa_nil)) rfl)
    (pss_cons (ps_if (pt_cmpR op_gtU (pe_callB call_lenE (by rfl) T.b_len PySem.boot_len (pa_cons (pe_fld (pv 0) rfl) pa_nil)) (pe_cint (pe_glob rfl T.g_Converter rfl) T.ca_Converter_MOST) (nomark _)) (pss_one ps_never) pss_nil)
    (pss_one (ps_if (pt_cmpR op_gtU (pe_callB call_lenE (by rfl) T.b_len PySem.boot_len (pa_cons (pe_fld (pv 0) rfl) pa_nil)) pe_int (nomark _)) (pss_one ps_never) pss_nil)))))))))))
theorem ok_Converter_call {P : Program} {w : World} {K : PySem.W.Frag} {mg : Str → Option Value} {base : Heap} {A : Ad} (T : Txt P K mg A)
    (G_is_text : FnG P w K mg base CX0 3 A.f_is_text A.d_is_text ["value"] (sp_is_text K A))
    (G_BadWord_init : FnOk P w K mg base CX0 1 A.f_BadWord_init A.d_BadWord_init ["self", "value"] (sp_BadWord_init K A))
    (G_NoStep_init : FnOk P w K mg base CX0 1 A.f_NoStep_init A.d_NoStep_init ["self", "at", "state"] (sp_NoStep_init K A))
    (G_NoTail_init : FnOk P w K mg base CX0 1 A.f_NoTail_init A.d_NoTail_init ["self", "state"] (sp_NoTail_init K A)) :
    FnG P w K mg base (L2.CX P w) 5 A.f_Converter_call A.d_Converter_call ["self", "text"] (sp_Converter_call K A) := by
  refine okG T.F_Converter_call sc_Converter_call (fun vs H Q E h => ?_) (fun cdv A' outer s H vs Q E hr hG h => ⟨(t_Converter_call_0 K A E), ?_, pure_Converter_call T.kf h⟩)
  · unfold sp_Converter_call at h
    try unfold spPenL at h
    try unfold spDrawL at h
    try unfold spPickL at h
    try unfold spLaw at h
    try unfold sp_text_array at h
    try unfold sp_text_extra at h
    split at h <;> first | rfl | exact h.elim
  · exact (pss_cons (ps_if (pt_not (pt_val (pe_callG G_is_text (hr.mono (by decide)) hG rfl T.g_is_text T.F_is_text.kp T.B_is_text .nil pass0 (pa_cons (pv 1) pa_nil)))) (pss_one (ps_raiseE rfl takesD (pmk_oex T.xo_BadWord T.xi_BadWord T.xt_BadWord G_BadWord_init (hr.mono (by decide)) T.B_BadWord_init .nil pass0 rfl T.g_BadWord (pa_cons (pv 1) pa_nil)))) pss_nil)
    (pss_cons (ps_par (i := 2) (j := 3) rfl sc_Converter_call.nd rfl rfl (by decide) rfl rfl (pa_cons (pe_fld (pv 0) rfl) (pa_cons (pe_lst pa_nil) pa_nil)) rfl)
    (pss_cons (ps_for never0 rfl (pi_enumS (by rfl) T.b_enumerate (pa_cons (pv 1) pa_nil)) (pg_tup rfl (pgs_cons (pg_name (i := 4) sc_Converter_call.nd rfl (Or.inl rfl)) (pgs_cons (pg_name (i := 5) sc_Converter_call.nd rfl (Or.inl rfl)) pgs_nil)))
    (pss_cons (ps_set (i := 6) sc_Converter_call.nd rfl (Or.inl rfl) (pe_dget1 hr.units1 (pe_fld (pv 0) rfl) (pe_tup (pa_cons (pv 2) (pa_cons (pv 5) pa_nil))) ⟨rfl, rfl, rfl, rfl⟩))
    (pss_cons (ps_if (pt_cmpR op_isU (pv 6) pe_non (nomark _)) (pss_one (ps_raiseE rfl takesD (pmk_oex T.xo_NoStep T.xi_NoStep T.xt_NoStep G_NoStep_init (hr.mono (by decide)) T.B_NoStep_init .nil pass0 rfl T.g_NoStep (pa_cons (pv 4) (pa_cons (pv 2) pa_nil))))) pss_nil)
    (pss_cons (ps_expr (pe_bm PySem.F.plainAttrs_list PySem.F.slot_list_append PySem.F.type_list_append mt_append (pv 3) (pa_cons (pe_ix ix_seq (pv 6) pe_int (fun _ _ => rfl)) pa_nil)))
    (pss_one (ps_set (i := 2) sc_Converter_call.nd rfl (Or.inl rfl) (pe_ix ix_seq (pv 6) pe_int (fun _ _ => rfl))))))))
    (pss_cons (ps_if (pt_cmpR (op_notInM hr.units1) (pv 2) (pe_fld (pv 0) rfl) rfl) (pss_one (ps_raiseE rfl takesD (pmk_oex T.xo_NoTail T.xi_NoTail T.xt_NoTail G_NoTail_init (hr.mono (by decide)) T.B_NoTail_init .nil pass0 rfl T.g_NoTail (pa_cons (pv 2) pa_nil)))) pss_nil)
    (pss_one (ps_ret (pe_joinF pe_str (pe_lst (StX.pa_star (pv 3) (pa_cons (pe_dget hr.units1 (pe_fld (pv 0) rfl) (pv 2) (fun _ _ => rfl)) pa_nil))))))))))
theorem ok_need_converter {P : Program} {w : World} {K : PySem.W.Frag} {mg : Str → Option Value} {base : Heap} {A : Ad} (T : Txt P K mg A) :
    FnG P w K mg base CX0 1 A.f_need_converter A.d_need_converter ["value", "part"] (sp_need_converter K A) := by
  refine okDG T.F_need_converter sc_need_converter (fun vs H Q E h => ?_) (fun cdv A' outer s H vs Q E hr hG h => ⟨(t_need_converter_0 K A), ?_, pure_need_converter T.kf h⟩)
  · unfold sp_need_converter at h
    try unfold spPenL at h
    try unfold spDrawL at h
    try unfold spPickL at h
    try unfold spLaw at h
    try unfold sp_text_array at h
    try unfold sp_text_extra at h
    split at h <;> first | rfl | exact h.elim
  · exact (pss_one (ps_if (pt_not (pt_val (pe_callB call_isiU (by rfl) T.b_isinstance (by decide +kernel) (pa_cons (pv 0) (pa_cons (pe_glob rfl T.g_Converter rfl) pa_nil))))) (pss_one ps_never) pss_nil))
theorem ok_most_of {P : Program} {w : World} {K : PySem.W.Frag} {mg : Str → Option Value} {base : Heap} {A : Ad} (T : Txt P K mg A) :
    FnG P w K mg base CX0 1 A.f_most_of A.d_most_of ["numbers", "least"] (sp_most_of K A) := by
  refine okG T.F_most_of sc_most_of (fun vs H Q E h => ?_) (fun cdv A' outer s H vs Q E hr hG h => ⟨(t_most_of_0 K A), ?_, pure_most_of h⟩)
  · unfold sp_most_of at h
    try unfold spPenL at h
    try unfold spDrawL at h
    try unfold spPickL at h
    try unfold spLaw at h
    try unfold sp_text_array at h
    try unfold sp_text_extra at h
    split at h <;> first | rfl | exact h.elim
  · exact (pss_cons (ps_set (i := 2) sc_most_of.nd rfl (Or.inl rfl) (pv 1))
    (pss_cons (ps_for never0 rfl (pi_seq (pv 0)) (pg_name (i := 3) sc_most_of.nd rfl (Or.inl rfl))
    (pss_one (ps_if (pt_cmpR op_gtU (pv 3) (pv 2) (nomark _)) (pss_one (ps_set (i := 2) sc_most_of.nd rfl (Or.inl rfl) (pv 3))) pss_nil)))
    (pss_one (ps_ret (pv 2)))))
theorem ok_weight {P : Program} {w : World} {K : PySem.W.Frag} {mg : Str → Option Value} {base : Heap} {A : Ad} (T : Txt P K mg A) :
    FnG P w K mg base CX0 1 A.f_weight A.d_weight ["answer"] (sp_weight K A) := by
  refine okG T.F_weight sc_weight (fun vs H Q E h => ?_) (fun cdv A' outer s H vs Q E hr hG h => ⟨(t_weight_0 K A), ?_, pure_weight h⟩)
  · unfold sp_weight at h
    try unfold spPenL at h
    try unfold spDrawL at h
    try unfold spPickL at h
    try unfold spLaw at h
    try unfold sp_text_array at h
    try unfold sp_text_extra at h
    split at h <;> first | rfl | exact h.elim
  · exact (pss_one (ps_ret (pe_op op_subU (pe_callB call_lenU (by rfl) T.b_len PySem.boot_len (pa_cons (pv 0) pa_nil)) pe_int)))
theorem ok_heights_behind {P : Program} {w : World} {K : PySem.W.Frag} {mg : Str → Option Value} {base : Heap} {A : Ad} (T : Txt P K mg A)
    (G_weight : FnG P w K mg base CX0 1 A.f_weight A.d_weight ["answer"] (sp_weight K A)) :
    FnG P w K mg base CX0 3 A.f_heights_behind A.d_heights_behind ["converter", "text"] (sp_heights_behind K A) := by
  refine okG T.F_heights_behind sc_heights_behind (fun vs H Q E h => ?_) (fun cdv A' outer s H vs Q E hr hG h => ⟨(t_heights_behind_0 K A), ?_, pure_heights_behind T.kf h⟩)
  · unfold sp_heights_behind at h
    try unfold spPenL at h
    try unfold spDrawL at h
    try unfold spPickL at h
    try unfold spLaw at h
    try unfold sp_text_array at h
    try unfold sp_text_extra at h
    split at h <;> first | rfl | exact h.elim
  · exact (pss_cons (ps_par (i := 2) (j := 3) rfl sc_heights_behind.nd rfl rfl (by decide) rfl rfl (pa_cons (pe_fld (pv 0) rfl) (pa_cons (pe_lst (pa_cons pe_int pa_nil)) pa_nil)) rfl)
    (pss_cons (ps_for never0 rfl (pi_str (pv 1)) (pg_name (i := 4) sc_heights_behind.nd rfl (Or.inl rfl))
    (pss_cons (ps_asg (pe_dget hr.units1 (pe_fld (pv 0) rfl) (pe_tup (pa_cons (pv 2) (pa_cons (pv 4) pa_nil))) (fun _ _ => rfl)) (pg_tup rfl (pgs_cons (pg_name (i := 5) sc_heights_behind.nd rfl (Or.inl rfl)) (pgs_cons (pg_name (i := 2) sc_heights_behind.nd rfl (Or.inl rfl)) pgs_nil))))
    (pss_one (ps_expr (pe_bm PySem.F.plainAttrs_list PySem.F.slot_list_append PySem.F.type_list_append mt_append (pv 3) (pa_cons (pe_op op_addU (pe_ix ix_seq (pv 3) (pe_un un_negU pe_int) (fun _ _ => rfl)) (pe_callG G_weight (hr.mono (by decide)) hG rfl T.g_weight T.F_weight.kp T.B_weight .nil pass0 (pa_cons (pv 5) pa_nil))) pa_nil))))))
    (pss_one (ps_ret (pv 3)))))
theorem ok_text_gap {P : Program} {w : World} {K : PySem.W.Frag} {mg : Str → Option Value} {base : Heap} {A : Ad} (T : Txt P K mg A)
    (G_most_of : FnG P w K mg base CX0 1 A.f_most_of A.d_most_of ["numbers", "least"] (sp_most_of K A))
    (G_heights_behind : FnG P w K mg base CX0 3 A.f_heights_behind A.d_heights_behind ["converter", "text"] (sp_heights_behind K A)) :
    FnG P w K mg base CX0 5 A.f_text_gap A.d_text_gap ["converter", "text"] (sp_text_gap K A) := by
  refine okG T.F_text_gap sc_text_gap (fun vs H Q E h => ?_) (fun cdv A' outer s H vs Q E hr hG h => ⟨(t_text_gap_0 K A), ?_, pure_text_gap T.kf h⟩)
  · unfold sp_text_gap at h
    try unfold spPenL at h
    try unfold spDrawL at h
    try unfold spPickL at h
    try unfold spLaw at h
    try unfold sp_text_array at h
    try unfold sp_text_extra at h
    split at h <;> first | rfl | exact h.elim
  · exact (pss_one (ps_ret (pe_callG G_most_of (hr.mono (by decide)) hG rfl T.g_most_of T.F_most_of.kp T.B_most_of .nil pass0 (pa_cons (pe_slice sl_list (pe_callG G_heights_behind (hr.mono (by decide)) hG rfl T.g_heights_behind T.F_heights_behind.kp T.B_heights_behind .nil pass0 (pa_cons (pv 0) (pa_cons (pv 1) pa_nil))) po_none (po_some (pe_un un_negU pe_int))) (pa_cons pe_int pa_nil)))))
theorem ok_text_array {P : Program} {w : World} {K : PySem.W.Frag} {mg : Str → Option Value} {base : Heap} {A : Ad} (T : Txt P K mg A)
    (G_Converter_call : FnG P w K mg base (L2.CX P w) 5 A.f_Converter_call A.d_Converter_call ["self", "text"] (sp_Converter_call K A))
    (G_most_of : FnG P w K mg base CX0 1 A.f_most_of A.d_most_of ["numbers", "least"] (sp_most_of K A))
    (G_text_gap : FnG P w K mg base CX0 5 A.f_text_gap A.d_text_gap ["converter", "text"] (sp_text_gap K A)) :
    FnG P w K mg base CX0 7 A.f_text_array A.d_text_array ["converter", "text"] (sp_text_array K A) := by
  refine okG T.F_text_array sc_text_array (fun vs H Q E h => ?_) (fun cdv A' outer s H vs Q E hr hG h => ⟨(t_text_array_0 K A), ?_, pure_text_array T.kf h⟩)
  · unfold sp_text_array at h
    try unfold spPenL at h
    try unfold spDrawL at h
    try unfold spPickL at h
    try unfold spLaw at h
    try unfold sp_text_array at h
    try unfold sp_text_extra at h
    split at h <;> first | rfl | exact h.elim
  · exact (pss_one (ps_ret (pe_callG G_most_of (hr.mono (by decide)) hG rfl T.g_most_of T.F_most_of.kp T.B_most_of .nil pass0 (pa_cons (pe_lst (pa_cons (pe_op op_addU (pe_callB call_lenU (by rfl) T.b_len PySem.boot_len (pa_cons (pv 1) pa_nil)) (pe_callG G_text_gap (hr.mono (by decide)) hG rfl T.g_text_gap T.F_text_gap.kp T.B_text_gap .nil pass0 (pa_cons (pv 0) (pa_cons (pv 1) pa_nil)))) pa_nil)) (pa_cons (pe_callB call_lenU (by rfl) T.b_len PySem.boot_len (pa_cons (pe_callI (pv 0) T.co_Converter G_Converter_call (hr.mono (by decide)) hG T.B_Converter_call passN (pa_cons (pv 1) pa_nil)) pa_nil)) pa_nil)))))
theorem ok_text_extra {P : Program} {w : World} {K : PySem.W.Frag} {mg : Str → Option Value} {base : Heap} {A : Ad} (T : Txt P K mg A)
    (G_Converter_call : FnG P w K mg base (L2.CX P w) 5 A.f_Converter_call A.d_Converter_call ["self", "text"] (sp_Converter_call K A))
    (G_text_array : FnG P w K mg base CX0 7 A.f_text_array A.d_text_array ["converter", "text"] (sp_text_array K A)) :
    FnG P w K mg base CX0 9 A.f_text_extra A.d_text_extra ["converter", "text"] (sp_text_extra K A) := by
  refine okG T.F_text_extra sc_text_extra (fun vs H Q E h => ?_) (fun cdv A' outer s H vs Q E hr hG h => ⟨(t_text_extra_0 K A), ?_, pure_text_extra T.kf h⟩)
  · unfold sp_text_extra at h
    try unfold spPenL at h
    try unfold spDrawL at h
    try unfold spPickL at h
    try unfold spLaw at h
    try unfold sp_text_array at h
    try unfold sp_text_extra at h
    split at h <;> first | rfl | exact h.elim
  · exact (pss_one (ps_ret (pe_op op_subU (pe_callG G_text_array (hr.mono (by decide)) hG rfl T.g_text_array T.F_text_array.kp T.B_text_array .nil pass0 (pa_cons (pv 0) (pa_cons (pv 1) pa_nil))) (pe_callB (call_maxU rfl) (by rfl) T.b_max (by decide +kernel) (pa_cons (pe_callB call_lenU (by rfl) T.b_len PySem.boot_len (pa_cons (pv 1) pa_nil)) (pa_cons (pe_callB call_lenU (by rfl) T.b_len PySem.boot_len (pa_cons (pe_callI (pv 0) T.co_Converter G_Converter_call (hr.mono (by decide)) hG T.B_Converter_call passN (pa_cons (pv 1) pa_nil)) pa_nil)) pa_nil))))))
theorem ok_array_of {P : Program} {w : World} {K : PySem.W.Frag} {mg : Str → Option Value} {base : Heap} {A : Ad} (T : Txt P K mg A)
    (G_Converter_call : FnG P w K mg base (L2.CX P w) 5 A.f_Converter_call A.d_Converter_call ["self", "text"] (sp_Converter_call K A))
    (G_need_converter : FnG P w K mg base CX0 1 A.f_need_converter A.d_need_converter ["value", "part"] (sp_need_converter K A))
    (G_text_array : FnG P w K mg base CX0 7 A.f_text_array A.d_text_array ["converter", "text"] (sp_text_array K A)) :
    FnG P w K mg base CX0 9 A.f_array_of A.d_array_of ["converter", "text"] (sp_array_of K A) := by
  refine okG T.F_array_of sc_array_of (fun vs H Q E h => ?_) (fun cdv A' outer s H vs Q E hr hG h => ⟨(t_array_of_0 K A), ?_, pure_array_of T.kf h⟩)
  · unfold sp_array_of at h
    try unfold spPenL at h
    try unfold spDrawL at h
    try unfold spPickL at h
    try unfold spLaw at h
    try unfold sp_text_array at h
    try unfold sp_text_extra at h
    split at h <;> first | rfl | exact h.elim
  · exact (pss_cons (ps_expr (pe_callG G_need_converter (hr.mono (by decide)) hG rfl T.g_need_converter T.F_need_converter.kp T.B_need_converter .nil pass0 (pa_cons (pv 0) (pa_cons pe_str pa_nil))))
    (pss_cons (ps_expr (pe_callI (pv 0) T.co_Converter G_Converter_call (hr.mono (by decide)) hG T.B_Converter_call passN (pa_cons (pv 1) pa_nil)))
    (pss_one (ps_ret (pe_callG G_text_array (hr.mono (by decide)) hG rfl T.g_text_array T.F_text_array.kp T.B_text_array .nil pass0 (pa_cons (pv 0) (pa_cons (pv 1) pa_nil)))))))
theorem ok_extra_of {P : Program} {w : World} {K : PySem.W.Frag} {mg : Str → Option Value} {base : Heap} {A : Ad} (T : Txt P K mg A)
    (G_Converter_call : FnG P w K mg base (L2.CX P w) 5 A.f_Converter_call A.d_Converter_call ["self", "text"] (sp_Converter_call K A))
    (G_need_converter : FnG P w K mg base CX0 1 A.f_need_converter A.d_need_converter ["value", "part"] (sp_need_converter K A))
    (G_text_extra : FnG P w K mg base CX0 9 A.f_text_extra A.d_text_extra ["converter", "text"] (sp_text_extra K A)) :
    FnG P w K mg base CX0 11 A.f_extra_of A.d_extra_of ["converter", "text"] (sp_extra_of K A) := by
  refine okG T.F_extra_of sc_extra_of (fun vs H Q E h => ?_) (fun cdv A' outer s H vs Q E hr hG h => ⟨(t_extra_of_0 K A), ?_, pure_extra_of T.kf h⟩)
  · unfold sp_extra_of at h
    try unfold spPenL at h
    try unfold spDrawL at h
    try unfold spPickL at h
    try unfold spLaw at h
    try unfold sp_text_array at h
    try unfold sp_text_extra at h
    split at h <;> first | rfl | exact h.elim
  · exact (pss_cons (ps_expr (pe_callG G_need_converter (hr.mono (by decide)) hG rfl T.g_need_converter T.F_need_converter.kp T.B_need_converter .nil pass0 (pa_cons (pv 0) (pa_cons pe_str pa_nil))))
    (pss_cons (ps_expr (pe_callI (pv 0) T.co_Converter G_Converter_call (hr.mono (by decide)) hG T.B_Converter_call passN (pa_cons (pv 1) pa_nil)))
    (pss_one (ps_ret (pe_callG G_text_extra (hr.mono (by decide)) hG rfl T.g_text_extra T.F_text_extra.kp T.B_text_extra .nil pass0 (pa_cons (pv 0) (pa_cons (pv 1) pa_nil)))))))
theorem ok_law_pen {P : Program} {w : World} {K : PySem.W.Frag} {mg : Str → Option Value} {base : Heap} {A : Ad} (T : Txt P K mg A) :
    FnG P w K mg base CX0 1 A.f_law_pen A.d_law_pen ["_law_script"] (sp_law_pen K A) := by
  refine okG T.F_law_pen sc_law_pen (fun vs H Q E h => ?_) (fun cdv A' outer s H vs Q E hr hG h => ⟨(t_law_pen_0 K A), ?_, pure_law_pen h⟩)
  · unfold sp_law_pen at h
    try unfold spPenL at h
    try unfold spDrawL at h
    try unfold spPickL at h
    try unfold spLaw at h
    try unfold sp_text_array at h
    try unfold sp_text_extra at h
    split at h <;> first | rfl | exact h.elim
  · exact (pss_one (ps_ret (pe_lst (pa_cons (pe_callTy call_listU (by rfl) T.b_list (by decide +kernel) (pa_cons (pe_slice sl_list (pv 0) po_none (po_some pe_int)) pa_nil)) (pa_cons pe_int (pa_cons pe_int pa_nil))))))
theorem ok_law_draw {P : Program} {w : World} {K : PySem.W.Frag} {mg : Str → Option Value} {base : Heap} {A : Ad} (T : Txt P K mg A) :
    FnG P w K mg base CX0 1 A.f_law_draw A.d_law_draw ["_law_pen_here", "_law_many"] (sp_law_draw K A) := by
  refine okG T.F_law_draw sc_law_draw (fun vs H Q E h => ?_) (fun cdv A' outer s H vs Q E hr hG h => ⟨(t_law_draw_0 K A), ?_, pure_law_draw h⟩)
  · unfold sp_law_draw at h
    try unfold spPenL at h
    try unfold spDrawL at h
    try unfold spPickL at h
    try unfold spLaw at h
    try unfold sp_text_array at h
    try unfold sp_text_extra at h
    split at h <;> first | rfl | exact h.elim
  · exact (pss_cons (ps_if (pt_cmpR op_gtU (pe_ix ix_U (pv 0) pe_int (fun _ _ => rfl)) pe_int (nomark _)) (pss_cons (ps_set (i := 2) sc_law_draw.nd rfl (Or.inl rfl) (pe_op op_modU (pe_callTy call_intU (by rfl) T.b_int (by decide +kernel) (pa_cons (pe_ix ix_U (pv 0) pe_int (fun _ _ => rfl)) pa_nil)) (pv 1)))
    (pss_cons (ps_asg (pe_op op_fdivU (pe_callTy call_intU (by rfl) T.b_int (by decide +kernel) (pa_cons (pe_ix ix_U (pv 0) pe_int (fun _ _ => rfl)) pa_nil)) (pv 1)) (pg_sub (pv 0) pe_int set_U))
    (pss_one (ps_ret (pv 2))))) pss_nil)
    (pss_cons (ps_set (i := 3) sc_law_draw.nd rfl (Or.inl rfl) (pe_ix ix_U (pv 0) pe_int (fun _ _ => rfl)))
    (pss_cons (ps_asg (pe_op op_addU (pv 3) pe_int) (pg_sub (pv 0) pe_int set_U))
    (pss_cons (ps_set (i := 4) sc_law_draw.nd rfl (Or.inl rfl) (pe_op op_addU (pe_op op_mulU pe_int (pv 3)) pe_int))
    (pss_cons (ps_if (pt_cmpR (op_neU hr.units) (pe_ix ix_U (pv 0) pe_int (fun _ _ => rfl)) (pe_lst pa_nil) (nomark _)) (pss_one (ps_set (i := 4) sc_law_draw.nd rfl (Or.inl rfl) (pe_ix ix_U (pe_ix ix_U (pv 0) pe_int (fun _ _ => rfl)) (pe_op op_modU (pe_callTy call_intU (by rfl) T.b_int (by decide +kernel) (pa_cons (pv 3) pa_nil)) (pe_callB call_lenU (by rfl) T.b_len PySem.boot_len (pa_cons (pe_ix ix_U (pv 0) pe_int (fun _ _ => rfl)) pa_nil))) (fun _ _ => rfl)))) pss_nil)
    (pss_cons (ps_if (PW.pt (pw_and (pt_cmpR op_ltU (pv 3) (pe_callB call_lenU (by rfl) T.b_len PySem.boot_len (pa_cons (pe_ix ix_U (pv 0) pe_int (fun _ _ => rfl)) pa_nil)) (nomark _)) (pw_and1 (pt_cmpR op_geU (pe_callB call_absU (by rfl) T.b_abs (by decide +kernel) (pa_cons (pv 4) pa_nil)) (pe_op op_powU pe_int pe_int) (nomark _))))) (pss_cons (ps_set (i := 5) sc_law_draw.nd rfl (Or.inl rfl) (pe_op op_addU (pe_op op_mulU pe_int (pe_op op_subU (pe_callB call_absU (by rfl) T.b_abs (by decide +kernel) (pa_cons (pv 4) pa_nil)) (pe_op op_powU pe_int pe_int))) (pe_callTy call_intU (by rfl) T.b_int (by decide +kernel) (pa_cons (pe_cmpR op_ltU (pv 4) pe_int (nomark _)) pa_nil))))
    (pss_cons (ps_asg (pe_op op_fdivU (pe_callTy call_intU (by rfl) T.b_int (by decide +kernel) (pa_cons (pv 5) pa_nil)) (pv 1)) (pg_sub (pv 0) pe_int set_U))
    (pss_one (ps_ret (pe_op op_modU (pe_callTy call_intU (by rfl) T.b_int (by decide +kernel) (pa_cons (pv 5) pa_nil)) (pv 1)))))) pss_nil)
    (pss_cons (ps_set (i := 6) sc_law_draw.nd rfl (Or.inl rfl) (pe_op op_modU (pe_callTy call_intU (by rfl) T.b_int (by decide +kernel) (pa_cons (pe_op op_powU (pe_op op_addU (pe_op op_addU (pe_op op_modU (pe_callTy call_intU (by rfl) T.b_int (by decide +kernel) (pa_cons (pv 4) pa_nil)) pe_int) (pe_op op_mulU pe_int (pv 3))) pe_int) pe_int) pa_nil)) pe_int))
    (pss_cons (ps_set (i := 6) sc_law_draw.nd rfl (Or.inl rfl) (pe_op op_modU (pe_callTy call_intU (by rfl) T.b_int (by decide +kernel) (pa_cons (pe_op op_powU (pe_op op_addU (pe_op op_addU (pe_op op_mulU (pv 6) (pe_op op_addU (pe_op op_mulU pe_int (pv 3)) pe_int)) (pe_op op_mulU (pe_op op_mulU pe_int (pv 3)) (pv 3))) pe_int) pe_int) pa_nil)) pe_int))
    (pss_one (ps_ret (pe_op op_modU (pe_callTy call_intU (by rfl) T.b_int (by decide +kernel) (pa_cons (pe_op op_fdivU (pv 6) pe_int) pa_nil)) (pv 1))))))))))))
theorem ok_law_pick {P : Program} {w : World} {K : PySem.W.Frag} {mg : Str → Option Value} {base : Heap} {A : Ad} (T : Txt P K mg A)
    (G_law_draw : FnG P w K mg base CX0 1 A.f_law_draw A.d_law_draw ["_law_pen_here", "_law_many"] (sp_law_draw K A)) :
    FnG P w K mg base CX0 3 A.f_law_pick A.d_law_pick ["_law_pen_here", "_law_some"] (sp_law_pick K A) := by
  refine okG T.F_law_pick sc_law_pick (fun vs H Q E h => ?_) (fun cdv A' outer s H vs Q E hr hG h => ⟨(t_law_pick_0 K A), ?_, pure_law_pick h⟩)
  · unfold sp_law_pick at h
    try unfold spPenL at h
    try unfold spDrawL at h
    try unfold spPickL at h
    try unfold spLaw at h
    try unfold sp_text_array at h
    try unfold sp_text_extra at h
    split at h <;> first | rfl | exact h.elim
  · exact (pss_one (ps_ret (pe_ix ix_U (pv 1) (pe_callG G_law_draw (hr.mono (by decide)) hG rfl T.g_law_draw T.F_law_draw.kp T.B_law_draw .nil pass0 (pa_cons (pv 0) (pa_cons (pe_callB call_lenU (by rfl) T.b_len PySem.boot_len (pa_cons (pv 1) pa_nil)) pa_nil))) (fun _ _ => rfl))))
theorem ok_law_steps {P : Program} {w : World} {K : PySem.W.Frag} {mg : Str → Option Value} {base : Heap} {A : Ad} (T : Txt P K mg A)
    (G_law_draw : FnG P w K mg base CX0 1 A.f_law_draw A.d_law_draw ["_law_pen_here", "_law_many"] (sp_law_draw K A))
    (G_law_pick : FnG P w K mg base CX0 3 A.f_law_pick A.d_law_pick ["_law_pen_here", "_law_some"] (sp_law_pick K A)) :
    FnG P w K mg base CX0 5 A.f_law_steps A.d_law_steps ["_law_pen_here", "_law_states", "_law_letters"] (sp_law_steps K A) := by
  refine okG T.F_law_steps sc_law_steps (fun vs H Q E h => ?_) (fun cdv A' outer s H vs Q E hr hG h => ⟨(t_law_steps_0 K A), ?_, pure_law_steps h⟩)
  · unfold sp_law_steps at h
    try unfold spPenL at h
    try unfold spDrawL at h
    try unfold spPickL at h
    try unfold spLaw at h
    try unfold sp_text_array at h
    try unfold sp_text_extra at h
    split at h <;> first | rfl | exact h.elim
  · exact (pss_cons (ps_set (i := 3) sc_law_steps.nd rfl (Or.inl rfl) pe_dnewT)
    (pss_cons (ps_for never0 rfl (pi_seq (pv 1)) (pg_name (i := 4) sc_law_steps.nd rfl (Or.inl rfl))
    (pss_one (ps_for never0 rfl (pi_str (pv 2)) (pg_name (i := 5) sc_law_steps.nd rfl (Or.inl rfl))
    (pss_one (ps_if (pt_cmpR op_gtU (pe_callG G_law_draw (hr.mono (by decide)) hG rfl T.g_law_draw T.F_law_draw.kp T.B_law_draw .nil pass0 (pa_cons (pv 0) (pa_cons pe_int pa_nil))) pe_int (nomark _)) (pss_cons (ps_set (i := 6) sc_law_steps.nd rfl (Or.inl rfl) (pe_callG G_law_pick (hr.mono (by decide)) hG rfl T.g_law_pick T.F_law_pick.kp T.B_law_pick .nil pass0 (pa_cons (pv 0) (pa_cons (pe_lst (pa_cons pe_str (pa_cons pe_str (pa_cons pe_str (pa_cons pe_str (pa_cons pe_str (pa_cons pe_str (pa_cons pe_str (pa_cons pe_str (pa_cons pe_str pa_nil)))))))))) pa_nil))))
    (pss_one (ps_dput hr.units1 (pv 3) (pe_tup (pa_cons (pv 4) (pa_cons (pv 5) pa_nil))) (pe_tup (pa_cons (pv 6) (pa_cons (pe_callG G_law_pick (hr.mono (by decide)) hG rfl T.g_law_pick T.F_law_pick.kp T.B_law_pick .nil pass0 (pa_cons (pv 0) (pa_cons (pv 1) pa_nil))) pa_nil))) (by rfl)))) pss_nil)))))
    (pss_one (ps_ret (pv 3)))))
theorem ok_law_plan {P : Program} {w : World} {K : PySem.W.Frag} {mg : Str → Option Value} {base : Heap} {A : Ad} (T : Txt P K mg A)
    (G_law_draw : FnG P w K mg base CX0 1 A.f_law_draw A.d_law_draw ["_law_pen_here", "_law_many"] (sp_law_draw K A))
    (G_law_pick : FnG P w K mg base CX0 3 A.f_law_pick A.d_law_pick ["_law_pen_here", "_law_some"] (sp_law_pick K A))
    (G_law_steps : FnG P w K mg base CX0 5 A.f_law_steps A.d_law_steps ["_law_pen_here", "_law_states", "_law_letters"] (sp_law_steps K A)) :
    FnG P w K mg base CX0 7 A.f_law_plan A.d_law_plan ["_law_pen_here", "_law_many", "_law_letters"] (sp_law_plan K A) := by
  refine okG T.F_law_plan sc_law_plan (fun vs H Q E h => ?_) (fun cdv A' outer s H vs Q E hr hG h => ⟨(t_law_plan_0 K A), ?_, pure_law_plan h⟩)
  · unfold sp_law_plan at h
    try unfold spPenL at h
    try unfold spDrawL at h
    try unfold spPickL at h
    try unfold spLaw at h
    try unfold sp_text_array at h
    try unfold sp_text_extra at h
    split at h <;> first | rfl | exact h.elim
  · exact (pss_cons (ps_set (i := 3) sc_law_plan.nd rfl (Or.inl rfl) (pe_slice sl_list (pe_lst (pa_cons pe_str (pa_cons pe_str (pa_cons pe_str (pa_cons pe_str (pa_cons pe_str (pa_cons pe_str pa_nil))))))) po_none (po_some (pv 1))))
    (pss_cons (ps_par (i := 4) (j := 5) rfl sc_law_plan.nd rfl rfl (by decide) rfl rfl (pa_cons (pe_callG G_law_steps (hr.mono (by decide)) hG rfl T.g_law_steps T.F_law_steps.kp T.B_law_steps .nil pass0 (pa_cons (pv 0) (pa_cons (pv 3) (pa_cons (pv 2) pa_nil)))) (pa_cons pe_dnewK pa_nil)) rfl)
    (pss_cons (ps_for never0 rfl (pi_seq (pv 3)) (pg_name (i := 6) sc_law_plan.nd rfl (Or.inl rfl))
    (pss_one (ps_if (pt_cmpR op_gtU (pe_callG G_law_draw (hr.mono (by decide)) hG rfl T.g_law_draw T.F_law_draw.kp T.B_law_draw .nil pass0 (pa_cons (pv 0) (pa_cons pe_int pa_nil))) pe_int (nomark _)) (pss_one (ps_dput hr.units1 (pv 5) (pv 6) (pe_callG G_law_pick (hr.mono (by decide)) hG rfl T.g_law_pick T.F_law_pick.kp T.B_law_pick .nil pass0 (pa_cons (pv 0) (pa_cons (pe_lst (pa_cons pe_str (pa_cons pe_str (pa_cons pe_str (pa_cons pe_str (pa_cons pe_str pa_nil)))))) pa_nil))) (by rfl))) pss_nil)))
    (pss_one (ps_ret (pe_tup (pa_cons (pe_callG G_law_pick (hr.mono (by decide)) hG rfl T.g_law_pick T.F_law_pick.kp T.B_law_pick .nil pass0 (pa_cons (pv 0) (pa_cons (pv 3) pa_nil))) (pa_cons (pv 4) (pa_cons (pv 5) pa_nil)))))))))
theorem ok_law_made {P : Program} {w : World} {K : PySem.W.Frag} {mg : Str → Option Value} {base : Heap} {A : Ad} (T : Txt P K mg A)
    (G_Converter_init : FnG P w K mg base CX0 9 A.f_Converter_init A.d_Converter_init ["self", "start", "steps", "tails"] (sp_Converter_init K A)) :
    FnG P w K mg base CX0 11 A.f_law_made A.d_law_made ["_law_plan_here"] (sp_law_made K A) := by
  refine okG T.F_law_made sc_law_made (fun vs H Q E h => ?_) (fun cdv A' outer s H vs Q E hr hG h => ⟨(t_law_made_0 K A), ?_, pure_law_made T.kf h⟩)
  · unfold sp_law_made at h
    try unfold spPenL at h
    try unfold spDrawL at h
    try unfold spPickL at h
    try unfold spLaw at h
    try unfold sp_text_array at h
    try unfold sp_text_extra at h
    split at h <;> first | rfl | exact h.elim
  · exact (pss_one (ps_ret (pe_makeG T.M_Converter G_Converter_init (hr.mono (by decide)) hG rfl T.g_Converter T.B_Converter_init .nil pass0 (pa_cons (pe_ix ix_seq (pv 0) pe_int (fun _ _ => rfl)) (pa_cons (pe_ix ix_seq (pv 0) pe_int (fun _ _ => rfl)) (pa_cons (pe_ix ix_seq (pv 0) pe_int (fun _ _ => rfl)) pa_nil))))))
theorem ok_law_run {P : Program} {w : World} {K : PySem.W.Frag} {mg : Str → Option Value} {base : Heap} {A : Ad} (T : Txt P K mg A) :
    FnG P w K mg base CX0 1 A.f_law_run A.d_law_run ["_law_plan_here", "_law_text"] (sp_law_run K A) := by
  refine okG T.F_law_run sc_law_run (fun vs H Q E h => ?_) (fun cdv A' outer s H vs Q E hr hG h => ⟨(t_law_run_0 K A), ?_, pure_law_run h⟩)
  · unfold sp_law_run at h
    try unfold spPenL at h
    try unfold spDrawL at h
    try unfold spPickL at h
    try unfold spLaw at h
    try unfold sp_text_array at h
    try unfold sp_text_extra at h
    split at h <;> first | rfl | exact h.elim
  · exact (pss_cons (ps_asg (pv 0) (pg_tup rfl (pgs_cons (pg_name (i := 2) sc_law_run.nd rfl (Or.inl rfl)) (pgs_cons (pg_name (i := 3) sc_law_run.nd rfl (Or.inl rfl)) (pgs_cons (pg_name (i := 4) sc_law_run.nd rfl (Or.inl rfl)) pgs_nil)))))
    (pss_cons (ps_par3 (i := 5) (j := 6) (l := 7) rfl sc_law_run.nd rfl rfl rfl (by decide) (by decide) (by decide) rfl rfl rfl (pa_cons (pe_lst (pa_cons (pv 2) pa_nil)) (pa_cons (pe_lst (pa_cons pe_int pa_nil)) (pa_cons pe_str pa_nil))) rfl)
    (pss_cons (ps_for never0 rfl (pi_str (pv 1)) (pg_name (i := 8) sc_law_run.nd rfl (Or.inl rfl))
    (pss_cons (ps_if (pt_cmpR (op_notInM hr.units1) (pe_tup (pa_cons (pe_ix ix_seq (pv 5) (pe_un un_negU pe_int) (fun _ _ => rfl)) (pa_cons (pv 8) pa_nil))) (pv 3) rfl) (pss_one (ps_ret pe_non)) pss_nil)
    (pss_cons (ps_asg (pe_dget hr.units1 (pv 3) (pe_tup (pa_cons (pe_ix ix_seq (pv 5) (pe_un un_negU pe_int) (fun _ _ => rfl)) (pa_cons (pv 8) pa_nil))) (fun _ _ => rfl)) (pg_tup rfl (pgs_cons (pg_name (i := 9) sc_law_run.nd rfl (Or.inl rfl)) (pgs_cons (pg_name (i := 10) sc_law_run.nd rfl (Or.inl rfl)) pgs_nil))))
    (pss_cons (ps_par (i := 5) (j := 6) rfl sc_law_run.nd rfl rfl (by decide) rfl rfl (pa_cons (pe_op op_addU (pv 5) (pe_lst (pa_cons (pv 10) pa_nil))) (pa_cons (pe_op op_addU (pv 6) (pe_lst (pa_cons (pe_op op_subU (pe_op op_addU (pe_ix ix_seq (pv 6) (pe_un un_negU pe_int) (fun _ _ => rfl)) (pe_callB call_lenU (by rfl) T.b_len PySem.boot_len (pa_cons (pv 9) pa_nil))) pe_int) pa_nil))) pa_nil)) rfl)
    (pss_one (ps_set (i := 7) sc_law_run.nd rfl (Or.inl rfl) (pe_op op_addU (pv 7) (pv 9))))))))
    (pss_one (ps_ret (pe_ifExp (pt_cmpR (op_notInM hr.units1) (pe_ix ix_seq (pv 5) (pe_un un_negU pe_int) (fun _ _ => rfl)) (pv 4) rfl) pe_non (pe_tup (pa_cons (pv 5) (pa_cons (pv 6) (pa_cons (pe_op op_addU (pv 7) (pe_dget hr.units1 (pv 4) (pe_ix ix_seq (pv 5) (pe_un un_negU pe_int) (fun _ _ => rfl)) (fun _ _ => rfl))) pa_nil))))))))))
theorem ok_law_is_kept {P : Program} {w : World} {K : PySem.W.Frag} {mg : Str → Option Value} {base : Heap} {A : Ad} (T : Txt P K mg A) :
    FnG P w K mg base CX0 1 A.f_law_is_kept A.d_law_is_kept ["_law_plan_here", "_law_text", "_law_cells"] (sp_law_is_kept K A) := by
  refine okG T.F_law_is_kept sc_law_is_kept (fun vs H Q E h => ?_) (fun cdv A' outer s H vs Q E hr hG h => ⟨(t_law_is_kept_0 K A), ?_, pure_law_is_kept h⟩)
  · unfold sp_law_is_kept at h
    try unfold spPenL at h
    try unfold spDrawL at h
    try unfold spPickL at h
    try unfold spLaw at h
    try unfold sp_text_array at h
    try unfold sp_text_extra at h
    split at h <;> first | rfl | exact h.elim
  · exact (pss_cons (ps_asg (pv 0) (pg_tup rfl (pgs_cons (pg_name (i := 3) sc_law_is_kept.nd rfl (Or.inl rfl)) (pgs_cons (pg_name (i := 4) sc_law_is_kept.nd rfl (Or.inl rfl)) (pgs_cons (pg_name (i := 5) sc_law_is_kept.nd rfl (Or.inl rfl)) pgs_nil)))))
    (pss_cons (ps_par3 (i := 6) (j := 7) (l := 8) rfl sc_law_is_kept.nd rfl rfl rfl (by decide) (by decide) (by decide) rfl rfl rfl (pa_cons (pe_op op_subU (pv 2) (pe_callB call_lenU (by rfl) T.b_len PySem.boot_len (pa_cons (pv 1) pa_nil))) (pa_cons pe_int (pa_cons (pv 3) pa_nil))) rfl)
    (pss_cons (ps_if (pt_cmpR op_ltU (pv 6) pe_int (nomark _)) (pss_one (ps_ret pe_bl)) pss_nil)
    (pss_cons (ps_for never0 rfl (pi_range1 rfl T.b_range (pa_cons (pe_callB call_lenU (by rfl) T.b_len PySem.boot_len (pa_cons (pv 1) pa_nil)) pa_nil)) (pg_name (i := 9) sc_law_is_kept.nd rfl (Or.inl rfl))
    (pss_cons (ps_asg (pe_dget hr.units1 (pv 4) (pe_tup (pa_cons (pv 8) (pa_cons (pe_ix ix_str (pv 1) (pv 9) (fun _ _ => rfl)) pa_nil))) (fun _ _ => rfl)) (pg_tup rfl (pgs_cons (pg_name (i := 10) sc_law_is_kept.nd rfl (Or.inl rfl)) (pgs_cons (pg_name (i := 8) sc_law_is_kept.nd rfl (Or.inl rfl)) pgs_nil))))
    (pss_one (ps_for never0 rfl (pi_str (pv 10)) (pg_name (i := 11) sc_law_is_kept.nd rfl (Or.inl rfl))
    (pss_cons (ps_if (PW.pt (pw_or (pt_cmpR op_geU (pv 7) (pv 2) (nomark _)) (pw_or1 (pt_chain op_ltU op_ltU (pe_op op_addU (pv 6) (pv 9)) (pv 7) (pv 2))))) (pss_one (ps_ret pe_bl)) pss_nil)
    (pss_one (ps_set (i := 7) sc_law_is_kept.nd rfl (Or.inl rfl) (pe_op op_addU (pv 7) pe_int))))))))
    (pss_one (ps_ret (pe_cmpR op_leU (pe_op op_addU (pv 7) (pe_callB call_lenU (by rfl) T.b_len PySem.boot_len (pa_cons (pe_dget hr.units1 (pv 5) (pv 8) (fun _ _ => rfl)) pa_nil))) (pv 2) (nomark _))))))))
theorem ok_law_array {P : Program} {w : World} {K : PySem.W.Frag} {mg : Str → Option Value} {base : Heap} {A : Ad} (T : Txt P K mg A)
    (G_law_is_kept : FnG P w K mg base CX0 1 A.f_law_is_kept A.d_law_is_kept ["_law_plan_here", "_law_text", "_law_cells"] (sp_law_is_kept K A)) :
    FnG P w K mg base CX0 3 A.f_law_array A.d_law_array ["_law_plan_here", "_law_text"] (sp_law_array K A) := by
  refine okG T.F_law_array sc_law_array (fun vs H Q E h => ?_) (fun cdv A' outer s H vs Q E hr hG h => ⟨(t_law_array_0 K A), ?_, pure_law_array h⟩)
  · unfold sp_law_array at h
    try unfold spPenL at h
    try unfold spDrawL at h
    try unfold spPickL at h
    try unfold spLaw at h
    try unfold sp_text_array at h
    try unfold sp_text_extra at h
    split at h <;> first | rfl | exact h.elim
  · exact (pss_cons (ps_for never0 rfl (pi_range2 rfl T.b_range (pa_cons (pe_callB call_lenU (by rfl) T.b_len PySem.boot_len (pa_cons (pv 1) pa_nil)) (pa_cons (pe_op op_addU (pe_op op_mulU pe_int (pe_callB call_lenU (by rfl) T.b_len PySem.boot_len (pa_cons (pv 1) pa_nil))) pe_int) pa_nil))) (pg_name (i := 2) sc_law_array.nd rfl (Or.inl rfl))
    (pss_one (ps_if (pt_val (pe_callG G_law_is_kept (hr.mono (by decide)) hG rfl T.g_law_is_kept T.F_law_is_kept.kp T.B_law_is_kept .nil pass0 (pa_cons (pv 0) (pa_cons (pv 1) (pa_cons (pv 2) pa_nil))))) (pss_one (ps_ret (pv 2))) pss_nil)))
    (pss_one (ps_ret pe_non)))
theorem ok_law {P : Program} {w : World} {K : PySem.W.Frag} {mg : Str → Option Value} {base : Heap} {A : Ad} (T : Txt P K mg A)
    (G_array_of : FnG P w K mg base CX0 9 A.f_array_of A.d_array_of ["converter", "text"] (sp_array_of K A))
    (G_extra_of : FnG P w K mg base CX0 11 A.f_extra_of A.d_extra_of ["converter", "text"] (sp_extra_of K A))
    (G_law_pen : FnG P w K mg base CX0 1 A.f_law_pen A.d_law_pen ["_law_script"] (sp_law_pen K A))
    (G_law_draw : FnG P w K mg base CX0 1 A.f_law_draw A.d_law_draw ["_law_pen_here", "_law_many"] (sp_law_draw K A))
    (G_law_pick : FnG P w K mg base CX0 3 A.f_law_pick A.d_law_pick ["_law_pen_here", "_law_some"] (sp_law_pick K A))
    (G_law_plan : FnG P w K mg base CX0 7 A.f_law_plan A.d_law_plan ["_law_pen_here", "_law_many", "_law_letters"] (sp_law_plan K A))
    (G_law_made : FnG P w K mg base CX0 11 A.f_law_made A.d_law_made ["_law_plan_here"] (sp_law_made K A))
    (G_law_run : FnG P w K mg base CX0 1 A.f_law_run A.d_law_run ["_law_plan_here", "_law_text"] (sp_law_run K A))
    (G_law_array : FnG P w K mg base CX0 3 A.f_law_array A.d_law_array ["_law_plan_here", "_law_text"] (sp_law_array K A)) :
    FnG P w K mg base CX0 13 A.f_law A.d_law ["_law_script"] (sp_law K A) := by
  obtain ⟨gK_array_of_text_converter, k_array_of_text_converter⟩ := T.KW_array_of_text_converter
  obtain ⟨gK_extra_of_text_converter, k_extra_of_text_converter⟩ := T.KW_extra_of_text_converter
  refine okG T.F_law sc_law (fun vs H Q E h => ?_) (fun cdv A' outer s H vs Q E hr hG h => ⟨(t_law_0 K A), ?_, pure_law T.kf h⟩)
  · unfold sp_law at h
    try unfold spPenL at h
    try unfold spDrawL at h
    try unfold spPickL at h
    try unfold spLaw at h
    try unfold sp_text_array at h
    try unfold sp_text_extra at h
    split at h <;> first | rfl | exact h.elim
  · exact (pss_cons (ps_set (i := 1) sc_law.nd rfl (Or.inr rfl) (pe_callG G_law_pen (hr.mono (by decide)) hG rfl T.g_law_pen T.F_law_pen.kp T.B_law_pen .nil pass0 (pa_cons (pv 0) pa_nil)))
    (pss_cons (ps_for never0 rfl (pi_range1 rfl T.b_range (pa_cons pe_int pa_nil)) (pg_name (i := 2) sc_law.nd rfl (Or.inl rfl))
    (pss_cons (ps_set (i := 3) sc_law.nd rfl (Or.inr rfl) (pe_slice sl_str pe_str po_none (po_some (pe_op op_addU pe_int (pe_callG G_law_draw (hr.mono (by decide)) hG rfl T.g_law_draw T.F_law_draw.kp T.B_law_draw .nil pass0 (pa_cons (pv 1) (pa_cons pe_int pa_nil)))))))
    (pss_cons (ps_set (i := 4) sc_law.nd rfl (Or.inl rfl) (pe_callG G_law_plan (hr.mono (by decide)) hG rfl T.g_law_plan T.F_law_plan.kp T.B_law_plan .nil pass0 (pa_cons (pv 1) (pa_cons (pe_op op_addU pe_int (pe_callG G_law_draw (hr.mono (by decide)) hG rfl T.g_law_draw T.F_law_draw.kp T.B_law_draw .nil pass0 (pa_cons (pv 1) (pa_cons pe_int pa_nil)))) (pa_cons (pv 3) pa_nil)))))
    (pss_cons (ps_set (i := 5) sc_law.nd rfl (Or.inl rfl) (pe_callG G_law_made (hr.mono (by decide)) hG rfl T.g_law_made T.F_law_made.kp T.B_law_made .nil pass0 (pa_cons (pv 4) pa_nil)))
    (pss_one (ps_for never0 rfl (pi_range1 rfl T.b_range (pa_cons pe_int pa_nil)) (pg_name (i := 6) sc_law.nd rfl (Or.inl rfl))
    (pss_cons (ps_set (i := 7) sc_law.nd rfl (Or.inl rfl) (pe_joinF pe_str (pe_lc (own := [("_law_k", 11)]) (g := (gName 11)) (tt := tYes) (by rfl) sc_law.nd (pi_range1 rfl T.b_range (pa_cons (pe_callG G_law_draw (hr.mono (by decide)) hG rfl T.g_law_draw T.F_law_draw.kp T.B_law_draw .nil pass0 (pa_cons (pv 1) (pa_cons pe_int pa_nil))) pa_nil)) (blkOk_by (own := [("_law_k", 11)]) (N := ["_law_script", "_law_pen_here", "_law_turn", "_law_letters", "_law_plan_here", "_law_made_here", "_law_lap", "_law_drawn", "_law_run_here", "_law_due", "_law_more", "_law_k"]) (sc := defScope s_law) (by decide +kernel)) (fun _ _ _ _ _ => (pg_name (i := 11) sc_law.nd rfl (Or.inl rfl))) (fun _ _ _ _ _ => pts_nil) (fun _ _ _ _ _ => (pe_callG G_law_pick (hr.mono (by decide)) hG rfl T.g_law_pick T.F_law_pick.kp T.B_law_pick .nil pass0 (pa_cons (pv 1) (pa_cons (pe_callTy (call_listS rfl) (by rfl) T.b_list (by decide +kernel) (pa_cons (pv 3) pa_nil)) pa_nil)))))))
    (pss_cons (ps_set (i := 8) sc_law.nd rfl (Or.inl rfl) (pe_callG G_law_run (hr.mono (by decide)) hG rfl T.g_law_run T.F_law_run.kp T.B_law_run .nil pass0 (pa_cons (pv 4) (pa_cons (pv 7) pa_nil))))
    (pss_one (ps_if (pt_cmpR op_isNotU (pv 8) pe_non (nomark _)) (pss_cons (ps_set (i := 9) sc_law.nd rfl (Or.inl rfl) (pe_callG G_law_array (hr.mono (by decide)) hG rfl T.g_law_array T.F_law_array.kp T.B_law_array .nil pass0 (pa_cons (pv 4) (pa_cons (pv 7) pa_nil))))
    (pss_cons (ps_if (PW.pt (pw_or (pt_cmpR (op_neU hr.units) (pe_callG G_array_of (hr.mono (by decide)) hG rfl T.g_array_of T.F_array_of.kp T.B_array_of .nil pass0 (pa_cons (pv 5) (pa_cons (pv 7) pa_nil))) (pv 9) (nomark _)) (pw_or1 (pt_cmpR (op_neU hr.units) (pe_callKG0 G_array_of (hr.mono (by decide)) hG rfl T.g_array_of T.F_array_of.kp k_array_of_text_converter pass0 (pk_cons (pv 7) (pk_cons (pv 5) pk_nil))) (pv 9) (nomark _))))) (pss_one (ps_ret pe_bl)) pss_nil)
    (pss_cons (ps_set (i := 10) sc_law.nd rfl (Or.inl rfl) (pe_op op_subU (pv 9) (pe_callB (call_maxU rfl) (by rfl) T.b_max (by decide +kernel) (pa_cons (pe_callB call_lenU (by rfl) T.b_len PySem.boot_len (pa_cons (pv 7) pa_nil)) (pa_cons (pe_callB call_lenU (by rfl) T.b_len PySem.boot_len (pa_cons (pe_ix ix_seq (pv 8) pe_int (fun _ _ => rfl)) pa_nil)) pa_nil)))))
    (pss_one (ps_if (PW.pt (pw_or (pt_cmpR (op_neU hr.units) (pe_callG G_extra_of (hr.mono (by decide)) hG rfl T.g_extra_of T.F_extra_of.kp T.B_extra_of .nil pass0 (pa_cons (pv 5) (pa_cons (pv 7) pa_nil))) (pv 10) (nomark _)) (pw_or1 (pt_cmpR (op_neU hr.units) (pe_callKG0 G_extra_of (hr.mono (by decide)) hG rfl T.g_extra_of T.F_extra_of.kp k_extra_of_text_converter pass0 (pk_cons (pv 7) (pk_cons (pv 5) pk_nil))) (pv 10) (nomark _))))) (pss_one (ps_ret pe_bl)) pss_nil))))) pss_nil))))))))))
    (pss_one (ps_ret pe_bl))))

theorem ok_all {P : Program} {w : World} {K : PySem.W.Frag} {mg : Str → Option Value} {base : Heap} {A : Ad} (T : Txt P K mg A) : FnG P w K mg base CX0 13 A.f_law A.d_law ["_law_script"] (sp_law K A) := by
  have G_is_row_checks : FnG P w K mg base CX0 1 A.f_is_row_checks A.d_is_row_checks ["value", "longest"] (sp_is_row_checks K A) := ok_is_row_checks T
  have G_is_letter : FnG P w K mg base CX0 3 A.f_is_letter A.d_is_letter ["value"] (sp_is_letter K A) := ok_is_letter T G_is_row_checks
  have G_is_text : FnG P w K mg base CX0 3 A.f_is_text A.d_is_text ["value"] (sp_is_text K A) := ok_is_text T G_is_row_checks
  have G_is_answer : FnG P w K mg base CX0 3 A.f_is_answer A.d_is_answer ["value"] (sp_is_answer K A) := ok_is_answer T G_is_row_checks
  have G_is_name : FnG P w K mg base CX0 3 A.f_is_name A.d_is_name ["value"] (sp_is_name K A) := ok_is_name T G_is_row_checks
  have G_ascending : FnG P w K mg base CX0 1 A.f_ascending A.d_ascending ["strings"] (sp_ascending K A) := ok_ascending T
  have G_is_key : FnG P w K mg base CX0 5 A.f_is_key A.d_is_key ["value"] (sp_is_key K A) := ok_is_key T G_is_letter G_is_name
  have G_is_goal : FnG P w K mg base CX0 5 A.f_is_goal A.d_is_goal ["value"] (sp_is_goal K A) := ok_is_goal T G_is_answer G_is_name
  have G_are_steps : FnG P w K mg base CX0 7 A.f_are_steps A.d_are_steps ["value"] (sp_are_steps K A) := ok_are_steps T G_is_key G_is_goal
  have G_are_tails : FnG P w K mg base CX0 5 A.f_are_tails A.d_are_tails ["value"] (sp_are_tails K A) := ok_are_tails T G_is_answer G_is_name
  have G_need_name : FnG P w K mg base CX0 5 A.f_need_name A.d_need_name ["value"] (sp_need_name K A) := ok_need_name T G_is_name
  have G_need_letter : FnG P w K mg base CX0 5 A.f_need_letter A.d_need_letter ["value"] (sp_need_letter K A) := ok_need_letter T G_is_letter
  have G_BadWord_init : FnOk P w K mg base CX0 1 A.f_BadWord_init A.d_BadWord_init ["self", "value"] (sp_BadWord_init K A) := ok_BadWord_init T
  have G_NoStep_init : FnOk P w K mg base CX0 1 A.f_NoStep_init A.d_NoStep_init ["self", "at", "state"] (sp_NoStep_init K A) := ok_NoStep_init T
  have G_NoTail_init : FnOk P w K mg base CX0 1 A.f_NoTail_init A.d_NoTail_init ["self", "state"] (sp_NoTail_init K A) := ok_NoTail_init T
  have G_Converter_init : FnG P w K mg base CX0 9 A.f_Converter_init A.d_Converter_init ["self", "start", "steps", "tails"] (sp_Converter_init K A) := ok_Converter_init T G_ascending G_are_steps G_are_tails G_need_name
  have G_Converter_call : FnG P w K mg base (L2.CX P w) 5 A.f_Converter_call A.d_Converter_call ["self", "text"] (sp_Converter_call K A) := ok_Converter_call T G_is_text G_BadWord_init G_NoStep_init G_NoTail_init
  have G_need_converter : FnG P w K mg base CX0 1 A.f_need_converter A.d_need_converter ["value", "part"] (sp_need_converter K A) := ok_need_converter T
  have G_most_of : FnG P w K mg base CX0 1 A.f_most_of A.d_most_of ["numbers", "least"] (sp_most_of K A) := ok_most_of T
  have G_weight : FnG P w K mg base CX0 1 A.f_weight A.d_weight ["answer"] (sp_weight K A) := ok_weight T
  have G_heights_behind : FnG P w K mg base CX0 3 A.f_heights_behind A.d_heights_behind ["converter", "text"] (sp_heights_behind K A) := ok_heights_behind T G_weight
  have G_text_gap : FnG P w K mg base CX0 5 A.f_text_gap A.d_text_gap ["converter", "text"] (sp_text_gap K A) := ok_text_gap T G_most_of G_heights_behind
  have G_text_array : FnG P w K mg base CX0 7 A.f_text_array A.d_text_array ["converter", "text"] (sp_text_array K A) := ok_text_array T G_Converter_call G_most_of G_text_gap
  have G_text_extra : FnG P w K mg base CX0 9 A.f_text_extra A.d_text_extra ["converter", "text"] (sp_text_extra K A) := ok_text_extra T G_Converter_call G_text_array
  have G_array_of : FnG P w K mg base CX0 9 A.f_array_of A.d_array_of ["converter", "text"] (sp_array_of K A) := ok_array_of T G_Converter_call G_need_converter G_text_array
  have G_extra_of : FnG P w K mg base CX0 11 A.f_extra_of A.d_extra_of ["converter", "text"] (sp_extra_of K A) := ok_extra_of T G_Converter_call G_need_converter G_text_extra
  have G_law_pen : FnG P w K mg base CX0 1 A.f_law_pen A.d_law_pen ["_law_script"] (sp_law_pen K A) := ok_law_pen T
  have G_law_draw : FnG P w K mg base CX0 1 A.f_law_draw A.d_law_draw ["_law_pen_here", "_law_many"] (sp_law_draw K A) := ok_law_draw T
  have G_law_pick : FnG P w K mg base CX0 3 A.f_law_pick A.d_law_pick ["_law_pen_here", "_law_some"] (sp_law_pick K A) := ok_law_pick T G_law_draw
  have G_law_steps : FnG P w K mg base CX0 5 A.f_law_steps A.d_law_steps ["_law_pen_here", "_law_states", "_law_letters"] (sp_law_steps K A) := ok_law_steps T G_law_draw G_law_pick
  have G_law_plan : FnG P w K mg base CX0 7 A.f_law_plan A.d_law_plan ["_law_pen_here", "_law_many", "_law_letters"] (sp_law_plan K A) := ok_law_plan T G_law_draw G_law_pick G_law_steps
  have G_law_made : FnG P w K mg base CX0 11 A.f_law_made A.d_law_made ["_law_plan_here"] (sp_law_made K A) := ok_law_made T G_Converter_init
  have G_law_run : FnG P w K mg base CX0 1 A.f_law_run A.d_law_run ["_law_plan_here", "_law_text"] (sp_law_run K A) := ok_law_run T
  have G_law_is_kept : FnG P w K mg base CX0 1 A.f_law_is_kept A.d_law_is_kept ["_law_plan_here", "_law_text", "_law_cells"] (sp_law_is_kept K A) := ok_law_is_kept T
  have G_law_array : FnG P w K mg base CX0 3 A.f_law_array A.d_law_array ["_law_plan_here", "_law_text"] (sp_law_array K A) := ok_law_array T G_law_is_kept
  have G_law : FnG P w K mg base CX0 13 A.f_law A.d_law ["_law_script"] (sp_law K A) := ok_law T G_array_of G_extra_of G_law_pen G_law_draw G_law_pick G_law_plan G_law_made G_law_run G_law_array
  exact G_law

end HG

namespace HG
open PySem L2
theorem all_mk {l : PySem.W.OpenLaw} {w : World} {K : PySem.W.Frag} {h : Heap} {mg : Str → Option Value} {fa : Addr} {c_Converter c_BadWord c_NoStep c_NoTail c_HeadError cda_BadWord cel_BadWord cda_NoStep cel_NoStep cda_NoTail cel_NoTail f_is_row_checks f_is_letter f_is_text f_is_answer f_is_name f_ascending f_is_key f_is_goal f_are_steps f_are_tails f_need_name f_need_letter f_BadWord_init f_NoStep_init f_NoTail_init f_Converter_init f_Converter_call f_need_converter f_most_of f_weight f_heights_behind f_text_gap f_text_array f_text_extra f_array_of f_extra_of f_law_pen f_law_draw f_law_pick f_law_steps f_law_plan f_law_made f_law_run f_law_is_kept f_law_array f_law : Addr} (X : K.In h) (G : h.Ns mainGlobals mg) (hfa : mg "law" = some (.ref fa))
    {od_is_row_checks an_is_row_checks od_is_letter an_is_letter od_is_text an_is_text od_is_answer an_is_answer od_is_name an_is_name od_ascending an_ascending od_is_key an_is_key od_is_goal an_is_goal od_are_steps an_are_steps od_are_tails an_are_tails od_need_name an_need_name od_need_letter an_need_letter od_BadWord_init an_BadWord_init od_NoStep_init an_NoStep_init od_NoTail_init an_NoTail_init od_Converter_init an_Converter_init od_Converter_call an_Converter_call od_need_converter an_need_converter od_most_of an_most_of od_weight an_weight od_heights_behind an_heights_behind od_text_gap an_text_gap od_text_array an_text_array od_text_extra an_text_extra od_array_of an_array_of od_extra_of an_extra_of od_law_pen an_law_pen od_law_draw an_law_draw od_law_pick an_law_pick od_law_steps an_law_steps od_law_plan an_law_plan od_law_made an_law_made od_law_run an_law_run od_law_is_kept an_law_is_kept od_law_array an_law_array od_law an_law : Option Addr} {sl_is_row_checks sl_is_letter sl_is_text sl_is_answer sl_is_name sl_ascending sl_is_key sl_is_goal sl_are_steps sl_are_tails sl_need_name sl_need_letter sl_BadWord_init sl_NoStep_init sl_NoTail_init sl_Converter_init sl_Converter_call sl_need_converter sl_most_of sl_weight sl_heights_behind sl_text_gap sl_text_array sl_text_extra sl_array_of sl_extra_of sl_law_pen sl_law_draw sl_law_pick sl_law_steps sl_law_plan sl_law_made sl_law_run sl_law_is_kept sl_law_array sl_law : Array (Option Value)} {oc_is_row_checks kV_is_row_checks dc_is_row_checks pm_is_row_checks cd_is_row_checks ct_is_row_checks oc_is_letter kV_is_letter dc_is_letter pm_is_letter cd_is_letter ct_is_letter oc_is_text kV_is_text dc_is_text pm_is_text cd_is_text ct_is_text oc_is_answer kV_is_answer dc_is_answer pm_is_answer cd_is_answer ct_is_answer oc_is_name kV_is_name dc_is_name pm_is_name cd_is_name ct_is_name oc_ascending kV_ascending dc_ascending pm_ascending cd_ascending ct_ascending oc_is_key kV_is_key dc_is_key pm_is_key cd_is_key ct_is_key oc_is_goal kV_is_goal dc_is_goal pm_is_goal cd_is_goal ct_is_goal oc_are_steps kV_are_steps dc_are_steps pm_are_steps cd_are_steps ct_are_steps oc_are_tails kV_are_tails dc_are_tails pm_are_tails cd_are_tails ct_are_tails oc_need_name kV_need_name dc_need_name pm_need_name cd_need_name ct_need_name oc_need_letter kV_need_letter dc_need_letter pm_need_letter cd_need_letter ct_need_letter oc_BadWord_init kV_BadWord_init dc_BadWord_init pm_BadWord_init ct_BadWord_init oc_NoStep_init kV_NoStep_init dc_NoStep_init pm_NoStep_init ct_NoStep_init oc_NoTail_init kV_NoTail_init dc_NoTail_init pm_NoTail_init ct_NoTail_init oc_Converter_init kV_Converter_init dc_Converter_init pm_Converter_init cd_Converter_init ct_Converter_init oc_Converter_call kV_Converter_call dc_Converter_call pm_Converter_call cd_Converter_call ct_Converter_call oc_need_converter kV_need_converter dc_need_converter pm_need_converter cd_need_converter ct_need_converter oc_most_of kV_most_of dc_most_of pm_most_of cd_most_of ct_most_of oc_weight kV_weight dc_weight pm_weight cd_weight ct_weight oc_heights_behind kV_heights_behind dc_heights_behind pm_heights_behind cd_heights_behind ct_heights_behind oc_text_gap kV_text_gap dc_text_gap pm_text_gap cd_text_gap ct_text_gap oc_text_array kV_text_array dc_text_array pm_text_array cd_text_array ct_text_array oc_text_extra kV_text_extra dc_text_extra pm_text_extra cd_text_extra ct_text_extra oc_array_of kV_array_of dc_array_of pm_array_of cd_array_of ct_array_of oc_extra_of kV_extra_of dc_extra_of pm_extra_of cd_extra_of ct_extra_of oc_law_pen kV_law_pen dc_law_pen pm_law_pen cd_law_pen ct_law_pen oc_law_draw kV_law_draw dc_law_draw pm_law_draw cd_law_draw ct_law_draw oc_law_pick kV_law_pick dc_law_pick pm_law_pick cd_law_pick ct_law_pick oc_law_steps kV_law_steps dc_law_steps pm_law_steps cd_law_steps ct_law_steps oc_law_plan kV_law_plan dc_law_plan pm_law_plan cd_law_plan ct_law_plan oc_law_made kV_law_made dc_law_made pm_law_made cd_law_made ct_law_made oc_law_run kV_law_run dc_law_run pm_law_run cd_law_run ct_law_run oc_law_is_kept kV_law_is_kept dc_law_is_kept pm_law_is_kept cd_law_is_kept ct_law_is_kept oc_law_array kV_law_array dc_law_array pm_law_array cd_law_array ct_law_array oc_law kV_law dc_law pm_law cd_law ct_law : Value} {T_need_converter : Addr} {oT_need_converter : Value} {dT_need_converter : Option Addr} {nT_need_converter : Nat} {sT_need_converter : Array (Option Value)} {tk0_need_converter : Tok} {xnm_BadWord xq_BadWord : Str} {xN_BadWord : Addr} {xbs_BadWord xbm_BadWord xsub_BadWord : List Value} {xsn_BadWord : List Str} {xab_BadWord : Bool} {xcol_BadWord : Option Bool} {xdd_BadWord : Option Addr} {x0_BadWord x1_BadWord x2_BadWord x3_BadWord x5_BadWord : Option Value} {xnm_NoStep xq_NoStep : Str} {xN_NoStep : Addr} {xbs_NoStep xbm_NoStep xsub_NoStep : List Value} {xsn_NoStep : List Str} {xab_NoStep : Bool} {xcol_NoStep : Option Bool} {xdd_NoStep : Option Addr} {x0_NoStep x1_NoStep x2_NoStep x3_NoStep x5_NoStep : Option Value} {xnm_NoTail xq_NoTail : Str} {xN_NoTail : Addr} {xbs_NoTail xbm_NoTail xsub_NoTail : List Value} {xsn_NoTail : List Str} {xab_NoTail : Bool} {xcol_NoTail : Option Bool} {xdd_NoTail : Option Addr} {x0_NoTail x1_NoTail x2_NoTail x3_NoTail x5_NoTail : Option Value} {xnm_HeadError xq_HeadError : Str} {xN_HeadError : Addr} {xbs_HeadError xbm_HeadError xsub_HeadError : List Value} {xsn_HeadError : List Str} {xab_HeadError : Bool} {xcol_HeadError : Option Bool} {xdd_HeadError : Option Addr} {x0_HeadError x1_HeadError x2_HeadError x3_HeadError x5_HeadError : Option Value} {xcc_BadWord xecl_BadWord : Value} {xcdd_BadWord xecd_BadWord : Option Addr} {xvs_BadWord : Array Value} {xcs_BadWord xecs_BadWord : Array (Option Value)} {xfile_BadWord : Str} {xtf_BadWord : Tok} {xcc_NoStep xecl_NoStep : Value} {xcdd_NoStep xecd_NoStep : Option Addr} {xvs_NoStep : Array Value} {xcs_NoStep xecs_NoStep : Array (Option Value)} {xfile_NoStep : Str} {xtf_NoStep : Tok} {xcc_NoTail xecl_NoTail : Value} {xcdd_NoTail xecd_NoTail : Option Addr} {xvs_NoTail : Array Value} {xcs_NoTail xecs_NoTail : Array (Option Value)} {xfile_NoTail : Str} {xtf_NoTail : Tok} {tgi_LONGEST_NAME : Tok} {tgi_LONGEST_TEXT : Tok} {tgi_LONGEST_ANSWER : Tok} {tgs_LETTERS : Tok} {tca_Converter_MOST : Tok}
    (aC_Converter : PySem.W.nsIn K mainGlobals "Converter" = some (some (.ref c_Converter)))
    (a_is_row_checks : PySem.W.nsIn K mainGlobals "is_row_checks" = some (some (.ref f_is_row_checks)))
    (l_is_row_checks : K.lookup f_is_row_checks = some ⟨oc_is_row_checks, od_is_row_checks, .func (PySem.W.fnOf "is_row" "is_row" (defArgs s_is_row_checks) (defBody s_is_row_checks) (defScope s_is_row_checks) .none kV_is_row_checks dc_is_row_checks pm_is_row_checks an_is_row_checks cd_is_row_checks ct_is_row_checks), sl_is_row_checks⟩)
    (c_is_row_checks : PySem.W.codeIn K cd_is_row_checks "is_row" = true)
    (k_is_row_checks : PySem.W.keepIn K (.ref f_is_row_checks) = true)
    (a_is_letter : PySem.W.nsIn K mainGlobals "is_letter" = some (some (.ref f_is_letter)))
    (l_is_letter : K.lookup f_is_letter = some ⟨oc_is_letter, od_is_letter, .func (PySem.W.fnOf "is_letter" "is_letter" (defArgs s_is_letter) (defBody s_is_letter) (defScope s_is_letter) .none kV_is_letter dc_is_letter pm_is_letter an_is_letter cd_is_letter ct_is_letter), sl_is_letter⟩)
    (c_is_letter : PySem.W.codeIn K cd_is_letter "is_letter" = true)
    (k_is_letter : PySem.W.keepIn K (.ref f_is_letter) = true)
    (a_is_text : PySem.W.nsIn K mainGlobals "is_text" = some (some (.ref f_is_text)))
    (l_is_text : K.lookup f_is_text = some ⟨oc_is_text, od_is_text, .func (PySem.W.fnOf "is_text" "is_text" (defArgs s_is_text) (defBody s_is_text) (defScope s_is_text) .none kV_is_text dc_is_text pm_is_text an_is_text cd_is_text ct_is_text), sl_is_text⟩)
    (c_is_text : PySem.W.codeIn K cd_is_text "is_text" = true)
    (k_is_text : PySem.W.keepIn K (.ref f_is_text) = true)
    (a_is_answer : PySem.W.nsIn K mainGlobals "is_answer" = some (some (.ref f_is_answer)))
    (l_is_answer : K.lookup f_is_answer = some ⟨oc_is_answer, od_is_answer, .func (PySem.W.fnOf "is_answer" "is_answer" (defArgs s_is_answer) (defBody s_is_answer) (defScope s_is_answer) .none kV_is_answer dc_is_answer pm_is_answer an_is_answer cd_is_answer ct_is_answer), sl_is_answer⟩)
    (c_is_answer : PySem.W.codeIn K cd_is_answer "is_answer" = true)
    (k_is_answer : PySem.W.keepIn K (.ref f_is_answer) = true)
    (a_is_name : PySem.W.nsIn K mainGlobals "is_name" = some (some (.ref f_is_name)))
    (l_is_name : K.lookup f_is_name = some ⟨oc_is_name, od_is_name, .func (PySem.W.fnOf "is_name" "is_name" (defArgs s_is_name) (defBody s_is_name) (defScope s_is_name) .none kV_is_name dc_is_name pm_is_name an_is_name cd_is_name ct_is_name), sl_is_name⟩)
    (c_is_name : PySem.W.codeIn K cd_is_name "is_name" = true)
    (k_is_name : PySem.W.keepIn K (.ref f_is_name) = true)
    (a_ascending : PySem.W.nsIn K mainGlobals "ascending" = some (some (.ref f_ascending)))
    (l_ascending : K.lookup f_ascending = some ⟨oc_ascending, od_ascending, .func (PySem.W.fnOf "ascending" "ascending" (defArgs s_ascending) (defBody s_ascending) (defScope s_ascending) .none kV_ascending dc_ascending pm_ascending an_ascending cd_ascending ct_ascending), sl_ascending⟩)
    (c_ascending : PySem.W.codeIn K cd_ascending "ascending" = true)
    (k_ascending : PySem.W.keepIn K (.ref f_ascending) = true)
    (a_is_key : PySem.W.nsIn K mainGlobals "is_key" = some (some (.ref f_is_key)))
    (l_is_key : K.lookup f_is_key = some ⟨oc_is_key, od_is_key, .func (PySem.W.fnOf "is_key" "is_key" (defArgs s_is_key) (defBody s_is_key) (defScope s_is_key) .none kV_is_key dc_is_key pm_is_key an_is_key cd_is_key ct_is_key), sl_is_key⟩)
    (c_is_key : PySem.W.codeIn K cd_is_key "is_key" = true)
    (k_is_key : PySem.W.keepIn K (.ref f_is_key) = true)
    (a_is_goal : PySem.W.nsIn K mainGlobals "is_goal" = some (some (.ref f_is_goal)))
    (l_is_goal : K.lookup f_is_goal = some ⟨oc_is_goal, od_is_goal, .func (PySem.W.fnOf "is_goal" "is_goal" (defArgs s_is_goal) (defBody s_is_goal) (defScope s_is_goal) .none kV_is_goal dc_is_goal pm_is_goal an_is_goal cd_is_goal ct_is_goal), sl_is_goal⟩)
    (c_is_goal : PySem.W.codeIn K cd_is_goal "is_goal" = true)
    (k_is_goal : PySem.W.keepIn K (.ref f_is_goal) = true)
    (a_are_steps : PySem.W.nsIn K mainGlobals "are_steps" = some (some (.ref f_are_steps)))
    (l_are_steps : K.lookup f_are_steps = some ⟨oc_are_steps, od_are_steps, .func (PySem.W.fnOf "are_steps" "are_steps" (defArgs s_are_steps) (defBody s_are_steps) (defScope s_are_steps) .none kV_are_steps dc_are_steps pm_are_steps an_are_steps cd_are_steps ct_are_steps), sl_are_steps⟩)
    (c_are_steps : PySem.W.codeIn K cd_are_steps "are_steps" = true)
    (k_are_steps : PySem.W.keepIn K (.ref f_are_steps) = true)
    (a_are_tails : PySem.W.nsIn K mainGlobals "are_tails" = some (some (.ref f_are_tails)))
    (l_are_tails : K.lookup f_are_tails = some ⟨oc_are_tails, od_are_tails, .func (PySem.W.fnOf "are_tails" "are_tails" (defArgs s_are_tails) (defBody s_are_tails) (defScope s_are_tails) .none kV_are_tails dc_are_tails pm_are_tails an_are_tails cd_are_tails ct_are_tails), sl_are_tails⟩)
    (c_are_tails : PySem.W.codeIn K cd_are_tails "are_tails" = true)
    (k_are_tails : PySem.W.keepIn K (.ref f_are_tails) = true)
    (a_need_name : PySem.W.nsIn K mainGlobals "need_name" = some (some (.ref f_need_name)))
    (l_need_name : K.lookup f_need_name = some ⟨oc_need_name, od_need_name, .func (PySem.W.fnOf "need_name" "need_name" (defArgs s_need_name) (defBody s_need_name) (defScope s_need_name) .none kV_need_name dc_need_name pm_need_name an_need_name cd_need_name ct_need_name), sl_need_name⟩)
    (c_need_name : PySem.W.codeIn K cd_need_name "need_name" = true)
    (k_need_name : PySem.W.keepIn K (.ref f_need_name) = true)
    (a_need_letter : PySem.W.nsIn K mainGlobals "need_letter" = some (some (.ref f_need_letter)))
    (l_need_letter : K.lookup f_need_letter = some ⟨oc_need_letter, od_need_letter, .func (PySem.W.fnOf "need_letter" "need_letter" (defArgs s_need_letter) (defBody s_need_letter) (defScope s_need_letter) .none kV_need_letter dc_need_letter pm_need_letter an_need_letter cd_need_letter ct_need_letter), sl_need_letter⟩)
    (c_need_letter : PySem.W.codeIn K cd_need_letter "need_letter" = true)
    (k_need_letter : PySem.W.keepIn K (.ref f_need_letter) = true)
    (l_BadWord_init : K.lookup f_BadWord_init = some ⟨oc_BadWord_init, od_BadWord_init, .func (PySem.W.ksFn "__init__" "BadWord.__init__" (defArgs s_BadWord_init) (defBody s_BadWord_init) (defScope s_BadWord_init) .none kV_BadWord_init dc_BadWord_init pm_BadWord_init an_BadWord_init (.ref cda_BadWord) ct_BadWord_init cel_BadWord), sl_BadWord_init⟩)
    (c_BadWord_init : PySem.W.codeIn K (.ref cda_BadWord) "BadWord.__init__" = true)
    (l_NoStep_init : K.lookup f_NoStep_init = some ⟨oc_NoStep_init, od_NoStep_init, .func (PySem.W.ksFn "__init__" "NoStep.__init__" (defArgs s_NoStep_init) (defBody s_NoStep_init) (defScope s_NoStep_init) .none kV_NoStep_init dc_NoStep_init pm_NoStep_init an_NoStep_init (.ref cda_NoStep) ct_NoStep_init cel_NoStep), sl_NoStep_init⟩)
    (c_NoStep_init : PySem.W.codeIn K (.ref cda_NoStep) "NoStep.__init__" = true)
    (l_NoTail_init : K.lookup f_NoTail_init = some ⟨oc_NoTail_init, od_NoTail_init, .func (PySem.W.ksFn "__init__" "NoTail.__init__" (defArgs s_NoTail_init) (defBody s_NoTail_init) (defScope s_NoTail_init) .none kV_NoTail_init dc_NoTail_init pm_NoTail_init an_NoTail_init (.ref cda_NoTail) ct_NoTail_init cel_NoTail), sl_NoTail_init⟩)
    (c_NoTail_init : PySem.W.codeIn K (.ref cda_NoTail) "NoTail.__init__" = true)
    (a_Converter_init : PySem.W.findIn K (.ref c_Converter) "__init__" = some (some (.ref f_Converter_init)))
    (i_Converter_init : PySem.W.isFn K (.ref f_Converter_init) = true)
    (l_Converter_init : K.lookup f_Converter_init = some ⟨oc_Converter_init, od_Converter_init, .func (PySem.W.fnOf "__init__" "Converter.__init__" (defArgs s_Converter_init) (defBody s_Converter_init) (defScope s_Converter_init) .none kV_Converter_init dc_Converter_init pm_Converter_init an_Converter_init cd_Converter_init ct_Converter_init), sl_Converter_init⟩)
    (c_Converter_init : PySem.W.codeIn K cd_Converter_init "Converter.__init__" = true)
    (k_Converter_init : PySem.W.keepIn K (.ref f_Converter_init) = true)
    (a_Converter_call : PySem.W.findIn K (.ref c_Converter) "__call__" = some (some (.ref f_Converter_call)))
    (i_Converter_call : PySem.W.isFn K (.ref f_Converter_call) = true)
    (l_Converter_call : K.lookup f_Converter_call = some ⟨oc_Converter_call, od_Converter_call, .func (PySem.W.fnOf "__call__" "Converter.__call__" (defArgs s_Converter_call) (defBody s_Converter_call) (defScope s_Converter_call) .none kV_Converter_call dc_Converter_call pm_Converter_call an_Converter_call cd_Converter_call ct_Converter_call), sl_Converter_call⟩)
    (c_Converter_call : PySem.W.codeIn K cd_Converter_call "Converter.__call__" = true)
    (k_Converter_call : PySem.W.keepIn K (.ref f_Converter_call) = true)
    (a_need_converter : PySem.W.nsIn K mainGlobals "need_converter" = some (some (.ref f_need_converter)))
    (l_need_converter : K.lookup f_need_converter = some ⟨oc_need_converter, od_need_converter, .func (PySem.W.fnOf "need_converter" "need_converter" (defArgs s_need_converter) (defBody s_need_converter) (defScope s_need_converter) (.ref T_need_converter) kV_need_converter dc_need_converter pm_need_converter an_need_converter cd_need_converter ct_need_converter), sl_need_converter⟩)
    (lT_need_converter : K.lookup T_need_converter = some ⟨oT_need_converter, dT_need_converter, .seq #[.str "converter" tk0_need_converter] nT_need_converter, sT_need_converter⟩)
    (c_need_converter : PySem.W.codeIn K cd_need_converter "need_converter" = true)
    (k_need_converter : PySem.W.keepIn K (.ref f_need_converter) = true)
    (a_most_of : PySem.W.nsIn K mainGlobals "most_of" = some (some (.ref f_most_of)))
    (l_most_of : K.lookup f_most_of = some ⟨oc_most_of, od_most_of, .func (PySem.W.fnOf "most_of" "most_of" (defArgs s_most_of) (defBody s_most_of) (defScope s_most_of) .none kV_most_of dc_most_of pm_most_of an_most_of cd_most_of ct_most_of), sl_most_of⟩)
    (c_most_of : PySem.W.codeIn K cd_most_of "most_of" = true)
    (k_most_of : PySem.W.keepIn K (.ref f_most_of) = true)
    (a_weight : PySem.W.nsIn K mainGlobals "weight" = some (some (.ref f_weight)))
    (l_weight : K.lookup f_weight = some ⟨oc_weight, od_weight, .func (PySem.W.fnOf "weight" "weight" (defArgs s_weight) (defBody s_weight) (defScope s_weight) .none kV_weight dc_weight pm_weight an_weight cd_weight ct_weight), sl_weight⟩)
    (c_weight : PySem.W.codeIn K cd_weight "weight" = true)
    (k_weight : PySem.W.keepIn K (.ref f_weight) = true)
    (a_heights_behind : PySem.W.nsIn K mainGlobals "heights_behind" = some (some (.ref f_heights_behind)))
    (l_heights_behind : K.lookup f_heights_behind = some ⟨oc_heights_behind, od_heights_behind, .func (PySem.W.fnOf "heights_behind" "heights_behind" (defArgs s_heights_behind) (defBody s_heights_behind) (defScope s_heights_behind) .none kV_heights_behind dc_heights_behind pm_heights_behind an_heights_behind cd_heights_behind ct_heights_behind), sl_heights_behind⟩)
    (c_heights_behind : PySem.W.codeIn K cd_heights_behind "heights_behind" = true)
    (k_heights_behind : PySem.W.keepIn K (.ref f_heights_behind) = true)
    (a_text_gap : PySem.W.nsIn K mainGlobals "text_gap" = some (some (.ref f_text_gap)))
    (l_text_gap : K.lookup f_text_gap = some ⟨oc_text_gap, od_text_gap, .func (PySem.W.fnOf "text_gap" "text_gap" (defArgs s_text_gap) (defBody s_text_gap) (defScope s_text_gap) .none kV_text_gap dc_text_gap pm_text_gap an_text_gap cd_text_gap ct_text_gap), sl_text_gap⟩)
    (c_text_gap : PySem.W.codeIn K cd_text_gap "text_gap" = true)
    (k_text_gap : PySem.W.keepIn K (.ref f_text_gap) = true)
    (a_text_array : PySem.W.nsIn K mainGlobals "text_array" = some (some (.ref f_text_array)))
    (l_text_array : K.lookup f_text_array = some ⟨oc_text_array, od_text_array, .func (PySem.W.fnOf "text_array" "text_array" (defArgs s_text_array) (defBody s_text_array) (defScope s_text_array) .none kV_text_array dc_text_array pm_text_array an_text_array cd_text_array ct_text_array), sl_text_array⟩)
    (c_text_array : PySem.W.codeIn K cd_text_array "text_array" = true)
    (k_text_array : PySem.W.keepIn K (.ref f_text_array) = true)
    (a_text_extra : PySem.W.nsIn K mainGlobals "text_extra" = some (some (.ref f_text_extra)))
    (l_text_extra : K.lookup f_text_extra = some ⟨oc_text_extra, od_text_extra, .func (PySem.W.fnOf "text_extra" "text_extra" (defArgs s_text_extra) (defBody s_text_extra) (defScope s_text_extra) .none kV_text_extra dc_text_extra pm_text_extra an_text_extra cd_text_extra ct_text_extra), sl_text_extra⟩)
    (c_text_extra : PySem.W.codeIn K cd_text_extra "text_extra" = true)
    (k_text_extra : PySem.W.keepIn K (.ref f_text_extra) = true)
    (a_array_of : PySem.W.nsIn K mainGlobals "array_of" = some (some (.ref f_array_of)))
    (l_array_of : K.lookup f_array_of = some ⟨oc_array_of, od_array_of, .func (PySem.W.fnOf "array_of" "array_of" (defArgs s_array_of) (defBody s_array_of) (defScope s_array_of) .none kV_array_of dc_array_of pm_array_of an_array_of cd_array_of ct_array_of), sl_array_of⟩)
    (c_array_of : PySem.W.codeIn K cd_array_of "array_of" = true)
    (k_array_of : PySem.W.keepIn K (.ref f_array_of) = true)
    (a_extra_of : PySem.W.nsIn K mainGlobals "extra_of" = some (some (.ref f_extra_of)))
    (l_extra_of : K.lookup f_extra_of = some ⟨oc_extra_of, od_extra_of, .func (PySem.W.fnOf "extra_of" "extra_of" (defArgs s_extra_of) (defBody s_extra_of) (defScope s_extra_of) .none kV_extra_of dc_extra_of pm_extra_of an_extra_of cd_extra_of ct_extra_of), sl_extra_of⟩)
    (c_extra_of : PySem.W.codeIn K cd_extra_of "extra_of" = true)
    (k_extra_of : PySem.W.keepIn K (.ref f_extra_of) = true)
    (a_law_pen : PySem.W.nsIn K mainGlobals "_law_pen" = some (some (.ref f_law_pen)))
    (l_law_pen : K.lookup f_law_pen = some ⟨oc_law_pen, od_law_pen, .func (PySem.W.fnOf "_law_pen" "_law_pen" (defArgs s_law_pen) (defBody s_law_pen) (defScope s_law_pen) .none kV_law_pen dc_law_pen pm_law_pen an_law_pen cd_law_pen ct_law_pen), sl_law_pen⟩)
    (c_law_pen : PySem.W.codeIn K cd_law_pen "_law_pen" = true)
    (k_law_pen : PySem.W.keepIn K (.ref f_law_pen) = true)
    (a_law_draw : PySem.W.nsIn K mainGlobals "_law_draw" = some (some (.ref f_law_draw)))
    (l_law_draw : K.lookup f_law_draw = some ⟨oc_law_draw, od_law_draw, .func (PySem.W.fnOf "_law_draw" "_law_draw" (defArgs s_law_draw) (defBody s_law_draw) (defScope s_law_draw) .none kV_law_draw dc_law_draw pm_law_draw an_law_draw cd_law_draw ct_law_draw), sl_law_draw⟩)
    (c_law_draw : PySem.W.codeIn K cd_law_draw "_law_draw" = true)
    (k_law_draw : PySem.W.keepIn K (.ref f_law_draw) = true)
    (a_law_pick : PySem.W.nsIn K mainGlobals "_law_pick" = some (some (.ref f_law_pick)))
    (l_law_pick : K.lookup f_law_pick = some ⟨oc_law_pick, od_law_pick, .func (PySem.W.fnOf "_law_pick" "_law_pick" (defArgs s_law_pick) (defBody s_law_pick) (defScope s_law_pick) .none kV_law_pick dc_law_pick pm_law_pick an_law_pick cd_law_pick ct_law_pick), sl_law_pick⟩)
    (c_law_pick : PySem.W.codeIn K cd_law_pick "_law_pick" = true)
    (k_law_pick : PySem.W.keepIn K (.ref f_law_pick) = true)
    (a_law_steps : PySem.W.nsIn K mainGlobals "_law_steps" = some (some (.ref f_law_steps)))
    (l_law_steps : K.lookup f_law_steps = some ⟨oc_law_steps, od_law_steps, .func (PySem.W.fnOf "_law_steps" "_law_steps" (defArgs s_law_steps) (defBody s_law_steps) (defScope s_law_steps) .none kV_law_steps dc_law_steps pm_law_steps an_law_steps cd_law_steps ct_law_steps), sl_law_steps⟩)
    (c_law_steps : PySem.W.codeIn K cd_law_steps "_law_steps" = true)
    (k_law_steps : PySem.W.keepIn K (.ref f_law_steps) = true)
    (a_law_plan : PySem.W.nsIn K mainGlobals "_law_plan" = some (some (.ref f_law_plan)))
    (l_law_plan : K.lookup f_law_plan = some ⟨oc_law_plan, od_law_plan, .func (PySem.W.fnOf "_law_plan" "_law_plan" (defArgs s_law_plan) (defBody s_law_plan) (defScope s_law_plan) .none kV_law_plan dc_law_plan pm_law_plan an_law_plan cd_law_plan ct_law_plan), sl_law_plan⟩)
    (c_law_plan : PySem.W.codeIn K cd_law_plan "_law_plan" = true)
    (k_law_plan : PySem.W.keepIn K (.ref f_law_plan) = true)
    (a_law_made : PySem.W.nsIn K mainGlobals "_law_made" = some (some (.ref f_law_made)))
    (l_law_made : K.lookup f_law_made = some ⟨oc_law_made, od_law_made, .func (PySem.W.fnOf "_law_made" "_law_made" (defArgs s_law_made) (defBody s_law_made) (defScope s_law_made) .none kV_law_made dc_law_made pm_law_made an_law_made cd_law_made ct_law_made), sl_law_made⟩)
    (c_law_made : PySem.W.codeIn K cd_law_made "_law_made" = true)
    (k_law_made : PySem.W.keepIn K (.ref f_law_made) = true)
    (a_law_run : PySem.W.nsIn K mainGlobals "_law_run" = some (some (.ref f_law_run)))
    (l_law_run : K.lookup f_law_run = some ⟨oc_law_run, od_law_run, .func (PySem.W.fnOf "_law_run" "_law_run" (defArgs s_law_run) (defBody s_law_run) (defScope s_law_run) .none kV_law_run dc_law_run pm_law_run an_law_run cd_law_run ct_law_run), sl_law_run⟩)
    (c_law_run : PySem.W.codeIn K cd_law_run "_law_run" = true)
    (k_law_run : PySem.W.keepIn K (.ref f_law_run) = true)
    (a_law_is_kept : PySem.W.nsIn K mainGlobals "_law_is_kept" = some (some (.ref f_law_is_kept)))
    (l_law_is_kept : K.lookup f_law_is_kept = some ⟨oc_law_is_kept, od_law_is_kept, .func (PySem.W.fnOf "_law_is_kept" "_law_is_kept" (defArgs s_law_is_kept) (defBody s_law_is_kept) (defScope s_law_is_kept) .none kV_law_is_kept dc_law_is_kept pm_law_is_kept an_law_is_kept cd_law_is_kept ct_law_is_kept), sl_law_is_kept⟩)
    (c_law_is_kept : PySem.W.codeIn K cd_law_is_kept "_law_is_kept" = true)
    (k_law_is_kept : PySem.W.keepIn K (.ref f_law_is_kept) = true)
    (a_law_array : PySem.W.nsIn K mainGlobals "_law_array" = some (some (.ref f_law_array)))
    (l_law_array : K.lookup f_law_array = some ⟨oc_law_array, od_law_array, .func (PySem.W.fnOf "_law_array" "_law_array" (defArgs s_law_array) (defBody s_law_array) (defScope s_law_array) .none kV_law_array dc_law_array pm_law_array an_law_array cd_law_array ct_law_array), sl_law_array⟩)
    (c_law_array : PySem.W.codeIn K cd_law_array "_law_array" = true)
    (k_law_array : PySem.W.keepIn K (.ref f_law_array) = true)
    (a_law : PySem.W.nsIn K mainGlobals "law" = some (some (.ref f_law)))
    (l_law : K.lookup f_law = some ⟨oc_law, od_law, .func (PySem.W.fnOf "law" "law" (defArgs s_law) (defBody s_law) (defScope s_law) .none kV_law dc_law pm_law an_law cd_law ct_law), sl_law⟩)
    (c_law : PySem.W.codeIn K cd_law "law" = true)
    (k_law : PySem.W.keepIn K (.ref f_law) = true)
    (aC_BadWord : PySem.W.nsIn K mainGlobals "BadWord" = some (some (.ref c_BadWord)))
    (xl_BadWord : K.lookup c_BadWord = some (excClassObj xnm_BadWord xq_BadWord c_BadWord xN_BadWord xbs_BadWord xbm_BadWord true xsn_BadWord xsub_BadWord xab_BadWord xcol_BadWord xdd_BadWord x0_BadWord x1_BadWord x2_BadWord x3_BadWord x5_BadWord "ValueError.__new__"))
    (xb_BadWord : PySem.W.subIn K (.ref c_BadWord) (.type "BaseException") = some true)
    (xty_BadWord : PySem.W.typeIn K (.ref c_BadWord) = some (.type "type"))
    (aC_NoStep : PySem.W.nsIn K mainGlobals "NoStep" = some (some (.ref c_NoStep)))
    (xl_NoStep : K.lookup c_NoStep = some (excClassObj xnm_NoStep xq_NoStep c_NoStep xN_NoStep xbs_NoStep xbm_NoStep true xsn_NoStep xsub_NoStep xab_NoStep xcol_NoStep xdd_NoStep x0_NoStep x1_NoStep x2_NoStep x3_NoStep x5_NoStep "ValueError.__new__"))
    (xb_NoStep : PySem.W.subIn K (.ref c_NoStep) (.type "BaseException") = some true)
    (xty_NoStep : PySem.W.typeIn K (.ref c_NoStep) = some (.type "type"))
    (aC_NoTail : PySem.W.nsIn K mainGlobals "NoTail" = some (some (.ref c_NoTail)))
    (xl_NoTail : K.lookup c_NoTail = some (excClassObj xnm_NoTail xq_NoTail c_NoTail xN_NoTail xbs_NoTail xbm_NoTail true xsn_NoTail xsub_NoTail xab_NoTail xcol_NoTail xdd_NoTail x0_NoTail x1_NoTail x2_NoTail x3_NoTail x5_NoTail "ValueError.__new__"))
    (xb_NoTail : PySem.W.subIn K (.ref c_NoTail) (.type "BaseException") = some true)
    (xty_NoTail : PySem.W.typeIn K (.ref c_NoTail) = some (.type "type"))
    (aC_HeadError : PySem.W.nsIn K mainGlobals "HeadError" = some (some (.ref c_HeadError)))
    (xl_HeadError : K.lookup c_HeadError = some (excClassObj xnm_HeadError xq_HeadError c_HeadError xN_HeadError xbs_HeadError xbm_HeadError true xsn_HeadError xsub_HeadError xab_HeadError xcol_HeadError xdd_HeadError x0_HeadError x1_HeadError x2_HeadError x3_HeadError x5_HeadError "ValueError.__new__"))
    (xfi : PySem.W.findIn K (.ref c_HeadError) "__init__" = some (some (.builtin "ValueError.__init__")))
    (xopq : PySem.W.nsIn K cStatics "thirdparty.any" = some none)
    (de_top : (l.prog.main.scope.names.lookup ("super" : Str)).isSome = false)
    (zsup : PySem.W.nsIn K mainGlobals "super" = some none)
    (rf_xve_BadWord : PySem.HandSPX.refsVE xbm_BadWord = true)
    (rf_xbm_BadWord : xbm_BadWord = .ref c_HeadError :: xbm_HeadError)
    (xsa_BadWord : PySem.W.findIn K (.ref c_BadWord) "__setattr__" = some (some (.builtin "object.__setattr__")))
    (xkp_BadWord : PySem.W.keepIn K (.ref c_BadWord) = true)
    (xcd_BadWord : K.lookup cda_BadWord = some ⟨xcc_BadWord, xcdd_BadWord, .fields xvs_BadWord, xcs_BadWord⟩)
    (rf_xfl_BadWord : xvs_BadWord[2]? = some (.str xfile_BadWord xtf_BadWord))
    (de_xfe_BadWord : ((l.prog.main.file : Str) == xfile_BadWord) = true)
    (xce_BadWord : K.lookup cel_BadWord = some ⟨xecl_BadWord, xecd_BadWord, .cell (some (.ref c_BadWord)), xecs_BadWord⟩)
    (xm_BadWord : PySem.W.mroIn K c_BadWord (.ref c_BadWord) = some true)
    (xv_BadWord : PySem.W.subIn K (.ref c_BadWord) (.type "ValueError") = some true)
    (xi_BadWord : PySem.W.findIn K (.ref c_BadWord) "__init__" = some (some (.ref f_BadWord_init)))
    (xt_BadWord : PySem.W.typeIn K (.ref f_BadWord_init) = some (.type "function"))
    (xn_BadWord_value : PySem.W.findIn K (.ref c_BadWord) "value" = some none)
    (rf_xve_NoStep : PySem.HandSPX.refsVE xbm_NoStep = true)
    (rf_xbm_NoStep : xbm_NoStep = .ref c_HeadError :: xbm_HeadError)
    (xsa_NoStep : PySem.W.findIn K (.ref c_NoStep) "__setattr__" = some (some (.builtin "object.__setattr__")))
    (xkp_NoStep : PySem.W.keepIn K (.ref c_NoStep) = true)
    (xcd_NoStep : K.lookup cda_NoStep = some ⟨xcc_NoStep, xcdd_NoStep, .fields xvs_NoStep, xcs_NoStep⟩)
    (rf_xfl_NoStep : xvs_NoStep[2]? = some (.str xfile_NoStep xtf_NoStep))
    (de_xfe_NoStep : ((l.prog.main.file : Str) == xfile_NoStep) = true)
    (xce_NoStep : K.lookup cel_NoStep = some ⟨xecl_NoStep, xecd_NoStep, .cell (some (.ref c_NoStep)), xecs_NoStep⟩)
    (xm_NoStep : PySem.W.mroIn K c_NoStep (.ref c_NoStep) = some true)
    (xv_NoStep : PySem.W.subIn K (.ref c_NoStep) (.type "ValueError") = some true)
    (xi_NoStep : PySem.W.findIn K (.ref c_NoStep) "__init__" = some (some (.ref f_NoStep_init)))
    (xt_NoStep : PySem.W.typeIn K (.ref f_NoStep_init) = some (.type "function"))
    (xn_NoStep_at : PySem.W.findIn K (.ref c_NoStep) "at" = some none)
    (xn_NoStep_state : PySem.W.findIn K (.ref c_NoStep) "state" = some none)
    (rf_xve_NoTail : PySem.HandSPX.refsVE xbm_NoTail = true)
    (rf_xbm_NoTail : xbm_NoTail = .ref c_HeadError :: xbm_HeadError)
    (xsa_NoTail : PySem.W.findIn K (.ref c_NoTail) "__setattr__" = some (some (.builtin "object.__setattr__")))
    (xkp_NoTail : PySem.W.keepIn K (.ref c_NoTail) = true)
    (xcd_NoTail : K.lookup cda_NoTail = some ⟨xcc_NoTail, xcdd_NoTail, .fields xvs_NoTail, xcs_NoTail⟩)
    (rf_xfl_NoTail : xvs_NoTail[2]? = some (.str xfile_NoTail xtf_NoTail))
    (de_xfe_NoTail : ((l.prog.main.file : Str) == xfile_NoTail) = true)
    (xce_NoTail : K.lookup cel_NoTail = some ⟨xecl_NoTail, xecd_NoTail, .cell (some (.ref c_NoTail)), xecs_NoTail⟩)
    (xm_NoTail : PySem.W.mroIn K c_NoTail (.ref c_NoTail) = some true)
    (xv_NoTail : PySem.W.subIn K (.ref c_NoTail) (.type "ValueError") = some true)
    (xi_NoTail : PySem.W.findIn K (.ref c_NoTail) "__init__" = some (some (.ref f_NoTail_init)))
    (xt_NoTail : PySem.W.typeIn K (.ref f_NoTail_init) = some (.type "function"))
    (xn_NoTail_state : PySem.W.findIn K (.ref c_NoTail) "state" = some none)
    (ai_LONGEST_NAME : PySem.W.nsIn K mainGlobals "LONGEST_NAME" = some (some (.int 8 tgi_LONGEST_NAME)))
    (ai_LONGEST_TEXT : PySem.W.nsIn K mainGlobals "LONGEST_TEXT" = some (some (.int 400 tgi_LONGEST_TEXT)))
    (ai_LONGEST_ANSWER : PySem.W.nsIn K mainGlobals "LONGEST_ANSWER" = some (some (.int 4 tgi_LONGEST_ANSWER)))
    (as_LETTERS : PySem.W.nsIn K mainGlobals "LETTERS" = some (some (.str "abcdefghijklmnopqrstuvwxyz" tgs_LETTERS)))
    (ca_Converter_MOST : PySem.W.findCls K (.ref c_Converter) (.type "type") "MOST" = some (.val (.int 6 tca_Converter_MOST)))
    (rs_Converter : PySem.W.readsIn K c_Converter (.type "type") = true)
    (fi_call_Converter : PySem.W.fnIn K f_Converter_call = true)
    (pg_Converter : PySem.W.plainGet K c_Converter Str.empty = true)
    (hd_Converter : PySem.W.hasDictIn K c_Converter = true)
    (po_Converter : PySem.W.plainOver K c_Converter = true)
    (sa_Converter : PySem.W.findIn K (.ref c_Converter) "__setattr__" = some (some (.builtin "object.__setattr__")))
    (mk_Converter : PySem.W.makesIn K c_Converter = true)
    (kc_Converter : PySem.W.keepIn K (.ref c_Converter) = true)
    (na_start : PySem.W.findIn K (.ref c_Converter) "start" = some none)
    (na_steps : PySem.W.findIn K (.ref c_Converter) "steps" = some none)
    (na_tails : PySem.W.findIn K (.ref c_Converter) "tails" = some none)
    (na_states : PySem.W.findIn K (.ref c_Converter) "states" = some none)
    (na_letters : PySem.W.findIn K (.ref c_Converter) "letters" = some none)
    (ha : PySem.W.findIn K (.ref c_Converter) "__class__" = some (some (.builtin "object.__class__")))
    (hn : PySem.W.specialIn K (.builtin "object.__class__") "__get__" = some (some (.builtin "getset_descriptor.__get__")))
    (htk : PySem.W.takesIn K (.builtin "object.__class__") = some true)
    (hm : PySem.W.mroIn K c_Converter (.type "object") = some true)
    (zb_abs : PySem.W.nsIn K mainGlobals "abs" = some none)
    (zb_all : PySem.W.nsIn K mainGlobals "all" = some none)
    (zb_dict : PySem.W.nsIn K mainGlobals "dict" = some none)
    (zb_enumerate : PySem.W.nsIn K mainGlobals "enumerate" = some none)
    (zb_int : PySem.W.nsIn K mainGlobals "int" = some none)
    (zb_isinstance : PySem.W.nsIn K mainGlobals "isinstance" = some none)
    (zb_len : PySem.W.nsIn K mainGlobals "len" = some none)
    (zb_list : PySem.W.nsIn K mainGlobals "list" = some none)
    (zb_max : PySem.W.nsIn K mainGlobals "max" = some none)
    (zb_range : PySem.W.nsIn K mainGlobals "range" = some none)
    (zb_sorted : PySem.W.nsIn K mainGlobals "sorted" = some none)
    (zb_str : PySem.W.nsIn K mainGlobals "str" = some none)
    (zb_tuple : PySem.W.nsIn K mainGlobals "tuple" = some none)
    : ∃ fd : FuncData, (∀ (s : Shared) (v : Value), BindsTo s fd ⟨[v], []⟩ [("_law_script", v)]) ∧ ∀ base : Heap, K.In base → base.Ns mainGlobals mg → FnG l.prog w K mg base CX0 13 fa fd ["_law_script"] (spLaw K) := by
  have e := hfa.symm.trans (PySem.W.mg_of X G a_law)
  cases e
  have F_is_row_checks := fun_mk (st := s_is_row_checks) l_is_row_checks c_is_row_checks k_is_row_checks
  have B_is_row_checks := F_is_row_checks.binds (ps := ["value", "longest"]) fun _ _ _ _ _ _ us hl => match us, hl with | [_, _], _ => rfl
  have F_is_letter := fun_mk (st := s_is_letter) l_is_letter c_is_letter k_is_letter
  have B_is_letter := F_is_letter.binds (ps := ["value"]) fun _ _ _ _ _ _ us hl => match us, hl with | [_], _ => rfl
  have F_is_text := fun_mk (st := s_is_text) l_is_text c_is_text k_is_text
  have B_is_text := F_is_text.binds (ps := ["value"]) fun _ _ _ _ _ _ us hl => match us, hl with | [_], _ => rfl
  have F_is_answer := fun_mk (st := s_is_answer) l_is_answer c_is_answer k_is_answer
  have B_is_answer := F_is_answer.binds (ps := ["value"]) fun _ _ _ _ _ _ us hl => match us, hl with | [_], _ => rfl
  have F_is_name := fun_mk (st := s_is_name) l_is_name c_is_name k_is_name
  have B_is_name := F_is_name.binds (ps := ["value"]) fun _ _ _ _ _ _ us hl => match us, hl with | [_], _ => rfl
  have F_ascending := fun_mk (st := s_ascending) l_ascending c_ascending k_ascending
  have B_ascending := F_ascending.binds (ps := ["strings"]) fun _ _ _ _ _ _ us hl => match us, hl with | [_], _ => rfl
  have F_is_key := fun_mk (st := s_is_key) l_is_key c_is_key k_is_key
  have B_is_key := F_is_key.binds (ps := ["value"]) fun _ _ _ _ _ _ us hl => match us, hl with | [_], _ => rfl
  have F_is_goal := fun_mk (st := s_is_goal) l_is_goal c_is_goal k_is_goal
  have B_is_goal := F_is_goal.binds (ps := ["value"]) fun _ _ _ _ _ _ us hl => match us, hl with | [_], _ => rfl
  have F_are_steps := fun_mk (st := s_are_steps) l_are_steps c_are_steps k_are_steps
  have B_are_steps := F_are_steps.binds (ps := ["value"]) fun _ _ _ _ _ _ us hl => match us, hl with | [_], _ => rfl
  have F_are_tails := fun_mk (st := s_are_tails) l_are_tails c_are_tails k_are_tails
  have B_are_tails := F_are_tails.binds (ps := ["value"]) fun _ _ _ _ _ _ us hl => match us, hl with | [_], _ => rfl
  have F_need_name := fun_mk (st := s_need_name) l_need_name c_need_name k_need_name
  have B_need_name := F_need_name.binds (ps := ["value"]) fun _ _ _ _ _ _ us hl => match us, hl with | [_], _ => rfl
  have F_need_letter := fun_mk (st := s_need_letter) l_need_letter c_need_letter k_need_letter
  have B_need_letter := F_need_letter.binds (ps := ["value"]) fun _ _ _ _ _ _ us hl => match us, hl with | [_], _ => rfl
  have F_Converter_init := fun_mk (st := s_Converter_init) l_Converter_init c_Converter_init k_Converter_init
  have B_Converter_init := F_Converter_init.binds (ps := ["self", "start", "steps", "tails"]) fun _ _ _ _ _ _ us hl => match us, hl with | [_, _, _, _], _ => rfl
  have F_Converter_call := fun_mk (st := s_Converter_call) l_Converter_call c_Converter_call k_Converter_call
  have B_Converter_call := F_Converter_call.binds (ps := ["self", "text"]) fun _ _ _ _ _ _ us hl => match us, hl with | [_, _], _ => rfl
  have F_need_converter := funD_mk (st := s_need_converter) (dvs := [.str "converter"]) (its := [.str "converter" tk0_need_converter]) l_need_converter lT_need_converter (.cons ⟨_, rfl⟩ .nil) (by simp) c_need_converter k_need_converter
  have B_need_converter : Binds K (PySem.W.fnOf "need_converter" "need_converter" (defArgs s_need_converter) (defBody s_need_converter) (defScope s_need_converter) (.ref T_need_converter) kV_need_converter dc_need_converter pm_need_converter an_need_converter cd_need_converter ct_need_converter) ["value", "part"] [] := by
    obtain ⟨ds, v, b⟩ := F_need_converter.binds1 (ps := ["value", "part"]) 2 1 (by simp) rfl fun _ _ _ _ _ _ _ us its h1 h2 => match us, its, h1, h2 with | [_, _], [_], _, _ => ⟨_, rfl, rfl⟩
    cases v
    exact b
  have F_most_of := fun_mk (st := s_most_of) l_most_of c_most_of k_most_of
  have B_most_of := F_most_of.binds (ps := ["numbers", "least"]) fun _ _ _ _ _ _ us hl => match us, hl with | [_, _], _ => rfl
  have F_weight := fun_mk (st := s_weight) l_weight c_weight k_weight
  have B_weight := F_weight.binds (ps := ["answer"]) fun _ _ _ _ _ _ us hl => match us, hl with | [_], _ => rfl
  have F_heights_behind := fun_mk (st := s_heights_behind) l_heights_behind c_heights_behind k_heights_behind
  have B_heights_behind := F_heights_behind.binds (ps := ["converter", "text"]) fun _ _ _ _ _ _ us hl => match us, hl with | [_, _], _ => rfl
  have F_text_gap := fun_mk (st := s_text_gap) l_text_gap c_text_gap k_text_gap
  have B_text_gap := F_text_gap.binds (ps := ["converter", "text"]) fun _ _ _ _ _ _ us hl => match us, hl with | [_, _], _ => rfl
  have F_text_array := fun_mk (st := s_text_array) l_text_array c_text_array k_text_array
  have B_text_array := F_text_array.binds (ps := ["converter", "text"]) fun _ _ _ _ _ _ us hl => match us, hl with | [_, _], _ => rfl
  have F_text_extra := fun_mk (st := s_text_extra) l_text_extra c_text_extra k_text_extra
  have B_text_extra := F_text_extra.binds (ps := ["converter", "text"]) fun _ _ _ _ _ _ us hl => match us, hl with | [_, _], _ => rfl
  have F_array_of := fun_mk (st := s_array_of) l_array_of c_array_of k_array_of
  have B_array_of := F_array_of.binds (ps := ["converter", "text"]) fun _ _ _ _ _ _ us hl => match us, hl with | [_, _], _ => rfl
  have F_extra_of := fun_mk (st := s_extra_of) l_extra_of c_extra_of k_extra_of
  have B_extra_of := F_extra_of.binds (ps := ["converter", "text"]) fun _ _ _ _ _ _ us hl => match us, hl with | [_, _], _ => rfl
  have F_law_pen := fun_mk (st := s_law_pen) l_law_pen c_law_pen k_law_pen
  have B_law_pen := F_law_pen.binds (ps := ["_law_script"]) fun _ _ _ _ _ _ us hl => match us, hl with | [_], _ => rfl
  have F_law_draw := fun_mk (st := s_law_draw) l_law_draw c_law_draw k_law_draw
  have B_law_draw := F_law_draw.binds (ps := ["_law_pen_here", "_law_many"]) fun _ _ _ _ _ _ us hl => match us, hl with | [_, _], _ => rfl
  have F_law_pick := fun_mk (st := s_law_pick) l_law_pick c_law_pick k_law_pick
  have B_law_pick := F_law_pick.binds (ps := ["_law_pen_here", "_law_some"]) fun _ _ _ _ _ _ us hl => match us, hl with | [_, _], _ => rfl
  have F_law_steps := fun_mk (st := s_law_steps) l_law_steps c_law_steps k_law_steps
  have B_law_steps := F_law_steps.binds (ps := ["_law_pen_here", "_law_states", "_law_letters"]) fun _ _ _ _ _ _ us hl => match us, hl with | [_, _, _], _ => rfl
  have F_law_plan := fun_mk (st := s_law_plan) l_law_plan c_law_plan k_law_plan
  have B_law_plan := F_law_plan.binds (ps := ["_law_pen_here", "_law_many", "_law_letters"]) fun _ _ _ _ _ _ us hl => match us, hl with | [_, _, _], _ => rfl
  have F_law_made := fun_mk (st := s_law_made) l_law_made c_law_made k_law_made
  have B_law_made := F_law_made.binds (ps := ["_law_plan_here"]) fun _ _ _ _ _ _ us hl => match us, hl with | [_], _ => rfl
  have F_law_run := fun_mk (st := s_law_run) l_law_run c_law_run k_law_run
  have B_law_run := F_law_run.binds (ps := ["_law_plan_here", "_law_text"]) fun _ _ _ _ _ _ us hl => match us, hl with | [_, _], _ => rfl
  have F_law_is_kept := fun_mk (st := s_law_is_kept) l_law_is_kept c_law_is_kept k_law_is_kept
  have B_law_is_kept := F_law_is_kept.binds (ps := ["_law_plan_here", "_law_text", "_law_cells"]) fun _ _ _ _ _ _ us hl => match us, hl with | [_, _, _], _ => rfl
  have F_law_array := fun_mk (st := s_law_array) l_law_array c_law_array k_law_array
  have B_law_array := F_law_array.binds (ps := ["_law_plan_here", "_law_text"]) fun _ _ _ _ _ _ us hl => match us, hl with | [_, _], _ => rfl
  have F_law := fun_mk (st := s_law) l_law c_law k_law
  have cl_Converter : Cls K c_Converter := ⟨pg_Converter, hd_Converter, po_Converter, sa_Converter⟩
  have B_BadWord_init : Binds K (PySem.W.ksFn "__init__" "BadWord.__init__" (defArgs s_BadWord_init) (defBody s_BadWord_init) (defScope s_BadWord_init) .none kV_BadWord_init dc_BadWord_init pm_BadWord_init an_BadWord_init (.ref cda_BadWord) ct_BadWord_init cel_BadWord) ["self", "value"] [] := Binds.all fun us hl => match us, hl with | [_, _], _ => rfl
  have B_NoStep_init : Binds K (PySem.W.ksFn "__init__" "NoStep.__init__" (defArgs s_NoStep_init) (defBody s_NoStep_init) (defScope s_NoStep_init) .none kV_NoStep_init dc_NoStep_init pm_NoStep_init an_NoStep_init (.ref cda_NoStep) ct_NoStep_init cel_NoStep) ["self", "at", "state"] [] := Binds.all fun us hl => match us, hl with | [_, _, _], _ => rfl
  have B_NoTail_init : Binds K (PySem.W.ksFn "__init__" "NoTail.__init__" (defArgs s_NoTail_init) (defBody s_NoTail_init) (defScope s_NoTail_init) .none kV_NoTail_init dc_NoTail_init pm_NoTail_init an_NoTail_init (.ref cda_NoTail) ct_NoTail_init cel_NoTail) ["self", "state"] [] := Binds.all fun us hl => match us, hl with | [_, _], _ => rfl
  let A : Ad := { c_Converter := c_Converter, c_BadWord := c_BadWord, c_NoStep := c_NoStep, c_NoTail := c_NoTail, c_HeadError := c_HeadError, cda_BadWord := cda_BadWord, cel_BadWord := cel_BadWord, cda_NoStep := cda_NoStep, cel_NoStep := cel_NoStep, cda_NoTail := cda_NoTail, cel_NoTail := cel_NoTail, f_is_row_checks := f_is_row_checks, f_is_letter := f_is_letter, f_is_text := f_is_text, f_is_answer := f_is_answer, f_is_name := f_is_name, f_ascending := f_ascending, f_is_key := f_is_key, f_is_goal := f_is_goal, f_are_steps := f_are_steps, f_are_tails := f_are_tails, f_need_name := f_need_name, f_need_letter := f_need_letter, f_BadWord_init := f_BadWord_init, f_NoStep_init := f_NoStep_init, f_NoTail_init := f_NoTail_init, f_Converter_init := f_Converter_init, f_Converter_call := f_Converter_call, f_need_converter := f_need_converter, f_most_of := f_most_of, f_weight := f_weight, f_heights_behind := f_heights_behind, f_text_gap := f_text_gap, f_text_array := f_text_array, f_text_extra := f_text_extra, f_array_of := f_array_of, f_extra_of := f_extra_of, f_law_pen := f_law_pen, f_law_draw := f_law_draw, f_law_pick := f_law_pick, f_law_steps := f_law_steps, f_law_plan := f_law_plan, f_law_made := f_law_made, f_law_run := f_law_run, f_law_is_kept := f_law_is_kept, f_law_array := f_law_array, f_law := fa, d_BadWord_init := PySem.W.ksFn "__init__" "BadWord.__init__" (defArgs s_BadWord_init) (defBody s_BadWord_init) (defScope s_BadWord_init) .none kV_BadWord_init dc_BadWord_init pm_BadWord_init an_BadWord_init (.ref cda_BadWord) ct_BadWord_init cel_BadWord, d_NoStep_init := PySem.W.ksFn "__init__" "NoStep.__init__" (defArgs s_NoStep_init) (defBody s_NoStep_init) (defScope s_NoStep_init) .none kV_NoStep_init dc_NoStep_init pm_NoStep_init an_NoStep_init (.ref cda_NoStep) ct_NoStep_init cel_NoStep, d_NoTail_init := PySem.W.ksFn "__init__" "NoTail.__init__" (defArgs s_NoTail_init) (defBody s_NoTail_init) (defScope s_NoTail_init) .none kV_NoTail_init dc_NoTail_init pm_NoTail_init an_NoTail_init (.ref cda_NoTail) ct_NoTail_init cel_NoTail, d_is_row_checks := PySem.W.fnOf "is_row" "is_row" (defArgs s_is_row_checks) (defBody s_is_row_checks) (defScope s_is_row_checks) .none kV_is_row_checks dc_is_row_checks pm_is_row_checks an_is_row_checks cd_is_row_checks ct_is_row_checks, d_is_letter := PySem.W.fnOf "is_letter" "is_letter" (defArgs s_is_letter) (defBody s_is_letter) (defScope s_is_letter) .none kV_is_letter dc_is_letter pm_is_letter an_is_letter cd_is_letter ct_is_letter, d_is_text := PySem.W.fnOf "is_text" "is_text" (defArgs s_is_text) (defBody s_is_text) (defScope s_is_text) .none kV_is_text dc_is_text pm_is_text an_is_text cd_is_text ct_is_text, d_is_answer := PySem.W.fnOf "is_answer" "is_answer" (defArgs s_is_answer) (defBody s_is_answer) (defScope s_is_answer) .none kV_is_answer dc_is_answer pm_is_answer an_is_answer cd_is_answer ct_is_answer, d_is_name := PySem.W.fnOf "is_name" "is_name" (defArgs s_is_name) (defBody s_is_name) (defScope s_is_name) .none kV_is_name dc_is_name pm_is_name an_is_name cd_is_name ct_is_name, d_ascending := PySem.W.fnOf "ascending" "ascending" (defArgs s_ascending) (defBody s_ascending) (defScope s_ascending) .none kV_ascending dc_ascending pm_ascending an_ascending cd_ascending ct_ascending, d_is_key := PySem.W.fnOf "is_key" "is_key" (defArgs s_is_key) (defBody s_is_key) (defScope s_is_key) .none kV_is_key dc_is_key pm_is_key an_is_key cd_is_key ct_is_key, d_is_goal := PySem.W.fnOf "is_goal" "is_goal" (defArgs s_is_goal) (defBody s_is_goal) (defScope s_is_goal) .none kV_is_goal dc_is_goal pm_is_goal an_is_goal cd_is_goal ct_is_goal, d_are_steps := PySem.W.fnOf "are_steps" "are_steps" (defArgs s_are_steps) (defBody s_are_steps) (defScope s_are_steps) .none kV_are_steps dc_are_steps pm_are_steps an_are_steps cd_are_steps ct_are_steps, d_are_tails := PySem.W.fnOf "are_tails" "are_tails" (defArgs s_are_tails) (defBody s_are_tails) (defScope s_are_tails) .none kV_are_tails dc_are_tails pm_are_tails an_are_tails cd_are_tails ct_are_tails, d_need_name := PySem.W.fnOf "need_name" "need_name" (defArgs s_need_name) (defBody s_need_name) (defScope s_need_name) .none kV_need_name dc_need_name pm_need_name an_need_name cd_need_name ct_need_name, d_need_letter := PySem.W.fnOf "need_letter" "need_letter" (defArgs s_need_letter) (defBody s_need_letter) (defScope s_need_letter) .none kV_need_letter dc_need_letter pm_need_letter an_need_letter cd_need_letter ct_need_letter, d_Converter_init := PySem.W.fnOf "__init__" "Converter.__init__" (defArgs s_Converter_init) (defBody s_Converter_init) (defScope s_Converter_init) .none kV_Converter_init dc_Converter_init pm_Converter_init an_Converter_init cd_Converter_init ct_Converter_init, d_Converter_call := PySem.W.fnOf "__call__" "Converter.__call__" (defArgs s_Converter_call) (defBody s_Converter_call) (defScope s_Converter_call) .none kV_Converter_call dc_Converter_call pm_Converter_call an_Converter_call cd_Converter_call ct_Converter_call, d_need_converter := PySem.W.fnOf "need_converter" "need_converter" (defArgs s_need_converter) (defBody s_need_converter) (defScope s_need_converter) (.ref T_need_converter) kV_need_converter dc_need_converter pm_need_converter an_need_converter cd_need_converter ct_need_converter, d_most_of := PySem.W.fnOf "most_of" "most_of" (defArgs s_most_of) (defBody s_most_of) (defScope s_most_of) .none kV_most_of dc_most_of pm_most_of an_most_of cd_most_of ct_most_of, d_weight := PySem.W.fnOf "weight" "weight" (defArgs s_weight) (defBody s_weight) (defScope s_weight) .none kV_weight dc_weight pm_weight an_weight cd_weight ct_weight, d_heights_behind := PySem.W.fnOf "heights_behind" "heights_behind" (defArgs s_heights_behind) (defBody s_heights_behind) (defScope s_heights_behind) .none kV_heights_behind dc_heights_behind pm_heights_behind an_heights_behind cd_heights_behind ct_heights_behind, d_text_gap := PySem.W.fnOf "text_gap" "text_gap" (defArgs s_text_gap) (defBody s_text_gap) (defScope s_text_gap) .none kV_text_gap dc_text_gap pm_text_gap an_text_gap cd_text_gap ct_text_gap, d_text_array := PySem.W.fnOf "text_array" "text_array" (defArgs s_text_array) (defBody s_text_array) (defScope s_text_array) .none kV_text_array dc_text_array pm_text_array an_text_array cd_text_array ct_text_array, d_text_extra := PySem.W.fnOf "text_extra" "text_extra" (defArgs s_text_extra) (defBody s_text_extra) (defScope s_text_extra) .none kV_text_extra dc_text_extra pm_text_extra an_text_extra cd_text_extra ct_text_extra, d_array_of := PySem.W.fnOf "array_of" "array_of" (defArgs s_array_of) (defBody s_array_of) (defScope s_array_of) .none kV_array_of dc_array_of pm_array_of an_array_of cd_array_of ct_array_of, d_extra_of := PySem.W.fnOf "extra_of" "extra_of" (defArgs s_extra_of) (defBody s_extra_of) (defScope s_extra_of) .none kV_extra_of dc_extra_of pm_extra_of an_extra_of cd_extra_of ct_extra_of, d_law_pen := PySem.W.fnOf "_law_pen" "_law_pen" (defArgs s_law_pen) (defBody s_law_pen) (defScope s_law_pen) .none kV_law_pen dc_law_pen pm_law_pen an_law_pen cd_law_pen ct_law_pen, d_law_draw := PySem.W.fnOf "_law_draw" "_law_draw" (defArgs s_law_draw) (defBody s_law_draw) (defScope s_law_draw) .none kV_law_draw dc_law_draw pm_law_draw an_law_draw cd_law_draw ct_law_draw, d_law_pick := PySem.W.fnOf "_law_pick" "_law_pick" (defArgs s_law_pick) (defBody s_law_pick) (defScope s_law_pick) .none kV_law_pick dc_law_pick pm_law_pick an_law_pick cd_law_pick ct_law_pick, d_law_steps := PySem.W.fnOf "_law_steps" "_law_steps" (defArgs s_law_steps) (defBody s_law_steps) (defScope s_law_steps) .none kV_law_steps dc_law_steps pm_law_steps an_law_steps cd_law_steps ct_law_steps, d_law_plan := PySem.W.fnOf "_law_plan" "_law_plan" (defArgs s_law_plan) (defBody s_law_plan) (defScope s_law_plan) .none kV_law_plan dc_law_plan pm_law_plan an_law_plan cd_law_plan ct_law_plan, d_law_made := PySem.W.fnOf "_law_made" "_law_made" (defArgs s_law_made) (defBody s_law_made) (defScope s_law_made) .none kV_law_made dc_law_made pm_law_made an_law_made cd_law_made ct_law_made, d_law_run := PySem.W.fnOf "_law_run" "_law_run" (defArgs s_law_run) (defBody s_law_run) (defScope s_law_run) .none kV_law_run dc_law_run pm_law_run an_law_run cd_law_run ct_law_run, d_law_is_kept := PySem.W.fnOf "_law_is_kept" "_law_is_kept" (defArgs s_law_is_kept) (defBody s_law_is_kept) (defScope s_law_is_kept) .none kV_law_is_kept dc_law_is_kept pm_law_is_kept an_law_is_kept cd_law_is_kept ct_law_is_kept, d_law_array := PySem.W.fnOf "_law_array" "_law_array" (defArgs s_law_array) (defBody s_law_array) (defScope s_law_array) .none kV_law_array dc_law_array pm_law_array an_law_array cd_law_array ct_law_array, d_law := PySem.W.fnOf "law" "law" (defArgs s_law) (defBody s_law) (defScope s_law) .none kV_law dc_law pm_law an_law cd_law ct_law }
  have T : Txt l.prog K mg A := {
    kf := ⟨⟨pg_Converter, hd_Converter, po_Converter, sa_Converter⟩, na_start, na_steps, na_tails, na_states, na_letters, ⟨⟨pg_Converter, hd_Converter, po_Converter, sa_Converter⟩, ha, hn, htk, hm⟩, kit_rr⟩
    xsup := PySem.W.mg_none_of X G zsup
    g_BadWord := PySem.W.mg_of X G aC_BadWord
    g_NoStep := PySem.W.mg_of X G aC_NoStep
    g_NoTail := PySem.W.mg_of X G aC_NoTail
    g_HeadError := PySem.W.mg_of X G aC_HeadError
    xs_BadWord := ⟨⟨⟨_, _, _, _, _, _, _, _, _, _, _, _, _, _, _, xl_BadWord, rf_xve_BadWord⟩, xsa_BadWord, xb_BadWord, xty_BadWord, xkp_BadWord⟩, ⟨_, _, _, _, _, _, xcd_BadWord, rf_xfl_BadWord, de_xfe_BadWord⟩, ⟨_, _, _, xce_BadWord⟩, sup_mk xl_BadWord xl_HeadError rf_xbm_BadWord xfi, xm_BadWord, xopq, xv_BadWord, de_top⟩
    xo_BadWord := ⟨⟨_, _, _, _, _, _, _, _, _, _, _, _, _, _, _, xl_BadWord, rf_xve_BadWord⟩, xsa_BadWord, xb_BadWord, xty_BadWord, xkp_BadWord⟩
    xi_BadWord := xi_BadWord
    xt_BadWord := xt_BadWord
    xn_BadWord_value := xn_BadWord_value
    xs_NoStep := ⟨⟨⟨_, _, _, _, _, _, _, _, _, _, _, _, _, _, _, xl_NoStep, rf_xve_NoStep⟩, xsa_NoStep, xb_NoStep, xty_NoStep, xkp_NoStep⟩, ⟨_, _, _, _, _, _, xcd_NoStep, rf_xfl_NoStep, de_xfe_NoStep⟩, ⟨_, _, _, xce_NoStep⟩, sup_mk xl_NoStep xl_HeadError rf_xbm_NoStep xfi, xm_NoStep, xopq, xv_NoStep, de_top⟩
    xo_NoStep := ⟨⟨_, _, _, _, _, _, _, _, _, _, _, _, _, _, _, xl_NoStep, rf_xve_NoStep⟩, xsa_NoStep, xb_NoStep, xty_NoStep, xkp_NoStep⟩
    xi_NoStep := xi_NoStep
    xt_NoStep := xt_NoStep
    xn_NoStep_at := xn_NoStep_at
    xn_NoStep_state := xn_NoStep_state
    xs_NoTail := ⟨⟨⟨_, _, _, _, _, _, _, _, _, _, _, _, _, _, _, xl_NoTail, rf_xve_NoTail⟩, xsa_NoTail, xb_NoTail, xty_NoTail, xkp_NoTail⟩, ⟨_, _, _, _, _, _, xcd_NoTail, rf_xfl_NoTail, de_xfe_NoTail⟩, ⟨_, _, _, xce_NoTail⟩, sup_mk xl_NoTail xl_HeadError rf_xbm_NoTail xfi, xm_NoTail, xopq, xv_NoTail, de_top⟩
    xo_NoTail := ⟨⟨_, _, _, _, _, _, _, _, _, _, _, _, _, _, _, xl_NoTail, rf_xve_NoTail⟩, xsa_NoTail, xb_NoTail, xty_NoTail, xkp_NoTail⟩
    xi_NoTail := xi_NoTail
    xt_NoTail := xt_NoTail
    xn_NoTail_state := xn_NoTail_state
    b_abs := PySem.W.mg_none_of X G zb_abs
    b_all := PySem.W.mg_none_of X G zb_all
    b_dict := PySem.W.mg_none_of X G zb_dict
    b_enumerate := PySem.W.mg_none_of X G zb_enumerate
    b_int := PySem.W.mg_none_of X G zb_int
    b_isinstance := PySem.W.mg_none_of X G zb_isinstance
    b_len := PySem.W.mg_none_of X G zb_len
    b_list := PySem.W.mg_none_of X G zb_list
    b_max := PySem.W.mg_none_of X G zb_max
    b_range := PySem.W.mg_none_of X G zb_range
    b_sorted := PySem.W.mg_none_of X G zb_sorted
    b_str := PySem.W.mg_none_of X G zb_str
    b_tuple := PySem.W.mg_none_of X G zb_tuple
    g_Converter := PySem.W.mg_of X G aC_Converter
    M_Converter := ⟨mk_Converter, a_Converter_init, i_Converter_init, kc_Converter⟩
    g_is_row_checks := PySem.W.mg_of X G a_is_row_checks
    F_is_row_checks := F_is_row_checks
    B_is_row_checks := B_is_row_checks
    g_is_letter := PySem.W.mg_of X G a_is_letter
    F_is_letter := F_is_letter
    B_is_letter := B_is_letter
    g_is_text := PySem.W.mg_of X G a_is_text
    F_is_text := F_is_text
    B_is_text := B_is_text
    g_is_answer := PySem.W.mg_of X G a_is_answer
    F_is_answer := F_is_answer
    B_is_answer := B_is_answer
    g_is_name := PySem.W.mg_of X G a_is_name
    F_is_name := F_is_name
    B_is_name := B_is_name
    g_ascending := PySem.W.mg_of X G a_ascending
    F_ascending := F_ascending
    B_ascending := B_ascending
    g_is_key := PySem.W.mg_of X G a_is_key
    F_is_key := F_is_key
    B_is_key := B_is_key
    g_is_goal := PySem.W.mg_of X G a_is_goal
    F_is_goal := F_is_goal
    B_is_goal := B_is_goal
    g_are_steps := PySem.W.mg_of X G a_are_steps
    F_are_steps := F_are_steps
    B_are_steps := B_are_steps
    g_are_tails := PySem.W.mg_of X G a_are_tails
    F_are_tails := F_are_tails
    B_are_tails := B_are_tails
    g_need_name := PySem.W.mg_of X G a_need_name
    F_need_name := F_need_name
    B_need_name := B_need_name
    g_need_letter := PySem.W.mg_of X G a_need_letter
    F_need_letter := F_need_letter
    B_need_letter := B_need_letter
    F_BadWord_init := ⟨⟨_, _, _, _, _, _, _, _, rfl, l_BadWord_init, c_BadWord_init⟩⟩
    B_BadWord_init := B_BadWord_init
    F_NoStep_init := ⟨⟨_, _, _, _, _, _, _, _, rfl, l_NoStep_init, c_NoStep_init⟩⟩
    B_NoStep_init := B_NoStep_init
    F_NoTail_init := ⟨⟨_, _, _, _, _, _, _, _, rfl, l_NoTail_init, c_NoTail_init⟩⟩
    B_NoTail_init := B_NoTail_init
    F_Converter_init := F_Converter_init
    B_Converter_init := B_Converter_init
    F_Converter_call := F_Converter_call
    B_Converter_call := B_Converter_call
    g_need_converter := PySem.W.mg_of X G a_need_converter
    F_need_converter := F_need_converter
    B_need_converter := B_need_converter
    g_most_of := PySem.W.mg_of X G a_most_of
    F_most_of := F_most_of
    B_most_of := B_most_of
    g_weight := PySem.W.mg_of X G a_weight
    F_weight := F_weight
    B_weight := B_weight
    g_heights_behind := PySem.W.mg_of X G a_heights_behind
    F_heights_behind := F_heights_behind
    B_heights_behind := B_heights_behind
    g_text_gap := PySem.W.mg_of X G a_text_gap
    F_text_gap := F_text_gap
    B_text_gap := B_text_gap
    g_text_array := PySem.W.mg_of X G a_text_array
    F_text_array := F_text_array
    B_text_array := B_text_array
    g_text_extra := PySem.W.mg_of X G a_text_extra
    F_text_extra := F_text_extra
    B_text_extra := B_text_extra
    g_array_of := PySem.W.mg_of X G a_array_of
    F_array_of := F_array_of
    B_array_of := B_array_of
    g_extra_of := PySem.W.mg_of X G a_extra_of
    F_extra_of := F_extra_of
    B_extra_of := B_extra_of
    g_law_pen := PySem.W.mg_of X G a_law_pen
    F_law_pen := F_law_pen
    B_law_pen := B_law_pen
    g_law_draw := PySem.W.mg_of X G a_law_draw
    F_law_draw := F_law_draw
    B_law_draw := B_law_draw
    g_law_pick := PySem.W.mg_of X G a_law_pick
    F_law_pick := F_law_pick
    B_law_pick := B_law_pick
    g_law_steps := PySem.W.mg_of X G a_law_steps
    F_law_steps := F_law_steps
    B_law_steps := B_law_steps
    g_law_plan := PySem.W.mg_of X G a_law_plan
    F_law_plan := F_law_plan
    B_law_plan := B_law_plan
    g_law_made := PySem.W.mg_of X G a_law_made
    F_law_made := F_law_made
    B_law_made := B_law_made
    g_law_run := PySem.W.mg_of X G a_law_run
    F_law_run := F_law_run
    B_law_run := B_law_run
    g_law_is_kept := PySem.W.mg_of X G a_law_is_kept
    F_law_is_kept := F_law_is_kept
    B_law_is_kept := B_law_is_kept
    g_law_array := PySem.W.mg_of X G a_law_array
    F_law_array := F_law_array
    B_law_array := B_law_array
    F_law := F_law
    gi_LONGEST_NAME := ⟨_, PySem.W.mg_of X G ai_LONGEST_NAME⟩
    gi_LONGEST_TEXT := ⟨_, PySem.W.mg_of X G ai_LONGEST_TEXT⟩
    gi_LONGEST_ANSWER := ⟨_, PySem.W.mg_of X G ai_LONGEST_ANSWER⟩
    gs_LETTERS := ⟨_, PySem.W.mg_of X G as_LETTERS⟩
    ca_Converter_MOST := ⟨_, _, rs_Converter, ca_Converter_MOST⟩
    co_Converter := ⟨a_Converter_call, i_Converter_call, fi_call_Converter⟩
    KW_array_of_text_converter := ⟨_, fun_kb F_array_of (ps := ["converter", "text"]) 0 ["text", "converter"] (fun us ws => us ++ ((ws.drop 1).take 1 ++ ((ws.drop 0).take 1))) (fun r1 r2 => r1.append ((((r2.drop 1).take 1).append ((r2.drop 0).take 1)))) (fun _ _ _ _ _ _ us ws h1 h2 => match us, ws, h1, h2 with | [], [_, _], _, _ => rfl)⟩
    KW_extra_of_text_converter := ⟨_, fun_kb F_extra_of (ps := ["converter", "text"]) 0 ["text", "converter"] (fun us ws => us ++ ((ws.drop 1).take 1 ++ ((ws.drop 0).take 1))) (fun r1 r2 => r1.append ((((r2.drop 1).take 1).append ((r2.drop 0).take 1)))) (fun _ _ _ _ _ _ us ws h1 h2 => match us, ws, h1, h2 with | [], [_, _], _, _ => rfl)⟩
  }
  exact ⟨_, fun s v => .of_eq rfl, fun base _ _ => ok_all T⟩

theorem walk {l : PySem.W.OpenLaw} {q : Program} {loose : List Str} {XP : (Str → Option Value) → Heap → Prop} {YP : World → Heap → Prop} {d : DefRec} {K : Params → PySem.W.Frag} (hn : l.most = some 63) (hdf : d.params.defaults = [])
    (hY : ∀ (w : World) (h : Heap), YP w h → (K w.params).In h)
    (F : ∀ (w : World) (mg : Str → Option Value) (fa : Addr) (h : Heap), (K w.params).In h → h.Ns mainGlobals mg → mg d.name = some (.ref fa) →
      ∃ fd : FuncData, (∀ (s : Shared) (u : Value), BindsTo s fd ⟨[u], []⟩ [("_law_script", u)]) ∧ ∀ base : Heap, (K w.params).In base → base.Ns mainGlobals mg → FnG l.prog w (K w.params) mg base CX0 13 fa fd ["_law_script"] (spLaw (K w.params))) :
    PySem.W.WalkO q loose XP YP l.row.toRowW d [] (fun f vs => PySem.call f vs) :=
  walkG (n := 63) (k := 13) (x := "_law_script") (CX := fun _ => CX0) (sp := fun w => spLaw (K w.params)) hn (by decide) hdf ⟨rfl, by decide, by decide⟩ hY F (fun w H a ns hl hS hH => ⟨⟨ns, hS⟩, fun _ => rfl⟩) fun _ _ _ _ _ z => z

end HG

namespace HGH
open PySem
def ns0 : List PySem.Str := ["_wall", "HeadError", "BadName", "BadLetter", "BadText", "BadConverter", "BadNumber", "BadWord", "NoState", "NoStep", "NoTail", "Taken"]
def ns1 : List PySem.Str := ["TooMany", "LETTERS", "LONGEST_NAME", "LONGEST_TEXT", "LONGEST_ANSWER", "is_integer", "is_between", "is_row", "is_row_checks", "is_letter", "is_text", "is_answer"]
def ns2 : List PySem.Str := ["is_name", "MOST_STATES", "LONGEST", "NAMES", "weave_step_of", "weave_tail_of", "weave_led", "handed_step", "shuffled_step", "common_step", "weave_step", "handed_tail"]
def ns3 : List PySem.Str := ["weave_tail", "weave_letters", "weave_pairs", "weave_short", "woven", "common_letter", "many_times", "ascending", "is_key", "is_goal", "are_steps", "are_tails"]
def ns4 : List PySem.Str := ["need_name", "need_letter", "Converter", "need_other", "made_of", "is_row_converters", "ordered_keys", "step_words", "tail_words", "step_in", "tail_in", "is_behind"]
def ns5 : List PySem.Str := ["parts_in", "need_converter", "most_of", "weight", "heights_behind", "text_gap", "text_array", "text_extra", "array_of", "extra_of", "_law_pen", "_law_draw"]
def ns6 : List PySem.Str := ["_law_pick", "_law_steps", "_law_plan", "_law_made", "_law_beside", "_law_closed", "_law_useful", "_law_run", "_law_texts", "_law_is_kept", "_law_array", "_law_extra"]
def names : List PySem.Str := ns0 ++ ns1 ++ ns2 ++ ns3 ++ ns4 ++ ns5 ++ ns6
end HGH
open PySem PySem.W PySem.Calls PyProof.Rows
local macro_rules | `(tactic| o_head ($f $k $a $e)) => `(tactic| refine HandSHeadRun.head_any (r := (OpenLaw.row PySem.Challenge.rw_headgap_k52_arrays_of_texts)) (q := view ((OpenLaw.row PySem.Challenge.rw_headgap_k52_arrays_of_texts)).prog [94]) (H := $f $k $a $e) (ob := fun s => List.map (HandSHeadRun.getT s) $a) (M := 9000) (loose := HGH.names) (d := HandSHeadRun.topDef ((OpenLaw.row PySem.Challenge.rw_headgap_k52_arrays_of_texts)).prog 94) (kwd := []) (fun s => List.map_congr_left fun a _ => HandSHeadRun.getT_eq s a) (by kernel_rfl) (fun s => by kernel_rfl) ?_ (by kernel_rfl) (by kernel_rfl) (by kernel_rfl) (by rfl) (by first | assumption | decide +kernel) (by decide +kernel) ⟨rfl, rfl, rfl, rfl, rfl, by decide +kernel⟩ ?_ ?_)
set_option maxRecDepth 100000 in
set_option maxHeartbeats 0 in
theorem PySem.Challenge.cw_headgap_k52_arrays_of_texts_holds : PySem.Challenge.rw_headgap_k52_arrays_of_texts.Holds := by
  w_on; o_law; k_head; rotate_left; (focus w_witness2); rotate_left; (focus (intro w os; kernel_rfl))
  k_fill
  refine HG.walk (l := PySem.Challenge.rw_headgap_k52_arrays_of_texts) rfl rfl (fun w h Y => PySem.W.kIn_of Y) ?F
  case F =>
    intro w mg fa h KX G hmg
    refine' HG.all_mk KX G hmg ?aC_Converter ?a_is_row_checks ?l_is_row_checks ?c_is_row_checks ?k_is_row_checks ?a_is_letter ?l_is_letter ?c_is_letter ?k_is_letter ?a_is_text ?l_is_text ?c_is_text ?k_is_text ?a_is_answer ?l_is_answer ?c_is_answer ?k_is_answer ?a_is_name ?l_is_name ?c_is_name ?k_is_name ?a_ascending ?l_ascending ?c_ascending ?k_ascending ?a_is_key ?l_is_key ?c_is_key ?k_is_key ?a_is_goal ?l_is_goal ?c_is_goal ?k_is_goal ?a_are_steps ?l_are_steps ?c_are_steps ?k_are_steps ?a_are_tails ?l_are_tails ?c_are_tails ?k_are_tails ?a_need_name ?l_need_name ?c_need_name ?k_need_name ?a_need_letter ?l_need_letter ?c_need_letter ?k_need_letter ?l_BadWord_init ?c_BadWord_init ?l_NoStep_init ?c_NoStep_init ?l_NoTail_init ?c_NoTail_init ?a_Converter_init ?i_Converter_init ?l_Converter_init ?c_Converter_init ?k_Converter_init ?a_Converter_call ?i_Converter_call ?l_Converter_call ?c_Converter_call ?k_Converter_call ?a_need_converter ?l_need_converter ?lT_need_converter ?c_need_converter ?k_need_converter ?a_most_of ?l_most_of ?c_most_of ?k_most_of ?a_weight ?l_weight ?c_weight ?k_weight ?a_heights_behind ?l_heights_behind ?c_heights_behind ?k_heights_behind ?a_text_gap ?l_text_gap ?c_text_gap ?k_text_gap ?a_text_array ?l_text_array ?c_text_array ?k_text_array ?a_text_extra ?l_text_extra ?c_text_extra ?k_text_extra ?a_array_of ?l_array_of ?c_array_of ?k_array_of ?a_extra_of ?l_extra_of ?c_extra_of ?k_extra_of ?a_law_pen ?l_law_pen ?c_law_pen ?k_law_pen ?a_law_draw ?l_law_draw ?c_law_draw ?k_law_draw ?a_law_pick ?l_law_pick ?c_law_pick ?k_law_pick ?a_law_steps ?l_law_steps ?c_law_steps ?k_law_steps ?a_law_plan ?l_law_plan ?c_law_plan ?k_law_plan ?a_law_made ?l_law_made ?c_law_made ?k_law_made ?a_law_run ?l_law_run ?c_law_run ?k_law_run ?a_law_is_kept ?l_law_is_kept ?c_law_is_kept ?k_law_is_kept ?a_law_array ?l_law_array ?c_law_array ?k_law_array ?a_law ?l_law ?c_law ?k_law ?aC_BadWord ?xl_BadWord ?xb_BadWord ?xty_BadWord ?aC_NoStep ?xl_NoStep ?xb_NoStep ?xty_NoStep ?aC_NoTail ?xl_NoTail ?xb_NoTail ?xty_NoTail ?aC_HeadError ?xl_HeadError ?xfi ?xopq ?de_top ?zsup ?rf_xve_BadWord ?rf_xbm_BadWord ?xsa_BadWord ?xkp_BadWord ?xcd_BadWord ?rf_xfl_BadWord ?de_xfe_BadWord ?xce_BadWord ?xm_BadWord ?xv_BadWord ?xi_BadWord ?xt_BadWord ?xn_BadWord_value ?rf_xve_NoStep ?rf_xbm_NoStep ?xsa_NoStep ?xkp_NoStep ?xcd_NoStep ?rf_xfl_NoStep ?de_xfe_NoStep ?xce_NoStep ?xm_NoStep ?xv_NoStep ?xi_NoStep ?xt_NoStep ?xn_NoStep_at ?xn_NoStep_state ?rf_xve_NoTail ?rf_xbm_NoTail ?xsa_NoTail ?xkp_NoTail ?xcd_NoTail ?rf_xfl_NoTail ?de_xfe_NoTail ?xce_NoTail ?xm_NoTail ?xv_NoTail ?xi_NoTail ?xt_NoTail ?xn_NoTail_state ?ai_LONGEST_NAME ?ai_LONGEST_TEXT ?ai_LONGEST_ANSWER ?as_LETTERS ?ca_Converter_MOST ?rs_Converter ?fi_call_Converter ?pg_Converter ?hd_Converter ?po_Converter ?sa_Converter ?mk_Converter ?kc_Converter ?na_start ?na_steps ?na_tails ?na_states ?na_letters ?ha ?hn ?htk ?hm ?zb_abs ?zb_all ?zb_dict ?zb_enumerate ?zb_int ?zb_isinstance ?zb_len ?zb_list ?zb_max ?zb_range ?zb_sorted ?zb_str ?zb_tuple
    (case aC_Converter => k_is)
    (case aC_BadWord => k_is)
    (case aC_NoStep => k_is)
    (case aC_NoTail => k_is)
    (case aC_HeadError => k_is)
    (case xi_BadWord => k_is)
    (case xi_NoStep => k_is)
    (case xi_NoTail => k_is)
    (case a_is_row_checks => k_is)
    (case l_is_row_checks => k_is)
    (case c_is_row_checks => k_is)
    (case k_is_row_checks => k_is)
    (case a_is_letter => k_is)
    (case l_is_letter => k_is)
    (case c_is_letter => k_is)
    (case k_is_letter => k_is)
    (case a_is_text => k_is)
    (case l_is_text => k_is)
    (case c_is_text => k_is)
    (case k_is_text => k_is)
    (case a_is_answer => k_is)
    (case l_is_answer => k_is)
    (case c_is_answer => k_is)
    (case k_is_answer => k_is)
    (case a_is_name => k_is)
    (case l_is_name => k_is)
    (case c_is_name => k_is)
    (case k_is_name => k_is)
    (case a_ascending => k_is)
    (case l_ascending => k_is)
    (case c_ascending => k_is)
    (case k_ascending => k_is)
    (case a_is_key => k_is)
    (case l_is_key => k_is)
    (case c_is_key => k_is)
    (case k_is_key => k_is)
    (case a_is_goal => k_is)
    (case l_is_goal => k_is)
    (case c_is_goal => k_is)
    (case k_is_goal => k_is)
    (case a_are_steps => k_is)
    (case l_are_steps => k_is)
    (case c_are_steps => k_is)
    (case k_are_steps => k_is)
    (case a_are_tails => k_is)
    (case l_are_tails => k_is)
    (case c_are_tails => k_is)
    (case k_are_tails => k_is)
    (case a_need_name => k_is)
    (case l_need_name => k_is)
    (case c_need_name => k_is)
    (case k_need_name => k_is)
    (case a_need_letter => k_is)
    (case l_need_letter => k_is)
    (case c_need_letter => k_is)
    (case k_need_letter => k_is)
    (case l_BadWord_init => k_is)
    (case c_BadWord_init => k_is)
    (case l_NoStep_init => k_is)
    (case c_NoStep_init => k_is)
    (case l_NoTail_init => k_is)
    (case c_NoTail_init => k_is)
    (case a_Converter_init => k_is)
    (case i_Converter_init => k_is)
    (case l_Converter_init => k_is)
    (case c_Converter_init => k_is)
    (case k_Converter_init => k_is)
    (case a_Converter_call => k_is)
    (case i_Converter_call => k_is)
    (case l_Converter_call => k_is)
    (case c_Converter_call => k_is)
    (case k_Converter_call => k_is)
    (case a_need_converter => k_is)
    (case l_need_converter => k_is)
    (case lT_need_converter => k_is)
    (case c_need_converter => k_is)
    (case k_need_converter => k_is)
    (case a_most_of => k_is)
    (case l_most_of => k_is)
    (case c_most_of => k_is)
    (case k_most_of => k_is)
    (case a_weight => k_is)
    (case l_weight => k_is)
    (case c_weight => k_is)
    (case k_weight => k_is)
    (case a_heights_behind => k_is)
    (case l_heights_behind => k_is)
    (case c_heights_behind => k_is)
    (case k_heights_behind => k_is)
    (case a_text_gap => k_is)
    (case l_text_gap => k_is)
    (case c_text_gap => k_is)
    (case k_text_gap => k_is)
    (case a_text_array => k_is)
    (case l_text_array => k_is)
    (case c_text_array => k_is)
    (case k_text_array => k_is)
    (case a_text_extra => k_is)
    (case l_text_extra => k_is)
    (case c_text_extra => k_is)
    (case k_text_extra => k_is)
    (case a_array_of => k_is)
    (case l_array_of => k_is)
    (case c_array_of => k_is)
    (case k_array_of => k_is)
    (case a_extra_of => k_is)
    (case l_extra_of => k_is)
    (case c_extra_of => k_is)
    (case k_extra_of => k_is)
    (case a_law_pen => k_is)
    (case l_law_pen => k_is)
    (case c_law_pen => k_is)
    (case k_law_pen => k_is)
    (case a_law_draw => k_is)
    (case l_law_draw => k_is)
    (case c_law_draw => k_is)
    (case k_law_draw => k_is)
    (case a_law_pick => k_is)
    (case l_law_pick => k_is)
    (case c_law_pick => k_is)
    (case k_law_pick => k_is)
    (case a_law_steps => k_is)
    (case l_law_steps => k_is)
    (case c_law_steps => k_is)
    (case k_law_steps => k_is)
    (case a_law_plan => k_is)
    (case l_law_plan => k_is)
    (case c_law_plan => k_is)
    (case k_law_plan => k_is)
    (case a_law_made => k_is)
    (case l_law_made => k_is)
    (case c_law_made => k_is)
    (case k_law_made => k_is)
    (case a_law_run => k_is)
    (case l_law_run => k_is)
    (case c_law_run => k_is)
    (case k_law_run => k_is)
    (case a_law_is_kept => k_is)
    (case l_law_is_kept => k_is)
    (case c_law_is_kept => k_is)
    (case k_law_is_kept => k_is)
    (case a_law_array => k_is)
    (case l_law_array => k_is)
    (case c_law_array => k_is)
    (case k_law_array => k_is)
    (case a_law => k_is)
    (case l_law => k_is)
    (case c_law => k_is)
    (case k_law => k_is)
    (case xl_BadWord => k_is)
    (case xb_BadWord => k_is)
    (case xty_BadWord => k_is)
    (case xl_NoStep => k_is)
    (case xb_NoStep => k_is)
    (case xty_NoStep => k_is)
    (case xl_NoTail => k_is)
    (case xb_NoTail => k_is)
    (case xty_NoTail => k_is)
    (case xl_HeadError => k_is)
    (case xfi => k_is)
    (case xopq => k_is)
    (case de_top => decide +kernel)
    (case zsup => k_is)
    (case rf_xve_BadWord => rfl)
    (case rf_xbm_BadWord => rfl)
    (case xsa_BadWord => k_is)
    (case xkp_BadWord => k_is)
    (case xcd_BadWord => k_is)
    (case rf_xfl_BadWord => rfl)
    (case de_xfe_BadWord => decide +kernel)
    (case xce_BadWord => k_is)
    (case xm_BadWord => k_is)
    (case xv_BadWord => k_is)
    (case xt_BadWord => k_is)
    (case xn_BadWord_value => k_is)
    (case rf_xve_NoStep => rfl)
    (case rf_xbm_NoStep => rfl)
    (case xsa_NoStep => k_is)
    (case xkp_NoStep => k_is)
    (case xcd_NoStep => k_is)
    (case rf_xfl_NoStep => rfl)
    (case de_xfe_NoStep => decide +kernel)
    (case xce_NoStep => k_is)
    (case xm_NoStep => k_is)
    (case xv_NoStep => k_is)
    (case xt_NoStep => k_is)
    (case xn_NoStep_at => k_is)
    (case xn_NoStep_state => k_is)
    (case rf_xve_NoTail => rfl)
    (case rf_xbm_NoTail => rfl)
    (case xsa_NoTail => k_is)
    (case xkp_NoTail => k_is)
    (case xcd_NoTail => k_is)
    (case rf_xfl_NoTail => rfl)
    (case de_xfe_NoTail => decide +kernel)
    (case xce_NoTail => k_is)
    (case xm_NoTail => k_is)
    (case xv_NoTail => k_is)
    (case xt_NoTail => k_is)
    (case xn_NoTail_state => k_is)
    (case ai_LONGEST_NAME => k_is)
    (case ai_LONGEST_TEXT => k_is)
    (case ai_LONGEST_ANSWER => k_is)
    (case as_LETTERS => k_is)
    (case ca_Converter_MOST => k_is)
    (case rs_Converter => k_is)
    (case fi_call_Converter => k_is)
    (case pg_Converter => k_is)
    (case hd_Converter => k_is)
    (case po_Converter => k_is)
    (case sa_Converter => k_is)
    (case mk_Converter => k_is)
    (case kc_Converter => k_is)
    (case na_start => k_is)
    (case na_steps => k_is)
    (case na_tails => k_is)
    (case na_states => k_is)
    (case na_letters => k_is)
    (case ha => k_is)
    (case hn => k_is)
    (case htk => k_is)
    (case hm => k_is)
    (case zb_abs => k_is)
    (case zb_all => k_is)
    (case zb_dict => k_is)
    (case zb_enumerate => k_is)
    (case zb_int => k_is)
    (case zb_isinstance => k_is)
    (case zb_len => k_is)
    (case zb_list => k_is)
    (case zb_max => k_is)
    (case zb_range => k_is)
    (case zb_sorted => k_is)
    (case zb_str => k_is)
    (case zb_tuple => k_is)


