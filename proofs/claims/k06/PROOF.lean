import PyProof.Rows.All
import Wide.All
import OpenK.AllK
import Wide.FinOn
import HandS.ForMost
import HandS.ForExc
import HandS.Wide
import HandS.IsInst
import KE.KOpsOwn
import KE.KIsAll
import HandS.Property
import HandS.Defaults
import HandS.MakeKw
import HandS.Style
import PyProof.TwoTypes
import PyProof.InstNe
import HandS.EndBits
import PyProof.ReprRoads
import PyProof.ReprLen
import HandS.RaiseMore
import HandS.MakeKwOnly
import HandS.Deep
import HandS.TupAny
import HandS.List
import OpenK.KMeth
import KE.KCallOwn
import HandS.Star
import HandS.Text
import PyProof.Rows.ReprOcc
import HandS.Lambda
import HandS.Nested
import HandS.EndTab
import HandS.Conv
import PySem.Challenge.RW_headgap_k06_growths_added
set_option Elab.async false
set_option linter.all false
set_option maxRecDepth 100000
set_option maxHeartbeats 4000000
set_option exponentiation.threshold 3000
namespace HG
open PySem L2
section
variable {X : Cx}
theorem opImp {f : Value → Value → Sem Value} {r r' : R2} (h : OpR X f r) (hi : ∀ x y H Q, r' x y H Q → r x y H Q) : OpR X f r' :=
  fun pins s σ H x y v u Q I rx ry q => h pins s σ H x y v u Q I rx ry (hi x y H Q q)
theorem callImp {f : Value} {r r' : List V → Hp → VK → Prop} (h : CallR X f r) (hi : ∀ xs H Q, r' xs H Q → r xs H Q) : CallR X f r' :=
  fun pins s σ H xs us Q I rx q => h pins s σ H xs us Q I rx (hi xs H Q q)

/-! ### operators, by the kinds of the values -/
def oAdd : R2 := fun x y H Q => match x, y with
  | .int i, .int j => Q (.int (i + j)) H
  | .str a, .str b => a.length + b.length ≤ sizeLine ∧ Q (.str (a ++ b)) H
  | .ref l, .ref b => match H l, H b with
    | some (.lst xs), some (.lst zs) => xs.length + zs.length ≤ sizeLine ∧ ∀ p, H p = none → Q (.ref p) (upd H p (.lst (xs ++ zs)))
    | _, _ => False
  | _, _ => False
theorem op_addU : OpR X (binaryOp .Add) oAdd := opImp (op_add.or (op_add_str.or op_cat)) fun x y H Q h => by
  unfold oAdd at h
  split at h
  · exact .inl ⟨_, _, rfl, rfl, h⟩
  · exact .inr (.inl ⟨_, _, rfl, rfl, h.1, h.2⟩)
  · split at h
    · rename_i e1 e2
      exact .inr (.inr ⟨_, _, _, _, rfl, rfl, e1, e2, h.1, h.2⟩)
    · exact h.elim
  · exact h.elim
def oSub : R2 := fun x y H Q => match x, y with
  | .int i, .int j => Q (.int (i - j)) H
  | _, _ => False
theorem op_subU : OpR X (binaryOp .Sub) oSub := opImp op_sub fun x y H Q h => by
  unfold oSub at h
  split at h
  · exact ⟨_, _, rfl, rfl, h⟩
  · exact h.elim
def oMul : R2 := fun x y H Q => match x, y with
  | .int i, .int j => IntMulOk i j ∧ Q (.int (i * j)) H
  | .ref l, .int k => match H l with
    | some (.lst xs) => -(2 ^ 63) ≤ k ∧ k < 2 ^ 63 ∧ xs.length * k.toNat ≤ sizeLine ∧ ∀ p, H p = none → Q (.ref p) (upd H p (.lst (List.replicate k.toNat xs).flatten))
    | _ => False
  | _, _ => False
theorem op_mulOk : OpR X (binaryOp .Mult) (rI IntMulOk fun i j => .int (i * j)) := opI fun _ _ _ _ _ _ _ hc q => PyProof.Rows.mul_int q hc
theorem op_mulU : OpR X (binaryOp .Mult) oMul := opImp (op_mulOk.or op_rep) fun x y H Q h => by
  unfold oMul at h
  split at h
  · exact .inl ⟨_, _, rfl, rfl, h.1, h.2⟩
  · split at h
    · rename_i e
      exact .inr ⟨_, _, _, rfl, rfl, e, h.1, h.2.1, h.2.2.1, h.2.2.2⟩
    · exact h.elim
  · exact h.elim
def oFdiv : R2 := fun x y H Q => match x, y with
  | .int i, .int j => CDivW i j ∧ Q (.int (i / j)) H
  | _, _ => False
theorem op_fdivU : OpR X (binaryOp .FloorDiv) oFdiv := opImp op_fdivW fun x y H Q h => by
  unfold oFdiv at h
  split at h
  · exact ⟨_, _, rfl, rfl, h.1, h.2⟩
  · exact h.elim
def oMod : R2 := fun x y H Q => match x, y with
  | .int i, .int j => 0 < j ∧ Q (.int (i % j)) H
  | _, _ => False
theorem op_modU : OpR X (binaryOp .Mod) oMod := opImp op_mod fun x y H Q h => by
  unfold oMod at h
  split at h
  · exact ⟨_, _, rfl, rfl, h.1, h.2⟩
  · exact h.elim
def oPow : R2 := fun x y H Q => match x, y with
  | .int i, .int j => CPow i j ∧ Q (.int (i ^ j.toNat)) H
  | _, _ => False
theorem op_powU : OpR X (binaryOp .Pow) oPow := opImp op_pow fun x y H Q h => by
  unfold oPow at h
  split at h
  · exact ⟨_, _, rfl, rfl, h.1, h.2⟩
  · exact h.elim
def uNeg : V → Hp → VK → Prop := fun x H Q => match x with
  | .int i => Q (.int (-i)) H
  | _ => False
theorem un_negU : UnR X (unaryOp .USub) uNeg := fun pins s σ H x v Q I rx h => by
  refine un_neg pins s σ H x v Q I rx ?_
  unfold uNeg at h
  split at h
  · exact ⟨_, rfl, h⟩
  · exact h.elim
def oLt : R2 := fun x y H Q => match x, y with
  | .int i, .int j => Q (.bl (decide (i < j))) H
  | _, _ => False
theorem op_ltU : OpR X (compareOp .Lt) oLt := opImp op_lt fun x y H Q h => by
  unfold oLt at h
  split at h
  · exact ⟨_, _, rfl, rfl, h⟩
  · exact h.elim
def oLe : R2 := fun x y H Q => match x, y with
  | .int i, .int j => Q (.bl (decide (i ≤ j))) H
  | _, _ => False
theorem op_leU : OpR X (compareOp .LtE) oLe := opImp op_le fun x y H Q h => by
  unfold oLe at h
  split at h
  · exact ⟨_, _, rfl, rfl, h⟩
  · exact h.elim
def oGt : R2 := fun x y H Q => match x, y with
  | .int i, .int j => Q (.bl (decide (j < i))) H
  | _, _ => False
theorem op_gtU : OpR X (compareOp .Gt) oGt := opImp op_gt fun x y H Q h => by
  unfold oGt at h
  split at h
  · exact ⟨_, _, rfl, rfl, h⟩
  · exact h.elim
def oGe : R2 := fun x y H Q => match x, y with
  | .int i, .int j => Q (.bl (decide (j ≤ i))) H
  | _, _ => False
theorem op_geU : OpR X (compareOp .GtE) oGe := opImp op_ge fun x y H Q h => by
  unfold oGe at h
  split at h
  · exact ⟨_, _, rfl, rfl, h⟩
  · exact h.elim
/-! ### data, read off the abstract heap -/
def dataL (f : V → Option PyData) : List V → Option (List PyData)
  | [] => some []
  | x :: xs => match f x with
    | some d => match dataL f xs with
      | some ds => some (d :: ds)
      | none => none
    | none => none
def dataF : Nat → Hp → V → Option PyData
  | _, _, .non => some .none
  | _, _, .bl b => some (.bool b)
  | _, _, .int i => some (.int i)
  | _, _, .str x => some (.str x)
  | n + 1, H, .ref a => match H a with
    | some (.lst xs) => (dataL (dataF n H) xs).map .list
    | some (.tup xs) => (dataL (dataF n H) xs).map .tuple
    | _ => none
  | _, _, _ => none
theorem dpAll_of {K : PySem.W.Frag} {H : Hp} {f : V → Option PyData} (hf : ∀ x d, f x = some d → Dp K H x d) : ∀ {xs : List V} {ds : List PyData}, dataL f xs = some ds → DpAll K H xs ds
  | [], ds, h => by
    cases h
    exact .nil
  | x :: xs, ds, h => by
    simp only [dataL] at h
    split at h
    · rename_i d e
      split at h
      · rename_i ds' e'
        cases h
        exact .cons (hf x d e) (dpAll_of hf e')
      · cases h
    · cases h
theorem dp_of {K : PySem.W.Frag} {H : Hp} : ∀ {n : Nat} {x : V} {d : PyData}, dataF n H x = some d → Dp K H x d
  | n, .non, d, h => by
    have e : some PyData.none = some d := by rw [← h]; cases n <;> rfl
    cases e
    exact .non
  | n, .bl b, d, h => by
    have e : some (PyData.bool b) = some d := by rw [← h]; cases n <;> rfl
    cases e
    exact .bl b
  | n, .int i, d, h => by
    have e : some (PyData.int i) = some d := by rw [← h]; cases n <;> rfl
    cases e
    exact .int i
  | n, .str i, d, h => by
    have e : some (PyData.str i) = some d := by rw [← h]; cases n <;> rfl
    cases e
    exact .str i
  | n, .byt i, d, h => by cases n <;> cases h
  | n, .flt i, d, h => by cases n <;> cases h
  | n, .ty i, d, h => by cases n <;> cases h
  | 0, .ref a, d, h => by cases h
  | n + 1, .ref a, d, h => by
    simp only [dataF] at h
    split at h
    · rename_i xs e
      obtain ⟨ds, e1, rfl⟩ := Option.map_eq_some_iff.mp h
      exact .lst (SqL.of e) (dpAll_of (fun x d q => dp_of q) e1)
    · rename_i xs e
      obtain ⟨ds, e1, rfl⟩ := Option.map_eq_some_iff.mp h
      exact .tup (SqT.of e) (dpAll_of (fun x d q => dp_of q) e1)
    · cases h
def oEq (K : PySem.W.Frag) : R2 := fun x y H Q => match x, y with
  | .int i, .int j => Q (.bl (decide (i = j))) H
  | .str i, .str j => Q (.bl (decide (i = j))) H
  | .bl i, .bl j => Q (.bl (decide (i = j))) H
  | x, y => match dataF 8 H x, dataF 8 H y with
    | some d, some e => SeqAt.shaped d = true ∧ SeqAt.shaped e = true ∧ Q (.bl (PyData.eqv d e)) H
    | _, _ => False
theorem dec_V {α : Type} [DecidableEq α] {f : α → V} (inj : ∀ a b, f a = f b → a = b) (a b : α) : decide (f a = f b) = decide (a = b) := by
  by_cases h : a = b
  · subst h; simp
  · rw [decide_eq_false h, decide_eq_false fun q => h (inj a b q)]
theorem op_eqU (hu : X.A.units + 64 < cLine) : OpR X (compareOp .Eq) (oEq X.K) := opImp (op_eq.or (op_eqD hu)) fun x y H Q h => by
  unfold oEq at h
  split at h
  · exact .inl ⟨rfl, by rw [dec_V (f := V.int) (fun _ _ q => by injection q)]; exact h⟩
  · exact .inl ⟨rfl, by rw [dec_V (f := V.str) (fun _ _ q => by injection q)]; exact h⟩
  · exact .inl ⟨rfl, by rw [dec_V (f := V.bl) (fun _ _ q => by injection q)]; exact h⟩
  · split at h
    · rename_i e1 e2
      exact .inr ⟨_, _, dp_of e1, dp_of e2, h.1, h.2.1, h.2.2⟩
    · exact h.elim
def oNe (K : PySem.W.Frag) : R2 := fun x y H Q => match x, y with
  | .int i, .int j => Q (.bl (!decide (i = j))) H
  | .str i, .str j => Q (.bl (!decide (i = j))) H
  | .bl i, .bl j => Q (.bl (!decide (i = j))) H
  | x, y => match dataF 8 H x, dataF 8 H y with
    | some d, some e => SeqAt.shaped d = true ∧ SeqAt.shaped e = true ∧ Q (.bl (!PyData.eqv d e)) H
    | _, _ => False
theorem op_neU (hu : X.A.units + 64 < cLine) : OpR X (compareOp .NotEq) (oNe X.K) := opImp (op_ne.or (op_neD hu)) fun x y H Q h => by
  unfold oNe at h
  split at h
  · exact .inl ⟨rfl, by rw [dec_V (f := V.int) (fun _ _ q => by injection q)]; exact h⟩
  · exact .inl ⟨rfl, by rw [dec_V (f := V.str) (fun _ _ q => by injection q)]; exact h⟩
  · exact .inl ⟨rfl, by rw [dec_V (f := V.bl) (fun _ _ q => by injection q)]; exact h⟩
  · split at h
    · rename_i e1 e2
      exact .inr ⟨_, _, dp_of e1, dp_of e2, h.1, h.2.1, h.2.2⟩
    · exact h.elim

/-! ### sequences -/
/-- the items of the list or tuple at p -/
def rdSeq (K : PySem.W.Frag) (H : Hp) (p : Addr) (k : List V → Prop) : Prop := match H p with
  | some (.lst xs) => k xs
  | some (.tup xs) => k xs
  | _ => ∃ xs, (SqL K H p xs ∨ SqT K H p xs) ∧ k xs
theorem rdSeq_out {K : PySem.W.Frag} {H : Hp} {p : Addr} {k : List V → Prop} (h : rdSeq K H p k) : ∃ xs, (SqL K H p xs ∨ SqT K H p xs) ∧ k xs := by
  unfold rdSeq at h
  split at h
  · rename_i e; exact ⟨_, .inl (SqL.of e), h⟩
  · rename_i e; exact ⟨_, .inr (SqT.of e), h⟩
  · exact h
theorem rdSeq_of {K : PySem.W.Frag} {H : Hp} {p : Addr} {k : List V → Prop} {xs : List V} (h : SqL K H p xs) (hp : H p = none ∨ (∃ o u, H p = some (.frz o u)) ∨ H p = some (.lst xs)) (hk : k xs) : rdSeq K H p k := by
  unfold rdSeq
  rcases hp with e | ⟨o, u, e⟩ | e
  · rw [e]; exact ⟨xs, .inl h, hk⟩
  · rw [e]; exact ⟨xs, .inl h, hk⟩
  · rw [e]; exact hk
theorem rdSeq_lst {K : PySem.W.Frag} {H : Hp} {p : Addr} {k : List V → Prop} {xs : List V} (h : H p = some (.lst xs)) : rdSeq K H p k = k xs := by
  unfold rdSeq; rw [h]
theorem rdSeq_tup {K : PySem.W.Frag} {H : Hp} {p : Addr} {k : List V → Prop} {xs : List V} (h : H p = some (.tup xs)) : rdSeq K H p k = k xs := by
  unfold rdSeq; rw [h]
/-! ### built-in functions -/
def cLen (K : PySem.W.Frag) : List V → Hp → VK → Prop := fun xs H Q => match xs with
  | [.ref p] => rdSeq K H p fun ys => Q (.int ys.length) H
  | [.str z] => z.length ≤ sizeLine ∧ Q (.int z.length) H
  | _ => False
theorem call_lenU : CallR X (.builtin "len") (cLen X.K) := callImp (call_len_seq.or call_len_str) fun xs H Q h => by
  unfold cLen at h
  split at h
  · obtain ⟨ys, h1, h2⟩ := rdSeq_out h
    exact .inl ⟨_, ys, rfl, h1, h2⟩
  · exact .inr ⟨_, rfl, h.1, h.2⟩
  · exact h.elim
def cAbs : List V → Hp → VK → Prop := fun xs H Q => match xs with
  | [.int i] => Q (.int (if i < 0 then -i else i)) H
  | _ => False
theorem call_absU : CallR X (.builtin "abs") cAbs := callImp call_abs fun xs H Q h => by
  unfold cAbs at h
  split at h
  · exact ⟨_, rfl, h⟩
  · exact h.elim
def cInt : List V → Hp → VK → Prop := fun xs H Q => match xs with
  | [.int i] => Q (.int i) H
  | [.bl b] => Q (.int (if b then 1 else 0)) H
  | [.str a] => ∃ n, PySem.intText? a = some n ∧ a.length ≤ 640 ∧ Q (.int n) H
  | _ => False
theorem call_intU : CallR X (.type "int") cInt := callImp (call_int1.or call_int_str) fun xs H Q h => by
  unfold cInt at h
  split at h
  · exact .inl (.inl ⟨_, rfl, h⟩)
  · exact .inl (.inr ⟨_, rfl, h⟩)
  · obtain ⟨n, h1, h2, h3⟩ := h
    exact .inr ⟨_, n, rfl, h1, h2, h3⟩
  · exact h.elim
def cList (K : PySem.W.Frag) : List V → Hp → VK → Prop := fun xs H Q => match xs with
  | [.ref p] => rdSeq K H p fun ys => ∀ l, H l = none → Q (.ref l) (upd H l (.lst ys))
  | _ => False
theorem call_listU : CallR X (.type "list") (cList X.K) := callImp call_list_of fun xs H Q h => by
  unfold cList at h
  split at h
  · obtain ⟨ys, h1, h2⟩ := rdSeq_out h
    exact ⟨_, ys, rfl, h1, h2⟩
  · exact h.elim
def iIx (K : PySem.W.Frag) : R2 := fun x y H Q => match x, y with
  | .ref p, .int i => rdSeq K H p fun xs => match atI xs i with
    | some v => Q v H
    | none => False
  | .str z, .int i => z.length ≤ sizeLine ∧ match atI z.cps.toList i with
    | some c => Q (.str ⟨#[c]⟩) H
    | none => False
  | _, _ => False
theorem ix_U : IxR X (iIx X.K) := fun value slice pins s σ H x y v u Q I rx ry h hs => by
  refine ix_seq value slice pins s σ H x y v u Q I rx ry ?_ hs
  unfold iIx at h
  split at h
  · obtain ⟨xs, h1, h2⟩ := rdSeq_out h
    split at h2
    · rename_i e
      rcases h1 with h1 | h1
      · exact .inl ⟨_, xs, _, _, rfl, rfl, h1, e, h2⟩
      · exact .inr (.inl ⟨_, xs, _, _, rfl, rfl, h1, e, h2⟩)
    · exact h2.elim
  · obtain ⟨h1, h2⟩ := h
    split at h2
    · rename_i e
      exact .inr (.inr ⟨_, _, _, rfl, rfl, h1, e, h2⟩)
    · exact h2.elim
  · exact h.elim
def setI (xs : List V) (k : Int) (v : V) : Option (List V) := (ixN xs.length k).map fun j => xs.set j v
def stL : V → V → V → Hp → (Hp → Prop) → Prop := fun o i v H Q => match o, i with
  | .ref p, .int k => match H p with
    | some (.lst xs) => match setI xs k v with
      | some ys => Q (upd H p (.lst ys))
      | none => False
    | _ => False
  | _, _ => False
theorem set_U : PSet X stL := fun pins s σ H o i v ov iv u Q I ro ri rv h => by
  refine set_list pins s σ H o i v ov iv u Q I ro ri rv ?_
  unfold stL at h
  split at h
  · split at h
    · rename_i e
      split at h
      · rename_i e2
        unfold setI at e2
        obtain ⟨j, e3, e4⟩ := Option.map_eq_some_iff.mp e2
        subst e4
        exact ⟨_, _, _, _, rfl, rfl, e, e3, h⟩
      · exact h.elim
    · exact h.elim
  · exact h.elim
end
theorem atI_0 {x : V} {xs : List V} : atI (x :: xs) 0 = some x := by
  simp [atI, ixN]
theorem atI_1 {x y : V} {xs : List V} : atI (x :: y :: xs) 1 = some y := by
  have h : (1 : Int) < ((x :: y :: xs).length : Int) := by simp; omega
  simp only [atI, ixN]
  rw [if_pos (by decide), if_pos h]
  rfl
theorem atI_2 {x y z : V} {xs : List V} : atI (x :: y :: z :: xs) 2 = some z := by
  have h : (2 : Int) < ((x :: y :: z :: xs).length : Int) := by simp; omega
  simp only [atI, ixN]
  rw [if_pos (by decide), if_pos h]
  rfl
theorem setI_1 {x y v : V} {xs : List V} : setI (x :: y :: xs) 1 v = some (x :: v :: xs) := by
  have h : (1 : Int) < ((x :: y :: xs).length : Int) := by simp; omega
  simp only [setI, ixN]
  rw [if_pos (by decide), if_pos h]
  rfl
theorem setI_2 {x y z v : V} {xs : List V} : setI (x :: y :: z :: xs) 2 v = some (x :: y :: v :: xs) := by
  have h : (2 : Int) < ((x :: y :: z :: xs).length : Int) := by simp; omega
  simp only [setI, ixN]
  rw [if_pos (by decide), if_pos h]
  rfl
theorem atI_nat' {xs : List V} {i : Int} {v : V} (h0 : 0 ≤ i) (h : xs[i.toNat]? = some v) : atI xs i = some v := by
  have hl : i.toNat < xs.length := (List.getElem?_eq_some_iff.mp h).1
  simp only [atI, ixN]
  rw [if_pos h0, if_pos (by omega)]
  exact h
theorem ite_dec {c A B : Prop} [Decidable c] (h1 : c → A) (h2 : ¬ c → B) : if decide c = true then A else B := by
  by_cases h : c
  · rw [if_pos (decide_eq_true h)]; exact h1 h
  · rw [if_neg (by simp [h])]; exact h2 h
theorem ite_ndec {c A B : Prop} [Decidable c] (h1 : ¬ c → A) (h2 : c → B) : if (!decide c) = true then A else B := by
  by_cases h : c
  · rw [if_neg (by simp [h])]; exact h2 h
  · rw [if_pos (by simp [h])]; exact h1 h
theorem ite_b {b : Bool} {A B : Prop} (h1 : b = true → A) (h2 : b = false → B) : if b = true then A else B := by
  cases b with
  | true => rw [if_pos rfl]; exact h1 rfl
  | false => rw [if_neg (by decide)]; exact h2 rfl
end HG

namespace HG
open PySem L2
section
variable {σ : L2.St} {H : Hp} {D : Ends} {te tv : TE} {t u : TS} {c : TT} {g : TG} {Q : VK}
theorem evE (P : VK → Prop) (h : ∀ Q, P Q → te σ H Q) (hq : P Q) : te σ H Q := h Q hq
theorem evA {ta : TA} {Q : List V → Hp → Prop} (P : (List V → Hp → Prop) → Prop) (h : ∀ Q, P Q → ta σ H Q) (hq : P Q) : ta σ H Q := h Q hq
theorem evT {Q : Bool → Hp → Prop} (P : (Bool → Hp → Prop) → Prop) (h : ∀ Q, P Q → c σ H Q) (hq : P Q) : c σ H Q := h Q hq
theorem evG {v : V} {Q : L2.St → Hp → Prop} (P : (L2.St → Hp → Prop) → Prop) (h : ∀ Q, P Q → g v σ H Q) (hq : P Q) : g v σ H Q := h Q hq
theorem st_next (h : D.nx σ H) : tNext D σ H := h
theorem st_seq (h : t { D with nx := u D } σ H) : tSeq t u D σ H := h
theorem st_asg (h : te σ H fun x H1 => g x σ H1 D.nx) : tAsg te g D σ H := h
theorem st_if (h : c σ H fun b H1 => if b = true then t D σ H1 else u D σ H1) : tIfS c t u D σ H := h
theorem st_ret (h : te σ H D.rt) : tRet te D σ H := h
theorem st_drop (h : te σ H fun _ H1 => D.nx σ H1) : tDrop te D σ H := h
theorem st_par {i j : Nat} {ta : TA} (h : tPar i j ta D σ H) : tPar i j ta D σ H := h
end
end HG
namespace HG
open PySem L2
/-! ### lists of ints as data -/
theorem dpAll_ints {K : PySem.W.Frag} {H : Hp} : ∀ ns : List Int, DpAll K H (ns.map V.int) (ns.map PyData.int)
  | [] => .nil
  | n :: r => .cons (.int n) (dpAll_ints r)
theorem canLay_ints : ∀ ns : List Int, PyData.canLayAll0 (ns.map PyData.int) = true
  | [] => rfl
  | n :: r => by
    show (PyData.canLay0 (PyData.int n) && PyData.canLayAll0 (r.map PyData.int)) = true
    rw [canLay_ints r]; rfl
theorem depth_ints : ∀ ns : List Int, PyData.depthAll (ns.map PyData.int) = 0
  | [] => rfl
  | n :: r => by
    show max (PyData.depth (PyData.int n)) (PyData.depthAll (r.map PyData.int)) = 0
    rw [depth_ints r]; rfl
theorem shaped_ints (ns : List Int) : SeqAt.shaped (.list (ns.map PyData.int)) = true := by
  show (PyData.canLayAll0 (ns.map PyData.int) && decide (PyData.depthAll (ns.map PyData.int) + 1 ≤ 64)) = true
  rw [canLay_ints, depth_ints]; rfl
theorem eqv_nil (ns : List Int) : PyData.eqv (.list (ns.map PyData.int)) (.list []) = ns.isEmpty := by
  cases ns with
  | nil => rfl
  | cons a r => rfl
theorem dataL_ints {f : V → Option PyData} (hf : ∀ i, f (.int i) = some (.int i)) : ∀ ns : List Int, dataL f (ns.map V.int) = some (ns.map PyData.int)
  | [] => rfl
  | n :: r => by
    show (match f (.int n) with | some d => (match dataL f (r.map V.int) with | some ds => some (d :: ds) | none => none) | none => none) = _
    rw [hf, dataL_ints hf r]
    rfl
theorem dataF_int {n : Nat} {H : Hp} {i : Int} : dataF n H (.int i) = some (.int i) := by cases n <;> rfl
theorem dataF_ints {n : Nat} {H : Hp} {l : Addr} {ns : List Int} (h : H l = some (.lst (ns.map V.int))) : dataF (n + 1) H (.ref l) = some (.list (ns.map PyData.int)) := by
  simp only [dataF, h]
  rw [dataL_ints (fun i => dataF_int)]
  rfl
/-- a list of ints is unequal to the empty one -/
theorem ne_nil {K : PySem.W.Frag} {H : Hp} {l q : Addr} {ns : List Int} {Q : VK} (hl : H l = some (.lst (ns.map V.int))) (hq : H q = some (.lst [])) (h : Q (.bl (!ns.isEmpty)) H) : oNe K (.ref l) (.ref q) H Q := by
  have e1 : dataF 8 H (.ref l) = some (.list (ns.map PyData.int)) := dataF_ints hl
  have e2 : dataF 8 H (.ref q) = some (.list []) := dataF_ints (ns := []) hq
  simp only [oNe, e1, e2]
  exact ⟨shaped_ints ns, shaped_ints [], by rw [eqv_nil]; exact h⟩
def Keep (p : Addr) (H H' : Hp) : Prop := ∀ b o, b ≠ p → H b = some o → H' b = some o
theorem mod_range {x m : Int} (h : 0 < m) : 0 ≤ x % m ∧ x % m < m := ⟨Int.emod_nonneg _ (by omega), Int.emod_lt_of_pos _ h⟩
theorem log2_small {n : Int} (h : n.natAbs < 2 ^ 8999) : n.natAbs.log2 < 9000 := by
  by_cases h0 : n.natAbs = 0
  · rw [h0]; decide
  · exact Nat.lt_succ_of_lt ((Nat.log2_lt h0).mpr h)
end HG
namespace HG
open PySem L2
/-! ### the draw's arithmetic -/
theorem mulok_left {i j : Int} (h1 : -(2 ^ 64) < i) (h2 : i < 2 ^ 64) : IntMulOk i j := .of_left (intBits_le_64 h1 h2)
theorem draw_pow1 {x t a c : Int} (hx0 : 0 ≤ x) (hx : x < 2147483648) (ht0 : 0 ≤ t) (ht : t ≤ 1000000) (ha0 : 0 ≤ a) (ha : a ≤ 1000000) (hc0 : 0 ≤ c) (hc : c ≤ 1000000) : (x + a * t + c).natAbs < 2 ^ 64 := by
  have h : a * t ≤ 1000000 * 1000000 := Int.mul_le_mul ha ht ht0 (by decide)
  have h0 : 0 ≤ a * t := Int.mul_nonneg ha0 ht0
  omega
theorem draw_pow2 {x t a b c : Int} (hx0 : 0 ≤ x) (hx : x < 2147483648) (ht0 : 0 ≤ t) (ht : t ≤ 1000000) (ha0 : 0 ≤ a) (ha : a ≤ 1000000) (hb0 : 0 ≤ b) (hb : b ≤ 1000000) (hc0 : 0 ≤ c) (hc : c ≤ 1000000) :
    (x * (2 * t + a) + b * t * t + c).natAbs < 2 ^ 64 := by
  have h1 : x * (2 * t + a) ≤ 2147483648 * 3000000 := Int.mul_le_mul (by omega) (by omega) (by omega) (by decide)
  have h10 : 0 ≤ x * (2 * t + a) := Int.mul_nonneg hx0 (by omega)
  have h2 : b * t ≤ 1000000 * 1000000 := Int.mul_le_mul hb ht ht0 (by decide)
  have h20 : 0 ≤ b * t := Int.mul_nonneg hb0 ht0
  have h3 : b * t * t ≤ (1000000 * 1000000) * 1000000 := Int.mul_le_mul h2 ht ht0 (by decide)
  have h30 : 0 ≤ b * t * t := Int.mul_nonneg h20 ht0
  omega
theorem draw_bt {t b : Int} (ht0 : 0 ≤ t) (ht : t ≤ 1000000) (hb0 : 0 ≤ b) (hb : b ≤ 1000000) : IntMulOk (b * t) t := by
  have h2 : b * t ≤ 1000000 * 1000000 := Int.mul_le_mul hb ht ht0 (by decide)
  have h20 : 0 ≤ b * t := Int.mul_nonneg hb0 ht0
  exact mulok_left (by omega) (by omega)
end HG
namespace HG
open PySem L2
section
variable {K : PySem.W.Frag} {H : Hp} {Q : VK} {i j : Int} {a b : Str} {c d : Bool}
theorem oEq_int : oEq K (.int i) (.int j) H Q = Q (.bl (decide (i = j))) H := rfl
theorem oEq_str : oEq K (.str a) (.str b) H Q = Q (.bl (decide (a = b))) H := rfl
theorem oEq_bl : oEq K (.bl c) (.bl d) H Q = Q (.bl (decide (c = d))) H := rfl
theorem oNe_int : oNe K (.int i) (.int j) H Q = Q (.bl (!decide (i = j))) H := rfl
theorem oNe_str : oNe K (.str a) (.str b) H Q = Q (.bl (!decide (a = b))) H := rfl
theorem oNe_bl : oNe K (.bl c) (.bl d) H Q = Q (.bl (!decide (c = d))) H := rfl
end
end HG
namespace HG
open PySem L2
/-! ### the readings at values whose kinds are seen -/
section
variable {K : PySem.W.Frag} {H : Hp} {Q : VK} {i j : Int} {a b : Str} {c d : Bool} {p s : Addr} {v : V} {QH : Hp → Prop}
theorem oAdd_int : oAdd (.int i) (.int j) H Q = Q (.int (i + j)) H := rfl
theorem oAdd_str : oAdd (.str a) (.str b) H Q = (a.length + b.length ≤ sizeLine ∧ Q (.str (a ++ b)) H) := rfl
theorem oAdd_lst {xs zs : List V} (h1 : H p = some (.lst xs)) (h2 : H s = some (.lst zs)) : oAdd (.ref p) (.ref s) H Q = (xs.length + zs.length ≤ sizeLine ∧ ∀ p, H p = none → Q (.ref p) (upd H p (.lst (xs ++ zs)))) := by simp only [oAdd, h1, h2]
theorem oSub_int : oSub (.int i) (.int j) H Q = Q (.int (i - j)) H := rfl
theorem oMul_int : oMul (.int i) (.int j) H Q = (IntMulOk i j ∧ Q (.int (i * j)) H) := rfl
theorem oFdiv_int : oFdiv (.int i) (.int j) H Q = (CDivW i j ∧ Q (.int (i / j)) H) := rfl
theorem oMod_int : oMod (.int i) (.int j) H Q = (0 < j ∧ Q (.int (i % j)) H) := rfl
theorem oPow_int : oPow (.int i) (.int j) H Q = (CPow i j ∧ Q (.int (i ^ j.toNat)) H) := rfl
theorem uNeg_int : uNeg (.int i) H Q = Q (.int (-i)) H := rfl
theorem oLt_int : oLt (.int i) (.int j) H Q = Q (.bl (decide (i < j))) H := rfl
theorem oLe_int : oLe (.int i) (.int j) H Q = Q (.bl (decide (i ≤ j))) H := rfl
theorem oGt_int : oGt (.int i) (.int j) H Q = Q (.bl (decide (j < i))) H := rfl
theorem oGe_int : oGe (.int i) (.int j) H Q = Q (.bl (decide (j ≤ i))) H := rfl
theorem cLen_ref : cLen K [.ref p] H Q = rdSeq K H p fun ys => Q (.int ys.length) H := rfl
theorem cLen_str : cLen K [.str a] H Q = (a.length ≤ sizeLine ∧ Q (.int a.length) H) := rfl
theorem cAbs_int : cAbs [.int i] H Q = Q (.int (if i < 0 then -i else i)) H := rfl
theorem cInt_int : cInt [.int i] H Q = Q (.int i) H := rfl
theorem cInt_bl : cInt [.bl c] H Q = Q (.int (if c then 1 else 0)) H := rfl
theorem cInt_str : cInt [.str a] H Q = ∃ n, PySem.intText? a = some n ∧ a.length ≤ 640 ∧ Q (.int n) H := rfl
theorem cList_ref : cList K [.ref p] H Q = rdSeq K H p fun ys => ∀ l, H l = none → Q (.ref l) (upd H l (.lst ys)) := rfl
theorem iIx_ref : iIx K (.ref p) (.int i) H Q = rdSeq K H p fun xs => match atI xs i with
    | some v => Q v H
    | none => False := rfl
theorem iIx_str : iIx K (.str a) (.int i) H Q = (a.length ≤ sizeLine ∧ match atI a.cps.toList i with
    | some c => Q (.str ⟨#[c]⟩) H
    | none => False) := rfl
theorem stL_ref : stL (.ref p) (.int i) v H QH = (match H p with
    | some (.lst xs) => match setI xs i v with
      | some ys => QH (upd H p (.lst ys))
      | none => False
    | _ => False) := rfl
end
end HG
namespace HG
theorem if_yes {A B : Prop} (h : A) : if true = true then A else B := by rw [if_pos rfl]; exact h
theorem if_no {A B : Prop} (h : B) : if false = true then A else B := by rw [if_neg (by decide)]; exact h
end HG

namespace HG
open PySem L2
/-! ### kinds of values -/
/-- the type of a value, by the abstract heap -/
def tyF (H : Hp) : V → Option Value
  | .non => some (.type "NoneType")
  | .bl _ => some (.type "bool")
  | .int _ => some (.type "int")
  | .str _ => some (.type "str")
  | .ref a => match H a with
    | some (.lst _) => some (.type "list")
    | some (.tup _) => some (.type "tuple")
    | some (.dK _) => some (.type "dict")
    | some (.dT _) => some (.type "dict")
    | some (.ins C _ _) => some (.ref C)
    | _ => none
  | _ => none
/-- what isinstance asks of a class of the text -/
structure InsTy (K : PySem.W.Frag) (C : Addr) : Prop where
  cl : Cls K C
  ha : PySem.W.findIn K (.ref C) "__class__" = some (some (.builtin "object.__class__"))
  hn : PySem.W.specialIn K (.builtin "object.__class__") "__get__" = some (some (.builtin "getset_descriptor.__get__"))
  htk : PySem.W.takesIn K (.builtin "object.__class__") = some true
  hm : PySem.W.mroIn K C (.type "object") = some true
def tyOk (K : PySem.W.Frag) : Value → Prop
  | .ref C => InsTy K C
  | _ => True
theorem tyX_of {K : PySem.W.Frag} {H : Hp} {x : V} {t : Value} (h : tyF H x = some t) (ok : tyOk K t) : TyX K H x t := by
  cases x with
  | non => cases h; exact .base .non
  | bl b => cases h; exact .base (.bl b)
  | int i => cases h; exact .base (.int i)
  | str z => cases h; exact .base (.str z)
  | byt z => cases h
  | flt z => cases h
  | ty z => cases h
  | ref a =>
    simp only [tyF] at h
    split at h
    · rename_i e; cases h; exact .base (.lst e)
    · rename_i e; cases h; exact .base (.tup e)
    · rename_i e; cases h; exact .base (.dK e)
    · rename_i e; cases h; exact .base (.dT e)
    · rename_i e; cases h; exact .base (.ins e ok.cl ok.ha ok.hn ok.htk ok.hm)
    · cases h
/-- isinstance(x, c) -/
def cIsi (K : PySem.W.Frag) : List V → Hp → VK → Prop := fun xs H Q => match xs with
  | [x, .ty n] => match tyF H x with
    | some t => tyOk K t ∧ match PySem.W.kitOne K t (.type n) with
      | some b => Q (.bl b) H
      | none => False
    | none => False
  | [x, .ref C] => match tyF H x with
    | some t => tyOk K t ∧ match PySem.W.kitOne K t (.ref C) with
      | some b => Q (.bl b) H
      | none => False
    | none => False
  | _ => False
theorem call_isiU {X : Cx} : CallR X (.builtin "isinstance") (cIsi X.K) := callImp call_isi fun xs H Q h => by
  unfold cIsi at h
  split at h
  · split at h
    · rename_i e
      obtain ⟨h1, h2⟩ := h
      split at h2
      · rename_i e2
        exact ⟨_, _, _, _, _, rfl, .ty _, tyX_of e h1, e2, h2⟩
      · exact h2.elim
    · exact h.elim
  · split at h
    · rename_i e
      obtain ⟨h1, h2⟩ := h
      split at h2
      · rename_i e2
        exact ⟨_, _, _, _, _, rfl, .own _, tyX_of e h1, e2, h2⟩
      · exact h2.elim
    · exact h.elim
  · exact h.elim
theorem kit_tt {K : PySem.W.Frag} : PySem.W.kitOne K (.type "int") (.type "int") = some true := kit_ty (by decide +kernel)
theorem kit_ib {K : PySem.W.Frag} : PySem.W.kitOne K (.type "int") (.type "bool") = some false := kit_ty (by decide +kernel)
theorem kit_bi {K : PySem.W.Frag} : PySem.W.kitOne K (.type "bool") (.type "int") = some true := kit_ty (by decide +kernel)
theorem kit_bb {K : PySem.W.Frag} : PySem.W.kitOne K (.type "bool") (.type "bool") = some true := kit_ty (by decide +kernel)
theorem kit_ni {K : PySem.W.Frag} : PySem.W.kitOne K (.type "NoneType") (.type "int") = some false := kit_ty (by decide +kernel)
theorem kit_si {K : PySem.W.Frag} : PySem.W.kitOne K (.type "str") (.type "int") = some false := kit_ty (by decide +kernel)
theorem kit_li {K : PySem.W.Frag} : PySem.W.kitOne K (.type "list") (.type "int") = some false := kit_ty (by decide +kernel)
theorem kit_ui {K : PySem.W.Frag} : PySem.W.kitOne K (.type "tuple") (.type "int") = some false := kit_ty (by decide +kernel)
theorem kit_di {K : PySem.W.Frag} : PySem.W.kitOne K (.type "dict") (.type "int") = some false := kit_ty (by decide +kernel)
/-! ### operators of a class of the text -/
theorem cmpBack {X : Cx} {pins : List (Addr × Obj)} {σ : L2.St} {Q : VK} {u : Value} {s : Shared} (h : EP X pins σ Q u s) : PySem.W.CmpBack (EP X pins σ Q) u s := by
  obtain ⟨v, H', I, r, q⟩ := h
  cases u with
  | notImplemented =>
    cases v with
    | non => cases r
    | bl b => cases r
    | int i => obtain ⟨t, e⟩ := r; cases e
    | str i => obtain ⟨t, e⟩ := r; cases e
    | byt i => obtain ⟨t, e⟩ := r; cases e
    | flt i => obtain ⟨t, e⟩ := r; cases e
    | ref a => cases r
    | ty n => cases r
  | _ => exact ⟨v, H', I, r, q⟩
def isIns (C : Addr) (H : Hp) : V → Prop
  | .ref a => match H a with
    | some (.ins D _ _) => D = C
    | _ => False
  | _ => False
theorem isIns_out {C : Addr} {H : Hp} {x : V} (h : isIns C H x) : ∃ a dx fs, x = .ref a ∧ H a = some (.ins C dx fs) := by
  cases x with
  | ref a =>
    unfold isIns at h
    simp only at h
    split at h
    · rename_i e; subst h; exact ⟨a, _, _, rfl, e⟩
    · exact h.elim
  | _ => exact h.elim
/-- a def f of the text, called on values at X.A -/
structure Own (X : Cx) (k : Nat) (f : Addr) (sp : Sp) : Prop where
  run : ∀ {pins : List (Addr × Obj)} {σ : L2.St} {H : Hp} {s : Shared} {Q : VK} {us : List Value} {vs : List V}, Inv X pins σ H s → Vals vs us → sp vs H Q E0 → wpAny (model X.prog X.w) X.A (call (.ref f) us) (EP X pins σ Q) X.xe s
theorem own_of {X : Cx} {CX : CXT} {k : Nat} {f : Addr} {fd : FuncData} {ps : List Str} {sp : Sp} (F : FnOk X.prog X.w X.K X.mg X.base CX k f fd ps sp) (hr : Room k X.A) (hb : Binds X.K fd ps []) (hx : Passes CX X E0) : Own X k f sp :=
  ⟨fun {pins σ H s Q us vs} I r h => run_fn (dvs := []) (ds := []) (E := E0) F hr hb .nil hx I r (by rw [List.append_nil]; exact h)⟩
/-- x op y, x of the class at C, y of the same or an int -/
structure BinF (K : PySem.W.Frag) (C f : Addr) (op : Operator) : Prop where
  sf : PySem.W.selfFirst K C = true
  fn : PySem.W.findIn K (.ref C) (PySem.dunder op.info.2) = some (some (.ref f))
  isf : PySem.W.isFn K (.ref f) = true
  rc : ∃ rc, PySem.W.findIn K (.ref C) (dunderR op.info.2) = some rc ∧ (rc = none ∨ ∃ g : Addr, rc = some (.ref g))
  i1 : ∃ fo, PySem.W.findIn K (.type "int") (PySem.dunder op.info.2) = some fo
  i2 : ∃ ro, PySem.W.findIn K (.type "int") (dunderR op.info.2) = some ro
  sub : PySem.W.subIn K (.type "int") (.ref C) = some false
def rBinL (C : Addr) (sp : Sp) : R2 := fun x y H Q => isIns C H x ∧ (isIns C H y ∨ ∃ i, y = .int i) ∧ sp [x, y] H Q E0
theorem op_binL {X : Cx} {k : Nat} {C f : Addr} {op : Operator} {sp : Sp} (B : BinF X.K C f op) (O : Own X k f sp) : OpR X (binaryOp op) (rBinL C sp) := by
  intro pins s σ H x y v u Q I rx ry h
  obtain ⟨h1, h2, h3⟩ := h
  obtain ⟨a, dx, fs, rfl, ea⟩ := isIns_out h1
  cases rx
  obtain ⟨mA, J, _⟩ := ins_get I.hok ea
  obtain ⟨od, J, _⟩ := J.look
  obtain ⟨m, hF⟩ := I.fr
  rcases h2 with h2 | ⟨i, rfl⟩
  · obtain ⟨b, dy, gs, rfl, eb⟩ := isIns_out h2
    cases ry
    obtain ⟨mB, J', _⟩ := ins_get I.hok eb
    obtain ⟨od', J', _⟩ := J'.look
    exact PySem.W.binop_K hF I.ok.mod.kin J J'.type B.sf B.fn B.isf (thn (O.run (vs := [.ref a, .ref b]) I (.cons rfl (.cons rfl .nil)) h3) fun _ _ z => cmpBack z)
  · obtain ⟨t, rfl⟩ := ry
    obtain ⟨rc, hr, hp⟩ := B.rc
    obtain ⟨fo, h4⟩ := B.i1
    obtain ⟨ro, h5⟩ := B.i2
    exact PySem.W.ksp_binT hF I.ok.mod.kin J rfl B.sf B.fn B.isf hr hp h4 h5 B.sub (thn (O.run (vs := [.ref a, .int i]) I (.cons rfl (.cons ⟨_, rfl⟩ .nil)) h3) fun _ _ z => cmpBack z)
/-- x cmp y, x of the class at C -/
structure CmpF (K : PySem.W.Frag) (C f : Addr) (op : CmpOp) : Prop where
  fn : PySem.W.findIn K (.ref C) (cmpInfo op).2.1 = some (some (.ref f))
  isf : PySem.W.isFn K (.ref f) = true
def rCmp (K : PySem.W.Frag) (C : Addr) (sp : Sp) : R2 := fun x y H Q => isIns C H x ∧ (∃ t, tyF H y = some t ∧ tyOk K t ∧ PySem.W.notFirst K C t = true) ∧ sp [x, y] H Q E0
theorem op_cmp {X : Cx} {k : Nat} {C f : Addr} {op : CmpOp} {sp : Sp} (B : CmpF X.K C f op) (O : Own X k f sp) (hu : X.A.units < cLine) (hop : ∀ a b, compareOp op a b = richCompare op a b := by intros; rfl) : OpR X (compareOp op) (rCmp X.K C sp) := by
  intro pins s σ H x y v u Q I rx ry h
  obtain ⟨h1, ⟨t, h2, h4, h5⟩, h3⟩ := h
  obtain ⟨a, dx, fs, rfl, ea⟩ := isIns_out h1
  cases rx
  obtain ⟨mA, J, _⟩ := ins_get I.hok ea
  obtain ⟨od, J, _⟩ := J.look
  obtain ⟨m, hF⟩ := I.fr
  rw [hop]
  obtain ⟨P, Z, p, _⟩ := kit_of I ry (tyX_of h2 h4)
  exact PySem.W.cmp_K hu hF I.ok.mod.kin J (Z.ty _ _ I.kIn p) h5 B.fn B.isf (thn (O.run (vs := [.ref a, y]) I (.cons rfl (.cons ry .nil)) h3) fun _ _ z => cmpBack z)
end HG

namespace HG
open PySem L2
open PySem.W in
/-- n op y where an int declines: y's own reflected method -/
theorem refl_K {prog : Program} {w : World} {A : Around} {E : Value → Shared → Prop} {s : Shared} {K : Frag} {y C f g : Addr} {oy : Obj} {od : Option Obj} {op : Operator} {i : Int} {t : Tok} {Q : Value → Shared → Prop}
    (X : K.In s.heap) (I : InstAt s.heap y oy C od) (hc : selfFirst K C = true)
    (hs : findIn K (.ref C) (PySem.dunder op.info.2) = some (some (.ref f))) (hr : findIn K (.ref C) (dunderR op.info.2) = some (some (.ref g))) (hg : isFn K (.ref g) = true)
    (hsub : subIn K (.ref C) (.type "int") = some false)
    (hleft : Looks (model prog w) s.heap (fillsNumberSlot (.type "int") op.info.2) true)
    (hdec : ∀ Q : Option Value → Shared → Prop, Q none s → wpAny (model prog w) A (tryMethod (.int i t) (PySem.dunder op.info.2) (.ref y)) Q E s)
    (h : wpAny (model prog w) A (call (.ref g) [.ref y, .int i t]) (CmpBack Q) E s) : wpAny (model prog w) A (binaryOp op (.int i t) (.ref y)) Q E s := by
  obtain ⟨cd, rest, hcd, hm⟩ := ksp_first hc
  rcases hi : op.info with ⟨sym, nm'⟩
  rw [hi] at hs hr hleft hdec
  dsimp only at hs hr hleft hdec
  have one := ksp_try X I hr hg h
  have L1 : Looks (model prog w) s.heap (typeOf (.ref y)) (.ref C) := I.type
  have L3 : Looks (model prog w) s.heap (fillsNumberSlot (.ref C) nm') true := fills_K X hcd hm hs
  have L5 : Looks (model prog w) s.heap (isSubtype (.ref C) (.type "int")) false := looks_subIn X hsub
  have hne : (Value.type "int" == Value.ref C) = false := Bool.eq_false_iff.mpr fun q => by cases beq_iff_eq.mp q
  simp only [binaryOp, hi]
  refine wpAny_holding (wpAny_bind ?_)
  unfold binaryOp1
  refine wpAny_bind (wpAny_of_eq (a := Value.type "int") rfl (wpAny_bind (L1.here (wpAny_bind (hleft.here ?_)))))
  simp only [hne, Bool.false_eq_true, if_false]
  refine wpAny_bind (L3.here ?_)
  simp only [Bool.and_self, if_true]
  refine wpAny_bind (L5.here ?_)
  simp only [Bool.false_eq_true, if_false]
  refine wpAny_bind (wpAny_pure ?_)
  simp only [Bool.false_eq_true, if_false, Bool.not_false, Bool.and_self, if_true]
  refine wpAny_bind (hdec _ ?_)
  simp only
  refine wpAny_bind (wpAny_mono one (fun r s' hr' => ?_) fun _ _ e => e)
  obtain ⟨v, rfl, hq⟩ := hr'
  simp only
  exact wpAny_bind (wpAny_rule (wpAny_pure (wpAny_pure hq)))

/-! ### n + y, n - y -/
theorem asInt_ins {M : Model} {A : Around} {E : Value → Shared → Prop} {s : Shared} {y C : Addr} {dx : Addr} {Q : Option Int → Shared → Prop} (h : s.heap.get? y = some (PySem.W.instObj C dx)) (q : Q none s) : wpAny M A (asInt? (.ref y)) Q E s := by
  unfold asInt?
  exact wpAny_bind (wpAny_load h (wpAny_pure q))
theorem dec_add {prog : Program} {w : World} {A : Around} {E : Value → Shared → Prop} {s : Shared} {y C dx : Addr} {i : Int} {t : Tok} (h : s.heap.get? y = some (PySem.W.instObj C dx)) (Q : Option Value → Shared → Prop) (q : Q none s) :
    wpAny (model prog w) A (tryMethod (.int i t) (PySem.dunder "add") (.ref y)) Q E s := by
  refine wpAny_tryMethod_declines (T := "int") (id := "int.__add__") (hT := ?hT1) (h := ?hs1) (hc := ?hc1)
  case hT1 => exact typeIs_int s i t
  case hs1 => exact PySem.F.slot_int_add
  refine wpAny_call_entry (T := "int") (name := PySem.dunder "add") (b := Builtin.«int.__add__») (ha := ?ha) (hb := ?hb) (h := ?hs) (hT := ?hT) (hc := ?hc)
  case hs => exact PySem.F.slot_int_add
  case hb => exact PySem.F.entry_int_add
  case hT => exact typeIs_int s i t
  case ha => exact PySem.F.args_int_add_2 _ _
  case hc =>
    unfold Builtin.«int.__add__» Builtin.Int.intBinary
    refine wpAny_bind (wpAny_of_eq (a := (.int i t, [.ref y])) rfl ?_)
    refine wpAny_bind (wpAny_of_eq (a := i) rfl ?_)
    exact wpAny_bind (asInt_ins h (wpAny_bind (wpAny_rule (wpAny_pure ⟨_, rfl, rfl, q⟩))))
theorem dec_sub {prog : Program} {w : World} {A : Around} {E : Value → Shared → Prop} {s : Shared} {y C dx : Addr} {i : Int} {t : Tok} (h : s.heap.get? y = some (PySem.W.instObj C dx)) (Q : Option Value → Shared → Prop) (q : Q none s) :
    wpAny (model prog w) A (tryMethod (.int i t) (PySem.dunder "sub") (.ref y)) Q E s := by
  refine wpAny_tryMethod_declines (T := "int") (id := "int.__sub__") (hT := ?hT1) (h := ?hs1) (hc := ?hc1)
  case hT1 => exact typeIs_int s i t
  case hs1 => exact PySem.F.slot_int_sub
  refine wpAny_call_entry (T := "int") (name := PySem.dunder "sub") (b := Builtin.«int.__sub__») (ha := ?ha) (hb := ?hb) (h := ?hs) (hT := ?hT) (hc := ?hc)
  case hs => exact PySem.F.slot_int_sub
  case hb => exact PySem.F.entry_int_sub
  case hT => exact typeIs_int s i t
  case ha => exact PySem.F.args_int_sub_2 _ _
  case hc =>
    unfold Builtin.«int.__sub__» Builtin.Int.intBinary
    refine wpAny_bind (wpAny_of_eq (a := (.int i t, [.ref y])) rfl ?_)
    refine wpAny_bind (wpAny_of_eq (a := i) rfl ?_)
    exact wpAny_bind (asInt_ins h (wpAny_bind (wpAny_rule (wpAny_pure ⟨_, rfl, rfl, q⟩))))
structure ReflF (K : PySem.W.Frag) (C f g : Addr) (op : Operator) : Prop where
  sf : PySem.W.selfFirst K C = true
  fn : PySem.W.findIn K (.ref C) (PySem.dunder op.info.2) = some (some (.ref f))
  rn : PySem.W.findIn K (.ref C) (dunderR op.info.2) = some (some (.ref g))
  isf : PySem.W.isFn K (.ref g) = true
  sub : PySem.W.subIn K (.ref C) (.type "int") = some false
  fo : ∃ fo ro, PySem.W.findIn K (.type "int") (PySem.dunder op.info.2) = some fo ∧ PySem.W.findIn K (.type "int") (dunderR op.info.2) = some ro ∧ ((fo.isSome && !isSeqSlot fo) || (ro.isSome && !isSeqSlot ro)) = true
def rBinR (C : Addr) (sp : Sp) : R2 := fun x y H Q => (∃ i, x = .int i) ∧ isIns C H y ∧ sp [y, x] H Q E0
theorem op_binR {X : Cx} {k : Nat} {C f g : Addr} {op : Operator} {sp : Sp} (B : ReflF X.K C f g op) (O : Own X k g sp)
    (dec : ∀ (s : Shared) (y dx : Addr) (i : Int) (t : Tok), s.heap.get? y = some (PySem.W.instObj C dx) → ∀ Q : Option Value → Shared → Prop, Q none s → wpAny (model X.prog X.w) X.A (tryMethod (.int i t) (PySem.dunder op.info.2) (.ref y)) Q X.xe s) :
    OpR X (binaryOp op) (rBinR C sp) := by
  intro pins s σ H x y v u Q I rx ry h
  obtain ⟨⟨i, rfl⟩, h2, h3⟩ := h
  obtain ⟨b, dy, gs, rfl, eb⟩ := isIns_out h2
  obtain ⟨t, rfl⟩ := rx
  cases ry
  obtain ⟨mB, J, _⟩ := ins_get I.hok eb
  have hob := J.obj
  obtain ⟨od, J, _⟩ := J.look
  obtain ⟨fo, ro, f1, f2, f3⟩ := B.fo
  have hl := PySem.W.ksp_fillsT (M := model X.prog X.w) (h := s.heap) I.kIn f1 f2
  rw [f3] at hl
  exact refl_K I.kIn J B.sf B.fn B.rn B.isf B.sub hl (dec s b dy i t hob) (thn (O.run (vs := [.ref b, .int i]) I (.cons rfl (.cons ⟨_, rfl⟩ .nil)) h3) fun _ _ z => cmpBack z)

open PySem.W in
/-- x op y of one class, the first try -/
theorem bin1_K {prog : Program} {w : World} {A : Around} {E : Value → Shared → Prop} {s : Shared} {K : Frag} {x C f : Addr} {ox : Obj} {od : Option Obj} {nm : String} {b : Value} {Q : Option Value → Shared → Prop} (X : K.In s.heap) (I : InstAt s.heap x ox C od)
    (hb : Looks (model prog w) s.heap (typeOf b) (.ref C)) (hc : selfFirst K C = true) (hs : findIn K (.ref C) (PySem.dunder nm) = some (some (.ref f))) (hf : isFn K (.ref f) = true)
    (h : wpAny (model prog w) A (call (.ref f) [.ref x, b]) (CmpBack fun v s' => Q (some v) s') E s) : wpAny (model prog w) A (binaryOp1 nm (.ref x) b) Q E s := by
  obtain ⟨cd, rest, hcd, hm⟩ := ksp_first hc
  unfold binaryOp1
  refine wpAny_bind (I.type.here (wpAny_bind (hb.here (wpAny_bind ((fills_K X hcd hm hs).here ?_)))))
  simp only [beq_self_eq_true, if_true]
  refine wpAny_bind (wpAny_pure ?_)
  simp only [Bool.and_false, Bool.false_eq_true, if_false, Bool.false_and]
  refine wpAny_bind (wpAny_pure ?_)
  simp only [Bool.false_eq_true, if_false]
  refine wpAny_bind (m := tryMethod (.ref x) _ b) ?_
  unfold tryMethod
  refine wpAny_bind (special_fn X I hs (beq_iff_eq.mp hf) (wpAny_mono h (fun v s' hv => ?_) fun _ _ e => e))
  cases v <;> first | exact hv.elim | exact wpAny_pure (wpAny_pure hv)
structure InpF (K : PySem.W.Frag) (C f : Addr) (op : Operator) : Prop where
  sf : PySem.W.selfFirst K C = true
  fn : PySem.W.findIn K (.ref C) (PySem.dunder op.info.2) = some (some (.ref f))
  isf : PySem.W.isFn K (.ref f) = true
  no : ∀ (M : Model) (h : Heap), K.In h → PySem.W.Looks M h (fillsInplaceSlot (.ref C) op.info.2 (op == .Add)) false
def rInp (C : Addr) (sp : Sp) : R2 := fun x y H Q => isIns C H x ∧ isIns C H y ∧ sp [x, y] H Q E0
theorem op_inp {X : Cx} {k : Nat} {C f : Addr} {op : Operator} {sp : Sp} (B : InpF X.K C f op) (O : Own X k f sp) : OpR X (inplaceOp op) (rInp C sp) := by
  intro pins s σ H x y v u Q I rx ry h
  obtain ⟨h1, h2, h3⟩ := h
  obtain ⟨a, dx, fs, rfl, ea⟩ := isIns_out h1
  cases rx
  obtain ⟨mA, J, _⟩ := ins_get I.hok ea
  obtain ⟨od, J, _⟩ := J.look
  obtain ⟨b, dy, gs, rfl, eb⟩ := isIns_out h2
  cases ry
  obtain ⟨mB, J', _⟩ := ins_get I.hok eb
  obtain ⟨od', J', _⟩ := J'.look
  unfold inplaceOp
  refine wpAny_holding (wpAny_bind (J.type.here ?_))
  refine wpAny_bind ((B.no _ _ I.kIn).here ?_)
  simp only [Bool.false_eq_true, if_false]
  refine wpAny_bind (bin1_K I.kIn J J'.type B.sf B.fn B.isf (thn (O.run (vs := [.ref a, .ref b]) I (.cons rfl (.cons rfl .nil)) h3) fun v s' z => ?_))
  obtain ⟨v', H', I', r', q'⟩ := z
  have z := cmpBack (X := X) (pins := pins) (σ := σ) (Q := Q) ⟨v', H', I', r', q'⟩
  cases v <;> first | exact z.elim | exact wpAny_pure ⟨v', H', I', r', q'⟩
theorem pip_of {X : Cx} {op : Operator} {r : R2} (h : OpR X (inplaceOp op) r) : PIp X op r := h
theorem ns_some {K : PySem.W.Frag} {h : Heap} {N : Addr} {mg : Str → Option Value} {n : Str} {v : Value} (X : K.In h) (G : h.Ns N mg) (e : PySem.W.nsIn K N n = some (some v)) : mg n = some v := by
  obtain ⟨o, es, ep, ho, hd, _, hf⟩ := G
  unfold PySem.W.nsIn at e
  split at e
  · rename_i c d es' n' sl q
    have z := X _ _ q
    rw [ho] at z
    cases z
    cases hd
    split at e
    · rename_i en he
      cases e
      rw [← hf]
      unfold nsFind findBy
      rw [← Array.find?_toList, he]
      rfl
    · split at e <;> cases e
  · cases e
/-! ### x != y by the text's == -/
structure NeF (K : PySem.W.Frag) (C f : Addr) : Prop where
  cls : ∃ nm q N bs hdct sn sub ab col dd k0 k1 k2 k3 k5 newId, K.lookup C = some (excClassObj nm q C N bs [.type "object"] hdct sn sub ab col dd k0 k1 k2 k3 k5 newId) ∧ PySem.W.nsOkIn K N = true ∧ PySem.W.nsIn K N "__eq__" = some (some (.ref f)) ∧ PySem.W.nsIn K N "__ne__" = some none
  fn : ∃ of, K.lookup f = some of ∧ of.cls = .type "function"
/-- a def of the text, called one builtin deeper -/
structure Own1 (X : Cx) (k : Nat) (f : Addr) (sp : Sp) : Prop where
  run : ∀ {pins : List (Addr × Obj)} {σ : L2.St} {H : Hp} {s : Shared} {Q : VK} {us : List Value} {vs : List V}, Inv X pins σ H s → Vals vs us → sp vs H Q E0 → wpAny (model X.prog X.w) X.A.in1 (call (.ref f) us) (EP X pins σ Q) X.xe s
theorem own1_of {X : Cx} {CX : CXT} {k : Nat} {f : Addr} {fd : FuncData} {ps : List Str} {sp : Sp} (F : FnOk X.prog X.w X.K X.mg X.base CX k f fd ps sp) (hr : Room (k + 1) X.A) (hb : Binds X.K fd ps []) (hx : Passes CX X E0) : Own1 X k f sp := by
  refine ⟨fun {pins σ H s Q us vs} I r h => ?_⟩
  have hl : us.length = ps.length := by rw [← r.length]; exact F.len _ _ _ _ h
  have hb' := hb s us I.kIn (by rw [List.append_nil]; exact hl)
  rw [List.append_nil] at hb'
  refine wpAny_call (codeAny_mono (F.run X.A.in1 X.stack s H ⟨us, []⟩ us vs Q E0 hr.in1 I.env0.in1 hb' r h) fun r s' hq => ?_)
  cases r with
  | error e => exact hx pins σ H s e s' I hq
  | ok fl =>
    cases fl with
    | ret u => exact I.after hq
    | next => exact False.elim hq
    | brk => exact False.elim hq
    | cont => exact False.elim hq
def rNeO (C : Addr) (sp : Sp) : R2 := fun x y H Q => isIns C H x ∧ isIns C H y ∧ sp [x, y] H (fun v H' => match v with | .bl b => Q (.bl (!b)) H' | _ => False) E0
theorem op_neO {X : Cx} {k : Nat} {C f : Addr} {sp : Sp} (B : NeF X.K C f) (O : Own1 X k f sp) (hu : X.A.units + 1 < cLine) : OpR X (compareOp .NotEq) (rNeO C sp) := by
  intro pins s σ H x y v u Q I rx ry h
  obtain ⟨h1, h2, h3⟩ := h
  obtain ⟨a, dx, fs, rfl, ea⟩ := isIns_out h1
  cases rx
  obtain ⟨b, dy, gs, rfl, eb⟩ := isIns_out h2
  cases ry
  obtain ⟨mA, J, _⟩ := ins_get I.hok ea
  obtain ⟨mB, J', _⟩ := ins_get I.hok eb
  obtain ⟨nm, q, N, bs, hdct, sn, sub, ab, col, dd, k0, k1, k2, k3, k5, newId, hC, hN, hE, hNe⟩ := B.cls
  obtain ⟨of, hf, hfc⟩ := B.fn
  have kin := I.kIn
  have run := O.run (vs := [.ref a, .ref b]) (us := [.ref a, .ref b]) I (.cons rfl (.cons rfl .nil)) h3
  have hns : s.heap.Ns N (s.heap.nsMap N) := .of_isNs (PySem.W.isNs_of_in kin hN)
  have heq : s.heap.nsMap N "__eq__" = some (.ref f) := ns_some kin hns hE
  have hne : s.heap.nsMap N "__ne__" = none := PySem.W.nsMap_none_of_in kin hN hNe
  obtain ⟨hp, g, d, tk, os⟩ := s
  have Y : hp.OwnEqNoNe a C f "object" [.type "object"] :=
    ⟨_, of, nm, q, N, bs, hdct, sn, sub, ab, col, dd, k0, k1, k2, k3, k5, newId, _, _, J.obj, rfl, kin _ _ hC, hns, heq, kin _ _ hf, hfc, F.cmp_object.mro, F.cmp_object.eq.lookup, hne⟩
  refine compareOp_ne_ownEq F.cmp_object Y J'.obj rfl hu (thn run fun v s' z => ?_)
  obtain ⟨v', H', I', r', q'⟩ := z
  cases v' with
  | bl c =>
    cases r'
    exact ⟨c, rfl, .bl (!c), H', I', rfl, q'⟩
  | _ => exact q'.elim
end HG

/-! Defs of the text, called where no repr is under way (GA): what the hand layer says of a def (FnOk), with this one premise more. -/
namespace HG
open PySem L2 PyProof.Rows
abbrev GA (A : Around) : Prop := A.guards = some []
structure FnG (P : Program) (w : World) (K : PySem.W.Frag) (mg : Str → Option Value) (base : Heap) (CX : CXT) (k : Nat) (f : Addr) (fd : FuncData) (ps : List Str) (sp : Sp) : Prop where
  len : ∀ vs H Q E, sp vs H Q E → vs.length = ps.length
  run : ∀ (A : Around) (outer : List Env) (s : Shared) (H : Hp) (args : Args) (us : List Value) (vs : List V) (Q : VK) (E : XK), Room k A → GA A → Env0 P w K mg base A outer s H → BindsTo s fd args (ps.zip us) → Vals vs us → sp vs H Q E →
    codeAny (model P w) A (.call (.ref f) args) (CR CX outer P w H s Q E) s
section
variable {P : Program} {w : World} {K : PySem.W.Frag} {mg : Str → Option Value} {base : Heap} {CX : CXT} {j k : Nat} {f : Addr} {fd : FuncData} {ps : List Str} {sp : Sp}
theorem FnG.up (F : FnG P w K mg base CX j f fd ps sp) (h : j ≤ k) : FnG P w K mg base CX k f fd ps sp := ⟨F.len, fun A outer s H args us vs Q E hr => F.run A outer s H args us vs Q E (hr.mono h)⟩
theorem ga_deeper {A : Around} {env : Env} (h : GA A) : GA (A.deeper env) := h
theorem ga_in1 {A : Around} (h : GA A) : GA A.in1 := h
theorem ga_make {A : Around} (C : Addr) (us : List Value) (kw : List (Str × Value)) (h : GA A) : GA (A.under (.builtin "type.__call__" ⟨.ref C :: us, kw⟩)) := by
  have e : (Code.builtin "type.__call__" ⟨.ref C :: us, kw⟩).isGuard = false := by
    show guardIds.contains "type.__call__" = false
    decide +kernel
  have g : (A.under (.builtin "type.__call__" ⟨.ref C :: us, kw⟩)).guards = pushGuards (Code.builtin "type.__call__" ⟨.ref C :: us, kw⟩).guards A.guards := rfl
  unfold GA
  rw [g]
  unfold Code.guards
  rw [e, show A.guards = some [] from h]
  rfl
/-- a def by its body -/
theorem fnG_of {name qual : Str} {params : Arguments} {body : List Stmt} {scope : Scope} {dV kV doc pm cdv ct oc : Value} {an od : Option Addr} {osl : Array (Option Value)} {N : List Str}
    (lk : K.lookup f = some ⟨oc, od, .func (PySem.W.fnOf name qual params body scope dV kV doc pm an cdv ct), osl⟩) (hcd : PySem.W.codeIn K cdv qual = true) (S : FnScope N ps scope) (len : ∀ vs H Q E, sp vs H Q E → vs.length = ps.length)
    (hbody : ∀ (A : Around) (outer : List Env) (s : Shared) (H : Hp) (vs : List V) (Q : VK) (E : XK), Room k (A.deeper (envOfC qual scope s.heap.objs.size f cdv)) → GA (A.deeper (envOfC qual scope s.heap.objs.size f cdv)) → sp vs H Q E →
      ∃ t, PSs (cxOf CX P w K mg base N qual scope f cdv A outer s H E) body t ∧ t { nx := fun _ H' => Q .non H', rt := Q } (L2.start N vs) H) :
    FnG P w K mg base CX (k + 1) f (PySem.W.fnOf name qual params body scope dV kV doc pm an cdv ct) ps sp := by
  refine ⟨len, fun A outer s H args us vs Q E hr hG e0 hb r hsp => ?_⟩
  have F : FnOk P w K mg base CX (k + 1) f (PySem.W.fnOf name qual params body scope dV kV doc pm an cdv ct) ps sp → codeAny (model P w) A (.call (.ref f) args) (CR CX outer P w H s Q E) s := fun F => F.run A outer s H args us vs Q E hr e0 hb r hsp
  have KX : K.In s.heap := e0.mod.kin.keeps fun b o e => (e0.bs b o e).1
  have lim : s.heap.NoLimit := e0.mod.nolimit.keeps fun b o e => (e0.bs b o e).1
  refine codeAny_call_function hr.depth (KX _ _ lk) rfl S.co S.gen rfl (PySem.W.codeRec_of KX hcd) (hb _ _ _ _ ?_)
  refine wpAny_newFunctionEnv_cells S.kind (fun y hy => ?_) fun env he s1 x => ?_
  · rcases S.par y.1 (List.of_mem_zip hy).1 with q | q
    · exact .inl q
    · exact .inr ⟨q, PySem.W.cellsFrom_some _ _ _ (.inl q)⟩
  · subst he
    refine ⟨lim.keeps x.toInCall.keep, codeAny_func ?_⟩
    obtain ⟨t, ht, hq⟩ := hbody A outer s H vs Q E (hr.deeper _) (ga_deeper hG) hsp
    have I := inv_start (CX := CX) (E := E) S hr.hd e0 (len _ _ _ _ hsp) r x
    refine wpAny_mono (ht.run [] s1 (L2.start N vs) H _ I hq) (fun fl s' hs => ?_) fun e s' hs => hs
    cases fl with
    | ret u =>
      obtain ⟨v, σ', H', J, rv, q⟩ := hs
      exact ⟨v, H', J.os, J.bare, J.base, J.hok, rv, q⟩
    | next =>
      obtain ⟨σ', H', J, q⟩ := hs
      exact ⟨.non, H', J.os, J.bare, J.base, J.hok, rfl, q⟩
    | brk => exact hs.elim fun _ z => z.elim fun _ z => z.2.elim
    | cont => exact hs.elim fun _ z => z.elim fun _ z => z.2.elim
theorem okG {x qual : Str} {st : Stmt} {N : List Str} (F : Fun K x qual st f fd) (S : FnScope N ps (defScope st)) (len : ∀ vs H Q E, sp vs H Q E → vs.length = ps.length)
    (hbody : ∀ (cdv : Value) (A : Around) (outer : List Env) (s : Shared) (H : Hp) (vs : List V) (Q : VK) (E : XK), Room k (A.deeper (envOfC qual (defScope st) s.heap.objs.size f cdv)) → GA (A.deeper (envOfC qual (defScope st) s.heap.objs.size f cdv)) → sp vs H Q E →
      ∃ t, PSs (cxOf CX P w K mg base N qual (defScope st) f cdv A outer s H E) (defBody st) t ∧ t { nx := fun _ H' => Q .non H', rt := Q } (L2.start N vs) H) : FnG P w K mg base CX (k + 1) f fd ps sp := by
  obtain ⟨oc, od, kV, doc, pm, an, cdv, ct, osl, rfl, lk, hcd⟩ := F.ex
  exact fnG_of lk hcd S len fun A outer s H vs Q E hr hG h => hbody cdv A outer s H vs Q E hr hG h
theorem okDG {x qual : Str} {st : Stmt} {dvs : List V} {kws : List (Str × V)} {N : List Str} (F : FunD K x qual (defArgs st) (defBody st) (defScope st) dvs kws f fd) (S : FnScope N ps (defScope st)) (len : ∀ vs H Q E, sp vs H Q E → vs.length = ps.length)
    (hbody : ∀ (cdv : Value) (A : Around) (outer : List Env) (s : Shared) (H : Hp) (vs : List V) (Q : VK) (E : XK), Room k (A.deeper (envOfC qual (defScope st) s.heap.objs.size f cdv)) → GA (A.deeper (envOfC qual (defScope st) s.heap.objs.size f cdv)) → sp vs H Q E →
      ∃ t, PSs (cxOf CX P w K mg base N qual (defScope st) f cdv A outer s H E) (defBody st) t ∧ t { nx := fun _ H' => Q .non H', rt := Q } (L2.start N vs) H) : FnG P w K mg base CX (k + 1) f fd ps sp := by
  obtain ⟨oc, od, dV, kV, doc, pm, an, cdv, ct, osl, rfl, lk, hcd, _, _⟩ := F.ex
  exact fnG_of lk hcd S len fun A outer s H vs Q E hr hG h => hbody cdv A outer s H vs Q E hr hG h
end
section
variable {X : Cx} {CX : CXT} {k : Nat} {f C : Addr} {fd : FuncData} {ps : List Str} {sp : Sp} {dvs : List V} {ds : List Value} {E : XK} {x m : Str} {p pos apos : Pos} {e o : Expr} {es : List Expr} {ta : TE} {t : TA}
/-- what lies behind the run of a callee -/
theorem behind {pins : List (Addr × Obj)} {σ : L2.St} {H : Hp} {s s' : Shared} {Q : VK} {r : Result} (hx : Passes CX X E) (I : Inv X pins σ H s) (h : CR CX X.stack X.prog X.w H s Q E r s') : wants (EP X pins σ Q) X.xe r s' := by
  cases r with
  | error e => exact hx pins σ H s e s' I h
  | ok fl =>
    cases fl with
    | ret u => exact I.after h
    | next => exact h.elim
    | brk => exact h.elim
    | cont => exact h.elim
theorem runG {pins : List (Addr × Obj)} {σ : L2.St} {H : Hp} {s : Shared} {Q : VK} {us : List Value} {vs : List V} (F : FnG X.prog X.w X.K X.mg X.base CX k f fd ps sp) (hr : Room k X.A) (hG : GA X.A) (hb : Binds X.K fd ps ds) (hd : Vals dvs ds) (hx : Passes CX X E)
    (I : Inv X pins σ H s) (r : Vals vs us) (h : sp (vs ++ dvs) H Q E) : wpAny (model X.prog X.w) X.A (call (.ref f) us) (EP X pins σ Q) X.xe s := by
  have r2 := Vals.append r hd
  have hl : (us ++ ds).length = ps.length := r2.length.symm.trans (F.len _ _ _ _ h)
  exact wpAny_call (codeAny_mono (F.run X.A X.stack s H ⟨us, []⟩ (us ++ ds) (vs ++ dvs) Q E hr hG I.env0 (hb s us I.kIn hl) r2 h) fun r s' hq => behind hx I hq)
theorem run1G {pins : List (Addr × Obj)} {σ : L2.St} {H : Hp} {s : Shared} {Q : VK} {us : List Value} {vs : List V} (F : FnG X.prog X.w X.K X.mg X.base CX k f fd ps sp) (hr : Room (k + 1) X.A) (hG : GA X.A) (hb : Binds X.K fd ps ds) (hd : Vals dvs ds) (hx : Passes CX X E)
    (I : Inv X pins σ H s) (r : Vals vs us) (h : sp (vs ++ dvs) H Q E) : wpAny (model X.prog X.w) X.A.in1 (call (.ref f) us) (EP X pins σ Q) X.xe s := by
  have r2 := Vals.append r hd
  have hl : (us ++ ds).length = ps.length := r2.length.symm.trans (F.len _ _ _ _ h)
  exact wpAny_call (codeAny_mono (F.run X.A.in1 X.stack s H ⟨us, []⟩ (us ++ ds) (vs ++ dvs) Q E hr.in1 (ga_in1 hG) I.env0.in1 (hb s us I.kIn hl) r2 h) fun r s' hq => behind hx I hq)
theorem ownG (F : FnG X.prog X.w X.K X.mg X.base CX k f fd ps sp) (hr : Room k X.A) (hG : GA X.A) (hb : Binds X.K fd ps []) (hx : Passes CX X E0) : Own X k f sp :=
  ⟨fun {pins σ H s Q us vs} I r h => runG (dvs := []) (ds := []) F hr hG hb .nil hx I r (by rw [List.append_nil]; exact h)⟩
theorem own1G (F : FnG X.prog X.w X.K X.mg X.base CX k f fd ps sp) (hr : Room (k + 1) X.A) (hG : GA X.A) (hb : Binds X.K fd ps []) (hx : Passes CX X E0) : Own1 X k f sp :=
  ⟨fun {pins σ H s Q us vs} I r h => run1G (dvs := []) (ds := []) F hr hG hb .nil hx I r (by rw [List.append_nil]; exact h)⟩
theorem pe_callG (F : FnG X.prog X.w X.K X.mg X.base CX k f fd ps sp) (hr : Room k X.A) (hG : GA X.A) (hg : Gl X x) (hm : X.mg x = some (.ref f)) (hk : PySem.W.keepIn X.K (.ref f) = true) (hb : Binds X.K fd ps ds) (hd : Vals dvs ds) (hx : Passes CX X E)
    (ha : PA X (e :: es) t) (hdb : (x == ("__debug__" : Str)) = false := by decide) (he : starEach (e :: es) X.env = (false, eval e X.env) :: starEach es X.env := by rfl) (hpl : (backTo pos (starEach es X.env)).any (·.1) = false := by rfl) :
    PE X (.Call (.Name x p) (e :: es) [] pos) (tCall sp dvs E t) :=
  ⟨fun pins s σ H Q I h => wpAny_Call_Name_kw (ld_glob I hg hm (PySem.W.callWith_K (h₀ := X.base) I.ok.mod.kin hk (thn (ha.run pos pins s σ H _ I h) fun us s1 z => by
    obtain ⟨vs, H1, I1, r, q⟩ := z
    exact ⟨I1.kIn, runG F hr hG hb hd hx I1 r q⟩) he hpl) hdb)⟩
theorem pe_callG0 (F : FnG X.prog X.w X.K X.mg X.base CX k f fd ps sp) (hr : Room k X.A) (hG : GA X.A) (hg : Gl X x) (hm : X.mg x = some (.ref f)) (hk : PySem.W.keepIn X.K (.ref f) = true) (hb : Binds X.K fd ps ds) (hd : Vals dvs ds) (hx : Passes CX X E)
    (hdb : (x == ("__debug__" : Str)) = false := by decide) : PE X (.Call (.Name x p) [] [] pos) (tCall sp dvs E tNil) :=
  ⟨fun pins s σ H Q I h => wpAny_Call_Name_kw (ld_glob I hg hm (PySem.W.callWith_K0 I.kIn hk (runG (us := []) F hr hG hb hd hx I .nil h)) hdb)⟩
/-- how the values of a call with keywords stand in the parameters' order -/
structure KwB (K : PySem.W.Frag) (fd : FuncData) (ps : List Str) (n : Nat) (ks : List Str) (gV : List V → List V → List V) : Prop where
  to : ∀ (s : Shared) {vs zs : List V} {us ws : List Value}, K.In s.heap → Vals vs us → Vals zs ws → vs.length = n → zs.length = ks.length → ∃ as, BindsTo s fd ⟨us, ks.zip ws⟩ (ps.zip as) ∧ Vals (gV vs zs) as
/-- a new instance, then __init__ -/
theorem makeG {pins : List (Addr × Obj)} {σ : L2.St} {H : Hp} {s : Shared} {Q : VK} {us ws as : List Value} {ks : List Str} {vs : List V} (M : Mk X.K C f) (F : FnG X.prog X.w X.K X.mg X.base CX k f fd ps sp) (hr : Room (k + 1) X.A) (hG : GA X.A) (hx : Passes CX X E)
    (I : Inv X pins σ H s)
    (hb : ∀ s', X.K.In s'.heap → BindsTo s' fd ⟨Value.ref (s.heap.objs.size + 1) :: us, ks.zip ws⟩ (ps.zip as)) (r : Vals vs as)
    (h : sp vs (upd (upd H s.heap.objs.size (.own (s.heap.objs.size + 1))) (s.heap.objs.size + 1) (.ins C s.heap.objs.size [])) (fun v H2 => v = .non ∧ Q (.ref (s.heap.objs.size + 1)) H2) E) :
    wpAny (model X.prog X.w) X.A (call (.ref C) us (ks.zip ws)) (EP X pins σ Q) X.xe s := by
  have I2 := Inv.made (C := C) I
  refine wpAny_call (make_map (f := f) I.kIn M.makes M.init (beq_iff_eq.mp M.fn) (codeAny_mono (F.run _ X.stack _ _ _ as vs _ E (hr.make C us (ks.zip ws)) (ga_make C us (ks.zip ws) hG) (I2.env0.make C us (ks.zip ws)) (hb _ I2.kIn) r h) fun r s' hq => ?_))
  cases r with
  | error e => exact hx pins σ _ _ e s' I2 hq
  | ok fl =>
    cases fl with
    | ret u =>
      obtain ⟨v, H', I3, rv, ev, q3⟩ := I2.after hq
      subst ev
      exact ⟨rv, .ref (s.heap.objs.size + 1), H', I3, rfl, q3⟩
    | next => exact hq.elim
    | brk => exact hq.elim
    | cont => exact hq.elim
theorem pe_makeG (M : Mk X.K C f) (F : FnG X.prog X.w X.K X.mg X.base CX k f fd ps sp) (hr : Room (k + 1) X.A) (hG : GA X.A) (hg : Gl X x) (hm : X.mg x = some (.ref C)) (hb : Binds X.K fd ps ds) (hd : Vals dvs ds) (hx : Passes CX X E)
    (ha : PA X (e :: es) t) (hdb : (x == ("__debug__" : Str)) = false := by decide) (he : starEach (e :: es) X.env = (false, eval e X.env) :: starEach es X.env := by rfl) (hpl : (backTo pos (starEach es X.env)).any (·.1) = false := by rfl) :
    PE X (.Call (.Name x p) (e :: es) [] pos) (tMake C sp dvs E t) := by
  refine ⟨fun pins s σ H Q I h => wpAny_Call_Name_kw (ld_glob I hg hm (PySem.W.callWith_K (h₀ := X.base) I.ok.mod.kin M.kp (thn (ha.run pos pins s σ H _ I h) fun us s1 z => ?_) he hpl) hdb)⟩
  obtain ⟨vs, H1, I1, r, q⟩ := z
  refine ⟨I1.kIn, ?_⟩
  have hq := q (s1.heap.objs.size + 1) s1.heap.objs.size (I1.hok.fresh (Nat.le_succ _)) (I1.hok.fresh (Nat.le_refl _)) (Nat.ne_of_lt (Nat.lt_succ_self _))
  have r2 : Vals (V.ref (s1.heap.objs.size + 1) :: (vs ++ dvs)) (Value.ref (s1.heap.objs.size + 1) :: (us ++ ds)) := .cons rfl (r.append hd)
  have hl : (Value.ref (s1.heap.objs.size + 1) :: us ++ ds).length = ps.length := r2.length.symm.trans (F.len _ _ _ _ hq)
  exact makeG (ks := []) (ws := []) M F hr hG hx I1 (fun s' kin => hb s' (Value.ref (s1.heap.objs.size + 1) :: us) kin hl) r2 hq
theorem pe_makeG0 (M : Mk X.K C f) (F : FnG X.prog X.w X.K X.mg X.base CX k f fd ps sp) (hr : Room (k + 1) X.A) (hG : GA X.A) (hg : Gl X x) (hm : X.mg x = some (.ref C)) (hb : Binds X.K fd ps ds) (hd : Vals dvs ds) (hx : Passes CX X E)
    (hdb : (x == ("__debug__" : Str)) = false := by decide) : PE X (.Call (.Name x p) [] [] pos) (tMake C sp dvs E tNil) := by
  refine ⟨fun pins s σ H Q I h => wpAny_Call_Name_kw (ld_glob I hg hm (PySem.W.callWith_K0 I.kIn M.kp ?_) hdb)⟩
  have hq := h (s.heap.objs.size + 1) s.heap.objs.size (I.hok.fresh (Nat.le_succ _)) (I.hok.fresh (Nat.le_refl _)) (Nat.ne_of_lt (Nat.lt_succ_self _))
  have r2 : Vals (V.ref (s.heap.objs.size + 1) :: ([] ++ dvs)) (Value.ref (s.heap.objs.size + 1) :: ([] ++ ds)) := .cons rfl hd
  have hl : (Value.ref (s.heap.objs.size + 1) :: [] ++ ds).length = ps.length := r2.length.symm.trans (F.len _ _ _ _ hq)
  exact makeG (us := []) (ks := []) (ws := []) M F hr hG hx I (fun s' kin => hb s' [Value.ref (s.heap.objs.size + 1)] kin hl) r2 hq
/-- o.m(..) -/
theorem pe_methG {pl : Sem Bool} (he : PE X o ta) (c : Cls X.K C) (hm : Meth X.K C m f) (F : FnG X.prog X.w X.K X.mg X.base CX k f fd ps sp) (hr : Room k X.A) (hG : GA X.A) (hb : Binds X.K fd ps ds) (hd : Vals dvs ds) (hx : Passes CX X E) (ha : PA X (e :: es) t)
    (hst : starEach (e :: es) X.env = (false, eval e X.env) :: starEach es X.env := by rfl) (hpl : (backTo pos (starEach es X.env)).any (·.1) = false := by rfl)
    (ht : eval (.Call (.Attribute o m apos) (e :: es) [] pos) X.env = (do
      let ov ← eval o X.env
      standAt apos.atName
      let (f, first) ← holding [ov] (getMethod ov m pl)
      callWith pos f first (backTo pos (starEach (e :: es) X.env)) (backToKw pos (keywordEach [] X.env))) := by rfl) :
    PE X (.Call (.Attribute o m apos) (e :: es) [] pos) (tMeth C m sp dvs E ta t) := by
  refine ⟨fun pins s σ H Q I h => PySem.W.methodCall_KW (pl := pl) (thn (he.run pins s σ H _ I h) fun u s1 z => ?_) ht⟩
  obtain ⟨v, H1, I1, rx, a, dx, fs, rfl, ea, l, q⟩ := z
  cases rx
  refine getmeth_ok I1 ea c hm l (PySem.W.callWith_K (first := [.ref a]) (h₀ := X.base) I.ok.mod.kin hm.kp (thn (ha.run pos pins s1 σ H1 _ I1 q) fun us s2 z => ?_) hst hpl)
  obtain ⟨vs, H2, I2, r, q2⟩ := z
  exact ⟨I2.kIn, runG (us := .ref a :: us) (vs := .ref a :: vs) F hr hG hb hd hx I2 (.cons rfl r) q2⟩
end
/-! ### the law's end -/
/-- the law's def at an abstract heap in which at most the script is tracked -/
theorem lawAt {P : Program} {w : World} {K : PySem.W.Frag} {mg mb : Str → Option Value} {CX : CXT} {k : Nat} {fa a : Addr} {fd : FuncData} {x : Str} {sp : Sp} {s₁ : Shared} {H : Hp}
    (KX : K.In s₁.heap) (hns : s₁.heap.Ns mainGlobals mg) (hb : s₁.heap.Ns builtinsNs mb) (hbb : ∀ x : Str, x ≠ "__name__" → mb x = bootBuiltins x) (hlim : s₁.heap.NoLimit) (hg : s₁.gens = #[]) (hr : Room k callerA)
    (F : ∀ base : Heap, K.In base → base.Ns mainGlobals mg → FnG P w K mg base CX k fa fd [x] sp) (hbind : ∀ (s : Shared) (u : Value), BindsTo s fd ⟨[u], []⟩ [(x, u)])
    (hsp : sp [.ref a] H (fun v _ => v = .bl true) E0) (hCX : ∀ e s', CX [] H s₁ E0 e s' → False)
    (hok : HOk P w H s₁.heap) (free : ∀ b o, s₁.heap.get? b = some o → (∃ es ep, o.data = .dict es ep) ∨ (K.lookup b).isSome = true → H b = none)
    (frz : ∀ b u, H b = some u → ∃ ob xs, u = .frz ob xs) :
    codeAny (model P w) callerA (.call (.ref fa) ⟨[.ref a], []⟩) (fun r s' => r = .ok (.ret (.bool true)) ∧ OldK s₁.heap s'.heap ∧ s'.os = s₁.os ∧ AllBare s'.gens) s₁ := by
  have ns : ∀ {b : Addr} {m : Str → Option Value}, s₁.heap.Ns b m → (hidT s₁.heap H).Ns b m := fun {b m} z => by
    obtain ⟨o, es, ep, e, d, r⟩ := z
    exact ⟨o, es, ep, hidT_get e (free b o e (.inl ⟨es, ep, d⟩)), d, r⟩
  have kb : K.In (hidT s₁.heap H) := fun b o e => hidT_get (KX b o e) (free b o (KX b o e) (.inr (by rw [e]; rfl)))
  have md : Mod K mg (hidT s₁.heap H) := by
    obtain ⟨mc, h1, h2⟩ := hlim
    exact ⟨kb, ns hns, ⟨mb, ns hb, hbb⟩, mc, ns h1, h2⟩
  have e0 : Env0 P w K mg (hidT s₁.heap H) callerA [] s₁ H :=
    { frames := rfl, mod := md, bs := fun b o e => of_hidT e, bsz := Nat.le_of_eq (hidT_size _ _), funs := trivial, frf := fun b z => (List.not_mem_nil z).elim, hok := hok, bare := .of_eq hg }
  refine codeAny_mono ((F _ kb (ns hns)).run callerA [] s₁ H ⟨[.ref a], []⟩ [.ref a] [.ref a] _ _ hr rfl e0 (hbind s₁ (.ref a)) (.cons rfl .nil) hsp) fun r s' h => ?_
  match r, h with
  | .error e, h => exact (hCX e s' h).elim
  | .ok .next, h => exact h.elim
  | .ok .brk, h => exact h.elim
  | .ok .cont, h => exact h.elim
  | .ok (.ret u), h =>
    obtain ⟨v, H', os, bare, un, hok', rv, q⟩ := h
    have q' : v = .bl true := q
    subst q'
    cases rv
    refine ⟨rfl, OldK.of_keep fun b o e => ?_, os, bare⟩
    cases eb : H b with
    | none => exact un.keep b o e eb (fun z => (List.not_mem_nil z).elim) (fun z => (List.not_mem_nil z).elim)
    | some u =>
      obtain ⟨ob, xs, rfl⟩ := frz b u eb
      have e1 := (hok b _ eb).1
      rw [e] at e1
      cases e1
      exact (hok' b _ (un.frzs b _ xs eb)).1
theorem walkG {l : PySem.W.OpenLaw} {n k : Nat} {q : Program} {loose : List Str} {XP : (Str → Option Value) → Heap → Prop} {YP : World → Heap → Prop} {d : DefRec} {K : Params → PySem.W.Frag} {CX : World → CXT} {sp : World → Sp} {x : Str}
    (hn : l.most = some n) (hn2 : n ≤ sizeLine) (hdf : d.params.defaults = []) (hr : Room k callerA)
    (hY : ∀ (w : World) (h : Heap), YP w h → (K w.params).In h)
    (F : ∀ (w : World) (mg : Str → Option Value) (fa : Addr) (h : Heap), (K w.params).In h → h.Ns mainGlobals mg → mg d.name = some (.ref fa) →
      ∃ fd : FuncData, (∀ (s : Shared) (u : Value), BindsTo s fd ⟨[u], []⟩ [(x, u)]) ∧
        ∀ base : Heap, (K w.params).In base → base.Ns mainGlobals mg → FnG l.prog w (K w.params) mg base (CX w) k fa fd [x] (sp w))
    (hsp : ∀ (w : World) (H : Hp) (a : Addr) (ns : List Int), ns.length ≤ n → SqL (K w.params) H a (ns.map V.int) → (H a = none ∨ (∃ o u, H a = some (.frz o u)) ∨ H a = some (.lst (ns.map V.int))) → sp w [.ref a] H (fun v _ => v = .bl true) E0)
    (hCX : ∀ (w : World) (H : Hp) (s : Shared) (e : Value) (s' : Shared), CX w [] H s E0 e s' → False) :
    PySem.W.WalkO q loose XP YP l.row.toRowW d [] (fun f vs => PySem.call f vs) := by
  refine Att.attach_call hn hdf fun w s₀ s₁ mg mb fa o pm cd doc a vs ns G Y ho hd hcd hmg hobj hints hlen hg => ?_
  have KX := hY w _ Y
  obtain ⟨fd, hb, hF⟩ := F w mg fa _ KX G.T.g hmg
  have rv := vals_ints hints
  have lv := hints.length
  have hl : ns.length ≤ sizeLine := Nat.le_trans hlen hn2
  cases hk : (K w.params).lookup a with
  | some ob =>
    have e := KX a ob hk
    rw [hobj] at e
    cases e
    have sq : SqL (K w.params) (fun _ => none) a (ns.map V.int) := .inr ⟨_, vs.toArray, _, hk, rfl, rfl, rfl, by rw [List.size_toArray, lv]; exact hl, by simpa using rv⟩
    exact lawAt (H := fun _ => none) KX G.T.g G.T.b G.T.builtins G.T.nolimit hg hr hF hb (hsp w _ a ns hlen sq (.inl rfl)) (fun e s' => hCX w _ s₁ e s') (fun b u z => by cases z) (fun _ _ _ _ => rfl) (fun b u z => by cases z)
  | none =>
    let Hs : Hp := fun b => if b = a then some (.frz { cls := .type "list", data := .seq vs.toArray } (.lst (ns.map V.int))) else none
    have ha : Hs a = some (.frz { cls := .type "list", data := .seq vs.toArray } (.lst (ns.map V.int))) := if_pos rfl
    have only : ∀ b u, Hs b = some u → b = a ∧ u = .frz { cls := .type "list", data := .seq vs.toArray } (.lst (ns.map V.int)) := fun b u z => by
      by_cases hb : b = a
      · have z' := (if_pos hb).symm.trans z
        exact ⟨hb, (Option.some.inj z').symm⟩
      · have z' := (if_neg hb).symm.trans z
        cases z'
    have sq : SqL (K w.params) Hs a (ns.map V.int) := .inl (.inr ⟨_, ha⟩)
    refine lawAt (H := Hs) KX G.T.g G.T.b G.T.builtins G.T.nolimit hg hr hF hb (hsp w _ a ns hlen sq (.inr (.inl ⟨_, _, ha⟩))) (fun e s' => hCX w _ s₁ e s') (fun b u z => ?_) (fun b o e z => ?_) (fun b u z => ?_)
    · obtain ⟨rfl, rfl⟩ := only b u z
      exact ⟨hobj, by rw [List.length_map]; exact hl, vs, _, rv, hobj⟩
    · by_cases hb : b = a
      · subst hb
        rcases z with ⟨es, ep, z⟩ | z
        · rw [hobj] at e
          cases e
          cases z
        · rw [hk] at z
          cases z
      · exact if_neg hb
    · obtain ⟨_, rfl⟩ := only b u z
      exact ⟨_, _, rfl⟩
end HG

namespace HG
open PySem L2
theorem never0 {CX : CXT} {P : Program} {w : World} {K : PySem.W.Frag} {mg : Str → Option Value} {base : Heap} {N : List Str} {qual : Str} {scope : Scope} {f : Addr} {cdv : Value} {A : Around} {outer : List Env} {s : Shared} {H : Hp} {E : XK} :
    PassesOwn (model (cxOf CX P w K mg base N qual scope f cdv A outer s H E).prog (cxOf CX P w K mg base N qual scope f cdv A outer s H E).w) (cxOf CX P w K mg base N qual scope f cdv A outer s H E).A (cxOf CX P w K mg base N qual scope f cdv A outer s H E).env (cxOf CX P w K mg base N qual scope f cdv A outer s H E).xe :=
  PassesOwn.leaving
end HG

namespace HG
open PySem L2
mutual
theorem dp_noDict {K : PySem.W.Frag} {H : Hp} : ∀ {x : V} {d : PyData}, Dp K H x d → d.hasDict = false
  | _, _, .non => rfl
  | _, _, .bl _ => rfl
  | _, _, .int _ => rfl
  | _, _, .str _ => rfl
  | _, _, .lst _ h => dpAll_noDict h
  | _, _, .tup _ h => dpAll_noDict h
theorem dpAll_noDict {K : PySem.W.Frag} {H : Hp} : ∀ {xs : List V} {ds : List PyData}, DpAll K H xs ds → PyData.hasDictAll ds = false
  | _, _, .nil => rfl
  | _, _, .cons (d := d) (ds := ds) h t => by
    have h1 := dp_noDict h
    have h2 := dpAll_noDict t
    show (d.hasDict || PyData.hasDictAll ds) = false
    rw [h1, h2]
    rfl
end
/-- repr(x): a whole number, or data -/
def cRepr (K : PySem.W.Frag) : List V → Hp → VK → Prop := fun xs H Q => match xs with
  | [.int i] => i.natAbs.log2 < 1920 ∧ Q (.str (toString i)) H
  | [.ref a] => match dataF 8 H (.ref a) with
    | some d => d.showable = true ∧ d.depth ≤ 60 ∧ d.shown.length ≤ sizeLine ∧ Q (.str d.shown) H
    | none => False
  | _ => False
theorem call_reprU {X : Cx} (hG : GA X.A) (hu : X.A.units + 64 < cLine) : CallR X (.builtin "repr") (cRepr X.K) := by
  intro pins s σ H xs us Q I r h
  unfold cRepr at h
  split at h
  · exact SkE.call_repr_int pins s σ H _ us Q I r ⟨_, rfl, h.1, h.2⟩
  · rename_i a
    split at h
    · rename_i d e
      obtain ⟨h1, h2, h3, h4⟩ := h
      have D : Dp X.K H (.ref a) d := dp_of e
      have nd := dp_noDict D
      cases r with
      | cons r1 rn =>
        cases rn
        cases r1
        obtain ⟨as, rd⟩ := Dp.reads I d (.ref a) (.ref a) D rfl
        exact repr_of_reads' rd h1 (fun z => by rw [nd] at z; cases z) hG (by omega) (fun _ _ e => e) (fun h' u tk hk => ⟨.str d.shown, H, I.kept hk, ⟨_, rfl⟩, h4⟩) h3
    · exact h.elim
  · exact h.elim
end HG

namespace HG
open PySem L2
/-- by what stands on the left, on the right -/
def onIns (r1 r2 : R2) : R2 := fun x y H Q => match x with
  | .ref a => match H a with
    | some (.ins _ _ _) => r1 (.ref a) y H Q
    | _ => r2 (.ref a) y H Q
  | x => r2 x y H Q
theorem op_onIns {X : Cx} {f : Value → Value → Sem Value} {r1 r2 : R2} (h1 : OpR X f r1) (h2 : OpR X f r2) : OpR X f (onIns r1 r2) := opImp (h1.or h2) fun x y H Q h => by
  unfold onIns at h
  split at h
  · split at h
    · exact .inl h
    · exact .inr h
  · exact .inr h
def onInsR (r1 r2 : R2) : R2 := fun x y H Q => match y with
  | .ref a => match H a with
    | some (.ins _ _ _) => r1 x (.ref a) H Q
    | _ => r2 x (.ref a) H Q
  | y => r2 x y H Q
theorem op_onInsR {X : Cx} {f : Value → Value → Sem Value} {r1 r2 : R2} (h1 : OpR X f r1) (h2 : OpR X f r2) : OpR X f (onInsR r1 r2) := opImp (h1.or h2) fun x y H Q h => by
  unfold onInsR at h
  split at h
  · split at h
    · exact .inl h
    · exact .inr h
  · exact .inr h
theorem onIns_yes {r1 r2 : R2} {a : Addr} {y : V} {H : Hp} {Q : VK} {C dx : Addr} {fs : List (Str × V)} (h : H a = some (.ins C dx fs)) : onIns r1 r2 (.ref a) y H Q = r1 (.ref a) y H Q := by
  simp only [onIns, h]
theorem onIns_int {r1 r2 : R2} {i : Int} {y : V} {H : Hp} {Q : VK} : onIns r1 r2 (.int i) y H Q = r2 (.int i) y H Q := rfl
theorem onIns_str {r1 r2 : R2} {i : Str} {y : V} {H : Hp} {Q : VK} : onIns r1 r2 (.str i) y H Q = r2 (.str i) y H Q := rfl
theorem onIns_lst {r1 r2 : R2} {a : Addr} {y : V} {H : Hp} {Q : VK} {xs : List V} (h : H a = some (.lst xs)) : onIns r1 r2 (.ref a) y H Q = r2 (.ref a) y H Q := by
  simp only [onIns, h]
theorem onInsR_yes {r1 r2 : R2} {a : Addr} {x : V} {H : Hp} {Q : VK} {C dx : Addr} {fs : List (Str × V)} (h : H a = some (.ins C dx fs)) : onInsR r1 r2 x (.ref a) H Q = r1 x (.ref a) H Q := by
  simp only [onInsR, h]
theorem onInsR_int {r1 r2 : R2} {x : V} {i : Int} {H : Hp} {Q : VK} : onInsR r1 r2 x (.int i) H Q = r2 x (.int i) H Q := rfl
/-- -x -/
structure NegF (K : PySem.W.Frag) (C f : Addr) : Prop where
  fn : PySem.W.findIn K (.ref C) "__neg__" = some (some (.ref f))
  isf : PySem.W.isFn K (.ref f) = true
def uNegO (C : Addr) (sp : Sp) : V → Hp → VK → Prop := fun x H Q => match x with
  | .int i => Q (.int (-i)) H
  | x => isIns C H x ∧ sp [x] H Q E0
theorem un_negO {X : Cx} {k : Nat} {C f : Addr} {sp : Sp} (B : NegF X.K C f) (O : Own X k f sp) : UnR X (unaryOp .USub) (uNegO C sp) := by
  intro pins s σ H x v Q I rx h
  unfold uNegO at h
  split at h
  · exact un_neg pins s σ H _ v Q I rx ⟨_, rfl, h⟩
  · obtain ⟨h1, h3⟩ := h
    obtain ⟨a, dx, fs, rfl, ea⟩ := isIns_out h1
    cases rx
    obtain ⟨mA, J, _⟩ := ins_get I.hok ea
    obtain ⟨od, J, _⟩ := J.look
    obtain ⟨m, hF⟩ := I.fr
    exact PySem.W.ksp_neg hF I.ok.mod.kin J B.fn B.isf (O.run (vs := [.ref a]) I (.cons rfl .nil) h3)
/-! C(k = v, ..) -/
section
variable {X : Cx} {CX : CXT} {k : Nat} {f C : Addr} {fd : FuncData} {ps ks : List Str} {sp : Sp} {E : XK} {x : Str} {p pos : Pos} {kws : List Keyword} {tk : TA} {g : List Value → List Value → List Value} {gV : List V → List V → List V}
theorem pe_makeKG0 {n : Nat} (M : Mk X.K C f) (F : FnG X.prog X.w X.K X.mg X.base CX k f fd ps sp) (hr : Room (k + 1) X.A) (hG : GA X.A) (hg : Gl X x) (hm : X.mg x = some (.ref C)) (hb : KBn X.K fd ps 1 ks g gV) (hx : Passes CX X E) (hkw : PK X kws tk)
    (hall : (backToKw pos (keywordEach kws X.env)).all (·.1.isSome) = true := by rfl) (hks : (backToKw pos (keywordEach kws X.env)).filterMap (·.1) = ks := by rfl) (hdb : (x == ("__debug__" : Str)) = false := by decide)
    (hpl : ((backTo pos (starEach [] X.env)).any (·.1) || (backToKw pos (keywordEach kws X.env)).any (·.1.isNone)) = false := by rfl)
    (hnl : ks.length = n := by rfl) : PE X (.Call (.Name x p) [] kws pos) (tMakeK C 0 n sp gV E tNil tk) := by
  subst hnl
  refine ⟨fun pins s σ H Q I h => wpAny_Call_Name_kw (ld_glob I hg hm (PySem.W.callWith_KW0 (h₀ := X.base) I.ok.mod.kin M.kp hall (thn (hkw.run pos pins s σ H _ I h) fun ws s2 z => ?_) hpl) hdb)⟩
  obtain ⟨zs, H2, I2, rz, l1, l2, q2⟩ := z
  refine ⟨I2.kIn, ?_⟩
  rw [hks]
  have hq := q2 (s2.heap.objs.size + 1) s2.heap.objs.size (I2.hok.fresh (Nat.le_succ _)) (I2.hok.fresh (Nat.le_refl _)) (Nat.ne_of_lt (Nat.lt_succ_self _))
  have r1 : Vals [V.ref (s2.heap.objs.size + 1)] [Value.ref (s2.heap.objs.size + 1)] := .cons rfl .nil
  exact makeG (us := []) M F hr hG hx I2 (fun s' kin => hb.to s' [Value.ref (s2.heap.objs.size + 1)] ws kin rfl (rz.length.symm.trans l2)) (hb.rel r1 rz) hq
/-- e.f, a property -/
theorem pe_propG {p' g' : Addr} {f' : Str} {e : Expr} {ta : TE} (he : PE X e ta) (c : Cls X.K C) (hp : PropOf X.K C f' p' f) (F : FnG X.prog X.w X.K X.mg X.base CX k f fd ps sp) (hr : Room (k + 1) X.A) (hG : GA X.A) (hb : Binds X.K fd ps []) (hx : Passes CX X.nox E0)
    (hab : attributeBase e f' X.env (eval e X.env) = eval e X.env) : PE X (.Attribute e f' pos) (tProp C sp [] E0 ta) := by
  refine ⟨fun pins s σ H Q I h => attr_of hab (thn (he.run pins s σ H _ I h) fun u s1 z => ?_)⟩
  obtain ⟨v, H1, I1, rx, a, dx, fs, rfl, ea, q⟩ := z
  cases rx
  obtain ⟨mA, O, _⟩ := ins_get I1.hok ea
  obtain ⟨od, J, _⟩ := O.look
  obtain ⟨rest, hrec⟩ := hp.rec_
  have hc : (PySem.W.clsIn X.K C).isSome = true := by
    obtain ⟨cd, hc, _⟩ := PySem.W.any_some c.hd
    rw [hc]
    rfl
  have I2 := I1.tok (s1.toks + 1)
  refine PySem.W.get_bind I1.kIn J (PySem.W.plainGet_of (c.get f')).1 (PySem.W.findObj_data hc hp.at_ hp.get hp.tak) (PySem.W.plainGet_of (c.get f')).2 (wpAny_call (PySem.W.prop_get (s := { s1 with toks := s1.toks + 1 }) I1.kIn hrec ?_))
  have hl : [Value.ref a].length = ps.length := F.len _ _ _ _ q
  have hb' := hb { s1 with toks := s1.toks + 1 } [Value.ref a] I2.kIn (by simpa using hl)
  rw [List.append_nil] at hb'
  refine codeAny_mono (F.run X.A.in1 X.stack { s1 with toks := s1.toks + 1 } H1 ⟨[.ref a], []⟩ [.ref a] [.ref a] Q E0 hr.in1 (ga_in1 hG) I2.env0.in1 hb' (.cons rfl .nil) q) fun r s' hq => ?_
  cases r with
  | error er => exact (hx pins σ H1 _ er s' (I2.wish _) hq).elim
  | ok fl =>
    cases fl with
    | ret u =>
      obtain ⟨v, H', I3, rv, q3⟩ := I2.after hq
      show wpAny _ _ (handedOut u) _ _ _
      rw [PySem.W.handedOut_of (handed_of rv)]
      exact wpAny_pure ⟨v, H', I3, rv, q3⟩
    | next => exact hq.elim
    | brk => exact hq.elim
    | cont => exact hq.elim
end
end HG
namespace HG
theorem _root_.L2.Room.units1 {k : Nat} {A : PySem.Around} (r : L2.Room k A) : A.units + 1 < PySem.cLine := by have := r.un; omega
end HG
namespace HG
open PySem L2
/-! ### attributes -/
def fldR (K : PySem.W.Frag) (x : V) (f : Str) (H1 : Hp) (Q : VK) : Prop := ∃ a C dx fs v, x = .ref a ∧ H1 a = some (.ins C dx fs) ∧ Cls K C ∧ NoAttr K C f ∧ fs.lookup f = some v ∧ Q v H1
theorem tFld_eq {K : PySem.W.Frag} {ta : TE} {f : Str} {σ : L2.St} {H : Hp} {Q : VK} : tFld K ta f σ H Q = ta σ H fun x H1 => fldR K x f H1 Q := rfl
theorem fldR_eq {K : PySem.W.Frag} {a C dx : Addr} {f : Str} {fs : List (Str × V)} {v : V} {H : Hp} {Q : VK} (h : H a = some (.ins C dx fs)) (c : Cls K C) (n : NoAttr K C f) (l : fs.lookup f = some v) : fldR K (.ref a) f H Q = Q v H := by
  refine propext ⟨?_, fun q => ⟨a, C, dx, fs, v, rfl, h, c, n, l, q⟩⟩
  rintro ⟨a', C', dx', fs', v', e1, e2, _, _, e3, q⟩
  cases e1
  rw [h] at e2
  cases e2
  rw [l] at e3
  cases e3
  exact q
theorem st_fld {K : PySem.W.Frag} {ta tv : TE} {f : Str} {D : Ends} {σ : L2.St} {H : Hp} (h : tv σ H fun y H1 => ta σ H1 fun x H2 => ∃ a C dx fs, x = .ref a ∧ H2 a = some (.ins C dx fs) ∧ Cls K C ∧ NoAttr K C f ∧ fs.length < 1000 ∧ D.nx σ (upd H2 a (.ins C dx (putF f y fs)))) : sFld K ta tv f D σ H := h
theorem isIns_of {C a dx : Addr} {H : Hp} {fs : List (Str × V)} (h : H a = some (.ins C dx fs)) : isIns C H (.ref a) := by
  simp only [isIns, h]
end HG

/-! Sizes of numbers; fractions in lowest terms. No program in sight. -/
namespace HG
open PySem L2
def Bn (m : Nat) (x : Int) : Prop := x.natAbs < 2 ^ m
section
variable {m n : Nat} {x y : Int}
theorem Bn.bits (h : Bn m x) : Builtin.Int.intBits x ≤ m := intBits_le_iff.mpr h
theorem Bn.of_bits (h : Builtin.Int.intBits x ≤ m) : Bn m x := intBits_le_iff.mp h
theorem Bn.up (h : Bn m x) (q : m ≤ n) : Bn n x := Nat.lt_of_lt_of_le h (Nat.pow_le_pow_right (by decide) q)
theorem Bn.mul (h : Bn m x) (q : Bn n y) : Bn (m + n) (x * y) := .of_bits (intBits_mul_le h.bits q.bits)
theorem Bn.add (h : Bn m x) (q : Bn m y) : Bn (m + 1) (x + y) := by have z := intBits_add_le h.bits q.bits; rw [Nat.max_self] at z; exact .of_bits z
theorem Bn.sub (h : Bn m x) (q : Bn m y) : Bn (m + 1) (x - y) := by have z := intBits_sub_le h.bits q.bits; rw [Nat.max_self] at z; exact .of_bits z
theorem Bn.neg (h : Bn m x) : Bn m (0 - x) := by unfold Bn at *; rw [Int.zero_sub, Int.natAbs_neg]; exact h
theorem Bn.le (h : Bn m x) (q : y.natAbs ≤ x.natAbs) : Bn m y := Nat.lt_of_le_of_lt q h
theorem Bn.mulok (h : Bn m x) (q : Bn n y) (l : m + n ≤ 134217728 := by decide) : IntMulOk x y := .of_le h.bits q.bits l
theorem Bn.log (h : Bn (m + 1) x) : x.natAbs.log2 ≤ m := by
  by_cases h0 : x.natAbs = 0
  · rw [h0]; exact Nat.zero_le _
  · exact Nat.le_of_lt_succ ((Nat.log2_lt h0).mpr h)
theorem Bn.div (h : Bn m x) : Bn m (x / y) := h.le (Int.natAbs_ediv_le_natAbs x y)
end
/-- lowest terms -/
def ru (p q : Int) : Int := p / (Int.gcd p q : Int)
def rl (p q : Int) : Int := q / (Int.gcd p q : Int)
section
variable {p q k r s : Int}
theorem gcd_pos (h : 0 < q) : 0 < (Int.gcd p q : Int) := by
  have : 0 < Int.gcd p q := Int.gcd_pos_of_ne_zero_right _ (by omega)
  omega
theorem gcd_pos_ne (h : q ≠ 0) : 0 < (Int.gcd p q : Int) := by
  have : 0 < Int.gcd p q := Int.gcd_pos_of_ne_zero_right _ h
  omega
theorem ru_mul : (Int.gcd p q : Int) * ru p q = p := Int.mul_ediv_cancel' (Int.gcd_dvd_left _ _)
theorem rl_mul : (Int.gcd p q : Int) * rl p q = q := Int.mul_ediv_cancel' (Int.gcd_dvd_right _ _)
theorem rl_pos (h : 0 < q) : 0 < rl p q := by
  have h1 := gcd_pos (p := p) h
  have h2 := rl_mul (p := p) (q := q)
  by_cases z : 0 < rl p q
  · exact z
  · have := Int.mul_nonpos_of_nonneg_of_nonpos (Int.le_of_lt h1) (Int.not_lt.mp z)
    omega
theorem r_scale (hk : 0 < k) : ru (k * p) (k * q) = ru p q ∧ rl (k * p) (k * q) = rl p q := by
  unfold ru rl
  rw [Int.gcd_mul_left]
  have e : ((k.natAbs * Int.gcd p q : Nat) : Int) = k * (Int.gcd p q : Int) := by
    rw [Int.natCast_mul, Int.natAbs_of_nonneg (Int.le_of_lt hk)]
  rw [e]
  exact ⟨Int.mul_ediv_mul_of_pos _ _ hk, Int.mul_ediv_mul_of_pos _ _ hk⟩
theorem r_one : ru k 1 = k ∧ rl k 1 = 1 := by
  unfold ru rl
  rw [Int.gcd_one]
  exact ⟨Int.ediv_one _, rfl⟩
theorem bn_ru {m : Nat} (h : Bn m p) : Bn m (ru p q) := h.div
theorem bn_rl {m : Nat} (h : Bn m q) : Bn m (rl p q) := h.div
/-- sums of fractions in lowest terms -/
theorem r_add (hq : 0 < q) (hs : 0 < s) : ru (ru p q * rl r s + ru r s * rl p q) (rl p q * rl r s) = ru (p * s + r * q) (q * s) ∧ rl (ru p q * rl r s + ru r s * rl p q) (rl p q * rl r s) = rl (p * s + r * q) (q * s) := by
  have g1 := gcd_pos (p := p) hq
  have g2 := gcd_pos (p := r) hs
  have e1 := ru_mul (p := p) (q := q)
  have e2 := rl_mul (p := p) (q := q)
  have e3 := ru_mul (p := r) (q := s)
  have e4 := rl_mul (p := r) (q := s)
  generalize ru p q = a at *
  generalize rl p q = b at *
  generalize ru r s = c at *
  generalize rl r s = d at *
  generalize (Int.gcd p q : Int) = g at *
  generalize (Int.gcd r s : Int) = h at *
  subst e1 e2 e3 e4
  have hk : 0 < g * h := Int.mul_pos g1 g2
  have z := r_scale (p := a * d + c * b) (q := b * d) hk
  have y1 : g * h * (a * d + c * b) = g * a * (h * d) + h * c * (g * b) := by
    rw [Int.mul_add]; ac_rfl
  have y2 : g * h * (b * d) = g * b * (h * d) := by ac_rfl
  rw [y1, y2] at z
  exact ⟨z.1.symm, z.2.symm⟩
theorem r_neg (hq : 0 < q) : ru (0 - ru p q) (rl p q) = ru (0 - p) q ∧ rl (0 - ru p q) (rl p q) = rl (0 - p) q := by
  have g1 := gcd_pos (p := p) hq
  have e1 := ru_mul (p := p) (q := q)
  have e2 := rl_mul (p := p) (q := q)
  generalize ru p q = a at *
  generalize rl p q = b at *
  generalize (Int.gcd p q : Int) = g at *
  subst e1 e2
  have z := r_scale (p := 0 - a) (q := b) g1
  have y : g * (0 - a) = 0 - g * a := by rw [Int.mul_sub, Int.mul_zero]
  rw [y] at z
  exact ⟨z.1.symm, z.2.symm⟩
theorem r_mul (hq : 0 < q) : ru (ru p q * k) (rl p q) = ru (p * k) q ∧ rl (ru p q * k) (rl p q) = rl (p * k) q := by
  have g1 := gcd_pos (p := p) hq
  have e1 := ru_mul (p := p) (q := q)
  have e2 := rl_mul (p := p) (q := q)
  generalize ru p q = a at *
  generalize rl p q = b at *
  generalize (Int.gcd p q : Int) = g at *
  subst e1 e2
  have z := r_scale (p := a * k) (q := b) g1
  rw [← Int.mul_assoc] at z
  exact ⟨z.1.symm, z.2.symm⟩
theorem r_lt (hq : 0 < q) (hs : 0 < s) : (ru p q * rl r s < ru r s * rl p q) ↔ p * s < r * q := by
  have g1 := gcd_pos (p := p) hq
  have g2 := gcd_pos (p := r) hs
  have e1 := ru_mul (p := p) (q := q)
  have e2 := rl_mul (p := p) (q := q)
  have e3 := ru_mul (p := r) (q := s)
  have e4 := rl_mul (p := r) (q := s)
  generalize ru p q = a at *
  generalize rl p q = b at *
  generalize ru r s = c at *
  generalize rl r s = d at *
  generalize (Int.gcd p q : Int) = g at *
  generalize (Int.gcd r s : Int) = h at *
  subst e1 e2 e3 e4
  have hk : 0 < g * h := Int.mul_pos g1 g2
  have y1 : g * a * (h * d) = g * h * (a * d) := by ac_rfl
  have y2 : h * c * (g * b) = g * h * (c * b) := by ac_rfl
  rw [y1, y2]
  exact ⟨fun z => Int.mul_lt_mul_of_pos_left z hk, fun z => Int.lt_of_mul_lt_mul_left z (Int.le_of_lt hk)⟩
theorem r_le (hq : 0 < q) (hs : 0 < s) : (ru p q * rl r s ≤ ru r s * rl p q) ↔ p * s ≤ r * q := by
  have z := r_lt (p := r) (q := s) (r := p) (s := q) hs hq
  constructor
  · intro h
    refine Int.not_lt.mp fun y => ?_
    have := z.mpr y
    omega
  · intro h
    refine Int.not_lt.mp fun y => ?_
    have := z.mp y
    omega
theorem r_eq (hq : 0 < q) (hs : 0 < s) : (ru p q = ru r s ∧ rl p q = rl r s) ↔ p * s = r * q := by
  constructor
  · rintro ⟨h1, h2⟩
    have e1 := ru_mul (p := p) (q := q)
    have e2 := rl_mul (p := p) (q := q)
    have e3 := ru_mul (p := r) (q := s)
    have e4 := rl_mul (p := r) (q := s)
    generalize ru p q = a at *
    generalize rl p q = b at *
    generalize ru r s = c at *
    generalize rl r s = d at *
    generalize (Int.gcd p q : Int) = g at *
    generalize (Int.gcd r s : Int) = h at *
    subst h1 h2 e1 e2 e3 e4
    ac_rfl
  · intro h
    have z1 := r_scale (p := p) (q := q) hs
    have z2 := r_scale (p := r) (q := s) hq
    have y1 : s * p = q * r := by rw [Int.mul_comm s p, h, Int.mul_comm]
    have y2 : s * q = q * s := Int.mul_comm _ _
    rw [y1, y2] at z1
    exact ⟨z1.1.symm.trans z2.1, z1.2.symm.trans z2.2⟩
end
/-- one step of the divisor's loop -/
theorem gcd_step {a b : Int} (h : 0 < b) : Int.gcd b (a % b) = Int.gcd a b := by
  rw [Int.gcd_comm a b, Int.emod_def, Int.gcd_sub_mul_left_right]
end HG

/-! The pen of the laws' scripts: what the laws' drawing defs are asked. -/
namespace HG
open PySem L2
/-- the pen at p, at most n cells used -/
def Pen (H : Hp) (p : Addr) (n : Nat) : Prop := ∃ (l : Addr) (cells : List Int) (turn rest : Int), H p = some (.lst [.ref l, .int turn, .int rest]) ∧ H l = some (.lst (cells.map V.int)) ∧ cells.length ≤ 63 ∧ 0 ≤ turn ∧ turn ≤ n ∧ 0 ≤ rest
def Grow (H H' : Hp) : Prop := ∀ b o, H b = some o → H' b = some o
theorem Grow.refl {H : Hp} : Grow H H := fun _ _ h => h
theorem Grow.trans {H H1 H2 : Hp} (h : Grow H H1) (q : Grow H1 H2) : Grow H H2 := fun b o e => q b o (h b o e)
theorem Grow.new {H : Hp} {p : Addr} {o : HO} (h : H p = none) : Grow H (upd H p o) := fun b u e => by
  rw [upd_ne (fun z => by rw [z, h] at e; cases e)]; exact e
theorem Grow.keep {p : Addr} {H H' : Hp} (h : Grow H H') : Keep p H H' := fun b o _ e => h b o e
theorem Keep.refl {p : Addr} {H : Hp} : Keep p H H := fun _ _ _ e => e
theorem Keep.trans {p : Addr} {H H1 H2 : Hp} (h : Keep p H H1) (q : Keep p H1 H2) : Keep p H H2 := fun b o n e => q b o n (h b o n e)
theorem Pen.grow {H H' : Hp} {p : Addr} {n : Nat} (h : Pen H p n) (g : Grow H H') : Pen H' p n := by
  obtain ⟨l, c, t, r, h1, h2, h3⟩ := h
  exact ⟨l, c, t, r, g _ _ h1, g _ _ h2, h3⟩
theorem Pen.up {H : Hp} {p : Addr} {m n : Nat} (h : Pen H p m) (g : m ≤ n) : Pen H p n := by
  obtain ⟨l, c, t, r, h1, h2, h3, h4, h5, h6⟩ := h
  exact ⟨l, c, t, r, h1, h2, h3, h4, by omega, h6⟩
theorem Pen.lst {H : Hp} {p : Addr} {n : Nat} (h : Pen H p n) : ∃ xs, H p = some (.lst xs) := by
  obtain ⟨l, c, t, r, h1, h2, h3⟩ := h
  exact ⟨_, h1⟩
/-- what is no list is not the pen -/
theorem Pen.other {H : Hp} {p b : Addr} {n : Nat} {C dx : Addr} {fs : List (Str × V)} (h : Pen H p n) (q : H b = some (.ins C dx fs)) : b ≠ p := by
  obtain ⟨xs, e⟩ := h.lst
  rintro rfl
  rw [e] at q
  cases q
theorem Pen.fresh {H : Hp} {p b : Addr} {n : Nat} (h : Pen H p n) (q : H b = none) : b ≠ p := by
  obtain ⟨xs, e⟩ := h.lst
  rintro rfl
  rw [e] at q
  cases q
def spPen (K : PySem.W.Frag) : Sp := fun vs H Q _ => match vs with
  | [.ref a] => ∃ ns : List Int, SqL K H a (ns.map V.int) ∧ ∀ p H', Pen H' p 0 → Grow H H' → Q (.ref p) H'
  | _ => False
def spDraw : Sp := fun vs H Q _ => match vs with
  | [.ref p, .int many] => ∃ n : Nat, Pen H p n ∧ n ≤ 999999 ∧ 0 < many ∧ many.natAbs.log2 < 9000 ∧ ∀ (d : Int) (H' : Hp), 0 ≤ d → d < many → Pen H' p (n + 1) → Keep p H H' → Q (.int d) H'
  | _ => False
def spPick : Sp := fun vs H Q _ => match vs with
  | [.ref p, .ref s] => ∃ (n : Nat) (xs : List V), Pen H p n ∧ n ≤ 999999 ∧ H s = some (.lst xs) ∧ s ≠ p ∧ xs ≠ [] ∧ xs.length ≤ 100000 ∧ ∀ (x : V) (H' : Hp), x ∈ xs → Pen H' p (n + 1) → Keep p H H' → Q x H'
  | _ => False
theorem log_small {m : Int} (h0 : 0 < m) (h : m ≤ 1000000) : m.natAbs.log2 < 9000 := by
  have h1 : m.natAbs < 2 ^ 20 := by omega
  have h2 : m.natAbs.log2 < 20 := (Nat.log2_lt (by omega)).mpr h1
  omega
end HG
namespace HG
open PySem L2
/-- the law's def -/
def spLaw (K : PySem.W.Frag) : Sp := fun vs H Q _ => match vs with
  | [.ref a] => (∃ ns : List Int, SqL K H a (ns.map V.int)) ∧ ∀ H', Q (.bl true) H'
  | _ => False
end HG

namespace HG
open PySem L2
theorem shown_int_len {i : Int} {m : Nat} (h : Bn (m + 1) i) : (PyData.shown (.int i)).length ≤ m + 2 := by
  have e := int_text_length_le (a := i) (k := m + 1) (by omega) (Nat.lt_succ_of_le h.log)
  show (Str.ofString (toString i)).length ≤ m + 2
  rw [ofString_length]; exact e
theorem showable_int {i : Int} (h : Bn 1900 i) : PyData.showable (.int i) = true := by
  have := Bn.log (m := 1899) h
  show decide (i.natAbs.log2 < 1920) = true
  exact decide_eq_true (by omega)
theorem weight_int {i : Int} (h : Bn 1900 i) : PyData.weight (.int i) ≤ 1900 := by
  have := Bn.log (m := 1899) h
  show (if i == 0 then 0 else i.natAbs.log2 + 1) ≤ 1900
  split <;> omega
theorem leaves_ints : ∀ ns : List Int, (∀ n ∈ ns, Bn 1900 n) → PyData.leavesShortAll 1901 (ns.map PyData.int) = true ∧ PyData.showableAll (ns.map PyData.int) = true ∧ PyData.weightAll (ns.map PyData.int) ≤ 1901 * ns.length
  | [], _ => ⟨rfl, rfl, Nat.le_refl _⟩
  | n :: r, h => by
    obtain ⟨h1, h2, h3⟩ := leaves_ints r fun m hm => h m (List.mem_cons_of_mem _ hm)
    have hn := h n (List.mem_cons_self ..)
    have e1 : PyData.leavesShort 1901 (.int n) = true := decide_eq_true (shown_int_len (m := 1899) hn)
    have e2 := showable_int hn
    have e3 := weight_int hn
    refine ⟨?_, ?_, ?_⟩
    · show (PyData.leavesShort 1901 (.int n) && PyData.leavesShortAll 1901 (r.map PyData.int)) = true
      rw [e1, h1]; rfl
    · show (PyData.showable (.int n) && PyData.showableAll (r.map PyData.int)) = true
      rw [e2, h2]; rfl
    · show PyData.weight (.int n) + 1 + PyData.weightAll (r.map PyData.int) ≤ 1901 * (r.length + 1)
      omega
theorem repr_ints {K : PySem.W.Frag} {H : Hp} {r : Addr} {ns : List Int} {Q : VK} (h : H r = some (.lst (ns.map V.int))) (hb : ∀ n ∈ ns, Bn 1900 n) (hl : ns.length ≤ 4) (k : Q (.str (PyData.shown (.list (ns.map PyData.int)))) H) : cRepr K [.ref r] H Q := by
  have e : dataF 8 H (.ref r) = some (.list (ns.map PyData.int)) := dataF_ints h
  obtain ⟨h1, h2, h3⟩ := leaves_ints ns hb
  simp only [cRepr, e]
  refine ⟨h2, ?_, ?_, k⟩
  · show PyData.depthAll (ns.map PyData.int) + 1 ≤ 60
    rw [depth_ints]; decide
  · have z := PyData.shown_le 1901 (by decide) (.list (ns.map PyData.int)) h1
    have w : PyData.weight (.list (ns.map PyData.int)) ≤ 1901 * 4 := by
      show PyData.weightAll _ ≤ _
      omega
    have e : (1901 + 2) * PyData.weight (.list (ns.map PyData.int)) ≤ (1901 + 2) * (1901 * 4) := Nat.mul_le_mul_left _ w
    have : sizeLine = 16777216 := rfl
    omega
theorem data_bools {n : Nat} {H : Hp} : ∀ bs : List Bool, dataL (dataF n H) (bs.map V.bl) = some (bs.map PyData.bool)
  | [] => rfl
  | b :: r => by
    have e : dataF n H (.bl b) = some (.bool b) := by cases n <;> rfl
    show (match dataF n H (.bl b) with | some d => (match dataL (dataF n H) (r.map V.bl) with | some ds => some (d :: ds) | none => none) | none => none) = _
    rw [e, data_bools r]
    rfl
theorem leaves_bools : ∀ bs : List Bool, PyData.leavesShortAll 8 (bs.map PyData.bool) = true ∧ PyData.showableAll (bs.map PyData.bool) = true ∧ PyData.weightAll (bs.map PyData.bool) = bs.length ∧ PyData.depthAll (bs.map PyData.bool) = 0
  | [] => ⟨rfl, rfl, rfl, rfl⟩
  | b :: r => by
    obtain ⟨h1, h2, h3, h4⟩ := leaves_bools r
    refine ⟨?_, ?_, ?_, ?_⟩
    · show (PyData.leavesShort 8 (.bool b) && PyData.leavesShortAll 8 (r.map PyData.bool)) = true
      rw [h1]; rfl
    · show (PyData.showable (.bool b) && PyData.showableAll (r.map PyData.bool)) = true
      rw [h2]; rfl
    · show PyData.weight (.bool b) + 1 + PyData.weightAll (r.map PyData.bool) = r.length + 1
      rw [h3]
      show 0 + 1 + r.length = r.length + 1
      omega
    · show max (PyData.depth (.bool b)) (PyData.depthAll (r.map PyData.bool)) = 0
      rw [h4]; rfl
theorem repr_bools {K : PySem.W.Frag} {H : Hp} {r : Addr} {bs : List Bool} {Q : VK} (h : H r = some (.lst (bs.map V.bl))) (hl : bs.length ≤ 1000) (k : Q (.str (PyData.shown (.list (bs.map PyData.bool)))) H) : cRepr K [.ref r] H Q := by
  have e : dataF 8 H (.ref r) = some (.list (bs.map PyData.bool)) := by
    simp only [dataF, h]
    rw [data_bools]
    rfl
  obtain ⟨h1, h2, h3, h4⟩ := leaves_bools bs
  simp only [cRepr, e]
  refine ⟨h2, ?_, ?_, k⟩
  · show PyData.depthAll (bs.map PyData.bool) + 1 ≤ 60
    rw [h4]; decide
  · have z := PyData.shown_le 8 (by decide) (.list (bs.map PyData.bool)) h1
    have w : PyData.weight (.list (bs.map PyData.bool)) = bs.length := h3
    have : sizeLine = 16777216 := rfl
    omega
end HG

namespace HG
open PySem L2
/-! ### new instances, properties: folded readings -/
def MKf (C : Addr) (sp : Sp) (E : XK) (f : V → List V) (H : Hp) (Q : VK) : Prop := ∀ x dx, H x = none → H dx = none → dx ≠ x → sp (f (.ref x)) (upd (upd H dx (.own x)) x (.ins C dx [])) (fun v H2 => v = .non ∧ Q (.ref x) H2) E
theorem tMake_eq {C : Addr} {sp : Sp} {dvs : List V} {E : XK} {t : TA} {σ : L2.St} {H : Hp} {Q : VK} : tMake C sp dvs E t σ H Q = t σ H fun vs H1 => MKf C sp E (fun r => r :: (vs ++ dvs)) H1 Q := rfl
theorem tMakeK_eq {C : Addr} {n m : Nat} {sp : Sp} {gV : List V → List V → List V} {E : XK} {t tk : TA} {σ : L2.St} {H : Hp} {Q : VK} : tMakeK C n m sp gV E t tk σ H Q = t σ H fun vs H1 => tk σ H1 fun zs H2 => vs.length = n ∧ zs.length = m ∧ MKf C sp E (fun r => gV (r :: vs) zs) H2 Q := rfl
def PRf (C : Addr) (sp : Sp) (dvs : List V) (E : XK) (x : V) (H : Hp) (Q : VK) : Prop := ∃ a dx fs, x = .ref a ∧ H a = some (.ins C dx fs) ∧ sp (.ref a :: dvs) H Q E
theorem tProp_eq {C : Addr} {sp : Sp} {dvs : List V} {E : XK} {t : TE} {σ : L2.St} {H : Hp} {Q : VK} : tProp C sp dvs E t σ H Q = t σ H fun x H1 => PRf C sp dvs E x H1 Q := rfl
theorem cRepr_int {K : PySem.W.Frag} {i : Int} {H : Hp} {Q : VK} : cRepr K [.int i] H Q = (i.natAbs.log2 < 1920 ∧ Q (.str (toString i)) H) := rfl
/-! ### a comprehension over a list -/
def LcK (K : PySem.W.Frag) (g : TG) (tt : TT) (te : TE) (vs : List Nat) (σ : L2.St) (Q : VK) : VK := fun x H1 => ∃ a, x = .ref a ∧ (∃ xs, SqL K H1 a xs) ∧ ∀ D, H1 D = none → ∃ W : Nat → Nat → Hp → Prop, (∃ m, W 0 m (upd H1 D (.lst []))) ∧ ∀ i m H, W i m H →
      ((Itl K a).stop i H ∧ Q (.ref D) H) ∨ ((Itl K a).go i H ∧ ∃ Nx : Hp → Prop, (∀ H', Nx H' → ∃ m', m' < m ∧ W (i + 1) m' H') ∧ ∀ x H', (Itl K a).yld i H x H' → g x (wipe σ vs) H' fun σ2 H2 => wipe σ2 vs = wipe σ vs ∧ tt σ2 H2 fun b H3 =>
        if b = true then te σ2 H3 fun y H4 => ∃ acc, H4 D = some (.lst acc) ∧ acc.length < sizeLine ∧ Nx (upd H4 D (.lst (acc ++ [y]))) else Nx H3)
theorem lc_go {K : PySem.W.Frag} {tl te : TE} {g : TG} {tt : TT} {vs : List Nat} {σ : L2.St} {H : Hp} {Q : VK} (h : tl σ H (LcK K g tt te vs σ Q)) : tLc (iList K tl) g tt te vs σ H Q := h
/-- one whose test lets nothing through -/
theorem lc_empty {K : PySem.W.Frag} {te : TE} {i : Nat} {tt : TT} {σ : L2.St} {H1 : Hp} {Q : VK} {a : Addr} {xs : List V} (ha : H1 a = some (.lst xs))
    (q : ∀ D, H1 D = none → (∀ x ∈ xs, ∀ H', Grow (upd H1 D (.lst [])) H' → ∀ R : Bool → Hp → Prop, (∀ H2, Grow H' H2 → R false H2) → tt ((wipe σ [i]).set i (some x)) H' R) ∧ ∀ H', Grow (upd H1 D (.lst [])) H' → Q (.ref D) H')
    (hw : ∀ x, wipe ((wipe σ [i]).set i (some x)) [i] = wipe σ [i]) : LcK K (gName i) tt te [i] σ Q (.ref a) H1 := by
  refine ⟨a, rfl, ⟨xs, SqL.of ha⟩, fun D hD => ?_⟩
  obtain ⟨q1, q2⟩ := q D hD
  have g0 : Grow H1 (upd H1 D (.lst [])) := Grow.new hD
  refine ⟨fun j m H' => m = xs.length - j ∧ Grow (upd H1 D (.lst [])) H', ⟨_, rfl, .refl⟩, fun j m H' ⟨hm, g⟩ => ?_⟩
  have ha' := g _ _ (g0 _ _ ha)
  by_cases hj : xs.length ≤ j
  · exact .inl ⟨⟨xs, SqL.of ha', hj⟩, q2 _ g⟩
  · refine .inr ⟨⟨xs, xs[j], SqL.of ha', List.getElem?_eq_getElem (by omega)⟩, fun H'' => Grow (upd H1 D (.lst [])) H'', fun H'' g' => ⟨xs.length - (j + 1), by omega, rfl, g'⟩, ?_⟩
    rintro x H'' ⟨rfl, e⟩
    have ex := e xs (SqL.of ha')
    refine ⟨hw x, q1 x (List.mem_of_getElem? ex) _ g _ fun H2 g2 => ?_⟩
    rw [if_neg (by decide)]
    exact g.trans g2
theorem st_ifcmp {r : R2} {ta tb : TE} {t u : TS} {D : Ends} {σ : L2.St} {H : Hp} (h : ta σ H fun x H1 => tb σ H1 fun y H2 => r x y H2 fun z H3 => ∃ k, z = .bl k ∧ if k = true then t D σ H3 else u D σ H3) : tIfS (tTest (tOp r ta tb)) t u D σ H := h
end HG

/-! What the top has written, in the forms that the rules want. -/
namespace HG
open PySem L2 PyProof.Rows
open PySem.W in
theorem fillsI_no {K : Frag} {M : Model} {h : Heap} {C : Addr} {cd : ClassData} {nm : String} {add : Bool} (X : K.In h) (hc : clsIn K C = some cd) (hm : cd.mro = [.ref C, .type "object"]) (hs : findIn K (.ref C) (dunderI nm) = some none)
    (ho : findIn K (.type "object") (dunderI nm) = some none) : Looks M h (fillsInplaceSlot (.ref C) nm add) false := by
  intro A Q E s k q
  have Lm : Looks M h (mroOf (.ref C)) cd.mro := (looks_clsIn X hc).andThen (f := fun cd => pure cd.mro) .now
  have Lm' := Lm.keeps k
  obtain ⟨hh, g, d, tt, os⟩ := s
  have X' : K.In hh := X.keeps k
  have L1 : Looks M hh (typeLookup (.ref C) (dunderI nm)) none := looks_findIn X' hs
  have L2 : Looks M hh (typeLookup (.type "object") (dunderI nm)) none := looks_findIn X' ho
  unfold fillsInplaceSlot
  refine wpAny_bind (Lm'.at ?_)
  rw [hm, List.anyM_cons]
  refine wpAny_bind (wpAny_bind (L1.at (wpAny_pure ?_)))
  simp only [Bool.false_eq_true, if_false]
  rw [List.anyM_cons]
  refine wpAny_bind (wpAny_bind (L2.at (wpAny_pure ?_)))
  simp only [Bool.false_eq_true, if_false, List.anyM_nil]
  exact wpAny_pure q
section
variable {K : PySem.W.Frag} {C f g : Addr} {op : Operator} {nm : Str}
theorem isSomeE {α : Type} {o : Option α} (h : o.isSome = true) : ∃ x, o = some x := Option.isSome_iff_exists.mp h
theorem binF_mk (d : PySem.dunder op.info.2 = nm) (sf : PySem.W.selfFirst K C = true) (fn : PySem.W.findIn K (.ref C) nm = some (some (.ref f))) (isf : PySem.W.isFn K (.ref f) = true)
    (rc : ∃ rc, PySem.W.findIn K (.ref C) (dunderR op.info.2) = some rc ∧ (rc = none ∨ ∃ g : Addr, rc = some (.ref g))) (i1 : (PySem.W.findIn K (.type "int") (PySem.dunder op.info.2)).isSome = true) (i2 : (PySem.W.findIn K (.type "int") (dunderR op.info.2)).isSome = true)
    (sub : PySem.W.subIn K (.type "int") (.ref C) = some false) : BinF K C f op := ⟨sf, by rw [d]; exact fn, isf, rc, isSomeE i1, isSomeE i2, sub⟩
theorem reflF_mk {nr : Str} (d : PySem.dunder op.info.2 = nm) (dr : dunderR op.info.2 = nr) (sf : PySem.W.selfFirst K C = true) (fn : PySem.W.findIn K (.ref C) nm = some (some (.ref f))) (rn : PySem.W.findIn K (.ref C) nr = some (some (.ref g))) (isf : PySem.W.isFn K (.ref g) = true)
    (sub : PySem.W.subIn K (.ref C) (.type "int") = some false) (fo : ∃ fo ro, PySem.W.findIn K (.type "int") (PySem.dunder op.info.2) = some fo ∧ PySem.W.findIn K (.type "int") (dunderR op.info.2) = some ro ∧ ((fo.isSome && !isSeqSlot fo) || (ro.isSome && !isSeqSlot ro)) = true) : ReflF K C f g op :=
  ⟨sf, by rw [d]; exact fn, by rw [dr]; exact rn, isf, sub, fo⟩
theorem inpF_mk {cd : ClassData} (d : PySem.dunder op.info.2 = nm) (sf : PySem.W.selfFirst K C = true) (fn : PySem.W.findIn K (.ref C) nm = some (some (.ref f))) (isf : PySem.W.isFn K (.ref f) = true) (hc : PySem.W.clsIn K C = some cd) (hm : cd.mro = [.ref C, .type "object"])
    (hs : PySem.W.findIn K (.ref C) (dunderI op.info.2) = some none) (ho : PySem.W.findIn K (.type "object") (dunderI op.info.2) = some none) : InpF K C f op := ⟨sf, by rw [d]; exact fn, isf, fun M h X => fillsI_no X hc hm hs ho⟩
end
theorem funD_mk {K : PySem.W.Frag} {x qual : Str} {st : Stmt} {f T : Addr} {oc oc2 : Value} {od od2 an : Option Addr} {osl osl2 : Array (Option Value)} {kV doc pm cdv ct : Value} {its : List Value} {dvs : List V} {n : Nat}
    (l : K.lookup f = some ⟨oc, od, .func (PySem.W.fnOf x qual (defArgs st) (defBody st) (defScope st) (.ref T) kV doc pm an cdv ct), osl⟩) (lT : K.lookup T = some ⟨oc2, od2, .seq its.toArray n, osl2⟩) (r : Vals dvs its) (ne : dvs ≠ [])
    (c : PySem.W.codeIn K cdv qual = true) (k : PySem.W.keepIn K (.ref f) = true) : FunD K x qual (defArgs st) (defBody st) (defScope st) dvs [] f (PySem.W.fnOf x qual (defArgs st) (defBody st) (defScope st) (.ref T) kV doc pm an cdv ct) :=
  ⟨⟨oc, od, .ref T, kV, doc, pm, an, cdv, ct, osl, rfl, l, c, .inr ⟨ne, T, _, its, n, rfl, lT, rfl, r⟩, .inl rfl⟩, k⟩
end HG
namespace HG
open PySem L2
theorem int_fo_Add {K : PySem.W.Frag} : ∃ fo ro, PySem.W.findIn K (.type "int") (PySem.dunder Operator.Add.info.2) = some fo ∧ PySem.W.findIn K (.type "int") (dunderR Operator.Add.info.2) = some ro ∧ ((fo.isSome && !isSeqSlot fo) || (ro.isSome && !isSeqSlot ro)) = true :=
  ⟨some (.builtin "int.__add__"), some (.builtin "int.__radd__"), by show fastLookup "int" _ = _; decide +kernel, by show fastLookup "int" _ = _; decide +kernel, by decide +kernel⟩
theorem int_fo_Sub {K : PySem.W.Frag} : ∃ fo ro, PySem.W.findIn K (.type "int") (PySem.dunder Operator.Sub.info.2) = some fo ∧ PySem.W.findIn K (.type "int") (dunderR Operator.Sub.info.2) = some ro ∧ ((fo.isSome && !isSeqSlot fo) || (ro.isSome && !isSeqSlot ro)) = true :=
  ⟨some (.builtin "int.__sub__"), some (.builtin "int.__rsub__"), by show fastLookup "int" _ = _; decide +kernel, by show fastLookup "int" _ = _; decide +kernel, by decide +kernel⟩
end HG
namespace HG
open PySem L2
theorem kit_tr {K : PySem.W.Frag} {C : Addr} {t : String} {b : Bool} (hc : PySem.W.isClsIn K C = true) (ht : PySem.W.typeIn K (.ref C) = some (.type "type")) (hs : PySem.W.subIn K (.type t) (.ref C) = some b) : PySem.W.kitOne K (.type t) (.ref C) = some b := by
  have hne : (Value.type t == Value.ref C) = false := Bool.eq_false_iff.mpr fun q => by cases beq_iff_eq.mp q
  have hc' : (PySem.W.clsIn K C).isSome = true := hc
  unfold PySem.W.kitOne PySem.W.kitCls
  simp only [hne, hc', ht, hs, Bool.false_eq_true, if_false, beq_self_eq_true, Bool.and_self, if_true]
theorem kit_rt {K : PySem.W.Frag} {C : Addr} {T : String} {b : Bool} (hm : PySem.W.kitMeta T = true) (hs : PySem.W.subIn K (.ref C) (.type T) = some b) : PySem.W.kitOne K (.ref C) (.type T) = some b := by
  have hne : (Value.ref C == Value.type T) = false := Bool.eq_false_iff.mpr fun q => by cases beq_iff_eq.mp q
  unfold PySem.W.kitOne PySem.W.kitCls
  simp only [hne, hm, hs, Bool.false_eq_true, if_false, if_true]
theorem kit_rr {K : PySem.W.Frag} {C : Addr} : PySem.W.kitOne K (.ref C) (.ref C) = some true := by
  unfold PySem.W.kitOne
  simp only [beq_self_eq_true, if_true]
theorem nsOk_mk {K : PySem.W.Frag} {N : Addr} {oc : Value} {od : Option Addr} {es : Array DictEntry} {n : Nat} {sl : Array (Option Value)} (h : K.lookup N = some ⟨oc, od, .dict es n, sl⟩) (e : (es.toList.all fun e => match e.key with | .str _ _ => true | _ => false) = true) : PySem.W.nsOkIn K N = true := by
  unfold PySem.W.nsOkIn
  rw [h]
  show (es.all _) = true
  rw [← Array.all_toList]
  exact e
end HG

namespace HG
open PySem L2 PyProof.Rows
section
variable {X : Cx}
/-! ### in, by data -/
def oIn (K : PySem.W.Frag) : R2 := fun x y H Q => match dataF 8 H x, dataF 8 H y with
  | some d, some (.list ds) => SeqAt.shaped d = true ∧ SeqAt.shaped (.list ds) = true ∧ Q (.bl (ds.any fun z => PyData.eqv z d)) H
  | _, _ => False
theorem op_inU (hu : X.A.units + 65 < cLine) : OpR X (compareOp .In) (oIn X.K) := opImp (op_inD hu) fun x y H Q h => by
  unfold oIn at h
  split at h
  · rename_i e1 e2
    exact ⟨_, _, dp_of e1, dp_of e2, h.1, h.2.1, h.2.2⟩
  · exact h.elim
def oNotIn (K : PySem.W.Frag) : R2 := fun x y H Q => match dataF 8 H x, dataF 8 H y with
  | some d, some (.list ds) => SeqAt.shaped d = true ∧ SeqAt.shaped (.list ds) = true ∧ Q (.bl (!ds.any fun z => PyData.eqv z d)) H
  | _, _ => False
theorem op_notInU (hu : X.A.units + 65 < cLine) : OpR X (compareOp .NotIn) (oNotIn X.K) := opImp (op_notInD hu) fun x y H Q h => by
  unfold oNotIn at h
  split at h
  · rename_i e1 e2
    exact ⟨_, _, dp_of e1, dp_of e2, h.1, h.2.1, h.2.2⟩
  · exact h.elim
theorem _root_.L2.Room.units65 {k : Nat} {A : Around} (r : Room k A) : A.units + 65 < cLine := by have := r.un; omega
/-! ### is None -/
def oIs : R2 := fun x y H Q => match y with
  | .non => match x with
    | .non => Q (.bl true) H
    | _ => Q (.bl false) H
  | _ => False
theorem op_isU : OpR X (compareOp .Is) oIs := opImp op_isN fun x y H Q h => by
  unfold oIs at h
  split at h
  · refine ⟨rfl, ?_⟩
    split at h
    · exact h
    · rename_i hn
      rw [decide_eq_false (fun e => hn e)]
      exact h
  · exact h.elim
def oIsNot : R2 := fun x y H Q => match y with
  | .non => match x with
    | .non => Q (.bl false) H
    | _ => Q (.bl true) H
  | _ => False
theorem op_isNotU : OpR X (compareOp .IsNot) oIsNot := opImp op_notN fun x y H Q h => by
  unfold oIsNot at h
  split at h
  · refine ⟨rfl, ?_⟩
    split at h
    · exact h
    · rename_i hn
      rw [decide_eq_false (fun e => hn e)]
      exact h
  · exact h.elim
/-! ### built-ins over sequences -/
def cTuple (K : PySem.W.Frag) : List V → Hp → VK → Prop := fun xs H Q => match xs with
  | [.ref p] => match H p with
    | some (.lst ys) => ∀ l, H l = none → Q (.ref l) (upd H l (.tup ys))
    | some (.tup ys) => Q (.ref p) H
    | _ => ∃ ys, SqT K H p ys ∧ Q (.ref p) H
  | _ => False
theorem call_tupleU : CallR X (.type "tuple") (cTuple X.K) := callImp call_tuple_of fun xs H Q h => by
  unfold cTuple at h
  split at h
  · split at h
    · rename_i e
      exact ⟨_, _, rfl, .inl ⟨SqL.of e, h⟩⟩
    · rename_i e
      exact ⟨_, _, rfl, .inr ⟨SqT.of e, h⟩⟩
    · obtain ⟨ys, h1, h2⟩ := h
      exact ⟨_, ys, rfl, .inr ⟨h1, h2⟩⟩
  · exact h.elim
def isBls : List V → Option (List Bool)
  | [] => some []
  | .bl b :: r => (isBls r).map (b :: ·)
  | _ :: _ => none
theorem isBls_map : ∀ bs : List Bool, isBls (bs.map V.bl) = some bs
  | [] => rfl
  | b :: r => by
    show (isBls (r.map V.bl)).map (b :: ·) = _
    rw [isBls_map r]
    rfl
theorem isBls_of : ∀ {xs : List V} {bs : List Bool}, isBls xs = some bs → xs = bs.map V.bl
  | [], bs, h => by cases h; rfl
  | .bl b :: r, bs, h => by
    obtain ⟨cs, e, rfl⟩ := Option.map_eq_some_iff.mp h
    rw [isBls_of e]
    rfl
  | .non :: r, bs, h => by cases h
  | .int i :: r, bs, h => by cases h
  | .str i :: r, bs, h => by cases h
  | .byt i :: r, bs, h => by cases h
  | .flt i :: r, bs, h => by cases h
  | .ref i :: r, bs, h => by cases h
  | .ty i :: r, bs, h => by cases h
def cAll (K : PySem.W.Frag) : List V → Hp → VK → Prop := fun xs H Q => ∃ a bs, xs = [.ref a] ∧ H a = some (.lst (List.map V.bl bs)) ∧ Q (.bl (bs.all id)) H
theorem call_allU (hc : X.calm = true) : CallR X (.builtin "all") (cAll X.K) := callImp (cr_all hc) fun xs H Q h => by
  obtain ⟨a, bs, e1, e2, q⟩ := h
  exact ⟨a, bs, e1, SqL.of e2, q⟩
def cAny (K : PySem.W.Frag) : List V → Hp → VK → Prop := fun xs H Q => ∃ a bs, xs = [.ref a] ∧ H a = some (.lst (List.map V.bl bs)) ∧ Q (.bl (bs.any id)) H
theorem call_anyU (hc : X.calm = true) : CallR X (.builtin "any") (cAny X.K) := callImp (cr_any hc) fun xs H Q h => by
  obtain ⟨a, bs, e1, e2, q⟩ := h
  exact ⟨a, bs, e1, SqL.of e2, q⟩
/-- the greatest number of a list, of two -/
def cMax (K : PySem.W.Frag) : List V → Hp → VK → Prop := fun xs H Q => match xs with
  | [.int i, .int j] => Q (.int (if j > i then j else i)) H
  | [.ref a] => ∃ ns : List Int, H a = some (.lst (ns.map V.int)) ∧ ns ≠ [] ∧ ∀ m, m ∈ ns → (∀ y, y ∈ ns → y ≤ m) → Q (.int m) H
  | _ => False
theorem call_maxU (hc : X.calm = true) : CallR X (.builtin "max") (cMax X.K) := callImp ((call_max2 hc).or (cr_max hc)) fun xs H Q h => by
  unfold cMax at h
  split at h
  · exact .inl ⟨_, _, rfl, h⟩
  · obtain ⟨ns, h1, h2, h3⟩ := h
    exact .inr ⟨_, ns, rfl, SqL.of h1, List.length_pos_iff.mpr h2, h3⟩
  · exact h.elim
def cMin (K : PySem.W.Frag) : List V → Hp → VK → Prop := fun xs H Q => match xs with
  | [.int i, .int j] => Q (.int (if j < i then j else i)) H
  | [.ref a] => ∃ ns : List Int, H a = some (.lst (ns.map V.int)) ∧ ns ≠ [] ∧ ∀ m, m ∈ ns → (∀ y, y ∈ ns → m ≤ y) → Q (.int m) H
  | _ => False
theorem call_minU (hc : X.calm = true) : CallR X (.builtin "min") (cMin X.K) := callImp ((call_min2 hc).or (cr_min hc)) fun xs H Q h => by
  unfold cMin at h
  split at h
  · exact .inl ⟨_, _, rfl, h⟩
  · obtain ⟨ns, h1, h2, h3⟩ := h
    exact .inr ⟨_, ns, rfl, SqL.of h1, List.length_pos_iff.mpr h2, h3⟩
  · exact h.elim
/-! ### isinstance by a tuple of types -/
def tysOf : List V → Option (List Value)
  | [] => some []
  | .ty n :: r => (tysOf r).map (.type n :: ·)
  | .ref C :: r => (tysOf r).map (.ref C :: ·)
  | _ :: _ => none
theorem tysOf_paired : ∀ {xs : List V} {us : List Value}, tysOf xs = some us → Paired ClsV xs us
  | [], us, h => by cases h; exact .nil
  | .ty n :: r, us, h => by
    obtain ⟨cs, e, rfl⟩ := Option.map_eq_some_iff.mp h
    exact .cons (.ty _) (tysOf_paired e)
  | .ref C :: r, us, h => by
    obtain ⟨cs, e, rfl⟩ := Option.map_eq_some_iff.mp h
    exact .cons (.own _) (tysOf_paired e)
  | .non :: r, bs, h => by cases h
  | .int i :: r, bs, h => by cases h
  | .bl i :: r, bs, h => by cases h
  | .str i :: r, bs, h => by cases h
  | .byt i :: r, bs, h => by cases h
  | .flt i :: r, bs, h => by cases h
def cIsiT (K : PySem.W.Frag) : List V → Hp → VK → Prop := fun xs H Q => match xs with
  | [x, .ref tp] => match H tp with
    | some (.tup cs) => match tyF H x with
      | some t => tyOk K t ∧ match tysOf cs with
        | some us => match PySem.W.kitAny K t us with
          | some b => Q (.bl b) H
          | none => False
        | none => False
      | none => False
    | _ => False
  | _ => False
theorem call_isiTU : CallR X (.builtin "isinstance") (cIsiT X.K) := callImp call_isiT fun xs H Q h => by
  unfold cIsiT at h
  split at h
  · split at h
    · rename_i e0
      split at h
      · rename_i e1
        obtain ⟨h1, h2⟩ := h
        split at h2
        · rename_i e2
          split at h2
          · rename_i e3
            exact ⟨_, _, _, _, _, _, rfl, e0, tysOf_paired e2, tyX_of e1 h1, e3, h2⟩
          · exact h2.elim
        · exact h2.elim
      · exact h.elim
    · exact h.elim
  · exact h.elim
theorem kitLT_l {K : PySem.W.Frag} : PySem.W.kitAny K (.type "list") [.type "list", .type "tuple"] = some true := kitAny_cons (b := true) (kit_ty (by decide +kernel)) (fun z => by cases z) (fun _ => rfl)
theorem kitLT_t {K : PySem.W.Frag} : PySem.W.kitAny K (.type "tuple") [.type "list", .type "tuple"] = some true := kitAny_cons (b := false) (kit_ty (by decide +kernel)) (fun _ => kitAny_cons (b := true) (kit_ty (by decide +kernel)) (fun z => by cases z) (fun _ => rfl)) (fun z => by cases z)
/-! ### an attribute as a target -/
def gFld (K : PySem.W.Frag) (ta : TE) (f : Str) : TG := fun y σ H Q => ta σ H fun x H2 => ∃ a C dx fs, x = .ref a ∧ H2 a = some (.ins C dx fs) ∧ Cls K C ∧ NoAttr K C f ∧ fs.length < 1000 ∧ Q σ (upd H2 a (.ins C dx (putF f y fs)))
theorem pg_fld {o : Expr} {f : Str} {pos : Pos} {ta : TE} (ho : PE X o ta) : PG X (.Attribute o f pos) (gFld X.K ta f) := by
  refine ⟨fun pins s σ H v u Q I r h => ?_⟩
  rw [assign_Attribute]
  refine wpAny_bind (wpAny_holding (thn (ho.run pins s σ H _ I h) fun ov s1 ⟨x, H1, I1, r1, a, C, dx, fs, ex, ea, c, n, l, q1⟩ => ?_))
  subst ex
  obtain rfl : ov = Value.ref a := r1
  refine wpAny_bind (wpAny_standAt (wpAny_bind (wpAny_holding (setattr_ok I1 ea c n l r fun s3 I3 => ?_))))
  exact wpAny_release ⟨σ, _, I3, q1⟩
/-! ### for x in a list or a tuple -/
def iSeq (K : PySem.W.Frag) (tl : TE) : TI := fun σ H R => tl σ H fun x H1 => ∃ a, x = .ref a ∧ (((∃ xs, SqL K H1 a xs) ∧ R (Itl K a) H1) ∨ ((∃ xs, SqT K H1 a xs) ∧ R (Itt K a) H1))
theorem pi_seq {tg l : Expr} {tl : TE} (hl : PE X l tl) : PI X tg l (iSeq X.K tl) := by
  refine ⟨fun pins s σ H R I h => ?_⟩
  refine thn (hl.run pins s σ H _ I h) fun v s1 ⟨x, H1, I1, r1, q1⟩ => ?_
  obtain ⟨a, e, q1⟩ := q1
  subst e
  cases r1
  rcases q1 with ⟨⟨xs, hq⟩, q⟩ | ⟨⟨xs, hq⟩, q⟩
  · obtain ⟨its, rv, p, hz⟩ := I1.list hq
    refine wpAny_pyIter_list p.isList ?_
    refine ⟨s1.heap.objs.size, [s1.heap.objs.size], _, _, H1, rfl, I1.kept (t' := s1.toks) fun b o e => Heap.get?_push_of_some _ e, turn_list a _, ⟨_, Heap.get?_push_size _ rfl, rfl, rfl⟩, fun b hb => ?_, q⟩
    have e : b = s1.heap.objs.size := by simpa using hb
    subst e
    exact I1.fpOk (Nat.le_refl _) (I1.hok.fresh (Nat.le_refl _))
  · obtain ⟨its, rv, p, hz⟩ := I1.tuple hq
    refine wpAny_pyIter_tuple (show s1.heap.IsTuple a its.toArray from p) ?_
    refine ⟨s1.heap.objs.size, [s1.heap.objs.size], _, _, H1, rfl, I1.kept (t' := s1.toks) fun b o e => Heap.get?_push_of_some _ e, turn_tuple a _, ⟨_, Heap.get?_push_size _ rfl, rfl, rfl⟩, fun b hb => ?_, q⟩
    have e : b = s1.heap.objs.size := by simpa using hb
    subst e
    exact I1.fpOk (Nat.le_refl _) (I1.hok.fresh (Nat.le_refl _))
end
end HG

/-! Comprehensions over numbers and over sequences: what they make. -/
namespace HG
open PySem L2
/-- a comprehension's continuation at its iterator -/
def LcJ (g : TG) (tt : TT) (te : TE) (vs : List Nat) (σ : L2.St) (Q : VK) (J : It) (H1 : Hp) : Prop := ∀ D, H1 D = none → ∃ W : Nat → Nat → Hp → Prop, (∃ m, W 0 m (upd H1 D (.lst []))) ∧ ∀ i m H, W i m H →
      (J.stop i H ∧ Q (.ref D) H) ∨ (J.go i H ∧ ∃ Nx : Hp → Prop, (∀ H', Nx H' → ∃ m', m' < m ∧ W (i + 1) m' H') ∧ ∀ x H', J.yld i H x H' → g x (wipe σ vs) H' fun σ2 H2 => wipe σ2 vs = wipe σ vs ∧ tt σ2 H2 fun b H3 =>
        if b = true then te σ2 H3 fun y H4 => ∃ acc, H4 D = some (.lst acc) ∧ acc.length < sizeLine ∧ Nx (upd H4 D (.lst (acc ++ [y]))) else Nx H3)
theorem lc_ev {wi : TI} {g : TG} {tt : TT} {te : TE} {vs : List Nat} {σ : L2.St} {H : Hp} {Q : VK} (h : wi σ H (LcJ g tt te vs σ Q)) : tLc wi g tt te vs σ H Q := h
/-- the iterator hands out xs 0 .. xs (n - 1), as long as what stood stands -/
structure JOk (J : It) (H1 : Hp) (n : Nat) (xs : Nat → V) : Prop where
  go : ∀ H, Grow H1 H → ∀ j, j < n → J.go j H
  yld : ∀ H, Grow H1 H → ∀ j, j < n → ∀ x H', J.yld j H x H' → H' = H ∧ x = xs j
  stop : ∀ H, Grow H1 H → J.stop n H
theorem jok_rng {lo : Int} {n : Nat} {H1 : Hp} : JOk (Itr lo n) H1 n (fun j => .int (lo + j)) :=
  ⟨fun _ _ _ h => h, fun _ _ _ _ _ _ h => h, fun _ _ => Nat.le_refl _⟩
theorem jok_lst {K : PySem.W.Frag} {a : Addr} {H1 : Hp} {xs : List V} (h : H1 a = some (.lst xs)) : JOk (Itl K a) H1 xs.length (fun j => xs.getD j .non) := by
  refine ⟨fun H g j hj => ⟨xs, _, SqL.of (g _ _ h), List.getElem?_eq_getElem hj⟩, fun H g j hj x H' y => ⟨y.1, ?_⟩, fun H g => ⟨xs, SqL.of (g _ _ h), Nat.le_refl _⟩⟩
  have e := y.2 xs (SqL.of (g _ _ h))
  rw [List.getD_eq_getElem?_getD, e]
  rfl
theorem jok_tup {K : PySem.W.Frag} {a : Addr} {H1 : Hp} {xs : List V} (h : H1 a = some (.tup xs)) : JOk (Itt K a) H1 xs.length (fun j => xs.getD j .non) := by
  refine ⟨fun H g j hj => ⟨xs, _, SqT.of (g _ _ h), List.getElem?_eq_getElem hj⟩, fun H g j hj x H' y => ⟨y.1, ?_⟩, fun H g => ⟨xs, SqT.of (g _ _ h), Nat.le_refl _⟩⟩
  have e := y.2 xs (SqT.of (g _ _ h))
  rw [List.getD_eq_getElem?_getD, e]
  rfl
/-- the results of the first j turns -/
def resF (p : Nat → Bool) (f : Nat → V) (j : Nat) : List V := ((List.range j).filter p).map f
theorem resF_succ (p : Nat → Bool) (f : Nat → V) (j : Nat) : resF p f (j + 1) = if p j = true then resF p f j ++ [f j] else resF p f j := by
  unfold resF
  rw [List.range_succ, List.filter_append, List.map_append]
  by_cases h : p j = true
  · simp [h]
  · simp [h]
theorem resF_le (p : Nat → Bool) (f : Nat → V) (j : Nat) : (resF p f j).length ≤ j := by
  unfold resF
  rw [List.length_map]
  have := List.length_filter_le p (List.range j)
  rw [List.length_range] at this
  exact this
theorem lc_filter {J : It} {H1 : Hp} {n : Nat} {xs : Nat → V} {i : Nat} {tt : TT} {te : TE} {σ : L2.St} {Q : VK} (hJ : JOk J H1 n xs) (p : Nat → Bool) (f : Nat → V) (hn : n ≤ sizeLine)
    (ht : ∀ j, j < n → ∀ H', Grow H1 H' → ∀ R : Bool → Hp → Prop, (∀ H2, Grow H' H2 → R (p j) H2) → tt ((wipe σ [i]).set i (some (xs j))) H' R)
    (he : ∀ j, j < n → p j = true → ∀ H', Grow H1 H' → ∀ R : VK, (∀ H2, Grow H' H2 → R (f j) H2) → te ((wipe σ [i]).set i (some (xs j))) H' R)
    (k : ∀ D H', Grow H1 H' → H1 D = none → H' D = some (.lst (resF p f n)) → Q (.ref D) H')
    (hw : ∀ x, wipe ((wipe σ [i]).set i (some x)) [i] = wipe σ [i]) : LcJ (gName i) tt te [i] σ Q J H1 := by
  intro D hD
  have g0 : ∀ {H : Hp} {o : HO}, Grow H1 H → Grow H1 (upd H D o) := fun {H o} g b u e => by
    rw [upd_ne (fun z => by rw [z, hD] at e; cases e)]; exact g b u e
  refine ⟨fun j m H' => j ≤ n ∧ m = n - j ∧ Grow H1 H' ∧ H' D = some (.lst (resF p f j)), ⟨_, Nat.zero_le _, rfl, g0 .refl, upd_same⟩, fun j m H' ⟨hj, hm, g, hd⟩ => ?_⟩
  by_cases e : j = n
  · subst e
    exact .inl ⟨hJ.stop _ g, k D H' g hD hd⟩
  · have hj' : j < n := by omega
    refine .inr ⟨hJ.go _ g _ hj', fun H'' => Grow H1 H'' ∧ H'' D = some (.lst (resF p f (j + 1))), fun H'' ⟨g', hd'⟩ => ⟨n - (j + 1), by omega, by omega, rfl, g', hd'⟩, ?_⟩
    intro x H'' y
    obtain ⟨rfl, rfl⟩ := hJ.yld _ g _ hj' x H'' y
    refine ⟨hw _, ht j hj' _ g _ fun H2 g2 => ?_⟩
    by_cases hp : p j = true
    · rw [hp, if_pos rfl]
      refine he j hj' hp _ (g.trans g2) _ fun H3 g3 => ?_
      refine ⟨_, g3 _ _ (g2 _ _ hd), ?_, g0 ((g.trans g2).trans g3), ?_⟩
      · have := resF_le p f j
        omega
      · rw [upd_same, resF_succ, if_pos hp]
    · have hp' : p j = false := by simpa using hp
      rw [hp', if_neg (by decide)]
      refine ⟨g.trans g2, ?_⟩
      rw [resF_succ, if_neg hp]
      exact g2 _ _ hd
theorem resF_all (f : Nat → V) (n : Nat) : resF (fun _ => true) f n = (List.range n).map f := by
  unfold resF
  rw [List.filter_eq_self.mpr (fun _ _ => rfl)]
theorem lc_map {J : It} {H1 : Hp} {n : Nat} {xs : Nat → V} {i : Nat} {te : TE} {σ : L2.St} {Q : VK} (hJ : JOk J H1 n xs) (f : Nat → V) (hn : n ≤ sizeLine)
    (he : ∀ j, j < n → ∀ H', Grow H1 H' → ∀ R : VK, (∀ H2, Grow H' H2 → R (f j) H2) → te ((wipe σ [i]).set i (some (xs j))) H' R)
    (k : ∀ D H', Grow H1 H' → H1 D = none → H' D = some (.lst ((List.range n).map f)) → Q (.ref D) H')
    (hw : ∀ x, wipe ((wipe σ [i]).set i (some x)) [i] = wipe σ [i]) : LcJ (gName i) tYes te [i] σ Q J H1 :=
  lc_filter hJ (fun _ => true) f hn (fun j hj H' g R hR => hR _ .refl) (fun j hj _ H' g R hR => he j hj H' g R hR) (fun D H' g hD hd => k D H' g hD (by rw [resF_all] at hd; exact hd)) hw
end HG

/-! The pen, its list of cells named. -/
namespace HG
open PySem L2
/-- the pen at p with its cells at l, at most n cells used -/
def PenL (H : Hp) (p l : Addr) (n : Nat) : Prop := ∃ (cells : List Int) (turn rest : Int), H p = some (.lst [.ref l, .int turn, .int rest]) ∧ H l = some (.lst (cells.map V.int)) ∧ cells.length ≤ 63 ∧ 0 ≤ turn ∧ turn ≤ n ∧ 0 ≤ rest
section
variable {H H' : Hp} {p l b : Addr} {m n : Nat}
theorem PenL.grow (h : PenL H p l n) (g : Grow H H') : PenL H' p l n := by
  obtain ⟨c, t, r, h1, h2, h3⟩ := h
  exact ⟨c, t, r, g _ _ h1, g _ _ h2, h3⟩
theorem PenL.up (h : PenL H p l m) (g : m ≤ n) : PenL H p l n := by
  obtain ⟨c, t, r, h1, h2, h3, h4, h5, h6⟩ := h
  exact ⟨c, t, r, h1, h2, h3, h4, by omega, h6⟩
theorem PenL.lst (h : PenL H p l n) : ∃ xs, H p = some (.lst xs) := by
  obtain ⟨c, t, r, h1, h2, h3⟩ := h
  exact ⟨_, h1⟩
theorem PenL.fresh (h : PenL H p l n) (q : H b = none) : b ≠ p := by
  obtain ⟨xs, e⟩ := h.lst
  rintro rfl
  rw [e] at q
  cases q
theorem PenL.freshL (h : PenL H p l n) (q : H b = none) : b ≠ l := by
  obtain ⟨c, t, r, h1, h2, h3⟩ := h
  rintro rfl
  rw [h2] at q
  cases q
theorem PenL.upd {o : HO} (h : PenL H p l n) (h1 : b ≠ p) (h2 : b ≠ l) : PenL (L2.upd H b o) p l n := by
  obtain ⟨c, t, r, e1, e2, e3⟩ := h
  exact ⟨c, t, r, by rw [upd_ne h1.symm]; exact e1, by rw [upd_ne h2.symm]; exact e2, e3⟩
end
def spPenL (K : PySem.W.Frag) : Sp := fun vs H Q _ => match vs with
  | [.ref a] => ∃ ns : List Int, SqL K H a (ns.map V.int) ∧ ∀ p l H', PenL H' p l 0 → Grow H H' → H p = none → Q (.ref p) H'
  | _ => False
def spDrawL : Sp := fun vs H Q _ => match vs with
  | [.ref p, .int many] => ∃ (l : Addr) (n : Nat), PenL H p l n ∧ n ≤ 999999 ∧ 0 < many ∧ many.natAbs.log2 < 9000 ∧ ∀ (d : Int) (H' : Hp), 0 ≤ d → d < many → PenL H' p l (n + 1) → Keep p H H' → Q (.int d) H'
  | _ => False
def spPickL : Sp := fun vs H Q _ => match vs with
  | [.ref p, .ref s] => ∃ (l : Addr) (n : Nat) (xs : List V), PenL H p l n ∧ n ≤ 999999 ∧ H s = some (.lst xs) ∧ s ≠ p ∧ xs ≠ [] ∧ xs.length ≤ 100000 ∧ ∀ (x : V) (H' : Hp), x ∈ xs → PenL H' p l (n + 1) → Keep p H H' → Q x H'
  | _ => False
/-- a comprehension with draws: values of a kind P, c draws a turn -/
theorem lc_pen {J : It} {H1 : Hp} {n m : Nat} {p l : Addr} {xs : Nat → V} {i : Nat} {te : TE} {σ : L2.St} {Q : VK} (P : V → Prop) (c : Nat) (hp : PenL H1 p l m)
    (hgo : ∀ H, Keep p H1 H → ∀ j, j < n → J.go j H) (hyld : ∀ H, Keep p H1 H → ∀ j, j < n → ∀ x H', J.yld j H x H' → H' = H ∧ x = xs j) (hstop : ∀ H, Keep p H1 H → J.stop n H) (hn : n ≤ sizeLine)
    (he : ∀ j, j < n → ∀ H', PenL H' p l (m + c * j) → Keep p H1 H' → ∀ R : VK, (∀ v H2, P v → PenL H2 p l (m + c * (j + 1)) → Keep p H' H2 → R v H2) → te ((wipe σ [i]).set i (some (xs j))) H' R)
    (k : ∀ D H' vs, vs.length = n → (∀ v ∈ vs, P v) → PenL H' p l (m + c * n) → Keep p H1 H' → H1 D = none → H' D = some (.lst vs) → Q (.ref D) H')
    (hw : ∀ x, wipe ((wipe σ [i]).set i (some x)) [i] = wipe σ [i]) : LcJ (gName i) tYes te [i] σ Q J H1 := by
  intro D hD
  have hDp : D ≠ p := hp.fresh hD
  have hDl : D ≠ l := hp.freshL hD
  have g0 : ∀ {H : Hp} {o : HO}, Keep p H1 H → Keep p H1 (upd H D o) := fun {H o} g b u nb e => by
    rw [upd_ne (fun z => by rw [z, hD] at e; cases e)]; exact g b u nb e
  refine ⟨fun j q H' => j ≤ n ∧ q = n - j ∧ PenL H' p l (m + c * j) ∧ Keep p H1 H' ∧ ∃ vs, vs.length = j ∧ (∀ v ∈ vs, P v) ∧ H' D = some (.lst vs),
    ⟨_, Nat.zero_le _, rfl, (hp.up (by omega)).upd hDp hDl, g0 .refl, [], rfl, fun v hv => (List.not_mem_nil hv).elim, upd_same⟩, ?_⟩
  rintro j q H' ⟨hj, hq, hp', kp, vs, hl, hv, hd⟩
  by_cases e : j = n
  · subst e
    exact .inl ⟨hstop _ kp, k D H' vs hl hv hp' kp hD hd⟩
  · have hj' : j < n := by omega
    refine .inr ⟨hgo _ kp _ hj', fun H'' => PenL H'' p l (m + c * (j + 1)) ∧ Keep p H1 H'' ∧ ∃ vs, vs.length = j + 1 ∧ (∀ v ∈ vs, P v) ∧ H'' D = some (.lst vs), fun H'' z => ⟨n - (j + 1), by omega, by omega, rfl, z⟩, ?_⟩
    intro x H'' y
    obtain ⟨rfl, rfl⟩ := hyld _ kp _ hj' x H'' y
    refine ⟨hw _, ?_⟩
    simp only [tYes, if_true]
    refine he j hj' _ hp' kp _ fun v H2 hP hp2 k2 => ?_
    refine ⟨vs, k2 _ _ hDp hd, by omega, hp2.upd hDp hDl, g0 (kp.trans k2), vs ++ [v], by rw [List.length_append, hl]; rfl, ?_, upd_same⟩
    intro u hu
    rcases List.mem_append.mp hu with hu | hu
    · exact hv u hu
    · rw [List.mem_singleton] at hu
      subst hu
      exact hP
theorem keep_rng {p : Addr} {H1 : Hp} {lo : Int} {n : Nat} : (∀ H, Keep p H1 H → ∀ j, j < n → (Itr lo n).go j H) ∧ (∀ H, Keep p H1 H → ∀ j, j < n → ∀ x H', (Itr lo n).yld j H x H' → H' = H ∧ x = (fun j : Nat => V.int (lo + j)) j) ∧ ∀ H, Keep p H1 H → (Itr lo n).stop n H :=
  ⟨fun _ _ _ h => h, fun _ _ _ _ _ _ h => h, fun _ _ => Nat.le_refl _⟩
end HG

/-! Static methods, called off the class. -/
namespace HG
open PySem L2 PyProof.Rows
structure SMet (K : PySem.W.Frag) (C : Addr) (m : Str) (p g : Addr) : Prop where
  rd : ∃ mc, PySem.W.readsIn K C mc = true ∧ PySem.W.findCls K (.ref C) mc m = some (.get (.builtin "staticmethod.__get__") (.ref p) .none (.ref C))
  ga : PySem.W.specialIn K (.ref C) "__getattribute__" = some (some (.builtin "type.__getattribute__"))
  rc : ∃ rest, PySem.W.recIn K p "staticmethod" = some (.ref g :: rest)
  kp : PySem.W.keepIn K (.ref g) = true
def tSMeth (C : Addr) (sp : Sp) (dvs : List V) (E : XK) (ta : TE) (t : TA) : TE := fun σ H Q => ta σ H fun x H1 => x = .ref C ∧ t σ H1 fun vs H2 => sp (vs ++ dvs) H2 Q E
section
variable {X : Cx} {CX : CXT} {k : Nat} {f C p' : Addr} {fd : FuncData} {ps : List Str} {sp : Sp} {dvs : List V} {ds : List Value} {E : XK} {m : Str} {pos apos : Pos} {e o : Expr} {es : List Expr} {ta : TE} {t : TA} {pl : Sem Bool}
theorem getsm_ok {pins : List (Addr × Obj)} {σ : L2.St} {H : Hp} {s : Shared} {Q : Value × List Value → Shared → Prop} {E : Value → Shared → Prop} (I : Inv X pins σ H s) (M : SMet X.K C m p' f) (h : Q (.ref f, []) { s with toks := s.toks + 1 }) :
    wpAny (model X.prog X.w) X.A (getMethod (.ref C) m pl) Q E s := by
  obtain ⟨mc, hr, he⟩ := M.rd
  obtain ⟨rest, hp⟩ := M.rc
  exact PySem.W.method_cls I.kIn M.ga (PySem.W.cls_bind I.kIn hr he (wpAny_call (PySem.W.sm_get (s := { s with toks := s.toks + 1 }) I.kIn hp (PySem.W.handed_on rfl h))))
theorem pe_smethG (he : PE X o ta) (M : SMet X.K C m p' f) (F : FnG X.prog X.w X.K X.mg X.base CX k f fd ps sp) (hr : Room k X.A) (hG : GA X.A) (hb : Binds X.K fd ps ds) (hd : Vals dvs ds) (hx : Passes CX X E) (ha : PA X (e :: es) t)
    (hst : starEach (e :: es) X.env = (false, eval e X.env) :: starEach es X.env := by rfl) (hpl : (backTo pos (starEach es X.env)).any (·.1) = false := by rfl)
    (ht : eval (.Call (.Attribute o m apos) (e :: es) [] pos) X.env = (do
      let ov ← eval o X.env
      standAt apos.atName
      let (f, first) ← holding [ov] (getMethod ov m pl)
      callWith pos f first (backTo pos (starEach (e :: es) X.env)) (backToKw pos (keywordEach [] X.env))) := by rfl) :
    PE X (.Call (.Attribute o m apos) (e :: es) [] pos) (tSMeth C sp dvs E ta t) := by
  refine ⟨fun pins s σ H Q I h => PySem.W.methodCall_KW (pl := pl) (thn (he.run pins s σ H _ I h) fun u s1 z => ?_) ht⟩
  obtain ⟨v, H1, I1, rx, rfl, q⟩ := z
  cases rx
  have I2 := I1.tok (s1.toks + 1)
  refine getsm_ok I1 M (PySem.W.callWith_K (first := []) (h₀ := X.base) I.ok.mod.kin M.kp (thn (ha.run pos pins _ σ H1 _ I2 q) fun us s2 z => ?_) hst hpl)
  obtain ⟨vs, H2, I3, r, q2⟩ := z
  exact ⟨I3.kIn, runG (us := us) (vs := vs) F hr hG hb hd hx I3 r q2⟩
theorem pe_smethG0 (he : PE X o ta) (M : SMet X.K C m p' f) (F : FnG X.prog X.w X.K X.mg X.base CX k f fd ps sp) (hr : Room k X.A) (hG : GA X.A) (hb : Binds X.K fd ps ds) (hd : Vals dvs ds) (hx : Passes CX X E)
    (ht : eval (.Call (.Attribute o m apos) [] [] pos) X.env = (do
      let ov ← eval o X.env
      standAt apos.atName
      let (f, first) ← holding [ov] (getMethod ov m pl)
      callWith pos f first (backTo pos (starEach [] X.env)) (backToKw pos (keywordEach [] X.env))) := by rfl) :
    PE X (.Call (.Attribute o m apos) [] [] pos) (tSMeth C sp dvs E ta tNil) := by
  refine ⟨fun pins s σ H Q I h => PySem.W.methodCall_KW (pl := pl) (thn (he.run pins s σ H _ I h) fun u s1 z => ?_) ht⟩
  obtain ⟨v, H1, I1, rx, rfl, q⟩ := z
  cases rx
  have I2 := I1.tok (s1.toks + 1)
  exact getsm_ok I1 M (PySem.W.callWith_K0 I2.kIn M.kp (runG (us := []) (vs := []) F hr hG hb hd hx I2 .nil q))
/-- o.m(), no values -/
theorem pe_methG0 (he : PE X o ta) (c : Cls X.K C) (hm : Meth X.K C m f) (F : FnG X.prog X.w X.K X.mg X.base CX k f fd ps sp) (hr : Room k X.A) (hG : GA X.A) (hb : Binds X.K fd ps ds) (hd : Vals dvs ds) (hx : Passes CX X E)
    (ht : eval (.Call (.Attribute o m apos) [] [] pos) X.env = (do
      let ov ← eval o X.env
      standAt apos.atName
      let (f, first) ← holding [ov] (getMethod ov m pl)
      callWith pos f first (backTo pos (starEach [] X.env)) (backToKw pos (keywordEach [] X.env))) := by rfl) :
    PE X (.Call (.Attribute o m apos) [] [] pos) (tMeth C m sp dvs E ta tNil) := by
  refine ⟨fun pins s σ H Q I h => PySem.W.methodCall_KW (pl := pl) (thn (he.run pins s σ H _ I h) fun u s1 z => ?_) ht⟩
  obtain ⟨v, H1, I1, rx, a, dx, fs, rfl, ea, l, q⟩ := z
  cases rx
  exact getmeth_ok I1 ea c hm l (PySem.W.callWith_K0 I1.kIn hm.kp (runG (us := [.ref a]) (vs := [.ref a]) F hr hG hb hd hx I1 (.cons rfl .nil) q))
end
end HG

/-! Sequences by evidence: tracked lists and tuples, tuples of the written part. -/
namespace HG
open PySem L2
inductive Sq (K : PySem.W.Frag) (H : Hp) (p : Addr) (xs : List V) : Prop where
  | l (h : H p = some (.lst xs)) : Sq K H p xs
  | t (h : H p = some (.tup xs)) : Sq K H p xs
  | k (o : Obj) (its : Array Value) (n : Nat) (h : K.lookup p = some o) (c : o.cls = .type "tuple") (d : o.data = .seq its n) (z : its.size ≤ sizeLine) (r : Vals xs its.toList) : Sq K H p xs
inductive St (K : PySem.W.Frag) (H : Hp) (p : Addr) (xs : List V) : Prop where
  | t (h : H p = some (.tup xs)) : St K H p xs
  | k (o : Obj) (its : Array Value) (n : Nat) (h : K.lookup p = some o) (c : o.cls = .type "tuple") (d : o.data = .seq its n) (z : its.size ≤ sizeLine) (r : Vals xs its.toList) : St K H p xs
section
variable {K : PySem.W.Frag} {H H' : Hp} {p : Addr} {xs : List V} {Q : VK}
theorem St.sq (h : St K H p xs) : Sq K H p xs := by
  cases h with
  | t h => exact .t h
  | k o its n h c d z r => exact .k o its n h c d z r
theorem Sq.grow (h : Sq K H p xs) (g : Grow H H') : Sq K H' p xs := by
  cases h with
  | l h => exact .l (g _ _ h)
  | t h => exact .t (g _ _ h)
  | k o its n h c d z r => exact .k o its n h c d z r
theorem St.grow (h : St K H p xs) (g : Grow H H') : St K H' p xs := by
  cases h with
  | t h => exact .t (g _ _ h)
  | k o its n h c d z r => exact .k o its n h c d z r
theorem St.sqT (h : St K H p xs) : SqT K H p xs := by
  cases h with
  | t h => exact SqT.of h
  | k o its n h c d z r => exact .inr ⟨o, its, n, h, c, d, z, r⟩
theorem Sq.or (h : Sq K H p xs) : SqL K H p xs ∨ SqT K H p xs := by
  cases h with
  | l h => exact .inl (SqL.of h)
  | t h => exact .inr (SqT.of h)
  | k o its n h c d z r => exact .inr (.inr ⟨o, its, n, h, c, d, z, r⟩)
theorem Sq.ty (h : Sq K H p xs) : ∃ t, TyX K H (.ref p) t ∧ PySem.W.kitAny K t [.type "list", .type "tuple"] = some true := by
  cases h with
  | l h => exact ⟨_, .base (.lst h), kitLT_l⟩
  | t h => exact ⟨_, .base (.tup h), kitLT_t⟩
  | k o its n h c d z r => exact ⟨_, .kTuple h c, kitLT_t⟩
/-! readings by evidence -/
def cLenE (K : PySem.W.Frag) : List V → Hp → VK → Prop := fun xs H Q => ∃ p ys, xs = [.ref p] ∧ (SqL K H p ys ∨ SqT K H p ys) ∧ Q (.int ys.length) H
theorem call_lenE {X : Cx} : CallR X (.builtin "len") (cLenE X.K) := call_len_seq
theorem lenE (h : Sq K H p xs) (k : Q (.int xs.length) H) : cLenE K [.ref p] H Q := ⟨p, xs, rfl, h.or, k⟩
theorem ixE {i : Int} {v : V} (h : Sq K H p xs) (e : atI xs i = some v) (k : Q v H) : rIx K (.ref p) (.int i) H Q := by
  rcases h.or with h | h
  · exact .inl ⟨p, xs, i, v, rfl, rfl, h, e, k⟩
  · exact .inr (.inl ⟨p, xs, i, v, rfl, rfl, h, e, k⟩)
theorem isiE {tp : Addr} (h : Sq K H p xs) (ht : H tp = some (.tup [.ty "list", .ty "tuple"])) (k : Q (.bl true) H) : rIsiT K [.ref p, .ref tp] H Q := by
  obtain ⟨t, h1, h2⟩ := h.ty
  exact ⟨_, tp, _, t, _, true, rfl, ht, .cons (.ty _) (.cons (.ty _) .nil), h1, h2, k⟩
def cTupE (K : PySem.W.Frag) : List V → Hp → VK → Prop := fun xs H Q => ∃ p ys, xs = [.ref p] ∧ ((SqL K H p ys ∧ ∀ l, H l = none → Q (.ref l) (upd H l (.tup ys))) ∨ (SqT K H p ys ∧ Q (.ref p) H))
theorem call_tupE {X : Cx} : CallR X (.type "tuple") (cTupE X.K) := call_tuple_of
/-- tuple(x): a tuple with these items, the same or new -/
theorem tupE (h : Sq K H p xs) (k : ∀ q H', Grow H H' → St K H' q xs → Q (.ref q) H') : cTupE K [.ref p] H Q := by
  cases h with
  | l h => exact ⟨p, xs, rfl, .inl ⟨SqL.of h, fun l hl => k l _ (Grow.new hl) (.t upd_same)⟩⟩
  | t h => exact ⟨p, xs, rfl, .inr ⟨SqT.of h, k p H .refl (.t h)⟩⟩
  | k o its n h c d z r => exact ⟨p, xs, rfl, .inr ⟨.inr ⟨o, its, n, h, c, d, z, r⟩, k p H .refl (.k o its n h c d z r)⟩⟩
theorem jok_sq {a : Addr} {H1 : Hp} {R : It → Hp → Prop} (h : Sq K H1 a xs) (k : ∀ J, JOk J H1 xs.length (fun j => xs.getD j .non) → R J H1) : ∃ a', V.ref a = .ref a' ∧ (((∃ xs, SqL K H1 a' xs) ∧ R (Itl K a') H1) ∨ ((∃ xs, SqT K H1 a' xs) ∧ R (Itt K a') H1)) := by
  refine ⟨a, rfl, ?_⟩
  cases h with
  | l h => exact .inl ⟨⟨_, SqL.of h⟩, k _ (jok_lst h)⟩
  | t h => exact .inr ⟨⟨_, SqT.of h⟩, k _ (jok_tup h)⟩
  | k o its n h c d z r =>
    have sq : ∀ H, SqT K H a xs := fun H => .inr ⟨o, its, n, h, c, d, z, r⟩
    refine .inr ⟨⟨_, sq _⟩, k _ ⟨fun H g j hj => ⟨xs, _, sq H, List.getElem?_eq_getElem hj⟩, fun H g j hj x H' y => ⟨y.1, ?_⟩, fun H g => ⟨xs, sq H, Nat.le_refl _⟩⟩⟩
    have e := y.2 xs (sq H)
    rw [List.getD_eq_getElem?_getD, e]
    rfl
end
/-! ### numbers or None -/
def oV : Option Int → V
  | none => .non
  | some i => .int i
section
variable {K : PySem.W.Frag} {H : Hp} {Q : VK}
theorem oIs_oV {o : Option Int} : oIs (oV o) .non H Q = Q (.bl o.isNone) H := by cases o <;> rfl
theorem oIsNot_oV {o : Option Int} : oIsNot (oV o) .non H Q = Q (.bl o.isSome) H := by cases o <;> rfl
def eqO (a b : Option Int) : Bool := decide (a = b)
theorem oEq_oV {a b : Option Int} : oEq K (oV a) (oV b) H Q = Q (.bl (decide (a = b))) H ∨ (Q (.bl (decide (a = b))) H → oEq K (oV a) (oV b) H Q) := by
  right
  intro h
  cases a with
  | none =>
    cases b with
    | none => exact ⟨rfl, rfl, h⟩
    | some j => exact ⟨rfl, rfl, h⟩
  | some i =>
    cases b with
    | none => exact ⟨rfl, rfl, h⟩
    | some j =>
      show Q (.bl (decide (i = j))) H
      have e : decide (some i = some j) = decide (i = j) := decide_eq_decide.mpr ⟨fun z => Option.some.inj z, fun z => by rw [z]⟩
      rw [e] at h
      exact h
theorem eqE {a b : Option Int} (h : Q (.bl (decide (a = b))) H) : oEq K (oV a) (oV b) H Q := (oEq_oV (K := K) (H := H) (Q := Q)).elim (fun e => e ▸ h) (fun f => f h)
theorem data_oV {n : Nat} {o : Option Int} : dataF n H (oV o) = some (match o with | none => .none | some i => .int i) := by
  cases o <;> cases n <;> rfl
end
end HG
namespace HG
open PySem L2
section
variable {K : PySem.W.Frag} {H : Hp} {Q : VK} {p : Addr} {xs : List V}
theorem tupL (h : H p = some (.lst xs)) (k : ∀ l H', Grow H H' → H' l = some (.tup xs) → Q (.ref l) H') : cTupE K [.ref p] H Q :=
  ⟨p, xs, rfl, .inl ⟨SqL.of h, fun l hl => k l _ (Grow.new hl) upd_same⟩⟩
def oD : Option Int → PyData
  | none => .none
  | some i => .int i
theorem dataF_oV {n : Nat} {o : Option Int} : dataF n H (oV o) = some (oD o) := by cases o <;> cases n <;> rfl
theorem dataL_oVs {n : Nat} : ∀ os : List (Option Int), dataL (dataF n H) (os.map oV) = some (os.map oD)
  | [] => rfl
  | o :: r => by
    show (match dataF n H (oV o) with | some d => (match dataL (dataF n H) (r.map oV) with | some ds => some (d :: ds) | none => none) | none => none) = _
    rw [dataF_oV, dataL_oVs r]
    rfl
theorem shape_oVs : ∀ os : List (Option Int), PyData.canLayAll0 (os.map oD) = true ∧ PyData.depthAll (os.map oD) = 0
  | [] => ⟨rfl, rfl⟩
  | o :: r => by
    obtain ⟨h1, h2⟩ := shape_oVs r
    constructor
    · show (PyData.canLay0 (oD o) && PyData.canLayAll0 (r.map oD)) = true
      rw [h1]
      cases o <;> rfl
    · show max (PyData.depth (oD o)) (PyData.depthAll (r.map oD)) = 0
      rw [h2]
      cases o <;> rfl
theorem shaped_oVs (os : List (Option Int)) : SeqAt.shaped (.list (os.map oD)) = true ∧ SeqAt.shaped (.tuple (os.map oD)) = true := by
  obtain ⟨h1, h2⟩ := shape_oVs os
  constructor
  · show (PyData.canLayAll0 (os.map oD) && decide (PyData.depthAll (os.map oD) + 1 ≤ 64)) = true
    rw [h1, h2]; rfl
  · show (PyData.canLayAll0 (os.map oD) && decide (PyData.depthAll (os.map oD) + 1 ≤ 64)) = true
    rw [h1, h2]; rfl
theorem dataF_lst {n : Nat} {os : List (Option Int)} (h : H p = some (.lst (os.map oV))) : dataF (n + 1) H (.ref p) = some (.list (os.map oD)) := by
  simp only [dataF, h]
  rw [dataL_oVs]
  rfl
theorem dataF_tup {n : Nat} {os : List (Option Int)} (h : H p = some (.tup (os.map oV))) : dataF (n + 1) H (.ref p) = some (.tuple (os.map oD)) := by
  simp only [dataF, h]
  rw [dataL_oVs]
  rfl
theorem any_none : ∀ os : List (Option Int), ((os.map oD).any fun z => PyData.eqv z .none) = os.any (·.isNone)
  | [] => rfl
  | o :: r => by
    show (PyData.eqv (oD o) .none || (r.map oD).any fun z => PyData.eqv z .none) = (o.isNone || r.any (·.isNone))
    rw [any_none r]
    cases o <;> rfl
/-- None in a list of numbers and Nones -/
theorem inNone {os : List (Option Int)} (h : H p = some (.lst (os.map oV))) (k : Q (.bl (os.any (·.isNone))) H) : oIn K .non (.ref p) H Q := by
  have e1 : dataF 8 H (.ref p) = some (.list (os.map oD)) := dataF_lst h
  have e2 : dataF 8 H .non = some .none := rfl
  simp only [oIn, e1, e2]
  exact ⟨rfl, (shaped_oVs os).1, by rw [any_none]; exact k⟩
end
end HG

/-! x[i], v in x, str(x) by a class's own methods. -/
namespace HG
open PySem L2 PyProof.Rows
structure Own2 (X : Cx) (k : Nat) (f : Addr) (sp : Sp) : Prop where
  run : ∀ {pins : List (Addr × Obj)} {σ : L2.St} {H : Hp} {s : Shared} {Q : VK} {us : List Value} {vs : List V}, Inv X pins σ H s → Vals vs us → sp vs H Q E0 → wpAny (model X.prog X.w) X.A.in1.in1 (call (.ref f) us) (EP X pins σ Q) X.xe s
section
variable {X : Cx} {CX : CXT} {k : Nat} {f C : Addr} {fd : FuncData} {ps : List Str} {sp : Sp} {ta tb : TE} {a b : Expr} {pos : Pos}
theorem own2G (F : FnG X.prog X.w X.K X.mg X.base CX k f fd ps sp) (hr : Room (k + 2) X.A) (hG : GA X.A) (hb : Binds X.K fd ps []) (hx : Passes CX X E0) : Own2 X k f sp :=
  ⟨fun {pins σ H s Q us vs} I r h => by
    have hl : us.length = ps.length := r.length.symm.trans (F.len _ _ _ _ h)
    have hl' : (us ++ []).length = ps.length := by rw [List.append_nil]; exact hl
    have hb' := hb s us I.kIn hl'
    rw [List.append_nil] at hb'
    exact wpAny_call (codeAny_mono (F.run X.A.in1.in1 X.stack s H ⟨us, []⟩ us vs Q E0 hr.in1.in1 (ga_in1 (ga_in1 hG)) I.env0.in1.in1 hb' r h) fun r s' hq => behind hx I hq)⟩
/-- x[i] -/
structure IxF (K : PySem.W.Frag) (C f : Addr) : Prop where
  fn : PySem.W.findIn K (.ref C) "__getitem__" = some (some (.ref f))
  fi : PySem.W.fnIn K f = true
  isf : PySem.W.isFn K (.ref f) = true
def rIxO (C : Addr) (sp : Sp) : R2 := fun x y H Q => isIns C H x ∧ sp [x, y] H Q E0
theorem pe_ixO (B : IxF X.K C f) (O : Own1 X k f sp) (ha : PE X a ta) (hb : PE X b tb) (hs : ∀ (x : Addr) (i : Value), subscripted b true (.ref x) i = runValue (.builtin "lifetime.subscript" ⟨[.ref x, i], []⟩)) : PE X (.Subscript a b pos) (tOp (rIxO C sp) ta tb) := by
  refine ⟨fun pins s σ H Q I h => ?_⟩
  refine Subscript_ (binT ha hb I h fun v u s2 x y H2 I2 rx ry q => ?_)
  obtain ⟨h1, h3⟩ := q
  obtain ⟨p, dx, fs, rfl, ea⟩ := isIns_out h1
  cases rx
  obtain ⟨mA, J, _⟩ := ins_get I2.hok ea
  obtain ⟨od, J, _⟩ := J.look
  obtain ⟨m, hF⟩ := I2.fr
  exact PySem.W.sub_K hF I2.ok.mod.kin J B.fn B.fi B.isf (O.run (vs := [.ref p, y]) I2 (.cons rfl (.cons ry .nil)) h3) (hs _ _)
/-- v in x -/
structure InF (K : PySem.W.Frag) (C f : Addr) : Prop where
  fn : PySem.W.findIn K (.ref C) "__contains__" = some (some (.ref f))
  isf : PySem.W.isFn K (.ref f) = true
def rInO (C : Addr) (sp : Sp) : R2 := fun x y H Q => isIns C H y ∧ sp [y, x] H (fun v H' => ∃ b, v = .bl b ∧ Q (.bl b) H') E0
theorem op_inO (B : InF X.K C f) (O : Own X k f sp) : OpR X (compareOp .In) (rInO C sp) := by
  intro pins s σ H x y v u Q I rx ry h
  obtain ⟨h1, h3⟩ := h
  obtain ⟨p, dx, fs, rfl, ea⟩ := isIns_out h1
  cases ry
  obtain ⟨mA, J, _⟩ := ins_get I.hok ea
  obtain ⟨od, J, _⟩ := J.look
  obtain ⟨m, hF⟩ := I.fr
  refine PySem.W.in_K hF I.ok.mod.kin J B.fn B.isf (thn (O.run (vs := [.ref p, x]) I (.cons rfl (.cons rx .nil)) h3) fun r s' z => ?_)
  obtain ⟨w, H', I', rw', b, rfl, q⟩ := z
  cases rw'
  exact wpAny_of_eq (a := b) rfl ⟨.bl b, H', I', rfl, q⟩
def rNotInO (C : Addr) (sp : Sp) : R2 := fun x y H Q => isIns C H y ∧ sp [y, x] H (fun v H' => ∃ b, v = .bl b ∧ Q (.bl (!b)) H') E0
theorem op_notInO (B : InF X.K C f) (O : Own X k f sp) : OpR X (compareOp .NotIn) (rNotInO C sp) := by
  intro pins s σ H x y v u Q I rx ry h
  obtain ⟨h1, h3⟩ := h
  obtain ⟨p, dx, fs, rfl, ea⟩ := isIns_out h1
  cases ry
  obtain ⟨mA, J, _⟩ := ins_get I.hok ea
  obtain ⟨od, J, _⟩ := J.look
  obtain ⟨m, hF⟩ := I.fr
  refine PySem.W.notIn_K hF I.ok.mod.kin J B.fn B.isf (thn (O.run (vs := [.ref p, x]) I (.cons rfl (.cons rx .nil)) h3) fun r s' z => ?_)
  obtain ⟨w, H', I', rw', b, rfl, q⟩ := z
  cases rw'
  exact wpAny_of_eq (a := b) rfl ⟨.bl (!b), H', I', rfl, q⟩
/-- str(x) -/
structure StrF (K : PySem.W.Frag) (C f : Addr) : Prop where
  fn : PySem.W.findIn K (.ref C) "__str__" = some (some (.ref f))
  isf : PySem.W.isFn K (.ref f) = true
def rStrO (C : Addr) (sp : Sp) : List V → Hp → VK → Prop := fun xs H Q => ∃ x, xs = [x] ∧ isIns C H x ∧ sp [x] H (fun v H' => ∃ z, v = .str z ∧ Q (.str z) H') E0
theorem call_strO (B : StrF X.K C f) (O : Own2 X k f sp) (hu : X.A.in1.in1.units < cLine) : CallR X (.type "str") (rStrO C sp) := by
  intro pins s σ H xs us Q I rx h
  obtain ⟨x, rfl, h1, h3⟩ := h
  obtain ⟨p, dx, fs, rfl, ea⟩ := isIns_out h1
  cases rx with
  | cons r1 r2 =>
    cases r2
    cases r1
    obtain ⟨mA, J, _⟩ := ins_get I.hok ea
    obtain ⟨od, J, _⟩ := J.look
    refine PySem.W.kso_call hu I.kIn J B.fn B.isf (thn (O.run (vs := [.ref p]) I (.cons rfl .nil) h3) fun r s' z => ?_)
    obtain ⟨w, H', I', rw', z, rfl, q⟩ := z
    obtain ⟨t, rfl⟩ := rw'
    exact ⟨.str z, H', I', ⟨_, rfl⟩, q⟩
theorem _root_.L2.Room.units2 {k : Nat} {A : Around} (r : Room k A) : A.in1.in1.units < cLine := by
  have := r.un
  show A.units + 1 + 1 < cLine
  omega
end
end HG
namespace HG
open PySem L2
/-- a tracked list or tuple -/
inductive Sr (H : Hp) (p : Addr) (xs : List V) : Prop where
  | l (h : H p = some (.lst xs)) : Sr H p xs
  | t (h : H p = some (.tup xs)) : Sr H p xs
section
variable {K : PySem.W.Frag} {H H' : Hp} {p : Addr} {xs : List V} {Q : VK}
theorem Sr.sq (h : Sr H p xs) : Sq K H p xs := by
  cases h with
  | l h => exact .l h
  | t h => exact .t h
theorem Sr.grow (h : Sr H p xs) (g : Grow H H') : Sr H' p xs := by
  cases h with
  | l h => exact .l (g _ _ h)
  | t h => exact .t (g _ _ h)
theorem tupR (h : Sr H p xs) (k : ∀ q H', Grow H H' → H' q = some (.tup xs) → Q (.ref q) H') : cTupE K [.ref p] H Q := by
  cases h with
  | l h => exact ⟨p, xs, rfl, .inl ⟨SqL.of h, fun l hl => k l _ (Grow.new hl) upd_same⟩⟩
  | t h => exact ⟨p, xs, rfl, .inr ⟨SqT.of h, k p H .refl h⟩⟩
end
end HG
namespace HG
open PySem L2
/-! folded readings: str of a number or a text, join, append, list -/
def cStr (K : PySem.W.Frag) : List V → Hp → VK → Prop := fun xs H Q => match xs with
  | [.int i] => i.natAbs.log2 < 1920 ∧ Q (.str (toString i)) H
  | [.str a] => Q (.str a) H
  | _ => False
section
variable {X : Cx}
theorem call_strU : CallR X (.type "str") (cStr X.K) := callImp (call_str_int.or SkE.call_str_str) fun xs H Q h => by
  unfold cStr at h
  split at h
  · exact .inl ⟨_, rfl, h.1, h.2⟩
  · exact .inr ⟨_, rfl, h⟩
  · exact h.elim
/-- str of what stands: an instance, or else -/
def cStrO (K : PySem.W.Frag) (C : Addr) (sp : Sp) : List V → Hp → VK → Prop := fun xs H Q => match xs with
  | [.ref a] => rStrO C sp [.ref a] H Q
  | xs => cStr K xs H Q
theorem call_strB {k : Nat} {C f : Addr} {sp : Sp} (B : StrF X.K C f) (O : Own2 X k f sp) (hu : X.A.in1.in1.units < cLine) : CallR X (.type "str") (cStrO X.K C sp) := callImp ((call_strO B O hu).or call_strU) fun xs H Q h => by
  unfold cStrO at h
  split at h
  · exact .inl h
  · exact .inr h
def cListE (K : PySem.W.Frag) : List V → Hp → VK → Prop := fun xs H Q => cList K xs H Q
theorem call_listE : CallR X (.type "list") (cListE X.K) := call_listU
def stE : V → V → V → Hp → (Hp → Prop) → Prop := fun o i v H Q => stL o i v H Q
theorem set_E : PSet X stE := set_U
def rJoinE (K : PySem.W.Frag) : V → List V → Hp → VK → Prop := fun x xs H Q => ∃ a p, ∃ ys : List Str, x = .str a ∧ xs = [.ref p] ∧ (SqL K H p (ys.map V.str) ∨ SqT K H p (ys.map V.str)) ∧ (ys.map (·.length)).sum + ys.length * a.length ≤ 16777216 ∧ Q (.str (Txt.join a ys)) H
def tJoin (K : PySem.W.Frag) (to te : TE) : TE := tM1 (rJoinE K) to te
theorem pe_joinF {o e : Expr} {to te : TE} {apos pos : Pos} (ho : PE X o to) (he : PE X e te) (hs : starEach [e] X.env = [(false, eval e X.env)] := by rfl) (hbase : attributeBase o "join" X.env (eval o X.env) = eval o X.env := by rfl) (hline : (apos.endLine == pos.line) = true := by rfl) :
    PE X (.Call (.Attribute o "join" apos) [e] [] pos) (tJoin X.K to te) := pe_join ho he hs hbase hline
end
section
variable {K : PySem.W.Frag} {H : Hp} {p : Addr} {xs : List V} {Q : VK}
theorem joinE {a : Str} {ys : List Str} (h : Sr H p (ys.map V.str)) (hz : (ys.map (·.length)).sum + ys.length * a.length ≤ 16777216) (k : Q (.str (Txt.join a ys)) H) : rJoinE K (.str a) [.ref p] H Q := by
  cases h with
  | l h => exact ⟨a, p, ys, rfl, rfl, .inl (SqL.of h), hz, k⟩
  | t h => exact ⟨a, p, ys, rfl, rfl, .inr (SqT.of h), hz, k⟩
theorem listE (h : Sr H p xs) (k : ∀ l, H l = none → Q (.ref l) (upd H l (.lst xs))) : cListE K [.ref p] H Q := by
  show cList K [.ref p] H Q
  rw [cList_ref]
  cases h with
  | l h => rw [rdSeq_lst h]; exact k
  | t h => rw [rdSeq_tup h]; exact k
theorem appE {y : V} (h : H p = some (.lst xs)) (hz : xs.length < sizeLine) (k : Q .non (upd H p (.lst (xs ++ [y])))) : rAppend (.ref p) [y] H Q := ⟨p, xs, y, rfl, rfl, h, hz, k⟩
end
end HG

/-! Growths, plainly: values, normal forms. No program in sight. -/
namespace HG
/-- the value at n of told values and gains -/
def gv (told : List (Option Int)) (gains : List Int) (n : Nat) : Option Int :=
  if n < told.length then told.getD n none
  else (told.getD (n - ((n - told.length) / gains.length + 1) * gains.length) none).map (· + (((n - told.length) / gains.length + 1 : Nat) : Int) * gains.getD (n % gains.length) 0)
section
variable {told : List (Option Int)} {gains : List Int} {n : Nat}
theorem gv_lt (h : n < told.length) : gv told gains n = told.getD n none := if_pos h
theorem gv_rec (hp : 0 < gains.length) (hl : gains.length ≤ told.length) (h : told.length ≤ n) : gv told gains n = (gv told gains (n - gains.length)).map (· + gains.getD (n % gains.length) 0) := by
  have hn : ¬ n < told.length := by omega
  unfold gv
  rw [if_neg hn]
  generalize hL : told.length = L at *
  generalize hP : gains.length = p at *
  by_cases h2 : n - p < L
  · rw [if_pos h2]
    have e : (n - L) / p = 0 := Nat.div_eq_of_lt (by omega)
    rw [e]
    have e2 : n - (0 + 1) * p = n - p := by omega
    rw [e2]
    congr 1
    funext x
    show x + ((0 + 1 : Nat) : Int) * _ = x + _
    rw [Nat.zero_add, Int.natCast_one, Int.one_mul]
  · rw [if_neg h2]
    have e : (n - L) / p = (n - p - L) / p + 1 := by
      have : n - L = (n - p - L) + p := by omega
      rw [this, Nat.add_div_right _ hp]
    have e3 : (n - p) % p = n % p := by
      have : n = (n - p) + p := by omega
      rw [this, Nat.add_mod_right, Nat.add_sub_cancel]
    rw [e, e3]
    generalize (n - p - L) / p + 1 = t
    have e2 : n - (t + 1) * p = n - p - t * p := by rw [Nat.add_mul, Nat.one_mul]; omega
    rw [e2, Option.map_map]
    congr 1
    funext x
    show x + ((t + 1 : Nat) : Int) * _ = x + (t : Int) * _ + _
    rw [Int.natCast_add, Int.natCast_one, Int.add_mul, Int.one_mul, Int.add_assoc]
/-- f is the growth of told and gains -/
structure Gr (told : List (Option Int)) (gains : List Int) (f : Nat → Option Int) : Prop where
  pos : 0 < gains.length
  le : gains.length ≤ told.length
  lo : ∀ n, n < told.length → f n = told.getD n none
  hi : ∀ n, told.length ≤ n → f n = (f (n - gains.length)).map (· + gains.getD (n % gains.length) 0)
theorem gr_gv (hp : 0 < gains.length) (hl : gains.length ≤ told.length) : Gr told gains (gv told gains) := ⟨hp, hl, fun n h => gv_lt h, fun n h => gv_rec hp hl h⟩
theorem Gr.eq {f g : Nat → Option Int} (h : Gr told gains f) (k : Gr told gains g) : ∀ n, f n = g n := by
  intro n
  induction n using Nat.strongRecOn with
  | _ n ih =>
    by_cases hn : n < told.length
    · rw [h.lo n hn, k.lo n hn]
    · rw [h.hi n (by omega), k.hi n (by omega), ih (n - gains.length) (by have := h.pos; have := h.le; omega)]
/-- from the last period of the told values on: a step of one period -/
theorem Gr.step {f : Nat → Option Int} (h : Gr told gains f) (hn : told.length - gains.length ≤ n) : f (n + gains.length) = (f n).map (· + gains.getD (n % gains.length) 0) := by
  have := h.hi (n + gains.length) (by have := h.le; omega)
  rw [Nat.add_sub_cancel, Nat.add_mod_right] at this
  exact this
theorem Gr.none {f : Nat → Option Int} (h : Gr told gains f) (hn : told.length - gains.length ≤ n) : f (n + gains.length) = none ↔ f n = none := by
  rw [h.step hn, Option.map_eq_none_iff]
end
/-! ### steps, gains -/
def stepB : Option Int → Option Int → Option Int
  | none, none => some 0
  | some a, some b => some (b - a)
  | _, _ => none
def stepsOf (row : List (Option Int)) (p : Nat) : List (Option Int) := (List.range (row.length - p)).map fun i => stepB (row.getD i none) (row.getD (i + p) none)
def gainsOf (row : List (Option Int)) (origin p : Nat) : Option (List Int) :=
  if (stepsOf row p).any (·.isNone) = true ∨ ¬ (((List.range (stepsOf row p).length).map fun i => decide ((stepsOf row p).getD i none = (stepsOf row p).getD (i % p) none)).all id = true) then none
  else some ((List.range p).map fun r : Nat => ((stepsOf row p).getD (((r : Int) - (origin : Int)) % (p : Int)).toNat none).getD 0)
def leastG (row : List (Option Int)) (origin p : Nat) : Option (List Int) :=
  match (List.range (p - 1)).findSome? fun i => if p % (i + 1) = 0 then gainsOf row origin (i + 1) else none with
  | some g => some g
  | none => gainsOf row origin p
def trimN (told : List (Option Int)) (gains : List Int) : Nat → Nat
  | 0 => 0
  | m + 1 => if gains.length < m + 1 ∧ told.getD m none = (told.getD (m - gains.length) none).map (· + gains.getD (m % gains.length) 0) then trimN told gains m else m + 1
def rowOf (told : List (Option Int)) (gains : List Int) : List (Option Int) := (List.range (3 * gains.length)).map fun i => gv told gains (told.length + i)
def nfG (told : List (Option Int)) (gains : List Int) : List Int := (leastG (rowOf told gains) told.length gains.length).getD []
def nfT (told : List (Option Int)) (gains : List Int) : List (Option Int) := told.take (trimN told (nfG told gains) told.length)
section
variable {told : List (Option Int)} {gains : List Int} {f : Nat → Option Int}
/-! ### trimming keeps the values -/
theorem trimN_le : ∀ m, trimN told gains m ≤ m
  | 0 => Nat.le_refl _
  | m + 1 => by
    unfold trimN
    split
    · exact Nat.le_succ_of_le (trimN_le m)
    · exact Nat.le_refl _
theorem getD_take {α : Type} {l : List α} {m n : Nat} {d : α} (h : n < m) : (l.take m).getD n d = l.getD n d := by
  rw [List.getD_eq_getElem?_getD, List.getD_eq_getElem?_getD, List.getElem?_take_of_lt h]
theorem gr_trim : ∀ m, m ≤ told.length → gains.length ≤ m → Gr (told.take m) gains f → Gr (told.take (trimN told gains m)) gains f
  | 0, _, _, h => h
  | m + 1, hm, hg, h => by
    unfold trimN
    split
    · rename_i c
      refine gr_trim m (by omega) (by omega) ?_
      have l1 : (told.take (m + 1)).length = m + 1 := by rw [List.length_take]; omega
      have l2 : (told.take m).length = m := by rw [List.length_take]; omega
      refine ⟨h.pos, by omega, fun n hn => ?_, fun n hn => ?_⟩
      · rw [h.lo n (by omega), getD_take (by omega), getD_take (by omega)]
      · by_cases e : n = m
        · subst e
          rw [h.lo n (by omega), getD_take (by omega), c.2, h.lo (n - gains.length) (by have := h.pos; omega), getD_take (by omega)]
        · exact h.hi n (by omega)
    · exact h
theorem trimN_ge : ∀ m, gains.length ≤ m → gains.length ≤ trimN told gains m
  | 0, h => h
  | m + 1, h => by
    unfold trimN
    split
    · rename_i c
      exact trimN_ge m (by omega)
    · exact h

/-! ### the gains of a shorter period -/
theorem getD_map_range {α : Type} {n i : Nat} {g : Nat → α} {d : α} (h : i < n) : ((List.range n).map g).getD i d = g i := by
  rw [List.getD_eq_getElem?_getD, List.getElem?_map, List.getElem?_range h]
  rfl
theorem stepB_map {a b : Option Int} {c : Int} (h : stepB a b = some c) : b = a.map (· + c) := by
  cases a with
  | none =>
    cases b with
    | none => rfl
    | some y => cases h
  | some x =>
    cases b with
    | none => cases h
    | some y =>
      have e : y - x = c := Option.some.inj h
      show some y = some (x + c)
      congr 1
      omega
/-- what gainsOf finds -/
theorem gainsOf_spec {row : List (Option Int)} {L l : Nat} {g' : List Int} (hl : 0 < l) (h2 : 2 * l ≤ row.length) (h : gainsOf row L l = some g') :
    ∃ c : Nat → Int, (∀ i, i + l < row.length → row.getD (i + l) none = (row.getD i none).map (· + c (i % l))) ∧ g'.length = l ∧ ∀ n, L ≤ n → g'.getD (n % l) 0 = c ((n - L) % l) := by
  unfold gainsOf at h
  split at h
  · cases h
  · rename_i hc
    have h3 : ¬ (stepsOf row l).any (·.isNone) = true := fun z => hc (.inl z)
    have h4 : (((List.range (stepsOf row l).length).map fun i => decide ((stepsOf row l).getD i none = (stepsOf row l).getD (i % l) none)).all id = true) := Classical.byContradiction fun z => hc (.inr z)
    have eg := Option.some.inj h
    have len : (stepsOf row l).length = row.length - l := by unfold stepsOf; rw [List.length_map, List.length_range]
    have per : ∀ i, i < row.length - l → (stepsOf row l).getD i none = (stepsOf row l).getD (i % l) none := by
      intro i hi
      rw [List.all_map, List.all_eq_true] at h4
      have := h4 i (by rw [List.mem_range, len]; exact hi)
      exact of_decide_eq_true this
    have non : ∀ i, i < row.length - l → ∃ c, (stepsOf row l).getD i none = some c := by
      intro i hi
      cases e : (stepsOf row l).getD i none with
      | some c => exact ⟨c, rfl⟩
      | none =>
        exfalso
        apply h3
        rw [List.any_eq_true]
        refine ⟨none, ?_, rfl⟩
        rw [List.getD_eq_getElem?_getD, List.getElem?_eq_getElem (by omega)] at e
        have e' : (stepsOf row l)[i] = none := e
        rw [← e']
        exact List.getElem_mem _
    refine ⟨fun j => ((stepsOf row l).getD j none).getD 0, fun i hi => ?_, ?_, fun n hn => ?_⟩
    · have hi' : i < row.length - l := by omega
      obtain ⟨c, hc⟩ := non i hi'
      have hb : stepB (row.getD i none) (row.getD (i + l) none) = some c := by
        have : (stepsOf row l).getD i none = stepB (row.getD i none) (row.getD (i + l) none) := by
          unfold stepsOf
          rw [getD_map_range hi']
        rw [← this]
        exact hc
      have e : ((stepsOf row l).getD (i % l) none).getD 0 = c := by
        rw [← per i hi', hc]
        rfl
      show _ = Option.map (· + ((stepsOf row l).getD (i % l) none).getD 0) _
      rw [e]
      exact stepB_map hb
    · rw [← eg, List.length_map, List.length_range]
    · have hm : n % l < l := Nat.mod_lt _ hl
      rw [← eg, getD_map_range hm]
      have e : (((n % l : Nat) : Int) - (L : Int)) % (l : Int) = (((n - L) % l : Nat) : Int) := by
        have e1 : ((n - L : Nat) : Int) = (n : Int) - L := by omega
        rw [Int.natCast_emod, Int.natCast_emod, e1, Int.emod_sub_emod]
      rw [e, Int.toNat_natCast]
theorem gr_gains {row : List (Option Int)} {l : Nat} {g' : List Int} (h : Gr told gains f) (hrow : row.length = 3 * gains.length) (hr : ∀ i, i < row.length → row.getD i none = f (told.length + i)) (hl : 0 < l) (hd : l ∣ gains.length)
    (hg : gainsOf row told.length l = some g') : g'.length = l ∧ Gr told g' f := by
  have hp := h.pos
  have hpl := h.le
  have hle : l ≤ gains.length := Nat.le_of_dvd hp hd
  obtain ⟨c, hc, len, hgc⟩ := gainsOf_spec hl (by omega) hg
  generalize hL : told.length = L at *
  generalize hP : gains.length = p at *
  have st : ∀ n, L - p ≤ n → f (n + p) = (f n).map (· + gains.getD (n % p) 0) := by
    intro n hn
    have := h.step (n := n) (by rw [hL, hP]; exact hn)
    rw [hP] at this
    exact this
  have modp : ∀ i, (i + p) % l = i % l := by
    intro i
    obtain ⟨q, rfl⟩ := hd
    exact Nat.add_mul_mod_self_left i l q
  have win : ∀ i, i + l < 3 * p → f (L + i + l) = (f (L + i)).map (· + c (i % l)) := by
    intro i hi
    have := hc i (by omega)
    rw [hr (i + l) (by omega), hr i (by omega), ← Nat.add_assoc] at this
    exact this
  have P : ∀ i, f (L + i + l) = (f (L + i)).map (· + c (i % l)) ∧ (f (L + i) ≠ none → gains.getD ((L + i + l) % p) 0 = gains.getD ((L + i) % p) 0) := by
    intro i
    induction i using Nat.strongRecOn with
    | _ i ih =>
      by_cases hi : i < p
      · have w1 := win i (by omega)
        have w2 := win (i + p) (by omega)
        refine ⟨w1, fun hne => ?_⟩
        have s1 := st (L + i) (by omega)
        have s2 := st (L + i + l) (by omega)
        rw [modp] at w2
        have e1 : L + (i + p) + l = L + i + l + p := by omega
        have e2 : L + (i + p) = L + i + p := by omega
        rw [e1, e2, s1, s2, w1] at w2
        cases hv : f (L + i) with
        | none => exact absurd hv hne
        | some v =>
          rw [hv] at w2
          have z : v + c (i % l) + gains.getD ((L + i + l) % p) 0 = v + gains.getD ((L + i) % p) 0 + c (i % l) := Option.some.inj w2
          omega
      · obtain ⟨j, rfl⟩ : ∃ j, i = j + p := ⟨i - p, by omega⟩
        obtain ⟨q1, q2⟩ := ih j (by omega)
        have s1 := st (L + j) (by omega)
        have s2 := st (L + j + l) (by omega)
        have e1 : L + (j + p) + l = L + j + l + p := by omega
        have e2 : L + (j + p) = L + j + p := by omega
        rw [e1, e2, s1, s2, modp, Nat.add_mod_right, Nat.add_mod_right, q1]
        cases hv : f (L + j) with
        | none => exact ⟨rfl, fun z => absurd rfl z⟩
        | some v =>
          have q3 := q2 (by rw [hv]; intro z; cases z)
          refine ⟨?_, fun _ => q3⟩
          show some (v + c (j % l) + _) = some (v + _ + c (j % l))
          rw [q3]
          congr 1
          omega
  refine ⟨len, by omega, by omega, fun n hn => h.lo n (by omega), fun n hn => ?_⟩
  rw [hL] at hn
  rw [len, hgc n hn]
  by_cases hn2 : L + l ≤ n
  · obtain ⟨i, rfl⟩ : ∃ i, n = L + i + l := ⟨n - L - l, by omega⟩
    have e : (L + i + l - L) % l = i % l := by
      have : L + i + l - L = i + l := by omega
      rw [this, Nat.add_mod_right]
    rw [e, Nat.add_sub_cancel]
    exact (P i).1
  · obtain ⟨m, rfl⟩ : ∃ m, n = m + l := ⟨n - l, by omega⟩
    rw [Nat.add_sub_cancel]
    obtain ⟨q1, q2⟩ := P (m + p - L)
    have s1 := st m (by omega)
    have s2 := st (m + l) (by omega)
    have e1 : L + (m + p - L) + l = m + l + p := by omega
    have e2 : L + (m + p - L) = m + p := by omega
    rw [e1, e2] at q1
    rw [e1, e2] at q2
    have e3 : (m + p - L) % l = (m + l - L) % l := by
      have a : m + p - L + l = (m + l - L) + p := by omega
      have b := modp (m + l - L)
      rw [← a, Nat.add_mod_right] at b
      exact b
    rw [e3, s1, s2] at q1
    rw [s1, Nat.add_mod_right, Nat.add_mod_right] at q2
    cases hv : f m with
    | none =>
      rw [hv] at q1
      have : (f (m + l)).map (· + gains.getD ((m + l) % p) 0) = none := q1
      rw [Option.map_eq_none_iff] at this
      rw [this]
      rfl
    | some v =>
      rw [hv] at q1 q2
      have q3 := q2 (by intro z; cases z)
      cases hw : f (m + l) with
      | none => rw [hw] at q1; cases q1
      | some w =>
        rw [hw] at q1
        have := Option.some.inj q1
        show some w = some (v + _)
        congr 1
        have z : w + gains.getD ((m + l) % p) 0 = v + gains.getD (m % p) 0 + c ((m + l - L) % l) := this
        omega

theorem gainsOf_full {row : List (Option Int)} (h : Gr told gains f) (hrow : row.length = 3 * gains.length) (hr : ∀ i, i < row.length → row.getD i none = f (told.length + i)) : ∃ g', gainsOf row told.length gains.length = some g' := by
  have hp := h.pos
  have hpl := h.le
  generalize hL : told.length = L at *
  generalize hP : gains.length = p at *
  have st : ∀ n, L - p ≤ n → f (n + p) = (f n).map (· + gains.getD (n % p) 0) := by
    intro n hn
    have := h.step (n := n) (by rw [hL, hP]; exact hn)
    rw [hP] at this
    exact this
  have sv : ∀ i, i < 2 * p → (stepsOf row p).getD i none = (match f (L + i) with | none => some 0 | some _ => some (gains.getD ((L + i) % p) 0)) := by
    intro i hi
    unfold stepsOf
    rw [getD_map_range (by omega), hr i (by omega), hr (i + p) (by omega), ← Nat.add_assoc, st (L + i) (by omega)]
    cases f (L + i) with
    | none => rfl
    | some v =>
      show some (v + _ - v) = some _
      congr 1
      omega
  have len : (stepsOf row p).length = 2 * p := by unfold stepsOf; rw [List.length_map, List.length_range]; omega
  unfold gainsOf
  rw [if_neg]
  · exact ⟨_, rfl⟩
  · rintro (z | z)
    · rw [List.any_eq_true] at z
      obtain ⟨o, ho, hn⟩ := z
      obtain ⟨i, hi, e⟩ := List.getElem_of_mem ho
      have s := sv i (by omega)
      rw [List.getD_eq_getElem?_getD, List.getElem?_eq_getElem hi, e] at s
      cases o with
      | some c => cases hn
      | none =>
        have s' : none = (match f (L + i) with | none => some 0 | some _ => some (gains.getD ((L + i) % p) 0)) := s
        split at s' <;> cases s'
    · apply z
      rw [List.all_map, List.all_eq_true]
      intro i hi
      rw [List.mem_range, len] at hi
      show decide _ = true
      refine decide_eq_true ?_
      by_cases hi2 : i < p
      · rw [Nat.mod_eq_of_lt hi2]
      · obtain ⟨j, rfl⟩ : ∃ j, i = j + p := ⟨i - p, by omega⟩
        rw [Nat.add_mod_right, Nat.mod_eq_of_lt (by omega : j < p), sv _ hi, sv j (by omega)]
        have e : L + (j + p) = L + j + p := by omega
        rw [e, st (L + j) (by omega), Nat.add_mod_right]
        cases f (L + j) <;> rfl
theorem leastG_spec {row : List (Option Int)} (h : Gr told gains f) (hrow : row.length = 3 * gains.length) (hr : ∀ i, i < row.length → row.getD i none = f (told.length + i)) : ∃ g', leastG row told.length gains.length = some g' ∧ g'.length ∣ gains.length ∧ Gr told g' f := by
  unfold leastG
  cases e : (List.range (gains.length - 1)).findSome? fun i => if gains.length % (i + 1) = 0 then gainsOf row told.length (i + 1) else none with
  | none =>
    obtain ⟨g', hg⟩ := gainsOf_full h hrow hr
    have := gr_gains h hrow hr h.pos (Nat.dvd_refl _) hg
    exact ⟨g', hg, by rw [this.1]; exact Nat.dvd_refl _, this.2⟩
  | some g' =>
    obtain ⟨i, hi, q⟩ := List.exists_of_findSome?_eq_some e
    split at q
    · rename_i hd
      have := gr_gains h hrow hr (by omega) (Nat.dvd_of_mod_eq_zero hd) q
      exact ⟨g', rfl, by rw [this.1]; exact Nat.dvd_of_mod_eq_zero hd, this.2⟩
    · cases q
theorem rowOf_ok (h : Gr told gains f) : (rowOf told gains).length = 3 * gains.length ∧ ∀ i, i < (rowOf told gains).length → (rowOf told gains).getD i none = f (told.length + i) := by
  have l : (rowOf told gains).length = 3 * gains.length := by unfold rowOf; rw [List.length_map, List.length_range]
  refine ⟨l, fun i hi => ?_⟩
  unfold rowOf
  rw [getD_map_range (by omega)]
  exact (gr_gv h.pos h.le).eq h _
/-- the normal form keeps the values -/
theorem nf_spec (h : Gr told gains f) : leastG (rowOf told gains) told.length gains.length = some (nfG told gains) ∧ (nfG told gains).length ∣ gains.length ∧ Gr told (nfG told gains) f ∧ Gr (nfT told gains) (nfG told gains) f := by
  obtain ⟨l, r⟩ := rowOf_ok h
  obtain ⟨g', h1, h2, h3⟩ := leastG_spec h l r
  have e : nfG told gains = g' := by unfold nfG; rw [h1]; rfl
  rw [e]
  refine ⟨h1, h2, h3, ?_⟩
  unfold nfT
  rw [e]
  exact gr_trim told.length (Nat.le_refl _) h3.le (by rw [List.take_length]; exact h3)
end
end HG

/-! The normal form is the least one, and there is one alone. -/
namespace HG
/-- from N on, f goes on by l with the gains c, which repeat -/
structure Per (f : Nat → Option Int) (l N : Nat) (c : Nat → Int) : Prop where
  pos : 0 < l
  st : ∀ n, N ≤ n → f (n + l) = (f n).map (· + c n)
  cp : ∀ n, N ≤ n → c (n + l) = c n
  z : ∀ n, N ≤ n → f n = none → c n = 0
section
variable {f : Nat → Option Int} {l l1 l2 N M : Nat} {c c1 c2 : Nat → Int}
theorem Per.up (h : Per f l N c) (g : N ≤ M) : Per f l M c := ⟨h.pos, fun n hn => h.st n (by omega), fun n hn => h.cp n (by omega), fun n hn => h.z n (by omega)⟩
theorem Per.cps (h : Per f l N c) {n : Nat} (hn : N ≤ n) : ∀ k, c (n + k * l) = c n
  | 0 => by rw [Nat.zero_mul, Nat.add_zero]
  | k + 1 => by
    rw [Nat.add_mul, Nat.one_mul, ← Nat.add_assoc, h.cp _ (by omega), h.cps hn k]
theorem Per.sts (h : Per f l N c) {n : Nat} (hn : N ≤ n) : ∀ k : Nat, f (n + k * l) = (f n).map (· + (k : Int) * c n)
  | 0 => by
    rw [Nat.zero_mul, Nat.add_zero]
    cases f n with
    | none => rfl
    | some v => simp
  | k + 1 => by
    rw [Nat.add_mul, Nat.one_mul, ← Nat.add_assoc, h.st _ (by omega), h.cps hn k, h.sts hn k]
    cases f n with
    | none => rfl
    | some v =>
      simp only [Option.map_some, Option.some.injEq]
      rw [Int.natCast_add, Int.add_mul]
      omega
theorem Per.no (h : Per f l N c) {n : Nat} (hn : N ≤ n) : f (n + l) = none ↔ f n = none := by rw [h.st n hn, Option.map_eq_none_iff]
theorem Per.nos (h : Per f l N c) {n : Nat} (hn : N ≤ n) (k : Nat) : f (n + k * l) = none ↔ f n = none := by rw [h.sts hn k, Option.map_eq_none_iff]
theorem Per.both (h1 : Per f l1 N c1) (h2 : Per f l2 N c2) {n : Nat} (hn : N ≤ n) : (l2 : Int) * c1 n = (l1 : Int) * c2 n := by
  have e1 := h1.sts hn l2
  have e2 := h2.sts hn l1
  rw [Nat.mul_comm l1 l2] at e2
  rw [e1] at e2
  cases ef : f n with
  | none => rw [h1.z n hn ef, h2.z n hn ef, Int.mul_zero, Int.mul_zero]
  | some v =>
    rw [ef] at e2
    simp only [Option.map_some, Option.some.injEq] at e2
    omega
theorem mul_inj {a : Nat} {x y : Int} (ha : 0 < a) (h : (a : Int) * x = (a : Int) * y) : x = y := Int.eq_of_mul_eq_mul_left (by omega) h
theorem Per.sub (h1 : Per f l1 N c1) (h2 : Per f l2 N c2) (hl : l2 < l1) : ∃ c, Per f (l1 - l2) N c := by
  have e1 : ∀ n, N ≤ n → c1 (n + (l1 - l2)) = c1 n := fun n hn => by
    refine mul_inj h2.pos ?_
    rw [h1.both h2 (n := n + (l1 - l2)) (by omega), ← h2.cp (n + (l1 - l2)) (by omega), show n + (l1 - l2) + l2 = n + l1 from by omega, ← h1.both h2 (n := n + l1) (by omega), h1.cp n hn]
  have e2 : ∀ n, N ≤ n → c2 (n + (l1 - l2)) = c2 n := fun n hn => by
    refine mul_inj h1.pos ?_
    rw [← h2.cp (n + (l1 - l2)) (by omega), show n + (l1 - l2) + l2 = n + l1 from by omega, ← h1.both h2 (n := n + l1) (by omega), h1.cp n hn, h1.both h2 hn]
  have nn : ∀ n, N ≤ n → (f (n + (l1 - l2)) = none ↔ f n = none) := fun n hn => by
    rw [← h2.no (n := n + (l1 - l2)) (by omega), show n + (l1 - l2) + l2 = n + l1 from by omega, h1.no hn]
  refine ⟨fun n => if f n = none then 0 else c1 n - c2 n, by omega, fun n hn => ?_, fun n hn => ?_, fun n hn ef => by rw [if_pos ef]⟩
  · cases ef : f n with
    | none => exact (nn n hn).mpr ef
    | some v =>
      rw [if_neg (by simp)]
      have a1 := h1.st n hn
      rw [ef] at a1
      have a2 := h2.st (n + (l1 - l2)) (by omega)
      rw [show n + (l1 - l2) + l2 = n + l1 from by omega, a1, e2 n hn] at a2
      cases eg : f (n + (l1 - l2)) with
      | none => rw [(nn n hn).mp eg] at ef; cases ef
      | some w =>
        rw [eg] at a2
        simp only [Option.map_some, Option.some.injEq] at a2 ⊢
        omega
  · show (if f (n + (l1 - l2)) = none then 0 else c1 (n + (l1 - l2)) - c2 (n + (l1 - l2))) = if f n = none then 0 else c1 n - c2 n
    rw [e1 n hn, e2 n hn]
    by_cases ef : f n = none
    · rw [if_pos ef, if_pos ((nn n hn).mpr ef)]
    · rw [if_neg ef, if_neg (fun z => ef ((nn n hn).mp z))]
/-- the least period -/
def Lst (f : Nat → Option Int) (p : Nat) : Prop := ∀ l N c, Per f l N c → p ≤ l
theorem Per.dvd (h : Per f l1 N c1) (hm : Lst f l1) : ∀ l, (∃ M c, Per f l M c) → l1 ∣ l := by
  intro l
  induction l using Nat.strongRecOn with
  | _ l ih =>
    rintro ⟨M, c, k⟩
    have hle := hm _ _ _ k
    by_cases e : l = l1
    · rw [e]; exact Nat.dvd_refl _
    · have a := k.up (M := max N M) (by omega)
      have b := h.up (M := max N M) (by omega)
      obtain ⟨c', k'⟩ := a.sub b (by omega)
      have := ih (l - l1) (by have := h.pos; omega) ⟨_, _, k'⟩
      have h2 := Nat.dvd_add this (Nat.dvd_refl l1)
      rw [Nat.sub_add_cancel hle] at h2
      exact h2
theorem lst_ex : ∀ l, (∃ M c, Per f l M c) → ∃ l0, l0 ≤ l ∧ Lst f l0 ∧ ∃ M c, Per f l0 M c := by
  intro l
  induction l using Nat.strongRecOn with
  | _ l ih =>
    intro h
    by_cases e : ∃ l', l' < l ∧ ∃ M c, Per f l' M c
    · obtain ⟨l', h1, h2⟩ := e
      obtain ⟨l0, h3, h4⟩ := ih l' h1 h2
      exact ⟨l0, by omega, h4⟩
    · refine ⟨l, Nat.le_refl _, fun l' N c k => ?_, h⟩
      by_cases z : l ≤ l'
      · exact z
      · exact absurd ⟨l', by omega, N, c, k⟩ e
end
section
variable {told : List (Option Int)} {gains : List Int} {f : Nat → Option Int}
theorem gr_per (h : Gr told gains f) : Per f gains.length (told.length - gains.length) (fun n => if f n = none then 0 else gains.getD (n % gains.length) 0) := by
  have nn : ∀ n, told.length - gains.length ≤ n → (f (n + gains.length) = none ↔ f n = none) := fun n hn => h.none hn
  refine ⟨h.pos, fun n hn => ?_, fun n hn => ?_, fun n hn ef => by rw [if_pos ef]⟩
  · rw [h.step hn]
    cases ef : f n with
    | none => rfl
    | some v => rw [if_neg (by simp)]
  · show (if f (n + gains.length) = none then 0 else gains.getD ((n + gains.length) % gains.length) 0) = if f n = none then 0 else gains.getD (n % gains.length) 0
    rw [Nat.add_mod_right]
    by_cases ef : f n = none
    · rw [if_pos ef, if_pos ((nn n hn).mpr ef)]
    · rw [if_neg ef, if_neg (fun z => ef ((nn n hn).mp z))]
/-- a period that divides one which begins earlier begins there, too -/
theorem Per.back {p l M N : Nat} {C c : Nat → Int} (h : Per f p M C) (k : Per f l N c) (hd : l ∣ p) : Per f l M (fun n => c (n + N * p)) := by
  obtain ⟨q, rfl⟩ := hd
  have hp := h.pos
  have hq : 0 < q := by
    cases q with
    | zero => rw [Nat.mul_zero] at hp; omega
    | succ q => omega
  have big : ∀ n, N ≤ n + N * (l * q) := fun n => by
    have := Nat.le_mul_of_pos_right N hp
    omega
  refine ⟨k.pos, fun n hn => ?_, fun n hn => ?_, fun n hn ef => ?_⟩
  · have s1 := fun j => h.sts hn j
    have s2 := fun j => h.sts (n := n + l) (by omega) j
    have t0 := k.st (n + N * (l * q)) (big n)
    have t1 := k.st (n + (N + 1) * (l * q)) (by have := big n; rw [Nat.add_mul]; omega)
    have e1 : c (n + (N + 1) * (l * q)) = c (n + N * (l * q)) := by
      rw [Nat.add_mul, Nat.one_mul, ← Nat.add_assoc, Nat.mul_comm l q, k.cps (by rw [← Nat.mul_comm l q]; exact big n) q]
    rw [e1] at t1
    rw [show n + N * (l * q) + l = n + l + N * (l * q) from by omega, s1, s2] at t0
    rw [show n + (N + 1) * (l * q) + l = n + l + (N + 1) * (l * q) from by omega, s1, s2] at t1
    cases ef : f n with
    | none =>
      rw [ef] at t0
      simp only [Option.map_none, Option.map_eq_none_iff] at t0
      rw [t0]; rfl
    | some v =>
      rw [ef] at t0 t1
      cases eg : f (n + l) with
      | none => rw [eg] at t0; cases t0
      | some w =>
        rw [eg] at t0 t1
        simp only [Option.map_some, Option.some.injEq] at t0 t1 ⊢
        simp only [Int.natCast_add, Int.natCast_one, Int.add_mul, Int.one_mul] at t1
        have hC : C (n + l) = C n := by omega
        rw [hC] at t0
        omega
  · show c (n + l + N * (l * q)) = c (n + N * (l * q))
    rw [show n + l + N * (l * q) = n + N * (l * q) + l from by omega, k.cp _ (big n)]
  · exact k.z _ (big n) ((h.nos hn N).mpr ef)
/-- the gains that are found of a row with a period -/
theorem gainsOf_per {row : List (Option Int)} {L l M : Nat} {c : Nat → Int} (h : Per f l M c) (hM : M ≤ L) (h2 : 2 * l ≤ row.length) (hr : ∀ i, i < row.length → row.getD i none = f (L + i)) :
    gainsOf row L l = some ((List.range l).map fun r : Nat => c (L + (((r : Int) - (L : Int)) % (l : Int)).toNat)) := by
  have hl := h.pos
  have len : (stepsOf row l).length = row.length - l := by unfold stepsOf; rw [List.length_map, List.length_range]
  have sv : ∀ i, i < row.length - l → (stepsOf row l).getD i none = some (c (L + i)) := by
    intro i hi
    unfold stepsOf
    rw [getD_map_range hi, hr i (by omega), hr (i + l) (by omega), ← Nat.add_assoc, h.st (L + i) (by omega)]
    cases ef : f (L + i) with
    | none => rw [h.z _ (by omega) ef]; rfl
    | some v =>
      show some (v + c (L + i) - v) = some (c (L + i))
      congr 1
      omega
  unfold gainsOf
  rw [if_neg]
  · congr 1
    apply List.map_congr_left
    intro r hr'
    have hm := Int.emod_nonneg ((r : Int) - (L : Int)) (by omega : (l : Int) ≠ 0)
    have hm2 := Int.emod_lt_of_pos ((r : Int) - (L : Int)) (by omega : (0 : Int) < (l : Int))
    rw [sv _ (by omega)]
    rfl
  · rintro (z | z)
    · rw [List.any_eq_true] at z
      obtain ⟨x, hx, e⟩ := z
      obtain ⟨i, hi, rfl⟩ := List.getElem_of_mem hx
      have := sv i (by omega)
      rw [List.getD_eq_getElem?_getD, List.getElem?_eq_getElem hi] at this
      simp only [Option.getD_some] at this
      rw [this] at e
      cases e
    · apply z
      rw [List.all_map, List.all_eq_true]
      intro i hi
      rw [List.mem_range, len] at hi
      show decide _ = true
      have hm : i % l < l := Nat.mod_lt _ hl
      rw [sv i hi, sv (i % l) (by omega)]
      refine decide_eq_true ?_
      congr 1
      have e : L + i = L + i % l + i / l * l := by
        have := Nat.div_add_mod i l
        rw [Nat.mul_comm] at this
        omega
      rw [e, h.cps (by omega)]
theorem idx_mod {L l n : Nat} (hl : 0 < l) (hn : L ≤ n) : ∃ q : Nat, n = L + ((((n % l : Nat) : Int) - (L : Int)) % (l : Int)).toNat + q * l := by
  have hm := Int.emod_nonneg (((n % l : Nat) : Int) - (L : Int)) (by omega : (l : Int) ≠ 0)
  have hm2 := Int.emod_lt_of_pos (((n % l : Nat) : Int) - (L : Int)) (by omega : (0 : Int) < (l : Int))
  have e : (((n % l : Nat) : Int) - (L : Int)) % (l : Int) = (((n - L) % l : Nat) : Int) := by
    rw [Int.natCast_emod, Int.natCast_emod, Int.emod_sub_emod]
    congr 1
    omega
  rw [e, Int.toNat_natCast]
  refine ⟨(n - L) / l, ?_⟩
  have := Nat.div_add_mod (n - L) l
  rw [Nat.mul_comm] at this
  omega
/-- the gains found are those of the period -/
theorem gainsOf_at {L l M n : Nat} {c : Nat → Int} (h : Per f l M c) (hM : M ≤ L) (hn : L ≤ n) : ((List.range l).map fun r : Nat => c (L + (((r : Int) - (L : Int)) % (l : Int)).toNat)).getD (n % l) 0 = c n := by
  rw [getD_map_range (Nat.mod_lt _ h.pos)]
  obtain ⟨q, e⟩ := idx_mod (L := L) h.pos hn
  generalize ((((n % l : Nat) : Int) - (L : Int)) % (l : Int)).toNat = j at *
  rw [e, h.cps (by omega)]
/-- told and gains are the normal form of f -/
structure Nf (told : List (Option Int)) (gains : List Int) (f : Nat → Option Int) : Prop where
  gr : Gr told gains f
  lst : Lst f gains.length
  z : ∀ n, told.length - gains.length ≤ n → f n = none → gains.getD (n % gains.length) 0 = 0
  cut : gains.length < told.length → told.getD (told.length - 1) none ≠ (told.getD (told.length - 1 - gains.length) none).map (· + gains.getD ((told.length - 1) % gains.length) 0)
theorem gr_le {told' : List (Option Int)} {gains' : List Int} (h : Nf told gains f) (h' : Nf told' gains' f) (hg : gains = gains') : told'.length ≤ told.length := by
  by_cases z : told'.length ≤ told.length
  · exact z
  · exfalso
    subst hg
    have p := h.gr.le
    have pp := h.gr.pos
    refine h'.cut (by omega) ?_
    rw [← h'.gr.lo _ (by omega), ← h'.gr.lo _ (by omega)]
    exact h.gr.hi _ (by omega)
theorem Nf.uniq {told' : List (Option Int)} {gains' : List Int} (h : Nf told gains f) (h' : Nf told' gains' f) : told = told' ∧ gains = gains' := by
  have el : gains.length = gains'.length := Nat.le_antisymm (h.lst _ _ _ (gr_per h'.gr)) (h'.lst _ _ _ (gr_per h.gr))
  have eg : gains = gains' := by
    apply List.ext_getElem el
    intro i h1 h2
    have hp := h.gr.pos
    obtain ⟨n, hn1, hn2, hn3⟩ : ∃ n, told.length - gains.length ≤ n ∧ told'.length - gains'.length ≤ n ∧ n % gains.length = i := by
      refine ⟨i + (told.length + told'.length) * gains.length, ?_, ?_, ?_⟩
      · have := Nat.le_mul_of_pos_right (told.length + told'.length) hp; omega
      · have := Nat.le_mul_of_pos_right (told.length + told'.length) hp; omega
      · rw [Nat.add_mul_mod_self_right, Nat.mod_eq_of_lt h1]
    have g1 : gains.getD (n % gains.length) 0 = gains[i] := by rw [hn3, List.getD_eq_getElem?_getD, List.getElem?_eq_getElem h1]; rfl
    have g2 : gains'.getD (n % gains'.length) 0 = gains'[i] := by rw [← el, hn3, List.getD_eq_getElem?_getD, List.getElem?_eq_getElem h2]; rfl
    rw [← g1, ← g2]
    cases ef : f n with
    | none => rw [h.z n hn1 ef, h'.z n hn2 ef]
    | some v =>
      have s1 := h.gr.step hn1
      have s2 := h'.gr.step hn2
      rw [← el] at s2
      rw [s1, ef] at s2
      simp only [Option.map_some, Option.some.injEq] at s2
      rw [← el]
      omega
  refine ⟨?_, eg⟩
  have e2 : told.length = told'.length := Nat.le_antisymm (gr_le h' h eg.symm) (gr_le h h' eg)
  apply List.ext_getElem e2
  intro i h1 h2
  have a := h.gr.lo i h1
  have b := h'.gr.lo i h2
  rw [List.getD_eq_getElem?_getD, List.getElem?_eq_getElem h1] at a
  rw [List.getD_eq_getElem?_getD, List.getElem?_eq_getElem h2] at b
  exact (a.symm.trans b)
/-! ### what is found is the normal form -/
theorem leastG_lst {row : List (Option Int)} {L p M : Nat} {c : Nat → Int} {g : List Int} (h : Per f p M c) (hM : M ≤ L) (h2 : 3 * p ≤ row.length) (hr : ∀ i, i < row.length → row.getD i none = f (L + i)) (hg : leastG row L p = some g) :
    g.length ∣ p ∧ Lst f g.length ∧ ∃ c', Per f g.length M c' ∧ ∀ n, L ≤ n → g.getD (n % g.length) 0 = c' n := by
  have hp := h.pos
  obtain ⟨l0, h0, h1, N0, c0, k0⟩ := lst_ex (f := f) p ⟨_, _, h⟩
  have hd : l0 ∣ p := k0.dvd h1 p ⟨_, _, h⟩
  have kb := h.back k0 hd
  have l0p := k0.pos
  have found := gainsOf_per kb hM (by omega) hr
  have low : ∀ l g', l ∣ p → 0 < l → gainsOf row L l = some g' → l < l0 → False := by
    intro l g' hdl hl hg' hlt
    obtain ⟨cc, s1, s2, s3⟩ := gainsOf_spec hl (by have := Nat.le_of_dvd hp hdl; omega) hg'
    -- the row repeats with l, so f does
    have : Per f l L (fun n => if f n = none then 0 else cc ((n - L) % l)) := by
      have hle := Nat.le_of_dvd hp hdl
      have pl : Per f p L c := h.up hM
      have stp : ∀ n, L ≤ n → f (n + l) = (f n).map (· + cc ((n - L) % l)) := by
        intro n hn
        -- back into the row by periods p
        obtain ⟨i, q, hi, e⟩ : ∃ i q, i < p ∧ n = L + i + q * p := by
          refine ⟨(n - L) % p, (n - L) / p, Nat.mod_lt _ hp, ?_⟩
          have := Nat.div_add_mod (n - L) p
          rw [Nat.mul_comm] at this
          omega
        have r0 : f (L + i + l) = (f (L + i)).map (· + cc (i % l)) := by
          have := s1 i (by omega)
          rw [hr _ (by omega), hr _ (by omega), ← Nat.add_assoc] at this
          exact this
        have r1 : f (L + (i + p) + l) = (f (L + (i + p))).map (· + cc (i % l)) := by
          have := s1 (i + p) (by omega)
          rw [hr _ (by omega), hr _ (by omega), ← Nat.add_assoc] at this
          obtain ⟨z, rfl⟩ := hdl
          rw [Nat.add_mul_mod_self_left] at this
          exact this
        have em : (n - L) % l = i % l := by
          obtain ⟨z, rfl⟩ := hdl
          rw [e, show L + i + q * (l * z) - L = i + l * (z * q) from by rw [Nat.add_assoc, Nat.add_sub_cancel_left, Nat.mul_comm q, Nat.mul_assoc], Nat.add_mul_mod_self_left]
        rw [em, e]
        have a1 := pl.sts (n := L + i) (by omega) q
        have a2 := pl.sts (n := L + i + l) (by omega) q
        have b1 := pl.st (L + i) (by omega)
        have b2 := pl.st (L + i + l) (by omega)
        rw [show L + i + q * p + l = L + i + l + q * p from by omega, a1, a2]
        rw [show L + (i + p) + l = L + i + l + p from by omega, show L + (i + p) = L + i + p from by omega, b1, b2, r0] at r1
        rw [r0]
        cases ef : f (L + i) with
        | none => rfl
        | some v =>
          rw [ef] at r1
          simp only [Option.map_some, Option.some.injEq] at r1 ⊢
          have : c (L + i) = c (L + i + l) := by omega
          rw [this]
          omega
      refine ⟨hl, fun n hn => ?_, fun n hn => ?_, fun n hn ef => by rw [if_pos ef]⟩
      · rw [stp n hn]
        cases ef : f n with
        | none => rfl
        | some v => rw [if_neg (by simp)]
      · have nn : f (n + l) = none ↔ f n = none := by rw [stp n hn, Option.map_eq_none_iff]
        show (if f (n + l) = none then 0 else cc ((n + l - L) % l)) = if f n = none then 0 else cc ((n - L) % l)
        rw [show n + l - L = n - L + l from by omega, Nat.add_mod_right]
        by_cases ef : f n = none
        · rw [if_pos ef, if_pos (nn.mpr ef)]
        · rw [if_neg ef, if_neg (fun z => ef (nn.mp z))]
    have := h1 _ _ _ this
    omega
  have eg : g = (List.range l0).map fun r : Nat => (fun n => c0 (n + N0 * p)) (L + (((r : Int) - (L : Int)) % (l0 : Int)).toNat) := by
    unfold leastG at hg
    cases e : (List.range (p - 1)).findSome? fun i => if p % (i + 1) = 0 then gainsOf row L (i + 1) else none with
    | none =>
      rw [e] at hg
      have hlp : l0 = p := by
        by_cases z : l0 = p
        · exact z
        · exfalso
          have := List.findSome?_eq_none_iff.mp e (l0 - 1) (List.mem_range.mpr (by omega))
          rw [Nat.sub_add_cancel (by omega), if_pos (Nat.mod_eq_zero_of_dvd hd), found] at this
          cases this
      rw [hlp] at found ⊢
      simp only at hg
      rw [found] at hg
      exact (Option.some.inj hg).symm
    | some g1 =>
      rw [e] at hg
      have eg1 : g1 = g := Option.some.inj hg
      subst eg1
      obtain ⟨l1, i, l2, e1, e2, e3⟩ := List.findSome?_eq_some_iff.mp e
      have hip : i ∈ List.range (p - 1) := by rw [e1]; simp
      rw [List.mem_range] at hip
      by_cases hdi : p % (i + 1) = 0
      · rw [if_pos hdi] at e2
        have hge : ¬ i + 1 < l0 := fun z => low (i + 1) g1 (Nat.dvd_of_mod_eq_zero hdi) (by omega) e2 z
        have hle : ¬ l0 < i + 1 := by
          intro z
          have mem : l0 - 1 ∈ l1 := by
            have hm : l0 - 1 ∈ List.range (p - 1) := List.mem_range.mpr (by omega)
            have srt : (List.range (p - 1)).Pairwise (· < ·) := List.pairwise_lt_range
            rw [e1] at hm srt
            rcases List.mem_append.mp hm with hm | hm
            · exact hm
            · exfalso
              rw [List.pairwise_append] at srt
              rcases List.mem_cons.mp hm with hm | hm
              · omega
              · have := List.rel_of_pairwise_cons srt.2.1 hm
                omega
          have := e3 _ mem
          rw [Nat.sub_add_cancel (by omega), if_pos (Nat.mod_eq_zero_of_dvd hd), found] at this
          cases this
        have : i + 1 = l0 := by omega
        rw [this, found] at e2
        exact (Option.some.inj e2).symm
      · rw [if_neg hdi] at e2
        cases e2
  have lg : g.length = l0 := by rw [eg, List.length_map, List.length_range]
  rw [lg]
  refine ⟨hd, h1, _, kb, fun n hn => ?_⟩
  rw [eg]
  exact gainsOf_at kb hM hn
theorem trim_cut : ∀ m, m ≤ told.length → gains.length < trimN told gains m → told.getD (trimN told gains m - 1) none ≠ (told.getD (trimN told gains m - 1 - gains.length) none).map (· + gains.getD ((trimN told gains m - 1) % gains.length) 0)
  | 0, _, h => by exact absurd h (Nat.not_lt_zero _)
  | m + 1, hm, h => by
    unfold trimN at h ⊢
    by_cases c : gains.length < m + 1 ∧ told.getD m none = (told.getD (m - gains.length) none).map (· + gains.getD (m % gains.length) 0)
    · rw [if_pos c] at h ⊢
      exact trim_cut m (by omega) h
    · rw [if_neg c] at h ⊢
      intro z
      exact c ⟨h, z⟩
/-- the normal form is one -/
theorem nf_nf (h : Gr told gains f) : Nf (nfT told gains) (nfG told gains) f := by
  obtain ⟨n1, n2, n3, n4⟩ := nf_spec h
  obtain ⟨r1, r2⟩ := rowOf_ok h
  obtain ⟨d, l, c, pc, gc⟩ := leastG_lst (gr_per h) (Nat.sub_le _ _) (by omega) r2 n1
  have tl : (nfT told gains).length = trimN told (nfG told gains) told.length := by
    unfold nfT
    rw [List.length_take]
    have := trimN_le (told := told) (gains := nfG told gains) told.length
    omega
  refine ⟨n4, l, fun n hn ef => ?_, fun hc => ?_⟩
  · -- far enough on the gains are c
    have q := gr_per n4
    have hp := n4.pos
    have e1 := gc (n + told.length * (nfG told gains).length) (by have := Nat.le_mul_of_pos_right told.length hp; omega)
    rw [Nat.add_mul_mod_self_right] at e1
    rw [e1]
    refine pc.z _ ?_ ?_
    · have := Nat.le_mul_of_pos_right told.length hp; omega
    · exact (q.nos hn _).mpr ef
  · have ht := trim_cut (told := told) (gains := nfG told gains) told.length (Nat.le_refl _) (by rw [← tl]; exact hc)
    rw [← tl] at ht
    have hp := n4.pos
    intro z
    apply ht
    have g1 : ∀ i, i < (nfT told gains).length → (nfT told gains).getD i none = told.getD i none := fun i hi => by
      rw [tl] at hi
      unfold nfT
      exact getD_take hi
    rw [← g1 _ (by omega), ← g1 _ (by omega)]
    exact z
end
end HG

/-! Growths as functions: periods, bounds, sums and multiples. -/
namespace HG
section
variable {f g : Nat → Option Int} {l N M : Nat} {c : Nat → Int}
theorem per_of_row {L p less : Nat} {cc : Nat → Int} (h : Per f p M c) (hM : M ≤ L) (hd : less ∣ p) (hl : 0 < less) (hr : ∀ i, i < 2 * p → f (L + i + less) = (f (L + i)).map (· + cc (i % less))) : ∃ c', Per f less L c' := by
  have hp := h.pos
  have hle := Nat.le_of_dvd hp hd
  have pl : Per f p L c := h.up hM
  have stp : ∀ n, L ≤ n → f (n + less) = (f n).map (· + cc ((n - L) % less)) := by
    intro n hn
    obtain ⟨i, q, hi, e⟩ : ∃ i q, i < p ∧ n = L + i + q * p := by
      refine ⟨(n - L) % p, (n - L) / p, Nat.mod_lt _ hp, ?_⟩
      have := Nat.div_add_mod (n - L) p
      rw [Nat.mul_comm] at this
      omega
    have r0 := hr i (by omega)
    have r1 := hr (i + p) (by omega)
    have em : (i + p) % less = i % less := by
      obtain ⟨z, rfl⟩ := hd
      exact Nat.add_mul_mod_self_left ..
    rw [em] at r1
    have en : (n - L) % less = i % less := by
      obtain ⟨z, rfl⟩ := hd
      rw [e, show L + i + q * (less * z) - L = i + less * (z * q) from by rw [Nat.add_assoc, Nat.add_sub_cancel_left, Nat.mul_comm q, Nat.mul_assoc], Nat.add_mul_mod_self_left]
    rw [en, e]
    have a1 := pl.sts (n := L + i) (by omega) q
    have a2 := pl.sts (n := L + i + less) (by omega) q
    have b1 := pl.st (L + i) (by omega)
    have b2 := pl.st (L + i + less) (by omega)
    rw [show L + i + q * p + less = L + i + less + q * p from by omega, a1, a2]
    rw [show L + (i + p) + less = L + i + less + p from by omega, show L + (i + p) = L + i + p from by omega, b1, b2, r0] at r1
    rw [r0]
    cases ef : f (L + i) with
    | none => rfl
    | some v =>
      rw [ef] at r1
      simp only [Option.map_some, Option.some.injEq] at r1 ⊢
      have : c (L + i) = c (L + i + less) := by omega
      rw [this]
      omega
  refine ⟨fun n => if f n = none then 0 else cc ((n - L) % less), hl, fun n hn => ?_, fun n hn => ?_, fun n hn ef => by rw [if_pos ef]⟩
  · rw [stp n hn]
    cases ef : f n with
    | none => rfl
    | some v => rw [if_neg (by simp)]
  · have nn : f (n + less) = none ↔ f n = none := by rw [stp n hn, Option.map_eq_none_iff]
    show (if f (n + less) = none then 0 else cc ((n + less - L) % less)) = if f n = none then 0 else cc ((n - L) % less)
    rw [show n + less - L = n - L + less from by omega, Nat.add_mod_right]
    by_cases ef : f n = none
    · rw [if_pos ef, if_pos (nn.mpr ef)]
    · rw [if_neg ef, if_neg (fun z => ef (nn.mp z))]
/-! ### a function with a period is told by its first values -/
def gainsP (c : Nat → Int) (N l : Nat) : List Int := (List.range l).map fun r : Nat => c (N + (((r : Int) - (N : Int)) % (l : Int)).toNat)
def valsP (f : Nat → Option Int) (n : Nat) : List (Option Int) := (List.range n).map f
theorem gainsP_len : (gainsP c N l).length = l := by unfold gainsP; rw [List.length_map, List.length_range]
theorem valsP_len {n : Nat} : (valsP f n).length = n := by unfold valsP; rw [List.length_map, List.length_range]
theorem gr_of_per (h : Per f l N c) {n : Nat} (hn : N + l ≤ n) : Gr (valsP f n) (gainsP c N l) f := by
  have hl := h.pos
  refine ⟨by rw [gainsP_len]; exact hl, by rw [gainsP_len, valsP_len]; omega, fun i hi => ?_, fun i hi => ?_⟩
  · rw [valsP_len] at hi
    unfold valsP
    rw [getD_map_range hi]
  · rw [valsP_len] at hi
    rw [gainsP_len]
    have := gainsOf_at (n := i) h (Nat.le_refl _) (by omega)
    unfold gainsP
    rw [this]
    have e := h.st (i - l) (by omega)
    have e2 := h.cp (i - l) (by omega)
    rw [Nat.sub_add_cancel (by omega)] at e e2
    rw [e, e2]
/-- f is a growth within the bounds -/
def Okf (f : Nat → Option Int) : Prop := ∃ l N c, Per f l N c ∧ l ≤ 60 ∧ N + l ≤ 4000
theorem okf_of (h : Per f l N c) (h1 : l ≤ 60) (h2 : N + l ≤ 4000) : Okf f := ⟨l, N, c, h, h1, h2⟩
theorem nf_ex (h : Per f l N c) : ∃ told gains, Nf told gains f ∧ gains.length ∣ l ∧ told.length ≤ N + l := by
  have G := gr_of_per h (Nat.le_refl (N + l))
  refine ⟨_, _, nf_nf G, ?_, ?_⟩
  · have := (nf_spec G).2.1
    rw [gainsP_len] at this
    exact this
  · unfold nfT
    rw [List.length_take, valsP_len]
    omega
/-- the normal form of f is short if f has a short form -/
theorem Nf.short {told : List (Option Int)} {gains : List Int} (n : Nf told gains f) (h : Per f l N c) : gains.length ∣ l ∧ told.length ≤ N + l := by
  obtain ⟨t, g, k, h1, h2⟩ := nf_ex h
  obtain ⟨rfl, rfl⟩ := n.uniq k
  exact ⟨h1, h2⟩
theorem Nf.shortOk {told : List (Option Int)} {gains : List Int} (n : Nf told gains f) (h : Okf f) : gains.length ≤ 60 ∧ told.length ≤ 4000 := by
  obtain ⟨l, N, c, h, h1, h2⟩ := h
  obtain ⟨h3, h4⟩ := n.short h
  have := Nat.le_of_dvd h.pos h3
  exact ⟨by omega, by omega⟩
theorem Nf.okf {told : List (Option Int)} {gains : List Int} (n : Nf told gains f) (h1 : gains.length ≤ 60) (h2 : told.length ≤ 4000) : Okf f := by
  have := n.gr.le
  exact okf_of (gr_per n.gr) h1 (by omega)
/-! ### bounds of values -/
def FB (M : Nat) (f : Nat → Option Int) : Prop := ∀ n v, f n = some v → v.natAbs ≤ M * (n + 1)
theorem FB.up {M M' : Nat} (h : FB M f) (g : M ≤ M') : FB M' f := fun n v e => Nat.le_trans (h n v e) (Nat.mul_le_mul_right _ g)
theorem mod_place {L p r : Nat} (hp : 0 < p) (hr : r < p) (hL : p ≤ L) : ∃ n, L - p ≤ n ∧ n < L ∧ n % p = r := by
  -- n = L - 1 - (L - 1 - r) % p
  have h1 := Nat.mod_lt (L - 1 - r) hp
  have h2 := Nat.div_add_mod (L - 1 - r) p
  refine ⟨L - 1 - (L - 1 - r) % p, by omega, by omega, ?_⟩
  have e : L - 1 - (L - 1 - r) % p = r + p * ((L - 1 - r) / p) := by omega
  rw [e, Nat.add_mul_mod_self_left, Nat.mod_eq_of_lt hr]
theorem gains_le {told : List (Option Int)} {gains : List Int} {M : Nat} (n : Nf told gains f) (h : FB M f) : ∀ x ∈ gains, x.natAbs ≤ M * (3 * told.length) := by
  intro x hx
  obtain ⟨r, hr, rfl⟩ := List.getElem_of_mem hx
  have hp := n.gr.pos
  have hpl := n.gr.le
  obtain ⟨i, h1, h2, h3⟩ := mod_place (L := told.length) hp hr hpl
  have g1 : gains.getD (i % gains.length) 0 = gains[r] := by rw [h3, List.getD_eq_getElem?_getD, List.getElem?_eq_getElem hr]; rfl
  rw [← g1]
  cases ef : f i with
  | none => rw [n.z i h1 ef]; exact Nat.zero_le _
  | some v =>
    have s := n.gr.step h1
    rw [ef] at s
    have b1 := h _ _ ef
    have b2 : (v + gains.getD (i % gains.length) 0).natAbs ≤ M * (i + gains.length + 1) := h _ _ s
    have e1 : M * (i + 1) ≤ M * told.length := Nat.mul_le_mul_left _ (by omega)
    have e2 : M * (i + gains.length + 1) ≤ M * (2 * told.length) := Nat.mul_le_mul_left _ (by omega)
    have e3 : M * (3 * told.length) = M * told.length + M * (2 * told.length) := by rw [← Nat.mul_add]; congr 1; omega
    omega
theorem fb_gr {told : List (Option Int)} {gains : List Int} {B : Nat} (h : Gr told gains f) (ht : ∀ o ∈ told, ∀ i, o = some i → i.natAbs ≤ B) (hg : ∀ x ∈ gains, x.natAbs ≤ B) : FB B f := by
  intro n
  induction n using Nat.strongRecOn with
  | _ n ih =>
    intro v e
    by_cases hn : n < told.length
    · rw [h.lo n hn] at e
      have : told.getD n none ∈ told := by
        rw [List.getD_eq_getElem?_getD, List.getElem?_eq_getElem hn]
        exact List.getElem_mem hn
      have := ht _ this v e
      exact Nat.le_trans this (Nat.le_mul_of_pos_right _ (by omega))
    · have hp := h.pos
      have hpl := h.le
      rw [h.hi n (by omega)] at e
      obtain ⟨w, e1, e2⟩ := Option.map_eq_some_iff.mp e
      have b1 := ih (n - gains.length) (by omega) w e1
      have hm : n % gains.length < gains.length := Nat.mod_lt _ hp
      have : gains.getD (n % gains.length) 0 ∈ gains := by
        rw [List.getD_eq_getElem?_getD, List.getElem?_eq_getElem hm]
        exact List.getElem_mem hm
      have b2 := hg _ this
      have e3 : B * (n - gains.length + 1) + B ≤ B * (n + 1) := by
        rw [← Nat.mul_succ]
        exact Nat.mul_le_mul_left _ (by omega)
      omega
/-! ### sums -/
def oSum : Option Int → Option Int → Option Int
  | some a, some b => some (a + b)
  | _, _ => none
def oTimes (k : Int) (o : Option Int) : Option Int := o.map (k * ·)
def fSum (f g : Nat → Option Int) : Nat → Option Int := fun n => oSum (f n) (g n)
def fTimes (k : Int) (f : Nat → Option Int) : Nat → Option Int := fun n => oTimes k (f n)
theorem oSum_none {a b : Option Int} : oSum a b = none ↔ a = none ∨ b = none := by
  cases a <;> cases b <;> simp [oSum]
theorem per_mul {q : Nat} (h : Per f l N c) (hq : 0 < q) : Per f (q * l) N (fun n => (q : Int) * c n) := by
  refine ⟨Nat.mul_pos hq h.pos, fun n hn => h.sts hn q, fun n hn => ?_, fun n hn e => ?_⟩
  · show (q : Int) * c (n + q * l) = _
    rw [h.cps hn q]
  · show (q : Int) * c n = 0
    rw [h.z n hn e, Int.mul_zero]
theorem per_sum {c2 : Nat → Int} (h : Per f l N c) (k : Per g l N c2) : Per (fSum f g) l N (fun n => if fSum f g n = none then 0 else c n + c2 n) := by
  have st : ∀ n, N ≤ n → fSum f g (n + l) = (fSum f g n).map (· + (c n + c2 n)) := fun n hn => by
    unfold fSum
    rw [h.st n hn, k.st n hn]
    cases f n <;> cases g n <;> simp [oSum]
    omega
  have nn : ∀ n, N ≤ n → (fSum f g (n + l) = none ↔ fSum f g n = none) := fun n hn => by rw [st n hn, Option.map_eq_none_iff]
  refine ⟨h.pos, fun n hn => ?_, fun n hn => ?_, fun n hn e => by rw [if_pos e]⟩
  · rw [st n hn]
    cases e : fSum f g n with
    | none => rfl
    | some v => rw [if_neg (by simp)]
  · show (if fSum f g (n + l) = none then 0 else c (n + l) + c2 (n + l)) = if fSum f g n = none then 0 else c n + c2 n
    rw [h.cp n hn, k.cp n hn]
    by_cases e : fSum f g n = none
    · rw [if_pos e, if_pos ((nn n hn).mpr e)]
    · rw [if_neg e, if_neg (fun z => e ((nn n hn).mp z))]
theorem per_times (k : Int) (h : Per f l N c) : Per (fTimes k f) l N (fun n => k * c n) := by
  refine ⟨h.pos, fun n hn => ?_, fun n hn => ?_, fun n hn e => ?_⟩
  · unfold fTimes oTimes
    rw [h.st n hn]
    cases f n with
    | none => rfl
    | some v =>
      simp only [Option.map_some, Option.some.injEq]
      rw [Int.mul_add]
  · show k * c (n + l) = k * c n
    rw [h.cp n hn]
  · have : f n = none := by
      unfold fTimes oTimes at e
      exact Option.map_eq_none_iff.mp e
    show k * c n = 0
    rw [h.z n hn this, Int.mul_zero]
theorem gr_times {told : List (Option Int)} {gains : List Int} (k : Int) (h : Gr told gains f) : Gr (told.map (oTimes k)) (gains.map (k * ·)) (fTimes k f) := by
  refine ⟨by rw [List.length_map]; exact h.pos, by rw [List.length_map, List.length_map]; exact h.le, fun n hn => ?_, fun n hn => ?_⟩
  · rw [List.length_map] at hn
    unfold fTimes
    rw [h.lo n hn, List.getD_eq_getElem?_getD, List.getD_eq_getElem?_getD, List.getElem?_map, List.getElem?_eq_getElem hn]
    rfl
  · rw [List.length_map] at hn
    rw [List.length_map]
    have hm : n % gains.length < gains.length := Nat.mod_lt _ h.pos
    unfold fTimes
    rw [h.hi n hn, List.getD_eq_getElem?_getD, List.getD_eq_getElem?_getD, List.getElem?_map, List.getElem?_eq_getElem hm]
    unfold oTimes
    cases f (n - gains.length) with
    | none => rfl
    | some v =>
      simp only [Option.map_some, Option.some.injEq, Option.getD_some]
      rw [Int.mul_add]
theorem fb_sum {M M' : Nat} (h : FB M f) (k : FB M' g) : FB (M + M') (fSum f g) := by
  intro n v e
  unfold fSum at e
  cases e1 : f n with
  | none => rw [e1] at e; cases e
  | some a =>
    cases e2 : g n with
    | none => rw [e1, e2] at e; cases e
    | some b =>
      rw [e1, e2] at e
      cases e
      have := h n a e1
      have := k n b e2
      rw [Nat.add_mul]
      omega
theorem fb_times {M : Nat} {k : Int} (h : FB M f) : FB (k.natAbs * M) (fTimes k f) := by
  intro n v e
  unfold fTimes oTimes at e
  obtain ⟨w, e1, e2⟩ := Option.map_eq_some_iff.mp e
  rw [← e2, Int.natAbs_mul, Nat.mul_assoc]
  exact Nat.mul_le_mul_left _ (h n w e1)
end
end HG
namespace HG
section
variable {f g : Nat → Option Int} {l N M : Nat} {c : Nat → Int}
theorem leastG_some {row : List (Option Int)} {L p : Nat} (h : Per f p M c) (hM : M ≤ L) (h2 : 2 * p ≤ row.length) (hr : ∀ i, i < row.length → row.getD i none = f (L + i)) : ∃ g, leastG row L p = some g := by
  have := gainsOf_per h hM h2 hr
  unfold leastG
  cases (List.range (p - 1)).findSome? fun i => if p % (i + 1) = 0 then gainsOf row L (i + 1) else none with
  | some g => exact ⟨g, rfl⟩
  | none => exact ⟨_, this⟩
/-- values and gains that were found tell f -/
theorem gr_vals {gs : List Int} {L m : Nat} (h : Per f l N c) (hl : gs.length = l) (hg : ∀ n, L ≤ n → gs.getD (n % gs.length) 0 = c n) (hN : N ≤ L) (hm : L + l ≤ m) : Gr (valsP f m) gs f := by
  have lp := h.pos
  subst hl
  refine ⟨lp, by rw [valsP_len]; omega, fun i hi => ?_, fun i hi => ?_⟩
  · rw [valsP_len] at hi
    unfold valsP
    rw [getD_map_range hi]
  · rw [valsP_len] at hi
    have e := h.st (i - gs.length) (by omega)
    have e2 := hg (i - gs.length) (by omega)
    rw [Nat.sub_add_cancel (by omega)] at e
    have e3 : (i - gs.length) % gs.length = i % gs.length := by rw [Nat.mod_eq_sub_mod (by omega : i ≥ gs.length)]
    rw [e, ← e2, e3]
theorem found_le {gs : List Int} {L B : Nat} (h : Per f l N c) (hl : gs.length = l) (hg : ∀ n, L ≤ n → gs.getD (n % gs.length) 0 = c n) (hN : N ≤ L) (fb : FB B f) : ∀ x ∈ gs, x.natAbs ≤ B * (2 * (L + 2 * l + 1)) := by
  intro x hx
  subst hl
  obtain ⟨r, hr, rfl⟩ := List.getElem_of_mem hx
  obtain ⟨i, h1, h2, h3⟩ := mod_place (L := L + gs.length) h.pos hr (by omega)
  have g1 : gs.getD (i % gs.length) 0 = gs[r] := by rw [h3, List.getD_eq_getElem?_getD, List.getElem?_eq_getElem hr]; rfl
  rw [← g1, hg i (by omega)]
  cases ef : f i with
  | none => rw [h.z i (by omega) ef]; exact Nat.zero_le _
  | some v =>
    have s := h.st i (by omega)
    rw [ef] at s
    have b1 := fb _ _ ef
    have b2 : (v + c i).natAbs ≤ B * (i + gs.length + 1) := fb _ _ s
    have e1 : B * (i + 1) ≤ B * (L + 2 * gs.length + 1) := Nat.mul_le_mul_left _ (by omega)
    have e2 : B * (i + gs.length + 1) ≤ B * (L + 2 * gs.length + 1) := Nat.mul_le_mul_left _ (by omega)
    have e3 : B * (2 * (L + 2 * gs.length + 1)) = B * (L + 2 * gs.length + 1) + B * (L + 2 * gs.length + 1) := by rw [← Nat.mul_add]; congr 1; omega
    omega
/-- any two growths have a shared period -/
theorem per_dvd {q : Nat} (h : Per f l N c) (hd : l ∣ q) (hq : 0 < q) : ∃ c', Per f q N c' := by
  obtain ⟨z, rfl⟩ := hd
  have : 0 < z := by
    cases z with
    | zero => rw [Nat.mul_zero] at hq; omega
    | succ z => omega
  rw [Nat.mul_comm]
  exact ⟨_, per_mul h this⟩
theorem per_const (i : Int) {l N : Nat} (hl : 0 < l) : Per (fun _ => some i) l N (fun _ => 0) := ⟨hl, fun n _ => by simp, fun _ _ => rfl, fun n _ e => by cases e⟩
theorem okf_sum_const {i : Int} (h : Okf f) : Okf (fSum f fun _ => some i) := by
  obtain ⟨l, N, c, k, h1, h2⟩ := h
  exact ⟨l, N, _, per_sum k (per_const i k.pos), h1, h2⟩
theorem okf_times {k : Int} (h : Okf f) : Okf (fTimes k f) := by
  obtain ⟨l, N, c, z, h1, h2⟩ := h
  exact ⟨l, N, _, per_times k z, h1, h2⟩
theorem gr_const (i : Int) : Gr [some i] [0] (fun _ => some i) := by
  refine ⟨by decide, by show 1 ≤ 1; decide, fun n hn => ?_, fun n hn => ?_⟩
  · have : n = 0 := by simp at hn; exact hn
    rw [this]; rfl
  · have : n % [(0 : Int)].length = 0 := Nat.mod_one n
    rw [this]
    simp
theorem fb_const (i : Int) : FB i.natAbs (fun _ => some i) := fun n v e => by
  cases e
  exact Nat.le_mul_of_pos_right _ (by omega)
/-- the shared multiple of two numbers -/
theorem lcm_facts {a b : Nat} (ha : 0 < a) (hb : 0 < b) : ∃ q : Nat, (a : Int) / (Int.gcd a b : Int) * (b : Int) = (q : Int) ∧ a ∣ q ∧ b ∣ q ∧ 0 < q ∧ q ≤ a * b := by
  have hg : 0 < Nat.gcd a b := Nat.gcd_pos_of_pos_left _ ha
  obtain ⟨x, hx⟩ := Nat.gcd_dvd_left a b
  obtain ⟨y, hy⟩ := Nat.gcd_dvd_right a b
  have hax : a / Nat.gcd a b = x := by
    conv => lhs; lhs; rw [hx]
    exact Nat.mul_div_cancel_left _ hg
  have hx0 : 0 < x := by
    cases x with
    | zero => rw [Nat.mul_zero] at hx; omega
    | succ x => omega
  refine ⟨a / Nat.gcd a b * b, ?_, ?_, ?_, ?_, ?_⟩
  · rw [Int.natCast_mul, Int.natCast_ediv]
    rfl
  · rw [hax]
    conv => rhs; rhs; rw [hy]
    rw [← Nat.mul_assoc, Nat.mul_comm x, ← hx]
    exact Nat.dvd_mul_right _ _
  · exact Nat.dvd_mul_left _ _
  · rw [hax]; exact Nat.mul_pos hx0 hb
  · exact Nat.mul_le_mul_right _ (Nat.div_le_self _ _)
end
end HG

/-! Texts of growths, equality of rows. -/
namespace HG
open PySem L2
/-! ### rows of numbers and Nones compared -/
theorem eqvAll_oD : ∀ os ps : List (Option Int), PyData.eqvAll (os.map oD) (ps.map oD) = decide (os = ps)
  | [], [] => rfl
  | [], _ :: _ => by simp [PyData.eqvAll]
  | _ :: _, [] => by simp [PyData.eqvAll]
  | o :: os, p :: ps => by
    show (PyData.eqv (oD o) (oD p) && PyData.eqvAll (os.map oD) (ps.map oD)) = _
    rw [eqvAll_oD os ps]
    cases o with
    | none =>
      cases p with
      | none => show (true && decide (os = ps)) = _; simp
      | some j => show (false && decide (os = ps)) = _; simp
    | some i =>
      cases p with
      | none => show (false && decide (os = ps)) = _; simp
      | some j =>
        show (decide (i = j) && decide (os = ps)) = _
        by_cases h1 : i = j <;> by_cases h2 : os = ps <;> simp [h1, h2]
section
variable {K : PySem.W.Frag} {H : Hp} {p q : Addr} {Q : VK}
theorem eqT {os ps : List (Option Int)} (hl : H p = some (.tup (os.map oV))) (hq : H q = some (.tup (ps.map oV))) (h : Q (.bl (decide (os = ps))) H) : oEq K (.ref p) (.ref q) H Q := by
  have e1 : dataF 8 H (.ref p) = some (.tuple (os.map oD)) := dataF_tup hl
  have e2 : dataF 8 H (.ref q) = some (.tuple (ps.map oD)) := dataF_tup hq
  simp only [oEq, e1, e2]
  refine ⟨(shaped_oVs os).2, (shaped_oVs ps).2, ?_⟩
  show Q (.bl (PyData.eqvAll (os.map oD) (ps.map oD))) H
  rw [eqvAll_oD]
  exact h
theorem ints_oV (ns : List Int) : ns.map V.int = (ns.map some).map oV := by rw [List.map_map]; rfl
theorem eqG {os ps : List Int} (hl : H p = some (.tup (os.map V.int))) (hq : H q = some (.tup (ps.map V.int))) (h : Q (.bl (decide (os = ps))) H) : oEq K (.ref p) (.ref q) H Q := by
  rw [ints_oV] at hl hq
  refine eqT hl hq ?_
  have e : decide (os.map some = ps.map some) = decide (os = ps) := by
    refine decide_eq_decide.mpr ⟨fun z => ?_, fun z => by rw [z]⟩
    exact (List.map_inj_right (fun x y e => Option.some.inj e)).mp z
  rw [e]
  exact h
end
/-! ### texts -/
def oS : Option Int → Str
  | none => "-"
  | some i => toString i
def gWords (told : List (Option Int)) (gains : List Int) : List Str := told.map oS ++ ((";" : Str) :: gains.map fun i => (toString i : Str))
def gText (told : List (Option Int)) (gains : List Int) : Str := Txt.join " " (gWords told gains)
open TL in
def deN (l : List Nat) : Nat := l.foldl (fun a d => 10 * a + (d - 48)) 0
open TL in
theorem deN_num (n : Nat) : deN (numL n) = n := by
  induction n using Nat.strongRecOn with
  | _ n ih =>
    by_cases h : n < 10
    · rw [numL_lt h]
      show 10 * 0 + (48 + n - 48) = n
      omega
    · rw [numL_step (by omega)]
      unfold deN at *
      rw [List.foldl_append, ih (n / 10) (by omega)]
      show 10 * (n / 10) + (48 + n % 10 - 48) = n
      omega
open TL in
theorem numL_dig (n : Nat) : numL n ≠ [] ∧ ∀ d ∈ numL n, 48 ≤ d ∧ d ≤ 57 := by
  induction n using Nat.strongRecOn with
  | _ n ih =>
    by_cases h : n < 10
    · rw [numL_lt h]
      refine ⟨by simp, fun d hd => ?_⟩
      rw [List.mem_singleton] at hd
      omega
    · rw [numL_step (by omega)]
      obtain ⟨h1, h2⟩ := ih (n / 10) (by omega)
      refine ⟨by simp, fun d hd => ?_⟩
      rcases List.mem_append.mp hd with hd | hd
      · exact h2 d hd
      · rw [List.mem_singleton] at hd
        omega
open TL in
theorem tl_nat (n : Nat) : tl (Str.ofString (toString (Int.ofNat n))) = numL n := tl_num n
open TL in
theorem tl_neg (n : Nat) : tl (Str.ofString (toString (Int.negSucc n))) = 45 :: numL (n + 1) := by
  show (Str.ofString (toString (Int.negSucc n))).cps.toList = _
  have e : toString (Int.negSucc n) = "-" ++ Nat.repr (n + 1) := rfl
  rw [PyProof.Rows.signs_ofString, e, String.toList_append, List.map_append, Nat.toList_repr]
  rfl
open TL in
theorem tl_int (i : Int) : ∃ m : Nat, (i = Int.ofNat m ∧ tl (Str.ofString (toString i)) = numL m) ∨ (∃ m', i = Int.negSucc m' ∧ m = m' + 1 ∧ tl (Str.ofString (toString i)) = 45 :: numL m) := by
  cases i with
  | ofNat m => exact ⟨m, .inl ⟨rfl, tl_nat m⟩⟩
  | negSucc m => exact ⟨m + 1, .inr ⟨m, rfl, rfl, tl_neg m⟩⟩
open TL in
theorem oS_dash (i : Int) : (Str.ofString (toString i)) ≠ ("-" : Str) := by
  intro z
  have e : tl (Str.ofString (toString i)) = [45] := by rw [z]; rfl
  obtain ⟨m, ⟨_, h⟩ | ⟨m', _, _, h⟩⟩ := tl_int i
  · rw [h] at e
    have := (numL_dig m).2 45 (by rw [e]; simp)
    omega
  · rw [h] at e
    exact (numL_dig m).1 (List.cons.inj e).2
open TL in
theorem oS_semi (o : Option Int) : oS o ≠ (";" : Str) := by
  cases o with
  | none => decide
  | some i =>
    intro z
    have e : tl (Str.ofString (toString i)) = [59] := by
      show tl (oS (some i)) = _
      rw [z]; rfl
    obtain ⟨m, ⟨_, h⟩ | ⟨m', _, _, h⟩⟩ := tl_int i
    · rw [h] at e
      have := (numL_dig m).2 59 (by rw [e]; simp)
      omega
    · rw [h] at e
      have := (List.cons.inj e).1
      omega
open TL in
theorem text_inj {i j : Int} (h : Str.ofString (toString i) = Str.ofString (toString j)) : i = j := by
  have e : tl (Str.ofString (toString i)) = tl (Str.ofString (toString j)) := by rw [h]
  obtain ⟨m, ⟨h1, h2⟩ | ⟨m', h1, h3, h2⟩⟩ := tl_int i
  · obtain ⟨n, ⟨k1, k2⟩ | ⟨n', k1, k3, k2⟩⟩ := tl_int j
    · rw [h2, k2] at e
      have := deN_num m
      rw [e, deN_num] at this
      rw [h1, k1, this]
    · rw [h2, k2] at e
      have := (numL_dig m).2 45 (by rw [e]; simp)
      omega
  · obtain ⟨n, ⟨k1, k2⟩ | ⟨n', k1, k3, k2⟩⟩ := tl_int j
    · rw [h2, k2] at e
      have := (numL_dig n).2 45 (by rw [← e]; simp)
      omega
    · rw [h2, k2] at e
      have e := (List.cons.inj e).2
      have := deN_num m
      rw [e, deN_num] at this
      rw [h1, k1]
      congr 1
      omega
theorem oS_inj {o p : Option Int} (h : oS o = oS p) : o = p := by
  cases o with
  | none =>
    cases p with
    | none => rfl
    | some j => exact absurd h.symm (oS_dash j)
  | some i =>
    cases p with
    | none => exact absurd h (oS_dash i)
    | some j => rw [text_inj h]
theorem gWords_inj : ∀ {t t' : List (Option Int)} {A B : List Str}, t.map oS ++ ((";" : Str) :: A) = t'.map oS ++ ((";" : Str) :: B) → t = t' ∧ A = B
  | [], [], A, B, h => ⟨rfl, (List.cons.inj h).2⟩
  | [], p :: t', A, B, h => absurd (List.cons.inj h).1.symm (oS_semi p)
  | o :: t, [], A, B, h => absurd (List.cons.inj h).1 (oS_semi o)
  | o :: t, p :: t', A, B, h => by
    obtain ⟨h1, h2⟩ := List.cons.inj h
    obtain ⟨e1, e2⟩ := gWords_inj h2
    exact ⟨by rw [oS_inj h1, e1], e2⟩
open TL in
theorem word_free (told : List (Option Int)) (gains : List Int) : ∀ p ∈ gWords told gains, 32 ∉ tl p := by
  have num : ∀ i : Int, 32 ∉ tl (Str.ofString (toString i)) := fun i z => (PyProof.Rows.intText_free_32 i).mp z
  intro p hp
  unfold gWords at hp
  rcases List.mem_append.mp hp with hp | hp
  · obtain ⟨o, ho, rfl⟩ := List.mem_map.mp hp
    cases o with
    | none => decide
    | some i => exact num i
  · rcases List.mem_cons.mp hp with hp | hp
    · rw [hp]; decide
    · obtain ⟨i, hi, rfl⟩ := List.mem_map.mp hp
      exact num i
open TL in
theorem split_gText (told : List (Option Int)) (gains : List Int) : Txt.split (gText told gains) " " = gWords told gains :=
  split_join (y := " ") (s := 32) (S := []) (by decide) (by decide +kernel) (by unfold gWords; simp) (word_free told gains)
theorem gText_inj {t t' : List (Option Int)} {g g' : List Int} (h : gText t g = gText t' g') : t = t' ∧ g = g' := by
  have e : gWords t g = gWords t' g' := by rw [← split_gText, ← split_gText, h]
  obtain ⟨h1, h2⟩ := gWords_inj e
  exact ⟨h1, (List.map_inj_right (fun x y z => text_inj z)).mp h2⟩
theorem text_len {i : Int} {m : Nat} (h : Bn (m + 1) i) : (Str.ofString (toString i)).length ≤ m + 2 := by
  rw [PySem.ofString_length]
  have := PySem.int_text_length_le (a := i) (k := m + 1) (by omega) (Nat.lt_succ_of_le (Bn.log h))
  omega
/-- the room that a text takes -/
theorem gText_room {told : List (Option Int)} {gains : List Int} {m : Nat} (h1 : told.length ≤ 4000) (h2 : gains.length ≤ 60) (ht : ∀ o ∈ told, ∀ i, o = some i → Bn (m + 1) i) (hg : ∀ x ∈ gains, Bn (m + 1) x) (hm : m ≤ 2000) :
    ((gWords told gains).map (·.length)).sum + (gWords told gains).length * (" " : Str).length ≤ 16777216 := by
  have le : ∀ {l : List Nat} {b : Nat}, (∀ x ∈ l, x ≤ b) → l.sum ≤ l.length * b := by
    intro l b
    induction l with
    | nil => intro _; simp
    | cons x l ih =>
      intro h
      have h1 := h x (List.mem_cons_self ..)
      have h2 := ih fun y hy => h y (List.mem_cons_of_mem _ hy)
      rw [List.sum_cons, List.length_cons, Nat.add_mul, Nat.one_mul]
      omega
  have wl : (gWords told gains).length ≤ 4061 := by
    unfold gWords
    rw [List.length_append, List.length_map, List.length_cons, List.length_map]
    omega
  have ww : ∀ x ∈ (gWords told gains).map (·.length), x ≤ 2002 := by
    intro x hx
    obtain ⟨w, hw, rfl⟩ := List.mem_map.mp hx
    unfold gWords at hw
    rcases List.mem_append.mp hw with hw | hw
    · obtain ⟨o, ho, rfl⟩ := List.mem_map.mp hw
      cases o with
      | none => show (1 : Nat) ≤ 2002; decide
      | some i => exact Nat.le_trans (text_len (ht _ ho i rfl)) (by omega)
    · rcases List.mem_cons.mp hw with hw | hw
      · rw [hw]; show (1 : Nat) ≤ 2002; decide
      · obtain ⟨i, hi, rfl⟩ := List.mem_map.mp hw
        exact Nat.le_trans (text_len (hg _ hi)) (by omega)
  have s := le ww
  rw [List.length_map] at s
  have e1 : (gWords told gains).length * 2002 ≤ 4061 * 2002 := Nat.mul_le_mul_right _ wl
  have e2 : (" " : Str).length = 1 := by decide
  rw [e2]
  omega
open TL in
theorem joinL_mem {S : List Nat} {x : Nat} : ∀ {parts : List (List Nat)}, x ∈ joinL S parts → x ∈ S ∨ ∃ p ∈ parts, x ∈ p
  | [], h => by exact absurd h (List.not_mem_nil)
  | [p], h => .inr ⟨p, by simp, h⟩
  | p :: q :: r, h => by
    have h : x ∈ p ++ (S ++ joinL S (q :: r)) := h
    rcases List.mem_append.mp h with h | h
    · exact .inr ⟨p, by simp, h⟩
    · rcases List.mem_append.mp h with h | h
      · exact .inl h
      · rcases joinL_mem h with h | ⟨u, h1, h2⟩
        · exact .inl h
        · exact .inr ⟨u, List.mem_cons_of_mem _ h1, h2⟩
open TL in
theorem num_small (i : Int) : ∀ x ∈ tl (Str.ofString (toString i)), x < 128 := by
  intro x hx
  obtain ⟨m, ⟨_, h⟩ | ⟨m', _, _, h⟩⟩ := tl_int i
  · rw [h] at hx
    have := (numL_dig m).2 x hx
    omega
  · rw [h] at hx
    rcases List.mem_cons.mp hx with hx | hx
    · omega
    · have := (numL_dig m).2 x hx
      omega
open TL in
theorem gText_small (told : List (Option Int)) (gains : List Int) : ∀ x ∈ tl (gText told gains), x < 128 := by
  intro x hx
  unfold gText at hx
  rw [join_eq, tl_join] at hx
  rcases joinL_mem hx with hx | ⟨p, hp, hx⟩
  · have e : tl (" " : Str) = [32] := by decide
    rw [e, List.mem_singleton] at hx
    omega
  · obtain ⟨w, hw, rfl⟩ := List.mem_map.mp hp
    unfold gWords at hw
    rcases List.mem_append.mp hw with hw | hw
    · obtain ⟨o, ho, rfl⟩ := List.mem_map.mp hw
      cases o with
      | none =>
        have e : tl (oS none) = [45] := by decide
        rw [e, List.mem_singleton] at hx
        omega
      | some i => exact num_small i x hx
    · rcases List.mem_cons.mp hw with hw | hw
      · have e : tl (";" : Str) = [59] := by decide
        rw [hw, e, List.mem_singleton] at hx
        omega
      · obtain ⟨i, hi, rfl⟩ := List.mem_map.mp hw
        exact num_small i x hx
open TL in
theorem strOk_of {z : Str} (h : ∀ x ∈ tl z, x < 128) : PyData.strOk z = true := by
  unfold PyData.strOk
  rw [← Array.all_toList, List.all_eq_true]
  intro x hx
  have := h x hx
  exact decide_eq_true (by omega)
theorem gText_ok (told : List (Option Int)) (gains : List Int) : PyData.strOk (gText told gains) = true := strOk_of (gText_small told gains)
end HG

/-! Wide periods; pairs and triples compared. -/
namespace HG
open PySem L2
section
variable {f F : Nat → Option Int} {P N : Nat} {C : Nat → Int} {x : Int} {told : List (Option Int)} {gains g0 : List Int}
/-- a period with one rest whose gain is unlike all others is the least one -/
theorem lst_odd (h : Per F P N C) (h0 : ∀ n, N ≤ n → n % P = 0 → C n = x) (h1 : ∀ n, N ≤ n → n % P ≠ 0 → C n ≠ x) : Lst F P := by
  intro l M c k
  by_cases z : P ≤ l
  · exact z
  · exfalso
    have a := h.up (M := max N M) (by omega)
    have b := k.up (M := max N M) (by omega)
    have hp := h.pos
    have hl := k.pos
    have big : max N M ≤ (max N M) * P := Nat.le_mul_of_pos_right _ hp
    have e1 := a.both b (n := (max N M) * P) big
    have e2 := a.both b (n := (max N M) * P + l) (by omega)
    rw [b.cp _ big, ← e1] at e2
    have e3 : C ((max N M) * P + l) = C ((max N M) * P) := mul_inj hl e2
    rw [h0 ((max N M) * P) (by omega) (Nat.mul_mod_left _ _)] at e3
    refine h1 ((max N M) * P + l) (by omega) ?_ e3
    rw [Nat.mul_add_mod_self_right, Nat.mod_eq_of_lt (by omega)]
    omega
theorem gv_rest (hp : 0 < gains.length) (hl : gains.length = told.length) (n : Nat) : gv told gains n = none ↔ told.getD (n % gains.length) none = none := by
  have G := gr_gv hp (by omega : gains.length ≤ told.length)
  have := (gr_per G).nos (n := n % gains.length) (by omega) (n / gains.length)
  have e : n % gains.length + n / gains.length * gains.length = n := by
    have := Nat.div_add_mod n gains.length
    rw [Nat.mul_comm] at this
    omega
  rw [e] at this
  rw [this, gv_lt (by have := Nat.mod_lt n hp; omega)]
theorem wide_per (hp : 0 < gains.length) (hl : gains.length = told.length) (hz : ∀ i, i < told.length → told.getD i none = none → gains.getD i 0 = 0) : Per (gv told gains) gains.length 0 (fun n => gains.getD (n % gains.length) 0) := by
  have G := gr_gv hp (by omega : gains.length ≤ told.length)
  refine ⟨hp, fun n _ => G.step (by omega), fun n _ => by rw [Nat.add_mod_right], fun n _ e => ?_⟩
  exact hz _ (by have := Nat.mod_lt n hp; omega) ((gv_rest hp hl n).mp e)
theorem wide_nf {x : Int} (hp : 0 < gains.length) (hl : gains.length = told.length) (hz : ∀ i, i < told.length → told.getD i none = none → gains.getD i 0 = 0) (h0 : gains.getD 0 0 = x) (h1 : ∀ i, 0 < i → i < gains.length → gains.getD i 0 ≠ x) : Nf told gains (gv told gains) := by
  have G := gr_gv hp (by omega : gains.length ≤ told.length)
  refine ⟨G, lst_odd (wide_per hp hl hz) (x := x) (fun n _ e => by rw [e]; exact h0) (fun n _ e => h1 _ (by omega) (Nat.mod_lt _ hp)), fun n _ e => ?_, fun hc => absurd hc (by omega)⟩
  exact hz _ (by have := Nat.mod_lt n hp; omega) ((gv_rest hp hl n).mp e)
/-- other gains at rests that are None for ever -/
theorem wide_other (hp : 0 < gains.length) (hl : gains.length = told.length) (hg : g0.length = gains.length) (h : ∀ i, i < told.length → told.getD i none ≠ none → g0.getD i 0 = gains.getD i 0) : gv told g0 = gv told gains := by
  have G0 := gr_gv (by omega : 0 < g0.length) (by omega : g0.length ≤ told.length)
  have G : Gr told gains (gv told g0) := by
    refine ⟨hp, by omega, fun n hn => gv_lt hn, fun n hn => ?_⟩
    rw [G0.hi n hn, hg]
    cases e : gv told g0 (n - gains.length) with
    | none => rfl
    | some v =>
      have hm := Nat.mod_lt n hp
      have e2 : (n - gains.length) % gains.length = n % gains.length := by rw [Nat.mod_eq_sub_mod (by omega : n ≥ gains.length)]
      have : told.getD (n % gains.length) none ≠ none := fun z => by
        have := (gv_rest (told := told) (gains := g0) (by omega) (by omega) (n - gains.length)).mpr (by rw [hg, e2]; exact z)
        rw [this] at e
        cases e
      rw [h _ (by omega) this]
  funext n
  exact G.eq (gr_gv hp (by omega)) n
theorem sum_self (f : Nat → Option Int) : fSum f f = fTimes 2 f := by
  funext n
  unfold fSum fTimes oTimes
  cases f n with
  | none => rfl
  | some v =>
    show some (v + v) = some (2 * v)
    congr 1
    omega
end
/-! ### pairs and triples of rows -/
section
variable {K : PySem.W.Frag} {H : Hp} {p q x y x' y' : Addr} {Q : VK} {os ps : List (Option Int)} {gs hs : List Int} {u v : Str}
def pD (os : List (Option Int)) (gs : List Int) : List PyData := [.tuple (os.map oD), .tuple (gs.map PyData.int)]
theorem dataF_gs {n : Nat} (h : H p = some (.tup (gs.map V.int))) : dataF (n + 1) H (.ref p) = some (.tuple (gs.map PyData.int)) := by
  simp only [dataF, h]
  rw [dataL_ints (fun i => dataF_int)]
  rfl
theorem data_pair {n : Nat} (h : H p = some (.tup [.ref x, .ref y])) (hx : H x = some (.tup (os.map oV))) (hy : H y = some (.tup (gs.map V.int))) : dataF (n + 2) H (.ref p) = some (.tuple (pD os gs)) := by
  have e1 : dataF (n + 1) H (.ref x) = some (.tuple (os.map oD)) := dataF_tup hx
  have e2 : dataF (n + 1) H (.ref y) = some (.tuple (gs.map PyData.int)) := dataF_gs hy
  rw [dataF, h]
  simp only [dataL, e1, e2]
  rfl
theorem data_triple {n : Nat} (h : H p = some (.tup [.ref x, .ref y, .str u])) (hx : H x = some (.tup (os.map oV))) (hy : H y = some (.tup (gs.map V.int))) : dataF (n + 2) H (.ref p) = some (.tuple [.tuple (os.map oD), .tuple (gs.map PyData.int), .str u]) := by
  have e1 : dataF (n + 1) H (.ref x) = some (.tuple (os.map oD)) := dataF_tup hx
  have e2 : dataF (n + 1) H (.ref y) = some (.tuple (gs.map PyData.int)) := dataF_gs hy
  have e3 : dataF (n + 1) H (.str u) = some (.str u) := rfl
  rw [dataF, h]
  simp only [dataL, e1, e2, e3]
  rfl
theorem ints_oD (gs : List Int) : gs.map PyData.int = (gs.map some).map oD := by rw [List.map_map]; rfl
theorem shaped2 (a b : List (Option Int)) (c : List PyData) (hc : PyData.canLayAll0 c = true ∧ PyData.depthAll c ≤ 1) : SeqAt.shaped (.tuple (.tuple (a.map oD) :: .tuple (b.map oD) :: c)) = true := by
  obtain ⟨a1, a2⟩ := shape_oVs a
  obtain ⟨b1, b2⟩ := shape_oVs b
  show ((PyData.canLayAll0 (a.map oD) && (PyData.canLayAll0 (b.map oD) && PyData.canLayAll0 c)) && decide (max (PyData.depthAll (a.map oD) + 1) (max (PyData.depthAll (b.map oD) + 1) (PyData.depthAll c)) + 1 ≤ 64)) = true
  rw [a1, b1, hc.1, decide_eq_true (by rw [a2, b2]; omega)]
  rfl
theorem shaped_pair : SeqAt.shaped (.tuple (pD os gs)) = true := by
  unfold pD
  rw [ints_oD]
  exact shaped2 os (gs.map some) [] ⟨rfl, Nat.zero_le _⟩
theorem shaped_triple (hu : PyData.strOk u = true) : SeqAt.shaped (.tuple [.tuple (os.map oD), .tuple (gs.map PyData.int), .str u]) = true := by
  rw [ints_oD]
  exact shaped2 os (gs.map some) [.str u] ⟨by show (PyData.strOk u && true) = true; rw [hu]; rfl, by show max 0 0 ≤ 1; decide⟩
theorem eqvAll_int (gs hs : List Int) : PyData.eqvAll (gs.map PyData.int) (hs.map PyData.int) = decide (gs = hs) := by
  rw [ints_oD, ints_oD, eqvAll_oD]
  exact decide_eq_decide.mpr ⟨fun z => (List.map_inj_right (fun x y e => Option.some.inj e)).mp z, fun z => by rw [z]⟩
theorem eqv_pair : PyData.eqv (.tuple (pD os gs)) (.tuple (pD ps hs)) = (decide (os = ps) && decide (gs = hs)) := by
  show (PyData.eqvAll (os.map oD) (ps.map oD) && (PyData.eqvAll (gs.map PyData.int) (hs.map PyData.int) && true)) = _
  rw [eqvAll_oD, eqvAll_int, Bool.and_true]
theorem eqv_triple : PyData.eqv (.tuple [.tuple (os.map oD), .tuple (gs.map PyData.int), .str u]) (.tuple [.tuple (ps.map oD), .tuple (hs.map PyData.int), .str v]) = (decide (os = ps) && (decide (gs = hs) && decide (u = v))) := by
  show (PyData.eqvAll (os.map oD) (ps.map oD) && (PyData.eqvAll (gs.map PyData.int) (hs.map PyData.int) && (decide (u = v) && true))) = _
  rw [eqvAll_oD, eqvAll_int, Bool.and_true]
theorem nePair (h : H p = some (.tup [.ref x, .ref y])) (hx : H x = some (.tup (os.map oV))) (hy : H y = some (.tup (gs.map V.int))) (h' : H q = some (.tup [.ref x', .ref y'])) (hx' : H x' = some (.tup (ps.map oV))) (hy' : H y' = some (.tup (hs.map V.int)))
    (k : Q (.bl (!(decide (os = ps) && decide (gs = hs)))) H) : oNe K (.ref p) (.ref q) H Q := by
  have e1 : dataF 8 H (.ref p) = some (.tuple (pD os gs)) := data_pair h hx hy
  have e2 : dataF 8 H (.ref q) = some (.tuple (pD ps hs)) := data_pair h' hx' hy'
  simp only [oNe, e1, e2]
  exact ⟨shaped_pair, shaped_pair, by rw [eqv_pair]; exact k⟩
theorem eqPair (h : H p = some (.tup [.ref x, .ref y])) (hx : H x = some (.tup (os.map oV))) (hy : H y = some (.tup (gs.map V.int))) (h' : H q = some (.tup [.ref x', .ref y'])) (hx' : H x' = some (.tup (ps.map oV))) (hy' : H y' = some (.tup (hs.map V.int)))
    (k : Q (.bl (decide (os = ps) && decide (gs = hs))) H) : oEq K (.ref p) (.ref q) H Q := by
  have e1 : dataF 8 H (.ref p) = some (.tuple (pD os gs)) := data_pair h hx hy
  have e2 : dataF 8 H (.ref q) = some (.tuple (pD ps hs)) := data_pair h' hx' hy'
  simp only [oEq, e1, e2]
  exact ⟨shaped_pair, shaped_pair, by rw [eqv_pair]; exact k⟩
theorem neTriple (h : H p = some (.tup [.ref x, .ref y, .str u])) (hx : H x = some (.tup (os.map oV))) (hy : H y = some (.tup (gs.map V.int))) (h' : H q = some (.tup [.ref x', .ref y', .str v])) (hx' : H x' = some (.tup (ps.map oV))) (hy' : H y' = some (.tup (hs.map V.int)))
    (hu : PyData.strOk u = true) (hv : PyData.strOk v = true) (k : Q (.bl (!(decide (os = ps) && (decide (gs = hs) && decide (u = v))))) H) : oNe K (.ref p) (.ref q) H Q := by
  have e1 : dataF 8 H (.ref p) = some (.tuple [.tuple (os.map oD), .tuple (gs.map PyData.int), .str u]) := data_triple h hx hy
  have e2 : dataF 8 H (.ref q) = some (.tuple [.tuple (ps.map oD), .tuple (hs.map PyData.int), .str v]) := data_triple h' hx' hy'
  simp only [oNe, e1, e2]
  exact ⟨shaped_triple hu, shaped_triple hv, by rw [eqv_triple]; exact k⟩
end
end HG

/-! Lambdas handed to a def: the callee runs over a greater base, the whole heap at the call that nobody tracks. -/
namespace HG
open PySem L2 PyProof.Rows LamX
/-! ### the base at a moment -/
def baseOf (h : Heap) (H : Hp) (fs : List Addr) : Heap := PySem.W.hideAll h (trk h H ++ fs)
theorem baseOf_get {h : Heap} {H : Hp} {fs : List Addr} {b : Addr} {o : Obj} (e : h.get? b = some o) (n : H b = none) (f : b ∉ fs) : (baseOf h H fs).get? b = some o :=
  PySem.W.hideAll_get _ e fun hm => by
    rcases List.mem_append.mp hm with hm | hm
    · have q : (H b).isSome = true := (List.mem_filter.mp hm).2
      rw [n] at q; simp at q
    · exact f hm
theorem of_baseOf {h : Heap} {H : Hp} {fs : List Addr} {b : Addr} {o : Obj} (e : (baseOf h H fs).get? b = some o) : h.get? b = some o ∧ H b = none ∧ b ∉ fs := by
  have e' : h.get? b = some o := PySem.W.of_hideAll _ e
  refine ⟨e', ?_, fun hm => ?_⟩
  · cases q : H b with
    | none => rfl
    | some x =>
      have hm : b ∈ trk h H ++ fs := List.mem_append_left _ (List.mem_filter.mpr ⟨List.mem_range.mpr (Heap.lt_size e'), by simp [q]⟩)
      rw [baseOf, PySem.W.hideAll_none _ hm] at e
      cases e
  · have hm : b ∈ trk h H ++ fs := List.mem_append_right _ hm
    rw [baseOf, PySem.W.hideAll_none _ hm] at e
    cases e
section
variable {X : Cx} {pins : List (Addr × Obj)} {σ : L2.St} {H : Hp} {s : Shared}
theorem base_in (I : Inv X pins σ H s) : ∀ b o, X.base.get? b = some o → (baseOf s.heap H (frs X.stack)).get? b = some o := fun b o e => by
  have h := I.bs b o e
  refine baseOf_get h.1 h.2 fun z => ?_
  have := (I.env0.funs.mem z).1
  rw [e] at this
  cases this
theorem mod_base (I : Inv X pins σ H s) : Mod X.K X.mg (baseOf s.heap H (frs X.stack)) := by
  have k := base_in I
  have m := I.mod
  refine ⟨m.kin.keeps k, m.glob.keeps k, ?_, m.nolimit.keeps k⟩
  obtain ⟨mb, h1, h2⟩ := m.blt
  exact ⟨mb, h1.keeps k, h2⟩
theorem funs_base {h base base' : Heap} {l : List Env} (hl : h.FunFrames base l) (hn : ∀ b ∈ l.filterMap (·.frame), base'.get? b = none) : h.FunFrames base' l := by
  induction l with
  | nil => trivial
  | cons env rest ih =>
    obtain ⟨hk, ⟨L, o, hf, _, ho, hd⟩, hr⟩ := hl
    refine ⟨hk, ⟨L, o, hf, hn L (by rw [List.filterMap_cons, hf]; exact List.mem_cons_self ..), ho, hd⟩, ih hr fun b hb => hn b ?_⟩
    rw [List.filterMap_cons, hf]
    exact List.mem_cons_of_mem _ hb
theorem env0_base (I : Inv X pins σ H s) : Env0 X.prog X.w X.K X.mg (baseOf s.heap H (frs X.stack)) X.A X.stack s H := by
  have e0 := I.env0
  refine ⟨e0.frames, mod_base I, fun b o e => ⟨(of_baseOf e).1, (of_baseOf e).2.1⟩, Nat.le_of_eq (PySem.W.hideAll_size _ _), funs_base e0.funs fun b hb => ?_, e0.frf, e0.hok, e0.bare⟩
  cases e : (baseOf s.heap H (frs X.stack)).get? b with
  | none => rfl
  | some o => exact absurd hb (of_baseOf e).2.2
end
/-! ### function objects of a base -/
/-- the object at f in the base is a function that does as sp says -/
structure FnB (P : Program) (w : World) (K : PySem.W.Frag) (mg : Str → Option Value) (base : Heap) (CX : CXT) (k : Nat) (f : Addr) (sp : Sp) : Prop where
  at_ : ∀ h : Heap, (∀ b o, base.get? b = some o → h.get? b = some o) → PySem.W.FnAt f h
  run : ∀ (A : Around) (outer : List Env) (s : Shared) (H : Hp) (us : List Value) (vs : List V) (Q : VK) (E : XK), Room k A → GA A → Env0 P w K mg base A outer s H → Vals vs us → sp vs H Q E →
    codeAny (model P w) A (.call (.ref f) ⟨us, []⟩) (CR CX outer P w H s Q E) s
abbrev Lams := Addr → Option Sp
def LamsOk (P : Program) (w : World) (K : PySem.W.Frag) (mg : Str → Option Value) (base : Heap) (CX : CXT) (k : Nat) (L : Lams) : Prop := ∀ f sp, L f = some sp → FnB P w K mg base CX k f sp
/-- x(..), x a name that holds such a function -/
def tCallV (L : Lams) (i : Nat) (E : XK) (t : TA) : TE := fun σ H Q => ∃ f sp, σ[i]? = some (some (.ref f)) ∧ L f = some sp ∧ t σ H fun vs H1 => sp vs H1 Q E
section
variable {X : Cx} {CX : CXT} {k i : Nat} {E : XK} {a : Str} {p1 p2 : Pos} {e : Expr} {es : List Expr} {t : TA} {L : Lams}
theorem pe_callV (hL : LamsOk X.prog X.w X.K X.mg X.base CX k L) (hr : Room k X.A) (hG : GA X.A) (hx : Passes CX X E) (hN : X.N[i]? = some a) (hv : Vis X.env.scope a) (ha : PA X (e :: es) t) (hd : (a == ("__debug__" : Str)) = false := by decide) (hcd : (a == ("__classdict__" : Str)) = false := by decide)
    (he : starEach (e :: es) X.env = (false, eval e X.env) :: starEach es X.env := by rfl) (hpl : (backTo p2 (starEach es X.env)).any (·.1) = false := by rfl) : PE X (.Call (.Name a p1) (e :: es) [] p2) (tCallV L i E t) := by
  refine ⟨fun pins s σ H Q I h => ?_⟩
  obtain ⟨f, sp, hs, hl, ht⟩ := h
  have F := hL f sp hl
  refine wpAny_Call_Name_kw (thn ((pe_var (pos := p1) (i := i) hN hv hd hcd).run pins s σ H (fun v H1 => v = .ref f ∧ H1 = H) I ⟨.ref f, hs, rfl, rfl⟩) fun u s1 ⟨v, H1, I1, r1, q1⟩ => ?_)
  obtain ⟨ev, eH⟩ := q1
  subst ev
  rw [eH] at I1
  obtain rfl : u = Value.ref f := r1
  refine PySem.W.callWith_F (first := []) (F.at_ _ I1.bk) (thn (ha.run p2 pins s1 σ H _ I1 ht) fun us s2 z => ?_) he hpl
  obtain ⟨vs, H2, I2, r, q⟩ := z
  exact ⟨F.at_ _ I2.bk, wpAny_call (codeAny_mono (F.run X.A X.stack s2 H2 us vs Q E hr hG I2.env0 r q) fun r s' hq => behind hx I2 hq)⟩
theorem pe_callV0 (hL : LamsOk X.prog X.w X.K X.mg X.base CX k L) (hr : Room k X.A) (hG : GA X.A) (hx : Passes CX X E) (hN : X.N[i]? = some a) (hv : Vis X.env.scope a) (hd : (a == ("__debug__" : Str)) = false := by decide) (hcd : (a == ("__classdict__" : Str)) = false := by decide) : PE X (.Call (.Name a p1) [] [] p2) (tCallV L i E tNil) := by
  refine ⟨fun pins s σ H Q I h => ?_⟩
  obtain ⟨f, sp, hs, hl, ht⟩ := h
  have F := hL f sp hl
  refine wpAny_Call_Name_kw (thn ((pe_var (pos := p1) (i := i) hN hv hd hcd).run pins s σ H (fun v H1 => v = .ref f ∧ H1 = H) I ⟨.ref f, hs, rfl, rfl⟩) fun u s1 ⟨v, H1, I1, r1, q1⟩ => ?_)
  obtain ⟨ev, eH⟩ := q1
  subst ev
  rw [eH] at I1
  obtain rfl : u = Value.ref f := r1
  exact PySem.W.callWith_F0 (F.at_ _ I1.bk) (wpAny_call (codeAny_mono (F.run X.A X.stack s1 H [] [] Q E hr hG I1.env0 .nil ht) fun r s' hq => behind hx I1 hq))
end
theorem nd_inj {α : Type} {l : List α} (h : l.Nodup) {i j : Nat} {hi : i < l.length} {hj : j < l.length} (e : l[i] = l[j]) : i = j := by
  have p := List.pairwise_iff_getElem.mp h
  rcases Nat.lt_trichotomy i j with z | z | z
  · exact absurd e (p i j hi hj z)
  · exact z
  · exact absurd e.symm (p j i hj hi z)
/-! ### the lambda's own run -/
/-- the parameters are its only own names -/
structure LamP (sc scope : Scope) (ps : List Str) : Prop where
  kind : scope.kind = .function
  co : scope.isCoroutine = false
  gen : scope.isGenerator = false
  nocell : ∀ y ∈ scope.names, y.2 ≠ .cell
  loc : ∀ y ∈ scope.names, y.2 = .local → y.1 ∈ ps
  par : ∀ p ∈ ps, scope.names.lookup p = some .local
  free : ∀ y ∈ scope.names, y.2 = .free → sc.names.lookup y.1 = some .cell ∨ sc.names.lookup y.1 = some .free
def lamPB (sc scope : Scope) (ps : List Str) : Bool :=
  decide (scope.kind = .function) && !scope.isCoroutine && !scope.isGenerator && (scope.names.all fun y => !decide (y.2 = .cell) && (!decide (y.2 = .local) || ps.contains y.1) && (!decide (y.2 = .free) || decide (sc.names.lookup y.1 = some .cell) || decide (sc.names.lookup y.1 = some .free))) && ps.all fun p => decide (scope.names.lookup p = some .local)
theorem lamP_by {sc scope : Scope} {ps : List Str} (h : lamPB sc scope ps = true) : LamP sc scope ps := by
  unfold lamPB at h
  simp only [Bool.and_eq_true, Bool.or_eq_true, Bool.not_eq_true', decide_eq_true_eq, decide_eq_false_iff_not, List.all_eq_true, List.contains_iff_mem] at h
  obtain ⟨⟨⟨⟨h1, h2⟩, h3⟩, h4⟩, h5⟩ := h
  refine ⟨h1, h2, h3, fun y hy => (h4 y hy).1.1, fun y hy e => ?_, h5, fun y hy e => ?_⟩
  · rcases (h4 y hy).1.2 with z | z
    · exact absurd e z
    · exact z
  · rcases (h4 y hy).2 with (z | z) | z
    · exact absurd e z
    · exact .inl z
    · exact .inr z
abbrev lamEnvB (X : Cx) (scope : Scope) (L f c' : Addr) : Env := PySem.W.envX (X.env.qual ++ "<lambda>") scope L f (.ref c') (cloFrom X.env.cells scope.names [])
/-- the context of the lambda's body, entered at s from the frames outer, over a base -/
def lamCxB (X : Cx) (base : Heap) (CX : CXT) (A : Around) (outer : List Env) (s : Shared) (H : Hp) (E : XK) (scope : Scope) (f c' : Addr) : Cx where
  prog := X.prog
  w := X.w
  K := X.K
  mg := X.mg
  base := base
  A := A.deeper (lamEnvB X scope s.heap.objs.size f c')
  N := X.N
  s_0 := s
  H_0 := H
  env := lamEnvB X scope s.heap.objs.size f c'
  outer := outer
  stack := lamEnvB X scope s.heap.objs.size f c' :: outer
  ex := []
  fn := fun _ => false
  calm := true
  pn := []
  xe := fun e s' => wpAny (model X.prog X.w) (A.deeper (lamEnvB X scope s.heap.objs.size f c')) (leaving (lamEnvB X scope s.heap.objs.size f c') e) (fun _ s'' => CX outer H s E e s'') (fun e' s'' => CX outer H s E e' s'') s'
section
variable {X : Cx} {pins : List (Addr × Obj)} {σ : L2.St} {H : Hp} {s : Shared} {CX : CXT}
theorem cell_nofr (I : Inv X pins σ H s) (hfn : ∀ x, X.fn x = true) {y : Str} {c : Addr} (hc : X.env.cells.lookup y = some c) : c ∉ frs X.stack := by
  obtain ⟨v, o, ho, hd⟩ := I.cell y c hc
  have noO : c ∉ X.fs := fun z => by
    obtain ⟨_, o', ho', _⟩ := I.ok.funs.mem z
    have h1 := Heap.lt_size ho'
    have h2 := I.ok.cab y c (hfn y) hc
    exact absurd (Nat.lt_of_lt_of_le h1 h2) (Nat.lt_irrefl _)
  rcases I.ok.stk with e | ⟨e, ef⟩
  · rw [e]; exact noO
  · rw [e]
    intro z
    have z : c ∈ (X.env :: X.outer).filterMap (·.frame) := z
    rw [List.filterMap_cons, ef] at z
    rcases List.mem_cons.mp z with z | z
    · obtain ⟨m, ⟨o2, es, ep, e2, hd2, _⟩, _⟩ := I.loc
      rw [← z, ho] at e2
      cases e2
      rw [hd] at hd2
      cases hd2
    · exact noO z
theorem lam_startB {A : Around} {outer : List Env} {E : XK} {scope : Scope} {ps : List Str} {f c' : Addr} {h₁ : Heap} {tk : Nat} {s1 : Shared} {HZ : Hp} {binds : List (Str × Value)} {σ' : L2.St} (I : Inv X pins σ H s) (hfn : ∀ x, X.fn x = true) (L : LamP X.env.scope scope ps)
    (e0 : Env0 X.prog X.w X.K X.mg (baseOf s.heap H (frs X.stack)) A outer s1 HZ) (hd : A.handled = none) (hns : h₁.Ns s1.heap.objs.size fun y => binds.reverse.lookup y) (kp : ∀ b o, s1.heap.get? b = some o → h₁.get? b = some o) (hl : σ'.length = X.N.length)
    (hfree : ∀ (i : Nat) (x : Str) (v : V), X.N[i]? = some x → σ'[i]? = some (some v) → scope.names.lookup x = some .free → σ[i]? = some (some v))
    (hloc : ∀ (i : Nat) (x : Str) (v : V), X.N[i]? = some x → σ'[i]? = some (some v) → scope.names.lookup x = some .local → ∃ u, RelV v u ∧ binds.reverse.lookup x = some u) :
    Inv (lamCxB X (baseOf s.heap H (frs X.stack)) CX A outer s1 HZ E scope f c') [] σ' HZ { s1 with heap := h₁, toks := tk } := by
  have hfr : ∀ y ∈ scope.names, y.2 = .free → ∃ c, X.env.cells.lookup y.1 = some c := fun y hy e => by
    rcases L.free y hy e with k | k
    · exact I.ok.has _ (.inl k)
    · exact I.ok.has _ (.inr k)
  have cm : ∀ {y c}, (cloFrom X.env.cells scope.names []).lookup y = some c → X.env.cells.lookup y = some c := fun {y c} e => by
    rcases cloFrom_mem (PySem.mem_of_lookup e) with hm | ⟨h1, h2⟩
    · cases hm
    · obtain ⟨c1, hc⟩ := hfr _ h1 rfl
      have hc : X.env.cells.lookup y = some c1 := hc
      have e2 : c = c1 := by
        rw [h2, hc] <;> rfl
      rw [e2]
      exact hc
  have look : ∀ {y}, scope.names.lookup y = some .free → ∃ c, (cloFrom X.env.cells scope.names []).lookup y = some c := fun {y} hl => by
    have hy : (y, NameKind.free) ∈ scope.names := PySem.mem_of_lookup hl
    exact mem_lookup (cloFrom_has (cells := X.env.cells) (acc := []) hy)
  have cellB : ∀ {y c v}, X.env.cells.lookup y = some c → s.heap.IsCell c v → h₁.IsCell c v ∧ HZ c = none := fun {y c v} hc ⟨o, ho, hd⟩ => by
    have hb := baseOf_get ho (I.freeC y c hc) (cell_nofr I hfn hc)
    exact ⟨⟨o, kp _ _ (e0.bs c o hb).1, hd⟩, (e0.bs c o hb).2⟩
  have noA : ∀ b : Addr, b ∉ (lamCxB X (baseOf s.heap H (frs X.stack)) CX A outer s1 HZ E scope f c').ex := fun b z => absurd (show b ∈ ([] : List Addr) from z) (by simp)
  refine ⟨⟨e0.mod, L.kind, rfl, rfl, Nat.le_refl _, fun y z c e1 e2 => I.ok.inj y z c (cm e1) (cm e2), fun y hy => ?_, fun y c z _ => ?_, fun _ => hd, Around.frames_deeper e0.frames, .inr ⟨rfl, rfl⟩, fun b z => absurd z (noA b), e0.bs, e0.bsz, fun b _ _ => noA b,
      fun b z => absurd z (noA b), e0.funs, e0.frf⟩,
    rfl, e0.bare, Un.kept kp, ⟨_, hns, fun i y v e1 e2 e3 => ?_⟩, fun y c e => ?_, e0.hok.fresh (Nat.le_refl _), fun y c e => ?_, fun q hq => absurd (show q ∈ ([] : List (Addr × Obj)) ++ [] from hq) (by simp), e0.hok.kept kp, hl⟩
  · have hy : scope.names.lookup y = some .cell ∨ scope.names.lookup y = some .free := hy
    rcases hy with hy | hy
    · exact absurd rfl (L.nocell _ (PySem.mem_of_lookup hy))
    · exact look hy
  · have z : false = true := z
    cases z
  · have e3 : Vis scope y := e3
    rcases e3 with k | k | k
    · obtain ⟨u, r, q⟩ := hloc i y v e1 e2 k
      exact ⟨u, r, .inl ⟨k, q⟩⟩
    · exact absurd rfl (L.nocell _ (PySem.mem_of_lookup k))
    · obtain ⟨m, hn, hl⟩ := I.loc
      have hvis : Vis X.env.scope y := (L.free _ (PySem.mem_of_lookup k) rfl).elim (fun k => .inr (.inl k)) (fun k => .inr (.inr k))
      obtain ⟨w', r, q⟩ := hl i y v e1 (hfree i y v e1 e2 k) hvis
      obtain ⟨c2, h2⟩ := look k
      refine ⟨w', r, .inr ⟨.inr k, c2, h2, ?_⟩⟩
      have c1 := cm h2
      rcases q with ⟨k', _⟩ | ⟨_, c3, e', z⟩
      · have k' : X.env.scope.names.lookup y = some .local := k'
        rcases L.free _ (PySem.mem_of_lookup k) rfl with k2 | k2 <;> rw [show X.env.scope.names.lookup y = _ from k2] at k' <;> cases k'
      · rw [c1] at e'
        cases e'
        exact (cellB c1 z).1
  · obtain ⟨w', z⟩ := I.cell y c (cm e)
    exact ⟨w', (cellB (cm e) z).1⟩
  · obtain ⟨w', z⟩ := I.cell y c (cm e)
    exact (cellB (cm e) z).2
/-- what the lambda does, by the reading of its body, at the slots of its maker -/
def lamSp1 (c' : Addr) (q : Str) (tb : XK → TE) (σ : L2.St) (i : Nat) : Sp := fun vs H Q E => match vs with
  | [v] => H c' = some (CodeO c' q) ∧ tb E (σ.set i (some v)) H Q
  | _ => False
def lamSp0 (c' : Addr) (q : Str) (tb : XK → TE) (σ : L2.St) : Sp := fun vs H Q E => match vs with
  | [] => H c' = some (CodeO c' q) ∧ tb E σ H Q
  | _ => False
section
variable {k : Nat} {f c' : Addr} {pm ctv : Value} {params : Arguments} {body : Expr} {scope : Scope} {tb : XK → TE}
theorem fnB_lam1 {i : Nat} {x : Str} (I : Inv X pins σ H s) (hfn : ∀ x, X.fn x = true) (hN : X.N.Nodup) (hi : X.N[i]? = some x) (L : LamP X.env.scope scope [x])
    (hf : s.heap.get? f = some (PySem.W.kla_obj "<lambda>" (X.env.qual ++ "<lambda>") params body scope (cloFrom X.env.cells scope.names []) pm c' ctv)) (hH : H f = none) (hfr : f ∉ frs X.stack)
    (hbind : ∀ u : Value, bindArgs (PySem.W.kla_fn "<lambda>" (X.env.qual ++ "<lambda>") params body scope (cloFrom X.env.cells scope.names []) pm (.ref c') ctv) ⟨[u], []⟩ = pure [(x, u)])
    (hbody : ∀ (A : Around) (outer : List Env) (s1 : Shared) (HZ : Hp) (E : XK), Room k (A.deeper (lamEnvB X scope s1.heap.objs.size f c')) → GA (A.deeper (lamEnvB X scope s1.heap.objs.size f c')) → PE (lamCxB X (baseOf s.heap H (frs X.stack)) CX A outer s1 HZ E scope f c') body (tb E)) :
    FnB X.prog X.w X.K X.mg (baseOf s.heap H (frs X.stack)) CX (k + 1) f (lamSp1 c' (X.env.qual ++ "<lambda>") tb σ i) := by
  have hb := baseOf_get hf hH hfr
  refine ⟨fun h kp => ⟨_, _, _, _, kp _ _ hb⟩, fun A outer s1 HZ us vs Q E hr hG e0 r h => ?_⟩
  unfold lamSp1 at h
  split at h
  rotate_left
  · exact h.elim
  · rename_i v
    obtain ⟨hc, ht⟩ := h
    obtain ⟨u, rfl, ru⟩ := r.one
    obtain ⟨⟨oc, vs, t, hoc, hdc, hvc⟩, _, _⟩ := e0.hok c' _ hc
    refine PySem.W.kla_callFunE hr.depth (e0.bs f _ hb).1 rfl L.co L.gen rfl ⟨c', oc, vs, t, rfl, hoc, hdc, hvc⟩ ?_
    rw [hbind]
    have lim : s1.heap.NoLimit := e0.mod.nolimit.keeps fun b o e => (e0.bs b o e).1
    refine wpAny_pure (wpAny_newFunctionEnv (fun y hy => L.nocell y hy) (fun y hy => ?_) (fun h₁ hns hsb => ⟨lim.fresh _ hsb, ?_⟩) L.kind)
    · rw [List.mem_singleton] at hy
      rw [hy]
      exact L.par x (by simp)
    show codeAny _ _ (.expr body (lamEnvB X scope s1.heap.objs.size f c')) _ _
    have kp : ∀ b o, s1.heap.get? b = some o → h₁.get? b = some o := fun b o e => hsb.extBut b o (Nat.ne_of_lt (Heap.lt_size e)) (Heap.get?_push_of_some _ e)
    have il : i < X.N.length := (List.getElem?_eq_some_iff.mp hi).1
    have J : Inv (lamCxB X (baseOf s.heap H (frs X.stack)) CX A outer s1 HZ E scope f c') [] (σ.set i (some v)) HZ { s1 with heap := h₁, toks := s1.toks + [(x, u)].length } := by
      refine lam_startB I hfn L e0 hr.hd hns kp (by rw [List.length_set]; exact I.len) (fun j y w e1 e2 e3 => ?_) (fun j y w e1 e2 e3 => ?_)
      · have ne : i ≠ j := fun z => by
          rw [← z, hi] at e1
          cases e1
          rw [L.par x (by simp)] at e3
          cases e3
        rw [List.getElem?_set_ne ne] at e2
        exact e2
      · have hx : y ∈ [x] := L.loc _ (PySem.mem_of_lookup e3) rfl
        rw [List.mem_singleton] at hx
        subst hx
        have ej : j = i := by
          have hj := (List.getElem?_eq_some_iff.mp e1)
          have hii := (List.getElem?_eq_some_iff.mp hi)
          exact nd_inj hN (hj.2.trans hii.2.symm)
        subst ej
        rw [List.getElem?_set_self (by rw [I.len]; exact il)] at e2
        cases e2
        exact ⟨u, ru, by simp⟩
    refine PySem.W.kla_codeExpr (wpAny_mono ((hbody A outer s1 HZ E (hr.deeper _) (ga_deeper hG)).run [] _ _ HZ Q J ht) (fun v s' hq => ?_) fun e s' hq => hq)
    obtain ⟨w', H', J', rv, q⟩ := hq
    exact ⟨w', H', J'.os, J'.bare, J'.base, J'.hok, rv, q⟩
theorem fnB_lam0 (I : Inv X pins σ H s) (hfn : ∀ x, X.fn x = true) (L : LamP X.env.scope scope [])
    (hf : s.heap.get? f = some (PySem.W.kla_obj "<lambda>" (X.env.qual ++ "<lambda>") params body scope (cloFrom X.env.cells scope.names []) pm c' ctv)) (hH : H f = none) (hfr : f ∉ frs X.stack)
    (hbind : bindArgs (PySem.W.kla_fn "<lambda>" (X.env.qual ++ "<lambda>") params body scope (cloFrom X.env.cells scope.names []) pm (.ref c') ctv) ⟨[], []⟩ = pure [])
    (hbody : ∀ (A : Around) (outer : List Env) (s1 : Shared) (HZ : Hp) (E : XK), Room k (A.deeper (lamEnvB X scope s1.heap.objs.size f c')) → GA (A.deeper (lamEnvB X scope s1.heap.objs.size f c')) → PE (lamCxB X (baseOf s.heap H (frs X.stack)) CX A outer s1 HZ E scope f c') body (tb E)) :
    FnB X.prog X.w X.K X.mg (baseOf s.heap H (frs X.stack)) CX (k + 1) f (lamSp0 c' (X.env.qual ++ "<lambda>") tb σ) := by
  have hb := baseOf_get hf hH hfr
  refine ⟨fun h kp => ⟨_, _, _, _, kp _ _ hb⟩, fun A outer s1 HZ us vs Q E hr hG e0 r h => ?_⟩
  unfold lamSp0 at h
  split at h
  rotate_left
  · exact h.elim
  · obtain ⟨hc, ht⟩ := h
    cases r
    obtain ⟨⟨oc, vs, t, hoc, hdc, hvc⟩, _, _⟩ := e0.hok c' _ hc
    refine PySem.W.kla_callFunE hr.depth (e0.bs f _ hb).1 rfl L.co L.gen rfl ⟨c', oc, vs, t, rfl, hoc, hdc, hvc⟩ ?_
    rw [hbind]
    have lim : s1.heap.NoLimit := e0.mod.nolimit.keeps fun b o e => (e0.bs b o e).1
    refine wpAny_pure (wpAny_newFunctionEnv (fun y hy => L.nocell y hy) (fun y hy => absurd hy (by simp)) (fun h₁ hns hsb => ⟨lim.fresh _ hsb, ?_⟩) L.kind)
    show codeAny _ _ (.expr body (lamEnvB X scope s1.heap.objs.size f c')) _ _
    have kp : ∀ b o, s1.heap.get? b = some o → h₁.get? b = some o := fun b o e => hsb.extBut b o (Nat.ne_of_lt (Heap.lt_size e)) (Heap.get?_push_of_some _ e)
    have J : Inv (lamCxB X (baseOf s.heap H (frs X.stack)) CX A outer s1 HZ E scope f c') [] σ HZ { s1 with heap := h₁, toks := s1.toks + ([] : List (Str × Value)).length } := by
      refine lam_startB I hfn L e0 hr.hd hns kp I.len (fun j y w e1 e2 e3 => e2) (fun j y w e1 e2 e3 => ?_)
      have hx : y ∈ ([] : List Str) := L.loc _ (PySem.mem_of_lookup e3) rfl
      exact absurd hx (by simp)
    refine PySem.W.kla_codeExpr (wpAny_mono ((hbody A outer s1 HZ E (hr.deeper _) (ga_deeper hG)).run [] _ _ HZ Q J ht) (fun v s' hq => ?_) fun e s' hq => hq)
    obtain ⟨w', H', J', rv, q⟩ := hq
    exact ⟨w', H', J'.os, J'.bare, J'.base, J'.hok, rv, q⟩
end
end
end HG

/-! Calls of a def with a lambda among the values. -/
namespace HG
open PySem L2 PyProof.Rows LamX
def one (f : Addr) (sp : Sp) : Lams := fun a => if a = f then some sp else none
theorem one_at {f : Addr} {sp : Sp} : one f sp f = some sp := if_pos rfl
theorem one_ok {P : Program} {w : World} {K : PySem.W.Frag} {mg : Str → Option Value} {base : Heap} {CX : CXT} {k : Nat} {f : Addr} {sp : Sp} (F : FnB P w K mg base CX k f sp) : LamsOk P w K mg base CX k (one f sp) := by
  intro a s h
  by_cases e : a = f
  · subst e
    rw [one_at] at h
    cases h
    exact F
  · have : one f sp a = none := if_neg e
    rw [this] at h
    cases h
/-- x(a, lambda y: body, b) -/
def tLam3 (T : List (Addr × Str)) (q : Str) (spg : Lams → Sp) (tb : XK → TE) (i : Nat) (E : XK) (t1 t3 : TE) : TE := fun σ H Q => t1 σ H fun v1 H1 => Tabs T H1 ∧ ∀ f c' H2, ExtN H1 H2 → Tabs T H2 → H2 f = none → H2 c' = some (CodeO c' q) → t3 σ H2 fun v3 H3 => spg (one f (lamSp1 c' q tb σ i)) [v1, .ref f, v3] H3 Q E
/-- x(lambda: body) -/
def tLam1 (T : List (Addr × Str)) (q : Str) (spg : Lams → Sp) (tb : XK → TE) (E : XK) : TE := fun σ H Q => Tabs T H ∧ ∀ f c' H2, ExtN H H2 → Tabs T H2 → H2 f = none → H2 c' = some (CodeO c' q) → spg (one f (lamSp0 c' q tb σ)) [.ref f] H2 Q E
section
variable {X : Cx} {CX CXl : CXT} {k kg i : Nat} {g c P : Addr} {gd : FuncData} {ps : List Str} {spg : Lams → Sp} {E : XK} {x y q : Str} {T : List (Addr × Str)} {params : Arguments} {body e1 e3 : Expr} {scope : Scope} {tb : XK → TE} {t1 t3 : TE} {p lpos pos : Pos}
theorem Inv.pinOne {pins : List (Addr × Obj)} {σ : L2.St} {H : Hp} {s : Shared} {f : Addr} {o : Obj} (I : Inv X pins σ H s) (h1 : s.heap.get? f = some o) (h2 : H f = none) (h3 : f ≠ X.env.locals) (h4 : f ∉ X.fs) (h5 : ∀ v, o.data ≠ .cell v) : Inv X ((f, o) :: pins) σ H s := by
  refine ⟨I.ok, I.os, I.bare, I.base, I.loc, I.cell, I.free, I.freeC, fun p hp => ?_, I.hok, I.len⟩
  rcases List.mem_append.mp hp with hp | hp
  · exact I.pin p (List.mem_append_left _ hp)
  · rcases List.mem_cons.mp hp with hp | hp
    · rw [hp]; exact ⟨h1, h2, h3, h4, h5⟩
    · exact I.pin p (List.mem_append_right _ hp)
theorem Inv.unpin {pins : List (Addr × Obj)} {σ : L2.St} {H : Hp} {s : Shared} {p : Addr × Obj} (I : Inv X (p :: pins) σ H s) : Inv X pins σ H s := by
  refine ⟨I.ok, I.os, I.bare, I.base, I.loc, I.cell, I.free, I.freeC, fun r hr => I.pin r ?_, I.hok, I.len⟩
  rcases List.mem_append.mp hr with hr | hr
  · exact List.mem_append_left _ hr
  · exact List.mem_append_right _ (List.mem_cons_of_mem _ hr)
theorem pe_lam3 (hg : Gl X x) (hm : X.mg x = some (.ref g)) (hk : PySem.W.keepIn X.K (.ref g) = true) (hb : Binds X.K gd ps []) (Gh : ∀ (base' : Heap) (L' : Lams), LamsOk X.prog X.w X.K X.mg base' CXl (k + 1) L' → FnG X.prog X.w X.K X.mg base' CX kg g gd ps (spg L')) (hr : Room kg X.A) (hG : GA X.A) (hx : Passes CX X E)
    (TB : TabB X.base X.mg c P) (hcode : X.env.code = .ref c) (hmT : (P, q) ∈ T) (hu : ∀ p ∈ T, p.1 = P → p.2 = q) (hq : X.env.qual ++ "<lambda>" = q) (hfn : ∀ x, X.fn x = true) (hst : X.stack = X.env :: X.outer ∧ X.env.frame = some X.env.locals) (hN : X.N.Nodup) (hi : X.N[i]? = some y) (L : LamP X.env.scope scope [y])
    (hdef : defaultsOf params X.env = ([], [])) (hbind : ∀ (q : Str) (cl : List (Str × Addr)) (pm cv ctv : Value) (u : Value), bindArgs (PySem.W.kla_fn "<lambda>" q params body scope cl pm cv ctv) ⟨[u], []⟩ = pure [(y, u)])
    (hbody : ∀ (base' : Heap) (A : Around) (outer : List Env) (s1 : Shared) (HZ : Hp) (E : XK) (f c' : Addr), Room k (A.deeper (lamEnvB X scope s1.heap.objs.size f c')) → GA (A.deeper (lamEnvB X scope s1.heap.objs.size f c')) → PE (lamCxB X base' CXl A outer s1 HZ E scope f c') body (tb E))
    (ha : PE X e1 t1) (hc : PE X e3 t3) (hdb : (x == ("__debug__" : Str)) = false := by decide)
    (he : starEach [e1, .Lambda params body scope lpos, e3] X.env = [(false, eval e1 X.env), (false, eval (.Lambda params body scope lpos) X.env), (false, eval e3 X.env)] := by rfl) (he2 : starEach [.Lambda params body scope lpos, e3] X.env = [(false, eval (.Lambda params body scope lpos) X.env), (false, eval e3 X.env)] := by rfl) :
    PE X (.Call (.Name x p) [e1, .Lambda params body scope lpos, e3] [] pos) (tLam3 T q spg tb i E t1 t3) := by
  refine ⟨fun pins s σ H Q I h => wpAny_Call_Name_kw (ld_glob I hg hm ?_ hdb)⟩
  refine PySem.W.callWith_K (h₀ := X.base) I.ok.mod.kin hk ?_ (by rw [he, he2]) (by rw [he2]; rfl)
  show wpAny _ _ (spliced (backTo pos (starEach [e1, .Lambda params body scope lpos, e3] X.env))) _ _ s
  rw [he]
  refine Calls.spliced_cons (thn (ha.run pins s σ H _ I h) fun u1 s1 ⟨v1, H1, I1, r1, hT, q1⟩ => ?_)
  subst hq
  have hfr : ∀ y ∈ scope.names, y.2 = .free → ∃ c, X.env.cells.lookup y.1 = some c := fun y hy e => by
    rcases L.free y hy e with k | k
    · exact I.ok.has _ (.inl k)
    · exact I.ok.has _ (.inr k)
  refine Calls.spliced_cons (lam_make2 I1 TB hcode hmT hu hT hdef hfr fun f c' pm ctv H2 s2 I2 eN T2 hf hfN hfs hco => ?_)
  have hloc : f ≠ X.env.locals := fun z => hfs (by
    rw [hst.1]
    show f ∈ (X.env :: X.outer).filterMap (·.frame)
    rw [List.filterMap_cons, hst.2, z]
    exact List.mem_cons_self ..)
  have hfo : f ∉ X.fs := fun z => hfs (by
    rw [hst.1]
    show f ∈ (X.env :: X.outer).filterMap (·.frame)
    rw [List.filterMap_cons, hst.2]
    exact List.mem_cons_of_mem _ z)
  have I2' := Inv.pinOne I2 hf hfN hloc hfo (fun v z => by cases z)
  refine Calls.spliced_cons (thn (hc.run _ s2 σ H2 _ I2' (q1 f c' H2 eN T2 hfN hco)) fun u3 s3 ⟨v3, H3, I3, r3, q3⟩ => ?_)
  obtain ⟨f1, f2, _⟩ := I3.pin (f, _) (List.mem_append_right _ (List.mem_cons_self ..))
  have I3' := Inv.unpin I3
  refine Calls.spliced_nil ⟨I3'.kIn, ?_⟩
  have F := fnB_lam1 (k := k) (CX := CXl) I3' hfn hN hi L f1 f2 hfs (hbind _ _ _ _ _) fun A outer s1 HZ E hr hG => hbody _ A outer s1 HZ E f c' hr hG
  have G := Gh _ _ (one_ok F)
  have rv : Vals [v1, .ref f, v3] [u1, .ref f, u3] := .cons r1 (.cons rfl (.cons r3 .nil))
  have hl : ([u1, .ref f, u3] ++ ([] : List Value)).length = ps.length := by
    rw [List.append_nil]
    exact rv.length.symm.trans (G.len _ _ _ _ q3)
  have hb' := hb s3 [u1, .ref f, u3] I3'.kIn hl
  rw [List.append_nil] at hb'
  exact wpAny_call (codeAny_mono (G.run X.A X.stack s3 H3 ⟨[u1, .ref f, u3], []⟩ _ _ Q E hr hG (env0_base I3') hb' rv q3) fun r s' hq => behind hx I3' hq)
theorem pe_lam1 (hg : Gl X x) (hm : X.mg x = some (.ref g)) (hk : PySem.W.keepIn X.K (.ref g) = true) (hb : Binds X.K gd ps []) (Gh : ∀ (base' : Heap) (L' : Lams), LamsOk X.prog X.w X.K X.mg base' CXl (k + 1) L' → FnG X.prog X.w X.K X.mg base' CX kg g gd ps (spg L')) (hr : Room kg X.A) (hG : GA X.A) (hx : Passes CX X E)
    (TB : TabB X.base X.mg c P) (hcode : X.env.code = .ref c) (hmT : (P, q) ∈ T) (hu : ∀ p ∈ T, p.1 = P → p.2 = q) (hq : X.env.qual ++ "<lambda>" = q) (hfn : ∀ x, X.fn x = true) (L : LamP X.env.scope scope [])
    (hdef : defaultsOf params X.env = ([], [])) (hbind : ∀ (q : Str) (cl : List (Str × Addr)) (pm cv ctv : Value), bindArgs (PySem.W.kla_fn "<lambda>" q params body scope cl pm cv ctv) ⟨[], []⟩ = pure [])
    (hbody : ∀ (base' : Heap) (A : Around) (outer : List Env) (s1 : Shared) (HZ : Hp) (E : XK) (f c' : Addr), Room k (A.deeper (lamEnvB X scope s1.heap.objs.size f c')) → GA (A.deeper (lamEnvB X scope s1.heap.objs.size f c')) → PE (lamCxB X base' CXl A outer s1 HZ E scope f c') body (tb E))
    (hdb : (x == ("__debug__" : Str)) = false := by decide)
    (he : starEach [.Lambda params body scope lpos] X.env = [(false, eval (.Lambda params body scope lpos) X.env)] := by rfl) :
    PE X (.Call (.Name x p) [.Lambda params body scope lpos] [] pos) (tLam1 T q spg tb E) := by
  refine ⟨fun pins s σ H Q I h => wpAny_Call_Name_kw (ld_glob I hg hm ?_ hdb)⟩
  refine PySem.W.callWith_K (h₀ := X.base) I.ok.mod.kin hk ?_ (by rw [he]; rfl) (by rfl)
  show wpAny _ _ (spliced (backTo pos (starEach [.Lambda params body scope lpos] X.env))) _ _ s
  rw [he]
  obtain ⟨hT, q1⟩ := h
  subst hq
  have hfr : ∀ y ∈ scope.names, y.2 = .free → ∃ c, X.env.cells.lookup y.1 = some c := fun y hy e => by
    rcases L.free y hy e with k | k
    · exact I.ok.has _ (.inl k)
    · exact I.ok.has _ (.inr k)
  refine Calls.spliced_cons (lam_make2 I TB hcode hmT hu hT hdef hfr fun f c' pm ctv H2 s2 I2 eN T2 hf hfN hfs hco => ?_)
  refine Calls.spliced_nil ⟨I2.kIn, ?_⟩
  have q3 := q1 f c' H2 eN T2 hfN hco
  have F := fnB_lam0 (k := k) (CX := CXl) I2 hfn L hf hfN hfs (hbind _ _ _ _ _) fun A outer s1 HZ E hr hG => hbody _ A outer s1 HZ E f c' hr hG
  have G := Gh _ _ (one_ok F)
  have rv : Vals [.ref f] [.ref f] := .cons rfl .nil
  have hl : ([Value.ref f] ++ ([] : List Value)).length = ps.length := by
    rw [List.append_nil]
    exact rv.length.symm.trans (G.len _ _ _ _ q3)
  have hb' := hb s2 [.ref f] I2.kIn hl
  rw [List.append_nil] at hb'
  exact wpAny_call (codeAny_mono (G.run X.A X.stack s2 H2 ⟨[.ref f], []⟩ _ _ Q E hr hG (env0_base I2) hb' rv q3) fun r s' hq => behind hx I2 hq)
end
end HG

/-! The law's end where defs make lambdas: their code objects' tables are tracked. -/
namespace HG
open PySem L2 PyProof.Rows LamX
/-- a def of the top, its code object c, the table P of that -/
structure TabAt (K : PySem.W.Frag) (h : Heap) (c P : Addr) : Prop where
  tab : h.get? P = some { cls := .none, data := .fields #[] }
  no : K.lookup P = none
  code : PySem.W.CodeHd h c P
theorem lawAtT {P : Program} {w : World} {K : PySem.W.Frag} {mg mb : Str → Option Value} {CX : CXT} {k : Nat} {fa a : Addr} {fd : FuncData} {x : Str} {sp : Sp} {s₁ : Shared} {H : Hp} {cs : List (Addr × Addr)}
    (KX : K.In s₁.heap) (hns : s₁.heap.Ns mainGlobals mg) (hb : s₁.heap.Ns builtinsNs mb) (hbb : ∀ x : Str, x ≠ "__name__" → mb x = bootBuiltins x) (hlim : s₁.heap.NoLimit) (hg : s₁.gens = #[]) (hr : Room k callerA)
    (hT : ∀ p ∈ cs, TabAt K s₁.heap p.1 p.2)
    (hbm : ∃ (bm : Addr) (ob : Obj), mg "__builtins__" = some (.ref bm) ∧ bm ≠ builtinsNs ∧ s₁.heap.get? bm = some ob ∧ ob.cls = .type "module" ∧ ob.dict = some builtinsNs ∧ ob.data = .plain)
    (F : ∀ base : Heap, K.In base → base.Ns mainGlobals mg → (∀ p ∈ cs, TabB base mg p.1 p.2) → FnG P w K mg base CX k fa fd [x] sp) (hbind : ∀ (s : Shared) (u : Value), BindsTo s fd ⟨[u], []⟩ [(x, u)])
    (hsp : sp [.ref a] H (fun v _ => v = .bl true) E0) (hCX : ∀ e s', CX [] H s₁ E0 e s' → False)
    (hok : HOk P w H s₁.heap) (tr : ∀ b u, H b = some u → (∃ ob xs vs, u = .frz ob xs ∧ s₁.heap.get? b = some { cls := .type "list", data := .seq vs } ∧ K.lookup b = none) ∨ ∃ p ∈ cs, b = p.2 ∧ u = .tbl #[]) :
    codeAny (model P w) callerA (.call (.ref fa) ⟨[.ref a], []⟩) (fun r s' => r = .ok (.ret (.bool true)) ∧ OldK s₁.heap s'.heap ∧ s'.os = s₁.os ∧ AllBare s'.gens) s₁ := by
  -- what is no list and no empty table is not tracked
  have free : ∀ b o, s₁.heap.get? b = some o → (∀ vs n, o.data ≠ .seq vs n) → o.data ≠ .fields #[] → H b = none := fun b o e h1 h2 => by
    cases q : H b with
    | none => rfl
    | some u =>
      rcases tr b u q with ⟨_, _, vs, _, z, _⟩ | ⟨p, hp, rfl, _⟩
      · rw [e] at z
        cases z
        exact absurd rfl (h1 _ _)
      · rw [(hT p hp).tab] at e
        cases e
        exact absurd rfl h2
  have freeK : ∀ b, (K.lookup b).isSome = true → H b = none := fun b hb => by
    cases q : H b with
    | none => rfl
    | some u =>
      rcases tr b u q with ⟨_, _, vs, _, _, z⟩ | ⟨p, hp, rfl, _⟩
      · rw [z] at hb; cases hb
      · rw [(hT p hp).no] at hb; cases hb
  have ns : ∀ {b : Addr} {m : Str → Option Value}, s₁.heap.Ns b m → (hidT s₁.heap H).Ns b m := fun {b m} z => by
    obtain ⟨o, es, ep, e, d, r⟩ := z
    exact ⟨o, es, ep, hidT_get e (free b o e (fun vs n z => by rw [d] at z; cases z) (fun z => by rw [d] at z; cases z)), d, r⟩
  have kb : K.In (hidT s₁.heap H) := fun b o e => hidT_get (KX b o e) (freeK b (by rw [e]; rfl))
  have md : Mod K mg (hidT s₁.heap H) := by
    obtain ⟨mc, h1, h2⟩ := hlim
    exact ⟨kb, ns hns, ⟨mb, ns hb, hbb⟩, mc, ns h1, h2⟩
  have e0 : Env0 P w K mg (hidT s₁.heap H) callerA [] s₁ H :=
    { frames := rfl, mod := md, bs := fun b o e => of_hidT e, bsz := Nat.le_of_eq (hidT_size _ _), funs := trivial, frf := fun b z => (List.not_mem_nil z).elim, hok := hok, bare := .of_eq hg }
  have TB : ∀ p ∈ cs, TabB (hidT s₁.heap H) mg p.1 p.2 := fun p hp => by
    have t := hT p hp
    refine ⟨?_, ?_, fun z => ?_⟩
    · obtain ⟨o, us, file, tf, flags, tg, inF, text, tt, e1, r1, r2, r3, r⟩ := t.code
      refine ⟨o, us, file, tf, flags, tg, inF, text, tt, hidT_get e1 (free _ o e1 (fun vs n z => by rw [r2] at z; cases z) (fun z => ?_)), r1, r2, r3, r⟩
      rw [r2] at z
      cases z
      simp at r3
    · obtain ⟨bm, ob, b1, b2, b3, b4, b5, b6⟩ := hbm
      have nG : bm ≠ mainGlobals := fun q => by
        obtain ⟨o, es, ep, e, hd, _⟩ := hns
        rw [q, e] at b3
        cases b3
        rw [hd] at b6
        cases b6
      have nP : bm ≠ p.2 := fun q => by
        rw [q, t.tab] at b3
        cases b3
        cases b6
      exact ⟨bm, ob, b1, b2, nG, nP, hidT_get b3 (free _ ob b3 (fun vs n z => by rw [b6] at z; cases z) (fun z => by rw [b6] at z; cases z)), b4, b5, b6⟩
    · obtain ⟨o, es, ep, e, hd, _⟩ := hns
      rw [z, t.tab] at e
      cases e
      cases hd
  refine codeAny_mono ((F _ kb (ns hns) TB).run callerA [] s₁ H ⟨[.ref a], []⟩ [.ref a] [.ref a] _ _ hr rfl e0 (hbind s₁ (.ref a)) (.cons rfl .nil) hsp) fun r s' h => ?_
  match r, h with
  | .error e, h => exact (hCX e s' h).elim
  | .ok .next, h => exact h.elim
  | .ok .brk, h => exact h.elim
  | .ok .cont, h => exact h.elim
  | .ok (.ret u), h =>
    obtain ⟨v, H', os, bare, un, hok', rv, q⟩ := h
    have q' : v = .bl true := q
    subst q'
    cases rv
    have key : ∀ b o, (∀ p ∈ cs, b ≠ p.2) → s₁.heap.get? b = some o → s'.heap.get? b = some o := fun b o nb e => by
      cases eb : H b with
      | none => exact un.keep b o e eb (fun z => (List.not_mem_nil z).elim) (fun z => (List.not_mem_nil z).elim)
      | some u =>
        rcases tr b u eb with ⟨ob, xs, vs, rfl, _⟩ | ⟨p, hp, z, _⟩
        · have e1 := (hok b _ eb).1
          rw [e] at e1
          cases e1
          exact (hok' b _ (un.frzs b _ xs eb)).1
        · exact absurd z (nb p hp)
    have grown : ∀ p ∈ cs, H p.2 = some (.tbl #[]) → ∃ more : Array Value, s'.heap.get? p.2 = some { cls := .none, data := .fields more } := fun p hp hH => by
      obtain ⟨more, z⟩ := un.tbls p.2 #[] hH
      exact ⟨_, hok' p.2 _ z⟩
    have tabs : ∀ b o, s₁.heap.get? b = some o → (s'.heap.get? b = some o) ∨ ∃ p ∈ cs, b = p.2 ∧ ∃ more : Array Value, s'.heap.get? b = some { cls := .none, data := .fields more } := fun b o e => by
      cases eb : H b with
      | none => exact .inl (un.keep b o e eb (fun z => (List.not_mem_nil z).elim) (fun z => (List.not_mem_nil z).elim))
      | some u =>
        rcases tr b u eb with ⟨ob, xs, vs, rfl, _⟩ | ⟨p, hp, rfl, rfl⟩
        · have e1 := (hok b _ eb).1
          rw [e] at e1
          cases e1
          exact .inl (hok' b _ (un.frzs b _ xs eb)).1
        · exact .inr ⟨p, hp, rfl, grown p hp eb⟩
    refine ⟨rfl, ⟨fun b o e => ?_, fun b o e => ?_⟩, os, bare⟩
    · rcases tabs b o e with z | ⟨p, hp, rfl, more, hm⟩
      · exact .inl z
      · have t := hT p hp
        rw [t.tab] at e
        cases e
        exact .inr (.inl ⟨(t.code.tab t.tab).isCodeTable, rfl, #[], more, rfl, by rw [Array.empty_append]; exact hm⟩)
    · rcases tabs b o e with z | ⟨p, hp, rfl, more, hm⟩
      · exact ⟨o, z⟩
      · exact ⟨_, hm⟩
/-- what the top says of the tables of some defs -/
def TopTab (mg : Str → Option Value) (h : Heap) (names : List Str) : Prop := ∀ n ∈ names, ∃ a o fd c P, mg n = some (.ref a) ∧ h.get? a = some o ∧ o.data = .func fd ∧ fd.code = .ref c ∧ h.IsCode c P #[] ∧ h.TableAt c P #[]
/-- a def's table, by what K has of the def and of its code object -/
theorem tabAt_of {K : PySem.W.Frag} {mg : Str → Option Value} {h : Heap} {names : List Str} {n qual : Str} {f c P : Addr} {oc occ : Value} {od odc : Option Addr} {sl slc : Array (Option Value)} {vs : Array Value} {fd : FuncData} (KX : K.In h) (T : TopTab mg h names) (hn : n ∈ names) (hmg : mg n = some (.ref f))
    (l1 : K.lookup f = some ⟨oc, od, .func fd, sl⟩) (hc : fd.code = .ref c) (l2 : K.lookup c = some ⟨occ, odc, .fields vs, slc⟩) (hP : vs[11]? = some (.ref P)) (np : K.lookup P = none) : TabAt K h c P := by
  obtain ⟨a', o', fd', c', P', h1, h2, h3, h4, h5, h6⟩ := T n hn
  rw [hmg] at h1
  cases h1
  have g1 := KX _ _ l1
  rw [g1] at h2
  cases h2
  have h3 : Data.func fd = Data.func fd' := h3
  cases h3
  rw [hc] at h4
  cases h4
  have hcd := PySem.W.CodeHd.of h5 h6
  obtain ⟨⟨oc', vc, e1, _, e3, e4⟩, hP'⟩ := h6
  have g2 := KX _ _ l2
  rw [g2] at e1
  cases e1
  have e3 : Data.fields vs = Data.fields vc := e3
  cases e3
  rw [hP] at e4
  cases e4
  exact ⟨hP', np, hcd⟩
def spLawT (cs : List (Addr × Addr)) (K : PySem.W.Frag) : Sp := fun vs H Q _ => match vs with
  | [.ref a] => (∃ ns : List Int, SqL K H a (ns.map V.int)) ∧ (∀ p ∈ cs, H p.2 = some (.tbl #[])) ∧ ∀ H', Q (.bl true) H'
  | _ => False
theorem walkT {l : PySem.W.OpenLaw} {n k : Nat} {q : Program} {loose : List Str} {XP : (Str → Option Value) → Heap → Prop} {YP : World → Heap → Prop} {d : DefRec} {K : Params → PySem.W.Frag} {x : Str} {names : List Str}
    (hn : l.most = some n) (hn2 : n ≤ sizeLine) (hdf : d.params.defaults = []) (hr : Room k callerA) (hrec : (names.all fun n => (recsOf q).any fun e => e.name == n) = true)
    (hY : ∀ (w : World) (h : Heap), YP w h → (K w.params).In h)
    (F : ∀ (w : World) (mg : Str → Option Value) (fa : Addr) (h : Heap), (K w.params).In h → h.Ns mainGlobals mg → mg d.name = some (.ref fa) → TopTab mg h names →
      ∃ (fd : FuncData) (cs : List (Addr × Addr)), (∀ p ∈ cs, TabAt (K w.params) h p.1 p.2) ∧ (∀ (s : Shared) (u : Value), BindsTo s fd ⟨[u], []⟩ [(x, u)]) ∧
        ∀ base : Heap, (K w.params).In base → base.Ns mainGlobals mg → (∀ p ∈ cs, TabB base mg p.1 p.2) → FnG l.prog w (K w.params) mg base CX0 k fa fd [x] (spLawT cs (K w.params))) :
    PySem.W.WalkO q loose XP YP l.row.toRowW d [] (fun f vs => PySem.call f vs) := by
  refine Att.attach_call hn hdf fun w s₀ s₁ mg mb fa o pm cd doc a vs ns G Y ho hd hcd hmg hobj hints hlen hg => ?_
  have KX := hY w _ Y
  have TT : TopTab mg s₁.heap names := fun m hm => by
    obtain ⟨dL, h1, h2⟩ := List.any_eq_true.mp (List.all_eq_true.mp hrec m hm)
    have e : dL.name = m := beq_iff_eq.mp h2
    have := G.T.tab dL h1
    rw [e] at this
    exact this
  obtain ⟨fd, cs, hT, hb, hF⟩ := F w mg fa _ KX G.T.g hmg TT
  have rv := vals_ints hints
  have lv := hints.length
  have hl : ns.length ≤ sizeLine := Nat.le_trans hlen hn2
  have isT : ∀ p ∈ cs, p.2 ≠ a := fun p hp z => by
    have e := (hT p hp).tab
    rw [z, hobj] at e
    cases e
  let HT : Hp := fun b => if b ∈ cs.map (·.2) then some (.tbl #[]) else none
  have HTa : ∀ p ∈ cs, HT p.2 = some (.tbl #[]) := fun p hp => if_pos (List.mem_map.mpr ⟨p, hp, rfl⟩)
  have HTo : ∀ b u, HT b = some u → ∃ p ∈ cs, b = p.2 ∧ u = .tbl #[] := fun b u z => by
    by_cases hb : b ∈ cs.map (·.2)
    · have z' := (if_pos hb).symm.trans z
      obtain ⟨p, hp, e⟩ := List.mem_map.mp hb
      exact ⟨p, hp, e.symm, (Option.some.inj z').symm⟩
    · have z' := (if_neg hb).symm.trans z
      cases z'
  cases hk : (K w.params).lookup a with
  | some ob =>
    have e := KX a ob hk
    rw [hobj] at e
    cases e
    have sq : SqL (K w.params) HT a (ns.map V.int) := .inr ⟨_, vs.toArray, _, hk, rfl, rfl, rfl, by rw [List.size_toArray, lv]; exact hl, by simpa using rv⟩
    refine lawAtT (H := HT) KX G.T.g G.T.b G.T.builtins G.T.nolimit hg hr hT G.T.bmain hF hb ⟨⟨ns, sq⟩, HTa, fun _ => rfl⟩ (fun e s' z => z) (fun b u z => ?_) (fun b u z => .inr (HTo b u z))
    obtain ⟨p, hp, rfl, rfl⟩ := HTo b u z
    exact (hT p hp).tab
  | none =>
    let Hs : Hp := fun b => if b = a then some (.frz { cls := .type "list", data := .seq vs.toArray } (.lst (ns.map V.int))) else HT b
    have ha : Hs a = some (.frz { cls := .type "list", data := .seq vs.toArray } (.lst (ns.map V.int))) := if_pos rfl
    have hs : ∀ b u, Hs b = some u → (b = a ∧ u = .frz { cls := .type "list", data := .seq vs.toArray } (.lst (ns.map V.int))) ∨ HT b = some u := fun b u z => by
      by_cases hb : b = a
      · have z' := (if_pos hb).symm.trans z
        exact .inl ⟨hb, (Option.some.inj z').symm⟩
      · exact .inr ((if_neg hb).symm.trans z)
    have sq : SqL (K w.params) Hs a (ns.map V.int) := .inl (.inr ⟨_, ha⟩)
    refine lawAtT (H := Hs) KX G.T.g G.T.b G.T.builtins G.T.nolimit hg hr hT G.T.bmain hF hb ⟨⟨ns, sq⟩, fun p hp => (if_neg (isT p hp)).trans (HTa p hp), fun _ => rfl⟩ (fun e s' z => z) (fun b u z => ?_) (fun b u z => ?_)
    · rcases hs b u z with ⟨rfl, rfl⟩ | z
      · exact ⟨hobj, by rw [List.length_map]; exact hl, vs, _, rv, hobj⟩
      · obtain ⟨p, hp, rfl, rfl⟩ := HTo b u z
        exact (hT p hp).tab
    · rcases hs b u z with ⟨rfl, rfl⟩ | z
      · exact .inl ⟨_, _, _, rfl, hobj, hk⟩
      · exact .inr (HTo b u z)
end HG
namespace HG
open PySem L2 PyProof.Rows LamX
section
variable {P : Program} {w : World} {K : PySem.W.Frag} {mg : Str → Option Value} {base : Heap} {CX : CXT} {k : Nat} {f : Addr} {fd : FuncData} {ps : List Str} {sp : Sp}
/-- a def by its body, its code object told -/
theorem okGc {x qual : Str} {st : Stmt} {N : List Str} (F : Fun K x qual st f fd) (S : FnScope N ps (defScope st)) (len : ∀ vs H Q E, sp vs H Q E → vs.length = ps.length)
    (hbody : ∀ (cdv : Value), fd.code = cdv → ∀ (A : Around) (outer : List Env) (s : Shared) (H : Hp) (vs : List V) (Q : VK) (E : XK), Room k (A.deeper (envOfC qual (defScope st) s.heap.objs.size f cdv)) → GA (A.deeper (envOfC qual (defScope st) s.heap.objs.size f cdv)) → sp vs H Q E →
      ∃ t, PSs (cxOf CX P w K mg base N qual (defScope st) f cdv A outer s H E) (defBody st) t ∧ t { nx := fun _ H' => Q .non H', rt := Q } (L2.start N vs) H) : FnG P w K mg base CX (k + 1) f fd ps sp := by
  obtain ⟨oc, od, kV, doc, pm, an, cdv, ct, osl, rfl, lk, hcd⟩ := F.ex
  exact fnG_of lk hcd S len fun A outer s H vs Q E hr hG h => hbody cdv rfl A outer s H vs Q E hr hG h
end
/-! ### what stays where tables grow -/
section
variable {H H' H2 : Hp} {p l : Addr} {n : Nat}
theorem _root_.LamX.ExtN.lst (e : ExtN H H') {xs : List V} (h : H p = some (.lst xs)) : H' p = some (.lst xs) := e _ _ h fun _ z => by cases z
theorem _root_.LamX.ExtN.tup (e : ExtN H H') {xs : List V} (h : H p = some (.tup xs)) : H' p = some (.tup xs) := e _ _ h fun _ z => by cases z
theorem _root_.LamX.ExtN.ins (e : ExtN H H') {C dx : Addr} {fs : List (Str × V)} (h : H p = some (.ins C dx fs)) : H' p = some (.ins C dx fs) := e _ _ h fun _ z => by cases z
theorem _root_.LamX.ExtN.cod (e : ExtN H H') {c : Addr} {q : Str} (h : H p = some (CodeO c q)) : H' p = some (CodeO c q) := e _ _ h codeO_ne
theorem Grow.extN (g : Grow H H') : ExtN H H' := fun b o e _ => g b o e
theorem Grow.tabs (g : Grow H H') {T : List (Addr × Str)} (t : Tabs T H) : Tabs T H' := t.ext g
theorem PenL.extN (h : PenL H p l n) (e : ExtN H H') : PenL H' p l n := by
  obtain ⟨c, t, r, h1, h2, h3⟩ := h
  exact ⟨c, t, r, e.lst h1, e.lst h2, h3⟩
/-- all but the pen and the tables stays -/
def KeepT (p : Addr) (H H' : Hp) : Prop := ∀ b o, b ≠ p → H b = some o → (∀ ps, o ≠ .tbl ps) → H' b = some o
theorem KeepT.trans (a : KeepT p H H') (b : KeepT p H' H2) : KeepT p H H2 := fun c o n h t => b c o n (a c o n h t) t
theorem Keep.keepT (k : Keep p H H') : KeepT p H H' := fun b o n h _ => k b o n h
theorem _root_.LamX.ExtN.keepT (e : ExtN H H') : KeepT p H H' := fun b o _ h t => e b o h t
/-- the tables while a pen draws -/
theorem Keep.tabs (k : Keep p H H') (hp : PenL H p l n) {T : List (Addr × Str)} (t : Tabs T H) : Tabs T H' := by
  obtain ⟨xs, e⟩ := hp.lst
  have ne : ∀ b o, H b = some o → (∀ ys, o ≠ .lst ys) → H' b = some o := fun b o hb ho => k b o (fun z => by rw [z, e] at hb; cases hb; exact ho _ rfl) hb
  intro q hq
  obtain ⟨ps, h1, h2, h3⟩ := t q hq
  refine ⟨ps, ne _ _ h1 (fun _ z => by cases z), h2, fun pos cv hc => ?_⟩
  obtain ⟨c, e1, e2⟩ := h3 pos cv hc
  exact ⟨c, e1, ne _ _ e2 (fun _ z => by unfold CodeO at z; cases z)⟩
end
end HG

/-! x op= n, x of an own class, n an int. -/
namespace HG
open PySem L2 PyProof.Rows
open PySem.W in
theorem bin1_T {prog : Program} {w : World} {A : Around} {E : Value → Shared → Prop} {s : Shared} {K : Frag} {x C f : Addr} {ox : Obj} {od : Option Obj} {nm' : String} {b : Value} {T : String} {fo ro rc : Option Value} {Q : Option Value → Shared → Prop} (X : K.In s.heap) (I : InstAt s.heap x ox C od)
    (hb : typeOf b = pure (.type T)) (hc : selfFirst K C = true)
    (hs : findIn K (.ref C) (PySem.dunder nm') = some (some (.ref f))) (hf : isFn K (.ref f) = true) (hr : findIn K (.ref C) (dunderR nm') = some rc) (hp : rc = none ∨ ∃ g : Addr, rc = some (.ref g))
    (h1 : findIn K (.type T) (PySem.dunder nm') = some fo) (h2 : findIn K (.type T) (dunderR nm') = some ro) (hsub : subIn K (.type T) (.ref C) = some false)
    (h : wpAny (model prog w) A (call (.ref f) [.ref x, b]) (PySem.W.CmpBack fun v s' => Q (some v) s') E s) : wpAny (model prog w) A (binaryOp1 nm' (.ref x) b) Q E s := by
  obtain ⟨cd, rest, hcd, hm⟩ := ksp_first hc
  have one := ksp_try X I hs hf h
  obtain ⟨hh, g, d, tt, os⟩ := s
  have L1 : Looks (model prog w) hh (typeOf (.ref x)) (.ref C) := I.type
  have L2 : Looks (model prog w) hh (typeOf b) (.type T) := Looks.of_pure hb
  have L3 : Looks (model prog w) hh (fillsNumberSlot (.ref C) nm') true := fills_K X hcd hm hs
  have L4 : Looks (model prog w) hh (fillsNumberSlot (.type T) nm') ((fo.isSome && !isSeqSlot fo) || (ro.isSome && !isSeqSlot ro)) := ksp_fillsT X h1 h2
  have L5 : Looks (model prog w) hh (isSubtype (.type T) (.ref C)) false := looks_subIn X hsub
  have L6 : Looks (model prog w) hh (numberSlotInPython (.ref C) nm') true := ksp_inPy X hs hr hp
  have L7 : Looks (model prog w) hh (numberSlotInPython (.type T) nm') false := Looks.of_pure rfl
  have L8 : Looks (model prog w) hh (typeLookup (.type T) (dunderR nm')) ro := looks_findIn X h2
  generalize ((fo.isSome && !isSeqSlot fo) || (ro.isSome && !isSeqSlot ro)) = right at L4
  have hne : (Value.ref C == Value.type T) = false := Bool.eq_false_iff.mpr fun q => by cases beq_iff_eq.mp q
  unfold binaryOp1
  refine wpAny_bind (L1.at (wpAny_bind (L2.at (wpAny_bind (L3.at ?_)))))
  simp only [hne, Bool.false_eq_true, if_false]
  cases right with
  | false =>
    ksp_lk
    refine wpAny_mono one (fun r s' hr' => ?_) fun _ _ e => e
    obtain ⟨v, rfl, hq⟩ := hr'
    ksp_lk
    exact hq
  | true =>
    ksp_lk
    refine wpAny_mono one (fun r s' hr' => ?_) fun _ _ e => e
    obtain ⟨v, rfl, hq⟩ := hr'
    ksp_lk
    exact hq
/-- x op= y, y of the class or an int -/
theorem op_inpB {X : Cx} {k : Nat} {C f : Addr} {op : Operator} {sp : Sp} (B : InpF X.K C f op) (D : BinF X.K C f op) (O : Own X k f sp) : OpR X (inplaceOp op) (rBinL C sp) := by
  intro pins s σ H x y v u Q I rx ry h
  obtain ⟨h1, h2, h3⟩ := h
  rcases h2 with h2 | ⟨i, rfl⟩
  · exact op_inp B O pins s σ H x y v u Q I rx ry ⟨h1, h2, h3⟩
  · obtain ⟨a, dx, fs, rfl, ea⟩ := isIns_out h1
    cases rx
    obtain ⟨mA, J, _⟩ := ins_get I.hok ea
    obtain ⟨od, J, _⟩ := J.look
    obtain ⟨t, rfl⟩ := ry
    obtain ⟨rc, hr, hp⟩ := D.rc
    obtain ⟨fo, h4⟩ := D.i1
    obtain ⟨ro, h5⟩ := D.i2
    unfold inplaceOp
    refine wpAny_holding (wpAny_bind (J.type.here ?_))
    refine wpAny_bind ((B.no _ _ I.kIn).here ?_)
    simp only [Bool.false_eq_true, if_false]
    refine wpAny_bind (bin1_T I.kIn J (T := "int") rfl B.sf B.fn B.isf hr hp h4 h5 D.sub (thn (O.run (vs := [.ref a, .int i]) I (.cons rfl (.cons ⟨_, rfl⟩ .nil)) h3) fun v s' z => ?_))
    obtain ⟨v', H', I', r', q'⟩ := z
    have z := cmpBack (X := X) (pins := pins) (σ := σ) (Q := Q) ⟨v', H', I', r', q'⟩
    cases v <;> first | exact z.elim | exact wpAny_pure ⟨v', H', I', r', q'⟩
end HG
namespace HG
open PySem L2 PyProof.Rows
theorem dec_mul {prog : Program} {w : World} {A : Around} {E : Value → Shared → Prop} {s : Shared} {y C dx : Addr} {i : Int} {t : Tok} (h : s.heap.get? y = some (PySem.W.instObj C dx)) (Q : Option Value → Shared → Prop) (q : Q none s) :
    wpAny (model prog w) A (tryMethod (.int i t) (PySem.dunder "mul") (.ref y)) Q E s := by
  refine wpAny_tryMethod_declines (T := "int") (id := "int.__mul__") (hT := ?hT1) (h := ?hs1) (hc := ?hc1)
  case hT1 => exact typeIs_int s i t
  case hs1 => exact PySem.F.slot_int_mul
  refine wpAny_call_entry (T := "int") (name := PySem.dunder "mul") (b := Builtin.«int.__mul__») (ha := ?ha) (hb := ?hb) (h := ?hs) (hT := ?hT) (hc := ?hc)
  case hs => exact PySem.F.slot_int_mul
  case hb => exact PySem.F.entry_int_mul
  case hT => exact typeIs_int s i t
  case ha => exact PySem.F.args_int_mul_2 _ _
  case hc =>
    unfold Builtin.«int.__mul__» Builtin.Int.intBinary
    refine wpAny_bind (wpAny_of_eq (a := (.int i t, [.ref y])) rfl ?_)
    refine wpAny_bind (wpAny_of_eq (a := i) rfl ?_)
    exact wpAny_bind (asInt_ins h (wpAny_bind (wpAny_rule (wpAny_pure ⟨_, rfl, rfl, q⟩))))
theorem int_fo_Mult {K : PySem.W.Frag} : ∃ fo ro, PySem.W.findIn K (.type "int") (PySem.dunder Operator.Mult.info.2) = some fo ∧ PySem.W.findIn K (.type "int") (dunderR Operator.Mult.info.2) = some ro ∧ ((fo.isSome && !isSeqSlot fo) || (ro.isSome && !isSeqSlot ro)) = true :=
  ⟨some (.builtin "int.__mul__"), some (.builtin "int.__rmul__"), by show fastLookup "int" _ = _; decide +kernel, by show fastLookup "int" _ = _; decide +kernel, by decide +kernel⟩
end HG

/-! repr of None, of a bool; reading an optional whole number. -/
namespace HG
open PySem L2 PyProof.Rows
theorem call_repr_non {X : Cx} : CallR X (.builtin "repr") (fun xs H Q => xs = [.non] ∧ Q (.str "None") H) := by
  intro pins s σ H xs us Q I r h
  obtain ⟨rfl, q⟩ := h
  obtain ⟨u, rfl, rfl⟩ := vals1 r
  exact PySem.P.repr_of_none ⟨.str "None", H, I.tok _, ⟨_, rfl⟩, q⟩
/-- repr(x): None too -/
def cReprN (K : PySem.W.Frag) : List V → Hp → VK → Prop := fun xs H Q => match xs with
  | [.non] => Q (.str "None") H
  | xs => cRepr K xs H Q
theorem call_reprN {X : Cx} (hG : GA X.A) (hu : X.A.units + 64 < cLine) : CallR X (.builtin "repr") (cReprN X.K) := by
  intro pins s σ H xs us Q I r h
  unfold cReprN at h
  split at h
  · exact call_repr_non pins s σ H _ us Q I r ⟨rfl, h⟩
  · exact call_reprU hG hu pins s σ H _ us Q I r h
/-- the text of a value -/
def oRp : Option Int → Str
  | none => "None"
  | some i => toString i
theorem reprN_oV {K : PySem.W.Frag} {o : Option Int} {H : Hp} {Q : VK} (h : ∀ i, o = some i → Bn 1919 i) (k : Q (.str (oRp o)) H) : cReprN K [oV o] H Q := by
  cases o with
  | none => exact k
  | some i => exact ⟨Nat.lt_of_le_of_lt (Bn.log (m := 1918) (h i rfl)) (by decide), k⟩
theorem kit_uu {K : PySem.W.Frag} : PySem.W.kitOne K (.type "tuple") (.type "tuple") = some true := kit_ty (by decide +kernel)
theorem ty_tup {H : Hp} {a : Addr} {xs : List V} (h : H a = some (.tup xs)) : tyF H (.ref a) = some (.type "tuple") := by simp only [tyF, h]
theorem catE {H : Hp} {l b : Addr} {xs zs : List V} {Q : VK} (h1 : H l = some (.lst xs)) (h2 : H b = some (.lst zs)) (hl : xs.length + zs.length ≤ sizeLine) (k : ∀ p H', Grow H H' → H' p = some (.lst (xs ++ zs)) → Q (.ref p) H') : oAdd (.ref l) (.ref b) H Q := by
  simp only [oAdd, h1, h2]
  exact ⟨hl, fun p hp => k p _ (Grow.new hp) upd_same⟩
theorem tabS_nil {H : Hp} {P : Addr} {q : Str} (h : H P = some (.tbl #[])) : LamX.TabS H P q := ⟨#[], h, by trivial, fun pos cv z => by cases z⟩
/-- what a loop over J asks -/
def ForW (J : It) (g : TG) (tb : TS) (D : Ends) (σ : L2.St) (H1 : Hp) : Prop := ∃ W : Nat → Nat → L2.St → Hp → Prop, (∃ m, W 0 m σ H1) ∧ ∀ i m σ H, W i m σ H →
      (J.stop i H ∧ D.nx σ H) ∨ (J.go i H ∧ ∃ N : L2.St → Hp → Prop, (∀ σ' H', N σ' H' → ∃ m', m' < m ∧ W (i + 1) m' σ' H') ∧ ∀ x H', J.yld i H x H' → g x σ H' fun σ2 H2 => tb { D with nx := N, ct := N, bk := D.nx } σ2 H2)
/-- what is asked of x for a loop over a sequence -/
def SeqW (K : PySem.W.Frag) (x : V) (H1 : Hp) (R : It → Hp → Prop) : Prop := ∃ a, x = .ref a ∧ (((∃ xs, SqL K H1 a xs) ∧ R (Itl K a) H1) ∨ ((∃ xs, SqT K H1 a xs) ∧ R (Itt K a) H1))
theorem for_seq {K : PySem.W.Frag} {te : TE} {g : TG} {tb : TS} {D : Ends} {σ : L2.St} {H : Hp} (h : te σ H fun x H1 => SeqW K x H1 fun J H1 => ForW J g tb D σ H1) : tFor (iSeq K te) g tb D σ H := h
theorem seqW {K : PySem.W.Frag} {a : Addr} {H1 : Hp} {xs : List V} {R : It → Hp → Prop} (h : Sq K H1 a xs) (k : ∀ J, JOk J H1 xs.length (fun j => xs.getD j .non) → R J H1) : SeqW K (.ref a) H1 R := jok_sq h k
/-- a loop over items that stay -/
theorem for_jok {J : It} {H1 : Hp} {n : Nat} {xs : Nat → V} {g : TG} {tb : TS} {D : Ends} {σ : L2.St} (hJ : JOk J H1 n xs) (W : Nat → L2.St → Hp → Prop) (w0 : W 0 σ H1) (gr : ∀ i σ H, W i σ H → Grow H1 H) (fin : ∀ σ H, W n σ H → D.nx σ H)
    (step : ∀ i σ H, i < n → W i σ H → g (xs i) σ H fun σ2 H2 => tb { D with nx := W (i + 1), ct := W (i + 1), bk := D.nx } σ2 H2) : ForW J g tb D σ H1 := by
  refine ⟨fun i m σ H => i ≤ n ∧ m = n - i ∧ W i σ H, ⟨n, by omega, by omega, w0⟩, ?_⟩
  rintro i m σ H ⟨hi, hm, w⟩
  by_cases e : i = n
  · subst e
    exact .inl ⟨hJ.stop H (gr _ _ _ w), fin _ _ w⟩
  · have hl : i < n := by omega
    refine .inr ⟨hJ.go H (gr _ _ _ w) i hl, W (i + 1), fun σ' H' q => ⟨n - (i + 1), by omega, by omega, rfl, q⟩, fun x H' y => ?_⟩
    obtain ⟨rfl, rfl⟩ := hJ.yld H (gr _ _ _ w) i hl x H' y
    exact step i σ H' hl w
end HG

namespace HG
open PySem L2
structure Ad where
  c_Growth : Addr
  dt_Growth_init_0 : Addr
  cc_law_pair_right : Addr
  P_law_pair_right : Addr
  cc_law_number_right : Addr
  P_law_number_right : Addr
  f_is_integer : Addr
  f_is_value : Addr
  f_is_list : Addr
  f_added : Addr
  f_value_at : Addr
  f_step_between : Addr
  f_gains_of : Addr
  f_least_gains : Addr
  f_trimmed : Addr
  f_normal_form : Addr
  f_shared_multiple : Addr
  f_sum_of : Addr
  f_combined : Addr
  f_need_growth : Addr
  f_need_index : Addr
  f_need_integer : Addr
  f_Growth_init : Addr
  f_Growth_getitem : Addr
  f_merged : Addr
  f_term : Addr
  f_times : Addr
  f_Growth_add : Addr
  f_Growth_radd : Addr
  f_Growth_sub : Addr
  f_Growth_rsub : Addr
  f_Growth_neg : Addr
  f_Growth_mul : Addr
  f_Growth_rmul : Addr
  f_Growth_eq : Addr
  f_Growth_stretch : Addr
  f_law_pen : Addr
  f_law_draw : Addr
  f_law_told : Addr
  f_law_at : Addr
  f_law_some : Addr
  f_law_repeats : Addr
  f_law_is_normal : Addr
  f_law_same : Addr
  f_law_sum : Addr
  f_law_lift : Addr
  f_law_pair_right : Addr
  f_law_number_right : Addr
  f_law : Addr
  d_is_integer : FuncData
  d_is_value : FuncData
  d_is_list : FuncData
  d_added : FuncData
  d_value_at : FuncData
  d_step_between : FuncData
  d_gains_of : FuncData
  d_least_gains : FuncData
  d_trimmed : FuncData
  d_normal_form : FuncData
  d_shared_multiple : FuncData
  d_sum_of : FuncData
  d_combined : FuncData
  d_need_growth : FuncData
  d_need_index : FuncData
  d_need_integer : FuncData
  d_Growth_init : FuncData
  d_Growth_getitem : FuncData
  d_merged : FuncData
  d_term : FuncData
  d_times : FuncData
  d_Growth_add : FuncData
  d_Growth_radd : FuncData
  d_Growth_sub : FuncData
  d_Growth_rsub : FuncData
  d_Growth_neg : FuncData
  d_Growth_mul : FuncData
  d_Growth_rmul : FuncData
  d_Growth_eq : FuncData
  d_Growth_stretch : FuncData
  d_law_pen : FuncData
  d_law_draw : FuncData
  d_law_told : FuncData
  d_law_at : FuncData
  d_law_some : FuncData
  d_law_repeats : FuncData
  d_law_is_normal : FuncData
  d_law_same : FuncData
  d_law_sum : FuncData
  d_law_lift : FuncData
  d_law_pair_right : FuncData
  d_law_number_right : FuncData
  d_law : FuncData
def tabs (A : Ad) : List (Addr × Str) := [(A.P_law_pair_right, "_law_pair_right.<locals>.<lambda>"), (A.P_law_number_right, "_law_number_right.<locals>.<lambda>")]
def tabsC (A : Ad) : List (Addr × Addr) := [(A.cc_law_pair_right, A.P_law_pair_right), (A.cc_law_number_right, A.P_law_number_right)]
theorem tabs_of {A : Ad} {H : Hp} (h : ∀ p ∈ tabsC A, H p.2 = some (.tbl #[])) : LamX.Tabs (tabs A) H := by
  intro q hq
  unfold tabs at hq
  simp only [List.mem_cons, List.not_mem_nil, or_false] at hq
  rcases hq with rfl | rfl
  · exact tabS_nil (h (A.cc_law_pair_right, A.P_law_pair_right) (by unfold tabsC; simp))
  · exact tabS_nil (h (A.cc_law_number_right, A.P_law_number_right) (by unfold tabsC; simp))

def sp_law_pen (K : PySem.W.Frag) (A : Ad) : Sp := spPenL K
def sp_law_draw (K : PySem.W.Frag) (A : Ad) : Sp := spDrawL
def sp_law_pick (K : PySem.W.Frag) (A : Ad) : Sp := spPickL
def t_law_pen_0 (K : PySem.W.Frag) (A : Ad) : TS := (tRet (tLst (tCons (tCB (cList K) (tCons (tSl (rSlL K) (tVar 0) tNoPart (tPart (tC (.int 63)))) tNil)) (tCons (tC (.int 0)) (tCons (tC (.int 0)) tNil)))))

def t_law_draw_3 (K : PySem.W.Frag) (A : Ad) : TS := (tRet (tVar 2))
def t_law_draw_2 (K : PySem.W.Frag) (A : Ad) : TS := (tSeq (tAsg (tOp oFdiv (tCB cInt (tCons (tOp (iIx K) (tVar 0) (tC (.int 2))) tNil)) (tVar 1)) (gSub (tVar 0) (tC (.int 2)) stL)) (t_law_draw_3 K A))
def t_law_draw_1 (K : PySem.W.Frag) (A : Ad) : TS := (tSeq (tAsg (tOp oMod (tCB cInt (tCons (tOp (iIx K) (tVar 0) (tC (.int 2))) tNil)) (tVar 1)) (gName 2)) (t_law_draw_2 K A))
def t_law_draw_8 (K : PySem.W.Frag) (A : Ad) : TS := (tAsg (tOp (iIx K) (tOp (iIx K) (tVar 0) (tC (.int 0))) (tOp oMod (tCB cInt (tCons (tVar 3) tNil)) (tCB (cLen K) (tCons (tOp (iIx K) (tVar 0) (tC (.int 0))) tNil)))) (gName 4))
def t_law_draw_12 (K : PySem.W.Frag) (A : Ad) : TS := (tRet (tOp oMod (tCB cInt (tCons (tVar 5) tNil)) (tVar 1)))
def t_law_draw_11 (K : PySem.W.Frag) (A : Ad) : TS := (tSeq (tAsg (tOp oFdiv (tCB cInt (tCons (tVar 5) tNil)) (tVar 1)) (gSub (tVar 0) (tC (.int 2)) stL)) (t_law_draw_12 K A))
def t_law_draw_10 (K : PySem.W.Frag) (A : Ad) : TS := (tSeq (tAsg (tOp oAdd (tOp oMul (tC (.int 2)) (tOp oSub (tCB cAbs (tCons (tVar 4) tNil)) (tOp oPow (tC (.int 10)) (tC (.int 18))))) (tCB cInt (tCons (tOp oLt (tVar 4) (tC (.int 0))) tNil))) (gName 5)) (t_law_draw_11 K A))
def t_law_draw_15 (K : PySem.W.Frag) (A : Ad) : TS := (tRet (tOp oMod (tCB cInt (tCons (tOp oFdiv (tVar 6) (tC (.int 32))) tNil)) (tVar 1)))
def t_law_draw_14 (K : PySem.W.Frag) (A : Ad) : TS := (tSeq (tAsg (tOp oMod (tCB cInt (tCons (tOp oPow (tOp oAdd (tOp oAdd (tOp oMul (tVar 6) (tOp oAdd (tOp oMul (tC (.int 2)) (tVar 3)) (tC (.int 617)))) (tOp oMul (tOp oMul (tC (.int 51929)) (tVar 3)) (tVar 3))) (tC (.int 323))) (tC (.int 3))) tNil)) (tC (.int 2147483563))) (gName 6)) (t_law_draw_15 K A))
def t_law_draw_13 (K : PySem.W.Frag) (A : Ad) : TS := (tSeq (tAsg (tOp oMod (tCB cInt (tCons (tOp oPow (tOp oAdd (tOp oAdd (tOp oMod (tCB cInt (tCons (tVar 4) tNil)) (tC (.int 2147483549))) (tOp oMul (tC (.int 42755)) (tVar 3))) (tC (.int 2053))) (tC (.int 5))) tNil)) (tC (.int 2147483647))) (gName 6)) (t_law_draw_14 K A))
def t_law_draw_9 (K : PySem.W.Frag) (A : Ad) : TS := (tSeq (tIfS (tAnd (tTest (tOp oLt (tVar 3) (tCB (cLen K) (tCons (tOp (iIx K) (tVar 0) (tC (.int 0))) tNil)))) (tTest (tOp oGe (tCB cAbs (tCons (tVar 4) tNil)) (tOp oPow (tC (.int 10)) (tC (.int 18)))))) (t_law_draw_10 K A) tNext) (t_law_draw_13 K A))
def t_law_draw_7 (K : PySem.W.Frag) (A : Ad) : TS := (tSeq (tIfS (tTest (tOp (oNe K) (tOp (iIx K) (tVar 0) (tC (.int 0))) (tLst tNil))) (t_law_draw_8 K A) tNext) (t_law_draw_9 K A))
def t_law_draw_6 (K : PySem.W.Frag) (A : Ad) : TS := (tSeq (tAsg (tOp oAdd (tOp oMul (tC (.int 54497)) (tVar 3)) (tC (.int 2723))) (gName 4)) (t_law_draw_7 K A))
def t_law_draw_5 (K : PySem.W.Frag) (A : Ad) : TS := (tSeq (tAsg (tOp oAdd (tVar 3) (tC (.int 1))) (gSub (tVar 0) (tC (.int 1)) stL)) (t_law_draw_6 K A))
def t_law_draw_4 (K : PySem.W.Frag) (A : Ad) : TS := (tSeq (tAsg (tOp (iIx K) (tVar 0) (tC (.int 1))) (gName 3)) (t_law_draw_5 K A))
def t_law_draw_0 (K : PySem.W.Frag) (A : Ad) : TS := (tSeq (tIfS (tTest (tOp oGt (tOp (iIx K) (tVar 0) (tC (.int 2))) (tC (.int 0)))) (t_law_draw_1 K A) tNext) (t_law_draw_4 K A))

def t_law_pick_0 (K : PySem.W.Frag) (A : Ad) : TS := (tRet (tOp (iIx K) (tVar 1) (tCall (sp_law_draw K A) [] E0 (tCons (tVar 0) (tCons (tCB (cLen K) (tCons (tVar 1) tNil)) tNil)))))

theorem pure_law_pen {K : PySem.W.Frag} {A : Ad} {vs : List V} {H : Hp} {Q : VK} {E : XK} (h : sp_law_pen K A vs H Q E) : (t_law_pen_0 K A) { nx := fun _ H' => Q .non H', rt := Q } (start ["_law_script"] vs) H := by
  unfold sp_law_pen spPenL at h
  split at h
  · rename_i a
    obtain ⟨ns, hs, k⟩ := h
    show (t_law_pen_0 K A) _ [some (.ref a)] H
    refine st_ret ?_
    (refine evE ?P1 (fun Q h => ?h1) ?_; (case h1 => (simp only [tTest, tOp, tUn, tVar, tC, tCB, tCons, tNil, tAnd, tOr, tNot, tB, tTup, tLst, tIf, tAndV, tOrV, tNotV, tSl, tPart, tNoPart, tCall, iIx_ref, oGt_int, oMod_int, oFdiv_int, oAdd_int, oAdd_str, oSub_int, oMul_int, oLt_int, oGe_int, oLe_int, oPow_int, uNeg_int, oEq_int, oEq_str, oEq_bl, oNe_int, oNe_str, oNe_bl, cInt_int, cInt_bl, cAbs_int, cLen_ref, cList_ref, stL_ref, gName, gSub, gTup, gCons, gNil, rdSeq, List.getElem?_cons_zero, List.getElem?_cons_succ, List.set_cons_zero, List.set_cons_succ, List.cons_append, List.nil_append, Option.some.injEq, exists_eq_left', V.bl.injEq, V.int.injEq, V.ref.injEq, atI_0, atI_1, atI_2, setI_1, setI_2, Bool.not_true, Bool.not_false, Bool.false_eq_true, if_false, if_true, rSlL]; exact h)); (try dsimp only [gName, tNext, List.set_cons_zero, List.set_cons_succ]))
    refine ⟨a, _, rfl, hs, fun p hp => ?_⟩
    have e1 : cutV (ns.map V.int) none (some 63) = (ns.take 63).map V.int := by
      have e2 : HT.sIx (ns.map V.int).length (ns.map V.int).length (some 63) = min 63 (ns.map V.int).length := HT.sIx_nat _ _ 63
      unfold cutV
      rw [e2, HT.sIx_none, List.drop_zero, Nat.sub_zero, List.map_take, List.take_eq_take_iff]
      omega
    rw [e1, upd_same]
    intro l hl
    refine ⟨by show 3 ≤ sizeLine; decide, fun q hq => ?_⟩
    have hlp : l ≠ p := fun z => by rw [z, upd_same] at hl; cases hl
    have hlq : l ≠ q := fun z => by rw [← z, upd_same] at hq; cases hq
    refine k q l _ ⟨ns.take 63, 0, 0, upd_same, ?_, ?_, by decide, by decide, by decide⟩ (fun b o e => ?_) ?_
    · rw [upd_ne hlq, upd_same]
    · rw [List.length_take]; omega
    · have g1 : Grow H (upd H p (.lst ((ns.take 63).map V.int))) := Grow.new hp
      exact (g1.trans ((Grow.new hl).trans (Grow.new hq))) b o e
    · cases e : H q with
      | none => rfl
      | some o =>
        have g1 : Grow H (upd H p (.lst ((ns.take 63).map V.int))) := Grow.new hp
        rw [(g1.trans (Grow.new hl)) q o e] at hq
        cases hq
  · exact h.elim
theorem pure_law_draw {K : PySem.W.Frag} {A : Ad} {vs : List V} {H : Hp} {Q : VK} {E : XK} (h : sp_law_draw K A vs H Q E) : (t_law_draw_0 K A) { nx := fun _ H' => Q .non H', rt := Q } (start ["_law_pen_here", "_law_many", "_law_digit", "_law_turn", "_law_cell", "_law_great", "_law_blend"] vs) H := by
  unfold sp_law_draw spDrawL at h
  split at h
  · rename_i p many
    obtain ⟨l, n, ⟨cells, turn, rest, hp, hl, hc, ht0, ht1, hr0⟩, hn, hm0, hm1, k⟩ := h
    have k : ∀ (d turn' rest' : Int) (H' : Hp), 0 ≤ d → d < many → turn ≤ turn' → turn' ≤ turn + 1 → 0 ≤ rest' → H' p = some (.lst [.ref l, .int turn', .int rest']) → Keep p H H' → Q (.int d) H' := by
      intro d turn' rest' H' h1 h2 h3 h4 h5 h6 h7
      refine k d H' h1 h2 ⟨cells, turn', rest', h6, h7 l _ ?_ hl, hc, by omega, by omega, h5⟩ h7
      rintro rfl
      rw [hp] at hl
      cases cells <;> cases hl
    have ht1 : turn ≤ 1000000 := by omega
    show (t_law_draw_0 K A) _ [some (.ref p), some (.int many), none, none, none, none, none] H
    refine st_seq (st_if ?_)
    (refine evT ?P2 (fun Q h => ?h2) ?_; (case h2 => (simp only [tTest, tOp, tUn, tVar, tC, tCB, tCons, tNil, tAnd, tOr, tNot, tB, tTup, tLst, tIf, tAndV, tOrV, tNotV, tSl, tPart, tNoPart, tCall, iIx_ref, oGt_int, oMod_int, oFdiv_int, oAdd_int, oAdd_str, oSub_int, oMul_int, oLt_int, oGe_int, oLe_int, oPow_int, uNeg_int, oEq_int, oEq_str, oEq_bl, oNe_int, oNe_str, oNe_bl, cInt_int, cInt_bl, cAbs_int, cLen_ref, cList_ref, stL_ref, gName, gSub, gTup, gCons, gNil, rdSeq, List.getElem?_cons_zero, List.getElem?_cons_succ, List.set_cons_zero, List.set_cons_succ, List.cons_append, List.nil_append, Option.some.injEq, exists_eq_left', V.bl.injEq, V.int.injEq, V.ref.injEq, atI_0, atI_1, atI_2, setI_1, setI_2, Bool.not_true, Bool.not_false, Bool.false_eq_true, if_false, if_true, hp]; exact h)); (try dsimp only [gName, tNext, List.set_cons_zero, List.set_cons_succ]))
    refine ite_dec (fun hrest => ?_) (fun hrest => ?_)
    all_goals (try dsimp only [gName, tNext, List.set_cons_zero, List.set_cons_succ])
    · refine st_seq (st_asg ?_)
      (refine evE ?P3 (fun Q h => ?h3) ?_; (case h3 => (simp only [tTest, tOp, tUn, tVar, tC, tCB, tCons, tNil, tAnd, tOr, tNot, tB, tTup, tLst, tIf, tAndV, tOrV, tNotV, tSl, tPart, tNoPart, tCall, iIx_ref, oGt_int, oMod_int, oFdiv_int, oAdd_int, oAdd_str, oSub_int, oMul_int, oLt_int, oGe_int, oLe_int, oPow_int, uNeg_int, oEq_int, oEq_str, oEq_bl, oNe_int, oNe_str, oNe_bl, cInt_int, cInt_bl, cAbs_int, cLen_ref, cList_ref, stL_ref, gName, gSub, gTup, gCons, gNil, rdSeq, List.getElem?_cons_zero, List.getElem?_cons_succ, List.set_cons_zero, List.set_cons_succ, List.cons_append, List.nil_append, Option.some.injEq, exists_eq_left', V.bl.injEq, V.int.injEq, V.ref.injEq, atI_0, atI_1, atI_2, setI_1, setI_2, Bool.not_true, Bool.not_false, Bool.false_eq_true, if_false, if_true, hp]; exact h)); (try dsimp only [gName, tNext, List.set_cons_zero, List.set_cons_succ]))
      refine ⟨hm0, ?_⟩
      (try dsimp only [gName, tNext, List.set_cons_zero, List.set_cons_succ])
      refine st_seq (st_asg ?_)
      (refine evE ?P4 (fun Q h => ?h4) ?_; (case h4 => (simp only [tTest, tOp, tUn, tVar, tC, tCB, tCons, tNil, tAnd, tOr, tNot, tB, tTup, tLst, tIf, tAndV, tOrV, tNotV, tSl, tPart, tNoPart, tCall, iIx_ref, oGt_int, oMod_int, oFdiv_int, oAdd_int, oAdd_str, oSub_int, oMul_int, oLt_int, oGe_int, oLe_int, oPow_int, uNeg_int, oEq_int, oEq_str, oEq_bl, oNe_int, oNe_str, oNe_bl, cInt_int, cInt_bl, cAbs_int, cLen_ref, cList_ref, stL_ref, gName, gSub, gTup, gCons, gNil, rdSeq, List.getElem?_cons_zero, List.getElem?_cons_succ, List.set_cons_zero, List.set_cons_succ, List.cons_append, List.nil_append, Option.some.injEq, exists_eq_left', V.bl.injEq, V.int.injEq, V.ref.injEq, atI_0, atI_1, atI_2, setI_1, setI_2, Bool.not_true, Bool.not_false, Bool.false_eq_true, if_false, if_true, hp]; exact h)); (try dsimp only [gName, tNext, List.set_cons_zero, List.set_cons_succ]))
      refine ⟨⟨hm0, hm1⟩, ?_⟩
      (try dsimp only [gName, tNext, List.set_cons_zero, List.set_cons_succ])
      (refine evG ?P5 (fun Q h => ?h5) ?_; (case h5 => (simp only [tTest, tOp, tUn, tVar, tC, tCB, tCons, tNil, tAnd, tOr, tNot, tB, tTup, tLst, tIf, tAndV, tOrV, tNotV, tSl, tPart, tNoPart, tCall, iIx_ref, oGt_int, oMod_int, oFdiv_int, oAdd_int, oAdd_str, oSub_int, oMul_int, oLt_int, oGe_int, oLe_int, oPow_int, uNeg_int, oEq_int, oEq_str, oEq_bl, oNe_int, oNe_str, oNe_bl, cInt_int, cInt_bl, cAbs_int, cLen_ref, cList_ref, stL_ref, gName, gSub, gTup, gCons, gNil, rdSeq, List.getElem?_cons_zero, List.getElem?_cons_succ, List.set_cons_zero, List.set_cons_succ, List.cons_append, List.nil_append, Option.some.injEq, exists_eq_left', V.bl.injEq, V.int.injEq, V.ref.injEq, atI_0, atI_1, atI_2, setI_1, setI_2, Bool.not_true, Bool.not_false, Bool.false_eq_true, if_false, if_true, hp]; exact h)); (try dsimp only [gName, tNext, List.set_cons_zero, List.set_cons_succ]))
      refine st_ret ?_
      (refine evE ?P6 (fun Q h => ?h6) ?_; (case h6 => (simp only [tTest, tOp, tUn, tVar, tC, tCB, tCons, tNil, tAnd, tOr, tNot, tB, tTup, tLst, tIf, tAndV, tOrV, tNotV, tSl, tPart, tNoPart, tCall, iIx_ref, oGt_int, oMod_int, oFdiv_int, oAdd_int, oAdd_str, oSub_int, oMul_int, oLt_int, oGe_int, oLe_int, oPow_int, uNeg_int, oEq_int, oEq_str, oEq_bl, oNe_int, oNe_str, oNe_bl, cInt_int, cInt_bl, cAbs_int, cLen_ref, cList_ref, stL_ref, gName, gSub, gTup, gCons, gNil, rdSeq, List.getElem?_cons_zero, List.getElem?_cons_succ, List.set_cons_zero, List.set_cons_succ, List.cons_append, List.nil_append, Option.some.injEq, exists_eq_left', V.bl.injEq, V.int.injEq, V.ref.injEq, atI_0, atI_1, atI_2, setI_1, setI_2, Bool.not_true, Bool.not_false, Bool.false_eq_true, if_false, if_true]; exact h)); (try dsimp only [gName, tNext, List.set_cons_zero, List.set_cons_succ]))
      exact k _ turn _ _ (Int.emod_nonneg _ (by omega)) (Int.emod_lt_of_pos _ hm0) (by omega) (by omega) (Int.ediv_nonneg hr0 (by omega)) upd_same fun b o hb e => by rw [upd_ne hb]; exact e
    · refine st_seq (st_asg ?_)
      (refine evE ?P7 (fun Q h => ?h7) ?_; (case h7 => (simp only [tTest, tOp, tUn, tVar, tC, tCB, tCons, tNil, tAnd, tOr, tNot, tB, tTup, tLst, tIf, tAndV, tOrV, tNotV, tSl, tPart, tNoPart, tCall, iIx_ref, oGt_int, oMod_int, oFdiv_int, oAdd_int, oAdd_str, oSub_int, oMul_int, oLt_int, oGe_int, oLe_int, oPow_int, uNeg_int, oEq_int, oEq_str, oEq_bl, oNe_int, oNe_str, oNe_bl, cInt_int, cInt_bl, cAbs_int, cLen_ref, cList_ref, stL_ref, gName, gSub, gTup, gCons, gNil, rdSeq, List.getElem?_cons_zero, List.getElem?_cons_succ, List.set_cons_zero, List.set_cons_succ, List.cons_append, List.nil_append, Option.some.injEq, exists_eq_left', V.bl.injEq, V.int.injEq, V.ref.injEq, atI_0, atI_1, atI_2, setI_1, setI_2, Bool.not_true, Bool.not_false, Bool.false_eq_true, if_false, if_true, hp]; exact h)); (try dsimp only [gName, tNext, List.set_cons_zero, List.set_cons_succ]))
      refine st_seq (st_asg ?_)
      (refine evE ?P8 (fun Q h => ?h8) ?_; (case h8 => (simp only [tTest, tOp, tUn, tVar, tC, tCB, tCons, tNil, tAnd, tOr, tNot, tB, tTup, tLst, tIf, tAndV, tOrV, tNotV, tSl, tPart, tNoPart, tCall, iIx_ref, oGt_int, oMod_int, oFdiv_int, oAdd_int, oAdd_str, oSub_int, oMul_int, oLt_int, oGe_int, oLe_int, oPow_int, uNeg_int, oEq_int, oEq_str, oEq_bl, oNe_int, oNe_str, oNe_bl, cInt_int, cInt_bl, cAbs_int, cLen_ref, cList_ref, stL_ref, gName, gSub, gTup, gCons, gNil, rdSeq, List.getElem?_cons_zero, List.getElem?_cons_succ, List.set_cons_zero, List.set_cons_succ, List.cons_append, List.nil_append, Option.some.injEq, exists_eq_left', V.bl.injEq, V.int.injEq, V.ref.injEq, atI_0, atI_1, atI_2, setI_1, setI_2, Bool.not_true, Bool.not_false, Bool.false_eq_true, if_false, if_true, hp]; exact h)); (try dsimp only [gName, tNext, List.set_cons_zero, List.set_cons_succ]))
      (refine evG ?P9 (fun Q h => ?h9) ?_; (case h9 => (simp only [tTest, tOp, tUn, tVar, tC, tCB, tCons, tNil, tAnd, tOr, tNot, tB, tTup, tLst, tIf, tAndV, tOrV, tNotV, tSl, tPart, tNoPart, tCall, iIx_ref, oGt_int, oMod_int, oFdiv_int, oAdd_int, oAdd_str, oSub_int, oMul_int, oLt_int, oGe_int, oLe_int, oPow_int, uNeg_int, oEq_int, oEq_str, oEq_bl, oNe_int, oNe_str, oNe_bl, cInt_int, cInt_bl, cAbs_int, cLen_ref, cList_ref, stL_ref, gName, gSub, gTup, gCons, gNil, rdSeq, List.getElem?_cons_zero, List.getElem?_cons_succ, List.set_cons_zero, List.set_cons_succ, List.cons_append, List.nil_append, Option.some.injEq, exists_eq_left', V.bl.injEq, V.int.injEq, V.ref.injEq, atI_0, atI_1, atI_2, setI_1, setI_2, Bool.not_true, Bool.not_false, Bool.false_eq_true, if_false, if_true, hp]; exact h)); (try dsimp only [gName, tNext, List.set_cons_zero, List.set_cons_succ]))
      refine st_seq (st_asg ?_)
      (refine evE ?P10 (fun Q h => ?h10) ?_; (case h10 => (simp only [tTest, tOp, tUn, tVar, tC, tCB, tCons, tNil, tAnd, tOr, tNot, tB, tTup, tLst, tIf, tAndV, tOrV, tNotV, tSl, tPart, tNoPart, tCall, iIx_ref, oGt_int, oMod_int, oFdiv_int, oAdd_int, oAdd_str, oSub_int, oMul_int, oLt_int, oGe_int, oLe_int, oPow_int, uNeg_int, oEq_int, oEq_str, oEq_bl, oNe_int, oNe_str, oNe_bl, cInt_int, cInt_bl, cAbs_int, cLen_ref, cList_ref, stL_ref, gName, gSub, gTup, gCons, gNil, rdSeq, List.getElem?_cons_zero, List.getElem?_cons_succ, List.set_cons_zero, List.set_cons_succ, List.cons_append, List.nil_append, Option.some.injEq, exists_eq_left', V.bl.injEq, V.int.injEq, V.ref.injEq, atI_0, atI_1, atI_2, setI_1, setI_2, Bool.not_true, Bool.not_false, Bool.false_eq_true, if_false, if_true, hp]; exact h)); (try dsimp only [gName, tNext, List.set_cons_zero, List.set_cons_succ]))
      refine ⟨.of_left (intBits_le_64 (by omega) (by omega)), ?_⟩
      refine st_seq (st_if ?_)
      (refine evT ?P11 (fun Q h => ?h11) ?_; (case h11 => (simp only [tTest, tOp, tUn, tVar, tC, tCB, tCons, tNil, tAnd, tOr, tNot, tB, tTup, tLst, tIf, tAndV, tOrV, tNotV, tSl, tPart, tNoPart, tCall, iIx_ref, oGt_int, oMod_int, oFdiv_int, oAdd_int, oAdd_str, oSub_int, oMul_int, oLt_int, oGe_int, oLe_int, oPow_int, uNeg_int, oEq_int, oEq_str, oEq_bl, oNe_int, oNe_str, oNe_bl, cInt_int, cInt_bl, cAbs_int, cLen_ref, cList_ref, stL_ref, gName, gSub, gTup, gCons, gNil, rdSeq, List.getElem?_cons_zero, List.getElem?_cons_succ, List.set_cons_zero, List.set_cons_succ, List.cons_append, List.nil_append, Option.some.injEq, exists_eq_left', V.bl.injEq, V.int.injEq, V.ref.injEq, atI_0, atI_1, atI_2, setI_1, setI_2, Bool.not_true, Bool.not_false, Bool.false_eq_true, if_false, if_true, hp, upd_same]; exact h)); (try dsimp only [gName, tNext, List.set_cons_zero, List.set_cons_succ]))
      refine ⟨by decide, fun q hq => ?_⟩
      have npl : l ≠ p := by
        rintro rfl
        rw [hp] at hl
        cases cells <;> cases hl
      have hpq : q ≠ p := fun e => by rw [e, upd_same] at hq; cases hq
      have hq' : H q = none := by rw [upd_ne hpq] at hq; exact hq
      have hlq : l ≠ q := fun e => by rw [← e, hl] at hq'; cases hq'
      generalize hH2 : upd (upd H p (.lst [.ref l, .int (turn + 1), .int rest])) q (.lst []) = H2
      have h2p : H2 p = some (.lst [.ref l, .int (turn + 1), .int rest]) := by rw [← hH2, upd_ne hpq.symm, upd_same]
      have h2l : H2 l = some (.lst (cells.map V.int)) := by rw [← hH2, upd_ne hlq, upd_ne npl]; exact hl
      have h2q : H2 q = some (.lst []) := by rw [← hH2, upd_same]
      have k2 : Keep p H H2 := fun b o hb e => by
        rw [← hH2, upd_ne (fun z => by rw [z, hq'] at e; cases e), upd_ne hb]; exact e
      refine ne_nil h2l h2q ⟨_, rfl, ?_⟩
      have tail : ∀ cell : Int, t_law_draw_13 K A { nx := fun _ H' => Q .non H', rt := Q } [some (.ref p), some (.int many), none, some (.int turn), some (.int cell), none, none] H2 := by
        intro cell
        refine st_seq (st_asg ?_)
        (refine evE ?P12 (fun Q h => ?h12) ?_; (case h12 => (simp only [tTest, tOp, tUn, tVar, tC, tCB, tCons, tNil, tAnd, tOr, tNot, tB, tTup, tLst, tIf, tAndV, tOrV, tNotV, tSl, tPart, tNoPart, tCall, iIx_ref, oGt_int, oMod_int, oFdiv_int, oAdd_int, oAdd_str, oSub_int, oMul_int, oLt_int, oGe_int, oLe_int, oPow_int, uNeg_int, oEq_int, oEq_str, oEq_bl, oNe_int, oNe_str, oNe_bl, cInt_int, cInt_bl, cAbs_int, cLen_ref, cList_ref, stL_ref, gName, gSub, gTup, gCons, gNil, rdSeq, List.getElem?_cons_zero, List.getElem?_cons_succ, List.set_cons_zero, List.set_cons_succ, List.cons_append, List.nil_append, Option.some.injEq, exists_eq_left', V.bl.injEq, V.int.injEq, V.ref.injEq, atI_0, atI_1, atI_2, setI_1, setI_2, Bool.not_true, Bool.not_false, Bool.false_eq_true, if_false, if_true]; exact h)); (try dsimp only [gName, tNext, List.set_cons_zero, List.set_cons_succ]))
        have hx := mod_range (x := cell) (m := 2147483549) (by decide)
        refine ⟨by decide, mulok_left (by decide) (by decide), ⟨by decide, by decide, draw_pow1 hx.1 (by omega) ht0 ht1 (by decide) (by decide) (by decide) (by decide)⟩, by decide, ?_⟩
        (try dsimp only [gName, tNext, List.set_cons_zero, List.set_cons_succ])
        generalize hm : ((cell % 2147483549 + 42755 * turn + 2053) ^ Int.toNat 5 % 2147483647) = mixed
        have hmx : 0 ≤ mixed ∧ mixed < 2147483647 := by rw [← hm]; exact mod_range (by decide)
        refine st_seq (st_asg ?_)
        (refine evE ?P13 (fun Q h => ?h13) ?_; (case h13 => (simp only [tTest, tOp, tUn, tVar, tC, tCB, tCons, tNil, tAnd, tOr, tNot, tB, tTup, tLst, tIf, tAndV, tOrV, tNotV, tSl, tPart, tNoPart, tCall, iIx_ref, oGt_int, oMod_int, oFdiv_int, oAdd_int, oAdd_str, oSub_int, oMul_int, oLt_int, oGe_int, oLe_int, oPow_int, uNeg_int, oEq_int, oEq_str, oEq_bl, oNe_int, oNe_str, oNe_bl, cInt_int, cInt_bl, cAbs_int, cLen_ref, cList_ref, stL_ref, gName, gSub, gTup, gCons, gNil, rdSeq, List.getElem?_cons_zero, List.getElem?_cons_succ, List.set_cons_zero, List.set_cons_succ, List.cons_append, List.nil_append, Option.some.injEq, exists_eq_left', V.bl.injEq, V.int.injEq, V.ref.injEq, atI_0, atI_1, atI_2, setI_1, setI_2, Bool.not_true, Bool.not_false, Bool.false_eq_true, if_false, if_true]; exact h)); (try dsimp only [gName, tNext, List.set_cons_zero, List.set_cons_succ]))
        refine ⟨mulok_left (by decide) (by decide), mulok_left (by omega) (by omega), mulok_left (by decide) (by decide), draw_bt ht0 ht1 (by decide) (by decide), ⟨by decide, by decide, draw_pow2 hmx.1 (by omega) ht0 ht1 (by decide) (by decide) (by decide) (by decide) (by decide) (by decide)⟩, by decide, ?_⟩
        (try dsimp only [gName, tNext, List.set_cons_zero, List.set_cons_succ])
        refine st_ret ?_
        (refine evE ?P14 (fun Q h => ?h14) ?_; (case h14 => (simp only [tTest, tOp, tUn, tVar, tC, tCB, tCons, tNil, tAnd, tOr, tNot, tB, tTup, tLst, tIf, tAndV, tOrV, tNotV, tSl, tPart, tNoPart, tCall, iIx_ref, oGt_int, oMod_int, oFdiv_int, oAdd_int, oAdd_str, oSub_int, oMul_int, oLt_int, oGe_int, oLe_int, oPow_int, uNeg_int, oEq_int, oEq_str, oEq_bl, oNe_int, oNe_str, oNe_bl, cInt_int, cInt_bl, cAbs_int, cLen_ref, cList_ref, stL_ref, gName, gSub, gTup, gCons, gNil, rdSeq, List.getElem?_cons_zero, List.getElem?_cons_succ, List.set_cons_zero, List.set_cons_succ, List.cons_append, List.nil_append, Option.some.injEq, exists_eq_left', V.bl.injEq, V.int.injEq, V.ref.injEq, atI_0, atI_1, atI_2, setI_1, setI_2, Bool.not_true, Bool.not_false, Bool.false_eq_true, if_false, if_true]; exact h)); (try dsimp only [gName, tNext, List.set_cons_zero, List.set_cons_succ]))
        refine ⟨⟨by decide, by decide⟩, hm0, ?_⟩
        exact k _ (turn + 1) _ _ (mod_range hm0).1 (mod_range hm0).2 (by omega) (by omega) hr0 h2p k2
      -- both ways go on with a cell
      have go : ∀ cell : Int, t_law_draw_9 K A { nx := fun _ H' => Q .non H', rt := Q } [some (.ref p), some (.int many), none, some (.int turn), some (.int cell), none, none] H2 := by
        intro cell
        refine st_seq (st_if ?_)
        (refine evT ?P15 (fun Q h => ?h15) ?_; (case h15 => (simp only [tTest, tOp, tUn, tVar, tC, tCB, tCons, tNil, tAnd, tOr, tNot, tB, tTup, tLst, tIf, tAndV, tOrV, tNotV, tSl, tPart, tNoPart, tCall, iIx_ref, oGt_int, oMod_int, oFdiv_int, oAdd_int, oAdd_str, oSub_int, oMul_int, oLt_int, oGe_int, oLe_int, oPow_int, uNeg_int, oEq_int, oEq_str, oEq_bl, oNe_int, oNe_str, oNe_bl, cInt_int, cInt_bl, cAbs_int, cLen_ref, cList_ref, stL_ref, gName, gSub, gTup, gCons, gNil, rdSeq, List.getElem?_cons_zero, List.getElem?_cons_succ, List.set_cons_zero, List.set_cons_succ, List.cons_append, List.nil_append, Option.some.injEq, exists_eq_left', V.bl.injEq, V.int.injEq, V.ref.injEq, atI_0, atI_1, atI_2, setI_1, setI_2, Bool.not_true, Bool.not_false, Bool.false_eq_true, if_false, if_true, h2p, h2l]; exact h)); (try dsimp only [gName, tNext, List.set_cons_zero, List.set_cons_succ]))
        refine ite_dec (fun hc1 => ?_) (fun hc1 => ?_)
        all_goals (try dsimp only [gName, tNext, List.set_cons_zero, List.set_cons_succ])
        · refine ⟨⟨by decide, by decide, by decide⟩, ?_⟩
          refine ite_dec (fun hc2 => ?_) (fun hc2 => ?_)
          all_goals (try dsimp only [gName, tNext, List.set_cons_zero, List.set_cons_succ])
          · refine st_seq (st_asg ?_)
            (refine evE ?P16 (fun Q h => ?h16) ?_; (case h16 => (simp only [tTest, tOp, tUn, tVar, tC, tCB, tCons, tNil, tAnd, tOr, tNot, tB, tTup, tLst, tIf, tAndV, tOrV, tNotV, tSl, tPart, tNoPart, tCall, iIx_ref, oGt_int, oMod_int, oFdiv_int, oAdd_int, oAdd_str, oSub_int, oMul_int, oLt_int, oGe_int, oLe_int, oPow_int, uNeg_int, oEq_int, oEq_str, oEq_bl, oNe_int, oNe_str, oNe_bl, cInt_int, cInt_bl, cAbs_int, cLen_ref, cList_ref, stL_ref, gName, gSub, gTup, gCons, gNil, rdSeq, List.getElem?_cons_zero, List.getElem?_cons_succ, List.set_cons_zero, List.set_cons_succ, List.cons_append, List.nil_append, Option.some.injEq, exists_eq_left', V.bl.injEq, V.int.injEq, V.ref.injEq, atI_0, atI_1, atI_2, setI_1, setI_2, Bool.not_true, Bool.not_false, Bool.false_eq_true, if_false, if_true]; exact h)); (try dsimp only [gName, tNext, List.set_cons_zero, List.set_cons_succ]))
            refine ⟨⟨by decide, by decide, by decide⟩, mulok_left (by decide) (by decide), ?_⟩
            (try dsimp only [gName, tNext, List.set_cons_zero, List.set_cons_succ])
            refine st_seq (st_asg ?_)
            (refine evE ?P17 (fun Q h => ?h17) ?_; (case h17 => (simp only [tTest, tOp, tUn, tVar, tC, tCB, tCons, tNil, tAnd, tOr, tNot, tB, tTup, tLst, tIf, tAndV, tOrV, tNotV, tSl, tPart, tNoPart, tCall, iIx_ref, oGt_int, oMod_int, oFdiv_int, oAdd_int, oAdd_str, oSub_int, oMul_int, oLt_int, oGe_int, oLe_int, oPow_int, uNeg_int, oEq_int, oEq_str, oEq_bl, oNe_int, oNe_str, oNe_bl, cInt_int, cInt_bl, cAbs_int, cLen_ref, cList_ref, stL_ref, gName, gSub, gTup, gCons, gNil, rdSeq, List.getElem?_cons_zero, List.getElem?_cons_succ, List.set_cons_zero, List.set_cons_succ, List.cons_append, List.nil_append, Option.some.injEq, exists_eq_left', V.bl.injEq, V.int.injEq, V.ref.injEq, atI_0, atI_1, atI_2, setI_1, setI_2, Bool.not_true, Bool.not_false, Bool.false_eq_true, if_false, if_true]; exact h)); (try dsimp only [gName, tNext, List.set_cons_zero, List.set_cons_succ]))
            refine ⟨⟨hm0, hm1⟩, ?_⟩
            (refine evG ?P18 (fun Q h => ?h18) ?_; (case h18 => (simp only [tTest, tOp, tUn, tVar, tC, tCB, tCons, tNil, tAnd, tOr, tNot, tB, tTup, tLst, tIf, tAndV, tOrV, tNotV, tSl, tPart, tNoPart, tCall, iIx_ref, oGt_int, oMod_int, oFdiv_int, oAdd_int, oAdd_str, oSub_int, oMul_int, oLt_int, oGe_int, oLe_int, oPow_int, uNeg_int, oEq_int, oEq_str, oEq_bl, oNe_int, oNe_str, oNe_bl, cInt_int, cInt_bl, cAbs_int, cLen_ref, cList_ref, stL_ref, gName, gSub, gTup, gCons, gNil, rdSeq, List.getElem?_cons_zero, List.getElem?_cons_succ, List.set_cons_zero, List.set_cons_succ, List.cons_append, List.nil_append, Option.some.injEq, exists_eq_left', V.bl.injEq, V.int.injEq, V.ref.injEq, atI_0, atI_1, atI_2, setI_1, setI_2, Bool.not_true, Bool.not_false, Bool.false_eq_true, if_false, if_true, h2p]; exact h)); (try dsimp only [gName, tNext, List.set_cons_zero, List.set_cons_succ]))
            refine st_ret ?_
            (refine evE ?P19 (fun Q h => ?h19) ?_; (case h19 => (simp only [tTest, tOp, tUn, tVar, tC, tCB, tCons, tNil, tAnd, tOr, tNot, tB, tTup, tLst, tIf, tAndV, tOrV, tNotV, tSl, tPart, tNoPart, tCall, iIx_ref, oGt_int, oMod_int, oFdiv_int, oAdd_int, oAdd_str, oSub_int, oMul_int, oLt_int, oGe_int, oLe_int, oPow_int, uNeg_int, oEq_int, oEq_str, oEq_bl, oNe_int, oNe_str, oNe_bl, cInt_int, cInt_bl, cAbs_int, cLen_ref, cList_ref, stL_ref, gName, gSub, gTup, gCons, gNil, rdSeq, List.getElem?_cons_zero, List.getElem?_cons_succ, List.set_cons_zero, List.set_cons_succ, List.cons_append, List.nil_append, Option.some.injEq, exists_eq_left', V.bl.injEq, V.int.injEq, V.ref.injEq, atI_0, atI_1, atI_2, setI_1, setI_2, Bool.not_true, Bool.not_false, Bool.false_eq_true, if_false, if_true]; exact h)); (try dsimp only [gName, tNext, List.set_cons_zero, List.set_cons_succ]))
            refine ⟨hm0, ?_⟩
            refine k _ (turn + 1) _ _ (mod_range hm0).1 (mod_range hm0).2 (by omega) (by omega) (Int.ediv_nonneg ?_ (by omega)) upd_same fun b o hb e => by rw [upd_ne hb]; exact k2 b o hb e
            have e18 : (10 : Int) ^ Int.toNat 18 = 1000000000000000000 := by decide
            rw [e18] at hc2 ⊢
            split <;> split at hc2 <;> split <;> omega
          · exact tail cell
        · exact tail cell
      refine ite_b (fun hb => ?_) (fun _ => go _)
      refine st_asg ?_
      have hne : cells ≠ [] := by
        rintro rfl
        cases hb
      have hpos : 0 < cells.length := List.length_pos_iff.mpr hne
      have hi : turn % (cells.length : Int) < cells.length := (mod_range (by omega)).2
      have hi0 : 0 ≤ turn % (cells.length : Int) := (mod_range (by omega)).1
      have hat : atI (cells.map V.int) (turn % ((cells.map V.int).length : Int)) = some (.int (cells.getD (turn % (cells.length : Int)).toNat 0)) := by
        refine atI_nat' (by rw [List.length_map]; exact hi0) ?_
        rw [List.length_map, List.getElem?_map, List.getD_eq_getElem?_getD, List.getElem?_eq_getElem (by omega)]
        rfl
      (refine evE ?P20 (fun Q h => ?h20) ?_; (case h20 => (simp only [tTest, tOp, tUn, tVar, tC, tCB, tCons, tNil, tAnd, tOr, tNot, tB, tTup, tLst, tIf, tAndV, tOrV, tNotV, tSl, tPart, tNoPart, tCall, iIx_ref, oGt_int, oMod_int, oFdiv_int, oAdd_int, oAdd_str, oSub_int, oMul_int, oLt_int, oGe_int, oLe_int, oPow_int, uNeg_int, oEq_int, oEq_str, oEq_bl, oNe_int, oNe_str, oNe_bl, cInt_int, cInt_bl, cAbs_int, cLen_ref, cList_ref, stL_ref, gName, gSub, gTup, gCons, gNil, rdSeq, List.getElem?_cons_zero, List.getElem?_cons_succ, List.set_cons_zero, List.set_cons_succ, List.cons_append, List.nil_append, Option.some.injEq, exists_eq_left', V.bl.injEq, V.int.injEq, V.ref.injEq, atI_0, atI_1, atI_2, setI_1, setI_2, Bool.not_true, Bool.not_false, Bool.false_eq_true, if_false, if_true, h2p, h2l, hat]; exact h)); (try dsimp only [gName, tNext, List.set_cons_zero, List.set_cons_succ]))
      refine ⟨by rw [List.length_map]; omega, ?_⟩
      exact go _
  · exact h.elim
theorem pure_law_pick {K : PySem.W.Frag} {A : Ad} {vs : List V} {H : Hp} {Q : VK} {E : XK} (h : sp_law_pick K A vs H Q E) : (t_law_pick_0 K A) { nx := fun _ H' => Q .non H', rt := Q } (start ["_law_pen_here", "_law_some_here"] vs) H := by
  unfold sp_law_pick spPickL at h
  split at h
  · rename_i p s
    obtain ⟨l, n, xs, hp, hn, hs, hsp, hx, hl, k⟩ := h
    show (t_law_pick_0 K A) _ [some (.ref p), some (.ref s)] H
    refine st_ret ?_
    (refine evE ?P21 (fun Q h => ?h21) ?_; (case h21 => (simp only [tTest, tOp, tUn, tVar, tC, tCB, tCons, tNil, tAnd, tOr, tNot, tB, tTup, tLst, tIf, tAndV, tOrV, tNotV, tSl, tPart, tNoPart, tCall, iIx_ref, oGt_int, oMod_int, oFdiv_int, oAdd_int, oAdd_str, oSub_int, oMul_int, oLt_int, oGe_int, oLe_int, oPow_int, uNeg_int, oEq_int, oEq_str, oEq_bl, oNe_int, oNe_str, oNe_bl, cInt_int, cInt_bl, cAbs_int, cLen_ref, cList_ref, stL_ref, gName, gSub, gTup, gCons, gNil, rdSeq, List.getElem?_cons_zero, List.getElem?_cons_succ, List.set_cons_zero, List.set_cons_succ, List.cons_append, List.nil_append, Option.some.injEq, exists_eq_left', V.bl.injEq, V.int.injEq, V.ref.injEq, atI_0, atI_1, atI_2, setI_1, setI_2, Bool.not_true, Bool.not_false, Bool.false_eq_true, if_false, if_true, hs]; exact h)); (try dsimp only [gName, tNext, List.set_cons_zero, List.set_cons_succ]))
    have hpos : 0 < xs.length := List.length_pos_iff.mpr hx
    refine ⟨l, n, hp, hn, by omega, log_small (by omega) (by omega), fun d H' h0 h1 hp' kp => ?_⟩
    have e : atI xs d = some xs[d.toNat] := atI_nat' h0 (List.getElem?_eq_getElem (by omega))
    have hs' := kp s _ hsp hs
    simp only [tTest, tOp, tUn, tVar, tC, tCB, tCons, tNil, tAnd, tOr, tNot, tB, tTup, tLst, tIf, tAndV, tOrV, tNotV, tSl, tPart, tNoPart, tCall, iIx_ref, oGt_int, oMod_int, oFdiv_int, oAdd_int, oAdd_str, oSub_int, oMul_int, oLt_int, oGe_int, oLe_int, oPow_int, uNeg_int, oEq_int, oEq_str, oEq_bl, oNe_int, oNe_str, oNe_bl, cInt_int, cInt_bl, cAbs_int, cLen_ref, cList_ref, stL_ref, gName, gSub, gTup, gCons, gNil, rdSeq, List.getElem?_cons_zero, List.getElem?_cons_succ, List.set_cons_zero, List.set_cons_succ, List.cons_append, List.nil_append, Option.some.injEq, exists_eq_left', V.bl.injEq, V.int.injEq, V.ref.injEq, atI_0, atI_1, atI_2, setI_1, setI_2, Bool.not_true, Bool.not_false, Bool.false_eq_true, if_false, if_true, hs', e]
    exact k _ _ (List.getElem_mem _) hp' kp
  · exact h.elim

def sp_is_integer (K : PySem.W.Frag) (A : Ad) : Sp := fun vs H Q _ => match vs with
  | [.int _] => Q (.bl true) H
  | [.bl _] => Q (.bl false) H
  | [.non] => Q (.bl false) H
  | [.str _] => Q (.bl false) H
  | [.ref a] => ∃ t, tyF H (.ref a) = some t ∧ tyOk K t ∧ PySem.W.kitOne K t (.type "int") = some false ∧ Q (.bl false) H
  | _ => False
theorem is_int {K : PySem.W.Frag} {A : Ad} {i : Int} {H : Hp} {Q : VK} {E : XK} : sp_is_integer K A [.int i] H Q E = Q (.bl true) H := rfl
theorem is_oV {K : PySem.W.Frag} {A : Ad} {o : Option Int} {H : Hp} {Q : VK} {E : XK} : sp_is_integer K A [oV o] H Q E = Q (.bl o.isSome) H := by cases o <;> rfl
def t_is_integer_0 (K : PySem.W.Frag) (A : Ad) : TS := (tRet (tAndV (tCB (cIsi K) (tCons (tVar 0) (tCons (tC (.ty "int")) tNil))) (tNotV (tCB (cIsi K) (tCons (tVar 0) (tCons (tC (.ty "bool")) tNil))))))

theorem pure_is_integer {K : PySem.W.Frag} {A : Ad} {vs : List V} {H : Hp} {Q : VK} {E : XK} (h : sp_is_integer K A vs H Q E) : (t_is_integer_0 K A) { nx := fun _ H' => Q .non H', rt := Q } (start ["value"] vs) H := by
  unfold sp_is_integer at h
  split at h
  · show (t_is_integer_0 K A) _ [some (.int _)] H
    refine st_ret ?_
    (refine evE ?P22 (fun Q h => ?h22) ?_; (case h22 => (simp only [tTest, tOp, tUn, tVar, tC, tCB, tCons, tNil, tAnd, tOr, tNot, tB, tTup, tLst, tIf, tAndV, tOrV, tNotV, tSl, tPart, tNoPart, tCall, iIx_ref, oGt_int, oMod_int, oFdiv_int, oAdd_int, oAdd_str, oSub_int, oMul_int, oLt_int, oGe_int, oLe_int, oPow_int, uNeg_int, oEq_int, oEq_str, oEq_bl, oNe_int, oNe_str, oNe_bl, cInt_int, cInt_bl, cAbs_int, cLen_ref, cList_ref, stL_ref, gName, gSub, gTup, gCons, gNil, rdSeq, List.getElem?_cons_zero, List.getElem?_cons_succ, List.set_cons_zero, List.set_cons_succ, List.cons_append, List.nil_append, Option.some.injEq, exists_eq_left', V.bl.injEq, V.int.injEq, V.ref.injEq, atI_0, atI_1, atI_2, setI_1, setI_2, Bool.not_true, Bool.not_false, Bool.false_eq_true, if_false, if_true, cIsi, tyF, kit_tt, kit_ib, tyOk, true_and, if_true]; exact h)); (try dsimp only [gName, tNext, List.set_cons_zero, List.set_cons_succ]))
    exact h
  · show (t_is_integer_0 K A) _ [some (.bl _)] H
    refine st_ret ?_
    (refine evE ?P23 (fun Q h => ?h23) ?_; (case h23 => (simp only [tTest, tOp, tUn, tVar, tC, tCB, tCons, tNil, tAnd, tOr, tNot, tB, tTup, tLst, tIf, tAndV, tOrV, tNotV, tSl, tPart, tNoPart, tCall, iIx_ref, oGt_int, oMod_int, oFdiv_int, oAdd_int, oAdd_str, oSub_int, oMul_int, oLt_int, oGe_int, oLe_int, oPow_int, uNeg_int, oEq_int, oEq_str, oEq_bl, oNe_int, oNe_str, oNe_bl, cInt_int, cInt_bl, cAbs_int, cLen_ref, cList_ref, stL_ref, gName, gSub, gTup, gCons, gNil, rdSeq, List.getElem?_cons_zero, List.getElem?_cons_succ, List.set_cons_zero, List.set_cons_succ, List.cons_append, List.nil_append, Option.some.injEq, exists_eq_left', V.bl.injEq, V.int.injEq, V.ref.injEq, atI_0, atI_1, atI_2, setI_1, setI_2, Bool.not_true, Bool.not_false, Bool.false_eq_true, if_false, if_true, cIsi, tyF, kit_bi, kit_bb, tyOk, true_and, if_true]; exact h)); (try dsimp only [gName, tNext, List.set_cons_zero, List.set_cons_succ]))
    exact h
  · show (t_is_integer_0 K A) _ [some (.non)] H
    refine st_ret ?_
    (refine evE ?P24 (fun Q h => ?h24) ?_; (case h24 => (simp only [tTest, tOp, tUn, tVar, tC, tCB, tCons, tNil, tAnd, tOr, tNot, tB, tTup, tLst, tIf, tAndV, tOrV, tNotV, tSl, tPart, tNoPart, tCall, iIx_ref, oGt_int, oMod_int, oFdiv_int, oAdd_int, oAdd_str, oSub_int, oMul_int, oLt_int, oGe_int, oLe_int, oPow_int, uNeg_int, oEq_int, oEq_str, oEq_bl, oNe_int, oNe_str, oNe_bl, cInt_int, cInt_bl, cAbs_int, cLen_ref, cList_ref, stL_ref, gName, gSub, gTup, gCons, gNil, rdSeq, List.getElem?_cons_zero, List.getElem?_cons_succ, List.set_cons_zero, List.set_cons_succ, List.cons_append, List.nil_append, Option.some.injEq, exists_eq_left', V.bl.injEq, V.int.injEq, V.ref.injEq, atI_0, atI_1, atI_2, setI_1, setI_2, Bool.not_true, Bool.not_false, Bool.false_eq_true, if_false, if_true, cIsi, tyF, kit_ni, tyOk, true_and, Bool.false_eq_true, if_false]; exact h)); (try dsimp only [gName, tNext, List.set_cons_zero, List.set_cons_succ]))
    exact h
  · show (t_is_integer_0 K A) _ [some (.str _)] H
    refine st_ret ?_
    (refine evE ?P25 (fun Q h => ?h25) ?_; (case h25 => (simp only [tTest, tOp, tUn, tVar, tC, tCB, tCons, tNil, tAnd, tOr, tNot, tB, tTup, tLst, tIf, tAndV, tOrV, tNotV, tSl, tPart, tNoPart, tCall, iIx_ref, oGt_int, oMod_int, oFdiv_int, oAdd_int, oAdd_str, oSub_int, oMul_int, oLt_int, oGe_int, oLe_int, oPow_int, uNeg_int, oEq_int, oEq_str, oEq_bl, oNe_int, oNe_str, oNe_bl, cInt_int, cInt_bl, cAbs_int, cLen_ref, cList_ref, stL_ref, gName, gSub, gTup, gCons, gNil, rdSeq, List.getElem?_cons_zero, List.getElem?_cons_succ, List.set_cons_zero, List.set_cons_succ, List.cons_append, List.nil_append, Option.some.injEq, exists_eq_left', V.bl.injEq, V.int.injEq, V.ref.injEq, atI_0, atI_1, atI_2, setI_1, setI_2, Bool.not_true, Bool.not_false, Bool.false_eq_true, if_false, if_true, cIsi, tyF, kit_si, tyOk, true_and, Bool.false_eq_true, if_false]; exact h)); (try dsimp only [gName, tNext, List.set_cons_zero, List.set_cons_succ]))
    exact h
  · rename_i a
    obtain ⟨t, h1, h2, h3, h4⟩ := h
    show (t_is_integer_0 K A) _ [some (.ref a)] H
    refine st_ret ?_
    (refine evE ?P26 (fun Q h => ?h26) ?_; (case h26 => (simp only [tTest, tOp, tUn, tVar, tC, tCB, tCons, tNil, tAnd, tOr, tNot, tB, tTup, tLst, tIf, tAndV, tOrV, tNotV, tSl, tPart, tNoPart, tCall, iIx_ref, oGt_int, oMod_int, oFdiv_int, oAdd_int, oAdd_str, oSub_int, oMul_int, oLt_int, oGe_int, oLe_int, oPow_int, uNeg_int, oEq_int, oEq_str, oEq_bl, oNe_int, oNe_str, oNe_bl, cInt_int, cInt_bl, cAbs_int, cLen_ref, cList_ref, stL_ref, gName, gSub, gTup, gCons, gNil, rdSeq, List.getElem?_cons_zero, List.getElem?_cons_succ, List.set_cons_zero, List.set_cons_succ, List.cons_append, List.nil_append, Option.some.injEq, exists_eq_left', V.bl.injEq, V.int.injEq, V.ref.injEq, atI_0, atI_1, atI_2, setI_1, setI_2, Bool.not_true, Bool.not_false, Bool.false_eq_true, if_false, if_true, cIsi, h1, h3]; exact h)); (try dsimp only [gName, tNext, List.set_cons_zero, List.set_cons_succ]))
    exact ⟨h2, h4⟩
  · exact h.elim
def sp_is_value (K : PySem.W.Frag) (A : Ad) : Sp := fun vs H Q _ => match vs with
  | [.int _] => Q (.bl true) H
  | [.non] => Q (.bl true) H
  | [.bl _] => Q (.bl false) H
  | [.str _] => Q (.bl false) H
  | _ => False
theorem isv_oV {K : PySem.W.Frag} {A : Ad} {o : Option Int} {H : Hp} {Q : VK} {E : XK} : sp_is_value K A [oV o] H Q E = Q (.bl true) H := by cases o <;> rfl
def t_is_value_0 (K : PySem.W.Frag) (A : Ad) : TS := (tRet (tOrV (tOp oIs (tVar 0) (tC .non)) (tCall (sp_is_integer K A) [] E0 (tCons (tVar 0) tNil))))

theorem pure_is_value {K : PySem.W.Frag} {A : Ad} {vs : List V} {H : Hp} {Q : VK} {E : XK} (h : sp_is_value K A vs H Q E) : (t_is_value_0 K A) { nx := fun _ H' => Q .non H', rt := Q } (start ["value"] vs) H := by
  unfold sp_is_value at h
  split at h
  · show (t_is_value_0 K A) _ [some (.int _)] H
    refine st_ret ?_
    (refine evE ?P27 (fun Q h => ?h27) ?_; (case h27 => (simp only [tTest, tOp, tUn, tVar, tC, tCB, tCons, tNil, tAnd, tOr, tNot, tB, tTup, tLst, tIf, tAndV, tOrV, tNotV, tSl, tPart, tNoPart, tCall, iIx_ref, oGt_int, oMod_int, oFdiv_int, oAdd_int, oAdd_str, oSub_int, oMul_int, oLt_int, oGe_int, oLe_int, oPow_int, uNeg_int, oEq_int, oEq_str, oEq_bl, oNe_int, oNe_str, oNe_bl, cInt_int, cInt_bl, cAbs_int, cLen_ref, cList_ref, stL_ref, gName, gSub, gTup, gCons, gNil, rdSeq, List.getElem?_cons_zero, List.getElem?_cons_succ, List.set_cons_zero, List.set_cons_succ, List.cons_append, List.nil_append, Option.some.injEq, exists_eq_left', V.bl.injEq, V.int.injEq, V.ref.injEq, atI_0, atI_1, atI_2, setI_1, setI_2, Bool.not_true, Bool.not_false, Bool.false_eq_true, if_false, if_true, oIs, is_int]; exact h)); (try dsimp only [gName, tNext, List.set_cons_zero, List.set_cons_succ]))
    exact h
  · show (t_is_value_0 K A) _ [some (.non)] H
    refine st_ret ?_
    (refine evE ?P28 (fun Q h => ?h28) ?_; (case h28 => (simp only [tTest, tOp, tUn, tVar, tC, tCB, tCons, tNil, tAnd, tOr, tNot, tB, tTup, tLst, tIf, tAndV, tOrV, tNotV, tSl, tPart, tNoPart, tCall, iIx_ref, oGt_int, oMod_int, oFdiv_int, oAdd_int, oAdd_str, oSub_int, oMul_int, oLt_int, oGe_int, oLe_int, oPow_int, uNeg_int, oEq_int, oEq_str, oEq_bl, oNe_int, oNe_str, oNe_bl, cInt_int, cInt_bl, cAbs_int, cLen_ref, cList_ref, stL_ref, gName, gSub, gTup, gCons, gNil, rdSeq, List.getElem?_cons_zero, List.getElem?_cons_succ, List.set_cons_zero, List.set_cons_succ, List.cons_append, List.nil_append, Option.some.injEq, exists_eq_left', V.bl.injEq, V.int.injEq, V.ref.injEq, atI_0, atI_1, atI_2, setI_1, setI_2, Bool.not_true, Bool.not_false, Bool.false_eq_true, if_false, if_true, oIs]; exact h)); (try dsimp only [gName, tNext, List.set_cons_zero, List.set_cons_succ]))
    exact h
  · show (t_is_value_0 K A) _ [some (.bl _)] H
    refine st_ret ?_
    (refine evE ?P29 (fun Q h => ?h29) ?_; (case h29 => (simp only [tTest, tOp, tUn, tVar, tC, tCB, tCons, tNil, tAnd, tOr, tNot, tB, tTup, tLst, tIf, tAndV, tOrV, tNotV, tSl, tPart, tNoPart, tCall, iIx_ref, oGt_int, oMod_int, oFdiv_int, oAdd_int, oAdd_str, oSub_int, oMul_int, oLt_int, oGe_int, oLe_int, oPow_int, uNeg_int, oEq_int, oEq_str, oEq_bl, oNe_int, oNe_str, oNe_bl, cInt_int, cInt_bl, cAbs_int, cLen_ref, cList_ref, stL_ref, gName, gSub, gTup, gCons, gNil, rdSeq, List.getElem?_cons_zero, List.getElem?_cons_succ, List.set_cons_zero, List.set_cons_succ, List.cons_append, List.nil_append, Option.some.injEq, exists_eq_left', V.bl.injEq, V.int.injEq, V.ref.injEq, atI_0, atI_1, atI_2, setI_1, setI_2, Bool.not_true, Bool.not_false, Bool.false_eq_true, if_false, if_true, oIs, sp_is_integer]; exact h)); (try dsimp only [gName, tNext, List.set_cons_zero, List.set_cons_succ]))
    exact h
  · show (t_is_value_0 K A) _ [some (.str _)] H
    refine st_ret ?_
    (refine evE ?P30 (fun Q h => ?h30) ?_; (case h30 => (simp only [tTest, tOp, tUn, tVar, tC, tCB, tCons, tNil, tAnd, tOr, tNot, tB, tTup, tLst, tIf, tAndV, tOrV, tNotV, tSl, tPart, tNoPart, tCall, iIx_ref, oGt_int, oMod_int, oFdiv_int, oAdd_int, oAdd_str, oSub_int, oMul_int, oLt_int, oGe_int, oLe_int, oPow_int, uNeg_int, oEq_int, oEq_str, oEq_bl, oNe_int, oNe_str, oNe_bl, cInt_int, cInt_bl, cAbs_int, cLen_ref, cList_ref, stL_ref, gName, gSub, gTup, gCons, gNil, rdSeq, List.getElem?_cons_zero, List.getElem?_cons_succ, List.set_cons_zero, List.set_cons_succ, List.cons_append, List.nil_append, Option.some.injEq, exists_eq_left', V.bl.injEq, V.int.injEq, V.ref.injEq, atI_0, atI_1, atI_2, setI_1, setI_2, Bool.not_true, Bool.not_false, Bool.false_eq_true, if_false, if_true, oIs, sp_is_integer]; exact h)); (try dsimp only [gName, tNext, List.set_cons_zero, List.set_cons_succ]))
    exact h
  · exact h.elim
def sp_is_list (K : PySem.W.Frag) (A : Ad) : Sp := fun vs H Q _ => match vs with
  | [.ref p, .int least] => ∃ xs, Sq K H p xs ∧ ∀ H', Grow H H' → Q (.bl (decide (least ≤ (xs.length : Int)))) H'
  | _ => False
def t_is_list_0 (K : PySem.W.Frag) (A : Ad) : TS := (tRet (tAndV (tCB (rIsiT K) (tCons (tVar 0) (tCons (tTup (tCons (tC (.ty "list")) (tCons (tC (.ty "tuple")) tNil))) tNil))) (tOp oGe (tCB (cLenE K) (tCons (tVar 0) tNil)) (tVar 1))))

theorem pure_is_list {K : PySem.W.Frag} {A : Ad} {vs : List V} {H : Hp} {Q : VK} {E : XK} (h : sp_is_list K A vs H Q E) : (t_is_list_0 K A) { nx := fun _ H' => Q .non H', rt := Q } (start ["value", "least"] vs) H := by
  unfold sp_is_list at h
  split at h
  · rename_i p least
    obtain ⟨xs, hs, k⟩ := h
    show (t_is_list_0 K A) _ [some (.ref p), some (.int least)] H
    refine st_ret ?_
    (refine evE ?P31 (fun Q h => ?h31) ?_; (case h31 => (simp only [tTest, tOp, tUn, tVar, tC, tCB, tCons, tNil, tAnd, tOr, tNot, tB, tTup, tLst, tIf, tAndV, tOrV, tNotV, tSl, tPart, tNoPart, tCall, iIx_ref, oGt_int, oMod_int, oFdiv_int, oAdd_int, oAdd_str, oSub_int, oMul_int, oLt_int, oGe_int, oLe_int, oPow_int, uNeg_int, oEq_int, oEq_str, oEq_bl, oNe_int, oNe_str, oNe_bl, cInt_int, cInt_bl, cAbs_int, cLen_ref, cList_ref, stL_ref, gName, gSub, gTup, gCons, gNil, rdSeq, List.getElem?_cons_zero, List.getElem?_cons_succ, List.set_cons_zero, List.set_cons_succ, List.cons_append, List.nil_append, Option.some.injEq, exists_eq_left', V.bl.injEq, V.int.injEq, V.ref.injEq, atI_0, atI_1, atI_2, setI_1, setI_2, Bool.not_true, Bool.not_false, Bool.false_eq_true, if_false, if_true]; exact h)); (try dsimp only [gName, tNext, List.set_cons_zero, List.set_cons_succ]))
    refine ⟨by show 2 ≤ sizeLine; decide, fun tp htp => isiE (hs.grow (Grow.new htp)) upd_same ⟨_, rfl, ?_⟩⟩
    refine if_yes (lenE (hs.grow (Grow.new htp)) ?_)
    simp only [tTest, tOp, tUn, tVar, tC, tCB, tCons, tNil, tAnd, tOr, tNot, tB, tTup, tLst, tIf, tAndV, tOrV, tNotV, tSl, tPart, tNoPart, tCall, iIx_ref, oGt_int, oMod_int, oFdiv_int, oAdd_int, oAdd_str, oSub_int, oMul_int, oLt_int, oGe_int, oLe_int, oPow_int, uNeg_int, oEq_int, oEq_str, oEq_bl, oNe_int, oNe_str, oNe_bl, cInt_int, cInt_bl, cAbs_int, cLen_ref, cList_ref, stL_ref, gName, gSub, gTup, gCons, gNil, rdSeq, List.getElem?_cons_zero, List.getElem?_cons_succ, List.set_cons_zero, List.set_cons_succ, List.cons_append, List.nil_append, Option.some.injEq, exists_eq_left', V.bl.injEq, V.int.injEq, V.ref.injEq, atI_0, atI_1, atI_2, setI_1, setI_2, Bool.not_true, Bool.not_false, Bool.false_eq_true, if_false, if_true]
    exact k _ (Grow.new htp)
  · exact h.elim
def sp_added (K : PySem.W.Frag) (A : Ad) : Sp := fun vs H Q _ => match vs with
  | [.int i, .int j] => Q (.int (i + j)) H
  | [.non, .int _] => Q .non H
  | _ => False
theorem added_oV {K : PySem.W.Frag} {A : Ad} {o : Option Int} {k : Int} {H : Hp} {Q : VK} {E : XK} : sp_added K A [oV o, .int k] H Q E = Q (oV (o.map (· + k))) H := by cases o <;> rfl
def t_added_0 (K : PySem.W.Frag) (A : Ad) : TS := (tRet (tIf (tTest (tOp oIs (tVar 0) (tC .non))) (tC .non) (tOp oAdd (tVar 0) (tVar 1))))

theorem pure_added {K : PySem.W.Frag} {A : Ad} {vs : List V} {H : Hp} {Q : VK} {E : XK} (h : sp_added K A vs H Q E) : (t_added_0 K A) { nx := fun _ H' => Q .non H', rt := Q } (start ["value", "number"] vs) H := by
  unfold sp_added at h
  split at h
  · show (t_added_0 K A) _ [some (.int _), some (.int _)] H
    refine st_ret ?_
    (refine evE ?P32 (fun Q h => ?h32) ?_; (case h32 => (simp only [tTest, tOp, tUn, tVar, tC, tCB, tCons, tNil, tAnd, tOr, tNot, tB, tTup, tLst, tIf, tAndV, tOrV, tNotV, tSl, tPart, tNoPart, tCall, iIx_ref, oGt_int, oMod_int, oFdiv_int, oAdd_int, oAdd_str, oSub_int, oMul_int, oLt_int, oGe_int, oLe_int, oPow_int, uNeg_int, oEq_int, oEq_str, oEq_bl, oNe_int, oNe_str, oNe_bl, cInt_int, cInt_bl, cAbs_int, cLen_ref, cList_ref, stL_ref, gName, gSub, gTup, gCons, gNil, rdSeq, List.getElem?_cons_zero, List.getElem?_cons_succ, List.set_cons_zero, List.set_cons_succ, List.cons_append, List.nil_append, Option.some.injEq, exists_eq_left', V.bl.injEq, V.int.injEq, V.ref.injEq, atI_0, atI_1, atI_2, setI_1, setI_2, Bool.not_true, Bool.not_false, Bool.false_eq_true, if_false, if_true, oIs]; exact h)); (try dsimp only [gName, tNext, List.set_cons_zero, List.set_cons_succ]))
    exact h
  · show (t_added_0 K A) _ [some (.non), some (.int _)] H
    refine st_ret ?_
    (refine evE ?P33 (fun Q h => ?h33) ?_; (case h33 => (simp only [tTest, tOp, tUn, tVar, tC, tCB, tCons, tNil, tAnd, tOr, tNot, tB, tTup, tLst, tIf, tAndV, tOrV, tNotV, tSl, tPart, tNoPart, tCall, iIx_ref, oGt_int, oMod_int, oFdiv_int, oAdd_int, oAdd_str, oSub_int, oMul_int, oLt_int, oGe_int, oLe_int, oPow_int, uNeg_int, oEq_int, oEq_str, oEq_bl, oNe_int, oNe_str, oNe_bl, cInt_int, cInt_bl, cAbs_int, cLen_ref, cList_ref, stL_ref, gName, gSub, gTup, gCons, gNil, rdSeq, List.getElem?_cons_zero, List.getElem?_cons_succ, List.set_cons_zero, List.set_cons_succ, List.cons_append, List.nil_append, Option.some.injEq, exists_eq_left', V.bl.injEq, V.int.injEq, V.ref.injEq, atI_0, atI_1, atI_2, setI_1, setI_2, Bool.not_true, Bool.not_false, Bool.false_eq_true, if_false, if_true, oIs]; exact h)); (try dsimp only [gName, tNext, List.set_cons_zero, List.set_cons_succ]))
    exact h
  · exact h.elim
def BnA (gains : List Int) : Prop := ∀ x ∈ gains, Bn 100000 x
def sp_value_at (K : PySem.W.Frag) (A : Ad) : Sp := fun vs H Q _ => match vs with
  | [.ref t, .ref g, .int n] => ∃ (told : List (Option Int)) (gains : List Int), Sq K H t (told.map oV) ∧ Sq K H g (gains.map V.int) ∧ 0 ≤ n ∧ 0 < gains.length ∧ gains.length ≤ told.length ∧ gains.length ≤ 1000000 ∧ BnA gains ∧ Bn 100000 n ∧ Q (oV (gv told gains n.toNat)) H
  | _ => False
def t_value_at_1 (K : PySem.W.Frag) (A : Ad) : TS := (tRet (tOp (rIx K) (tVar 0) (tVar 2)))
def t_value_at_3 (K : PySem.W.Frag) (A : Ad) : TS := (tRet (tCall (sp_added K A) [] E0 (tCons (tOp (rIx K) (tVar 0) (tOp oSub (tVar 2) (tOp oMul (tVar 3) (tCB (cLenE K) (tCons (tVar 1) tNil))))) (tCons (tOp oMul (tVar 3) (tOp (rIx K) (tVar 1) (tOp oMod (tVar 2) (tCB (cLenE K) (tCons (tVar 1) tNil))))) tNil))))
def t_value_at_2 (K : PySem.W.Frag) (A : Ad) : TS := (tSeq (tAsg (tOp oAdd (tOp oFdiv (tOp oSub (tVar 2) (tCB (cLenE K) (tCons (tVar 0) tNil))) (tCB (cLenE K) (tCons (tVar 1) tNil))) (tC (.int 1))) (gName 3)) (t_value_at_3 K A))
def t_value_at_0 (K : PySem.W.Frag) (A : Ad) : TS := (tSeq (tIfS (tTest (tOp oLt (tVar 2) (tCB (cLenE K) (tCons (tVar 0) tNil)))) (t_value_at_1 K A) tNext) (t_value_at_2 K A))

theorem getD_mem {α : Type} {l : List α} {i : Nat} {d : α} (h : i < l.length) : l.getD i d ∈ l := by
  rw [List.getD_eq_getElem?_getD, List.getElem?_eq_getElem h]
  exact List.getElem_mem h
theorem atI_map {α : Type} {l : List α} {f : α → V} {i : Nat} {d : α} (h : i < l.length) : atI (l.map f) (i : Int) = some (f (l.getD i d)) := by
  refine atI_nat' (by omega) ?_
  rw [Int.toNat_natCast, List.getElem?_map, List.getD_eq_getElem?_getD, List.getElem?_eq_getElem h]
  rfl
theorem log_len {n : Nat} (h0 : 0 < n) (h : n ≤ 1000000) : ((n : Int)).natAbs.log2 < 9000 := log_small (by omega) (by omega)
theorem pure_value_at {K : PySem.W.Frag} {A : Ad} {vs : List V} {H : Hp} {Q : VK} {E : XK} (h : sp_value_at K A vs H Q E) : (t_value_at_0 K A) { nx := fun _ H' => Q .non H', rt := Q } (start ["told", "gains", "n", "turns"] vs) H := by
  unfold sp_value_at at h
  split at h
  · rename_i t g n
    obtain ⟨told, gains, ht, hg, hn, hp, hpl, hps, bg, bn, k⟩ := h
    obtain ⟨N, rfl⟩ : ∃ N : Nat, n = N := ⟨n.toNat, by omega⟩
    rw [Int.toNat_natCast] at k
    show (t_value_at_0 K A) _ [some (.ref t), some (.ref g), some (.int N), none] H
    refine st_seq (st_if ?_)
    (refine evT ?P34 (fun Q h => ?h34) ?_; (case h34 => (simp only [tTest, tOp, tUn, tVar, tC, tCB, tCons, tNil, tAnd, tOr, tNot, tB, tTup, tLst, tIf, tAndV, tOrV, tNotV, tSl, tPart, tNoPart, tCall, iIx_ref, oGt_int, oMod_int, oFdiv_int, oAdd_int, oAdd_str, oSub_int, oMul_int, oLt_int, oGe_int, oLe_int, oPow_int, uNeg_int, oEq_int, oEq_str, oEq_bl, oNe_int, oNe_str, oNe_bl, cInt_int, cInt_bl, cAbs_int, cLen_ref, cList_ref, stL_ref, gName, gSub, gTup, gCons, gNil, rdSeq, List.getElem?_cons_zero, List.getElem?_cons_succ, List.set_cons_zero, List.set_cons_succ, List.cons_append, List.nil_append, Option.some.injEq, exists_eq_left', V.bl.injEq, V.int.injEq, V.ref.injEq, atI_0, atI_1, atI_2, setI_1, setI_2, Bool.not_true, Bool.not_false, Bool.false_eq_true, if_false, if_true]; exact h)); (try dsimp only [gName, tNext, List.set_cons_zero, List.set_cons_succ]))
    refine lenE ht ?_
    simp only [tTest, tOp, tUn, tVar, tC, tCB, tCons, tNil, tAnd, tOr, tNot, tB, tTup, tLst, tIf, tAndV, tOrV, tNotV, tSl, tPart, tNoPart, tCall, iIx_ref, oGt_int, oMod_int, oFdiv_int, oAdd_int, oAdd_str, oSub_int, oMul_int, oLt_int, oGe_int, oLe_int, oPow_int, uNeg_int, oEq_int, oEq_str, oEq_bl, oNe_int, oNe_str, oNe_bl, cInt_int, cInt_bl, cAbs_int, cLen_ref, cList_ref, stL_ref, gName, gSub, gTup, gCons, gNil, rdSeq, List.getElem?_cons_zero, List.getElem?_cons_succ, List.set_cons_zero, List.set_cons_succ, List.cons_append, List.nil_append, Option.some.injEq, exists_eq_left', V.bl.injEq, V.int.injEq, V.ref.injEq, atI_0, atI_1, atI_2, setI_1, setI_2, Bool.not_true, Bool.not_false, Bool.false_eq_true, if_false, if_true, List.length_map]
    refine ite_dec (fun hc => ?_) (fun hc => ?_)
    all_goals (try dsimp only [gName, tNext, List.set_cons_zero, List.set_cons_succ])
    · refine st_ret ?_
      (refine evE ?P35 (fun Q h => ?h35) ?_; (case h35 => (simp only [tTest, tOp, tUn, tVar, tC, tCB, tCons, tNil, tAnd, tOr, tNot, tB, tTup, tLst, tIf, tAndV, tOrV, tNotV, tSl, tPart, tNoPart, tCall, iIx_ref, oGt_int, oMod_int, oFdiv_int, oAdd_int, oAdd_str, oSub_int, oMul_int, oLt_int, oGe_int, oLe_int, oPow_int, uNeg_int, oEq_int, oEq_str, oEq_bl, oNe_int, oNe_str, oNe_bl, cInt_int, cInt_bl, cAbs_int, cLen_ref, cList_ref, stL_ref, gName, gSub, gTup, gCons, gNil, rdSeq, List.getElem?_cons_zero, List.getElem?_cons_succ, List.set_cons_zero, List.set_cons_succ, List.cons_append, List.nil_append, Option.some.injEq, exists_eq_left', V.bl.injEq, V.int.injEq, V.ref.injEq, atI_0, atI_1, atI_2, setI_1, setI_2, Bool.not_true, Bool.not_false, Bool.false_eq_true, if_false, if_true]; exact h)); (try dsimp only [gName, tNext, List.set_cons_zero, List.set_cons_succ]))
      refine ixE ht (atI_map (d := none) (by omega)) ?_
      rw [gv_lt (by omega)] at k
      exact k
    · refine st_seq (st_asg ?_)
      (refine evE ?P36 (fun Q h => ?h36) ?_; (case h36 => (simp only [tTest, tOp, tUn, tVar, tC, tCB, tCons, tNil, tAnd, tOr, tNot, tB, tTup, tLst, tIf, tAndV, tOrV, tNotV, tSl, tPart, tNoPart, tCall, iIx_ref, oGt_int, oMod_int, oFdiv_int, oAdd_int, oAdd_str, oSub_int, oMul_int, oLt_int, oGe_int, oLe_int, oPow_int, uNeg_int, oEq_int, oEq_str, oEq_bl, oNe_int, oNe_str, oNe_bl, cInt_int, cInt_bl, cAbs_int, cLen_ref, cList_ref, stL_ref, gName, gSub, gTup, gCons, gNil, rdSeq, List.getElem?_cons_zero, List.getElem?_cons_succ, List.set_cons_zero, List.set_cons_succ, List.cons_append, List.nil_append, Option.some.injEq, exists_eq_left', V.bl.injEq, V.int.injEq, V.ref.injEq, atI_0, atI_1, atI_2, setI_1, setI_2, Bool.not_true, Bool.not_false, Bool.false_eq_true, if_false, if_true]; exact h)); (try dsimp only [gName, tNext, List.set_cons_zero, List.set_cons_succ]))
      refine lenE ht ?_
      simp only [tTest, tOp, tUn, tVar, tC, tCB, tCons, tNil, tAnd, tOr, tNot, tB, tTup, tLst, tIf, tAndV, tOrV, tNotV, tSl, tPart, tNoPart, tCall, iIx_ref, oGt_int, oMod_int, oFdiv_int, oAdd_int, oAdd_str, oSub_int, oMul_int, oLt_int, oGe_int, oLe_int, oPow_int, uNeg_int, oEq_int, oEq_str, oEq_bl, oNe_int, oNe_str, oNe_bl, cInt_int, cInt_bl, cAbs_int, cLen_ref, cList_ref, stL_ref, gName, gSub, gTup, gCons, gNil, rdSeq, List.getElem?_cons_zero, List.getElem?_cons_succ, List.set_cons_zero, List.set_cons_succ, List.cons_append, List.nil_append, Option.some.injEq, exists_eq_left', V.bl.injEq, V.int.injEq, V.ref.injEq, atI_0, atI_1, atI_2, setI_1, setI_2, Bool.not_true, Bool.not_false, Bool.false_eq_true, if_false, if_true]
      refine lenE hg ?_
      simp only [tTest, tOp, tUn, tVar, tC, tCB, tCons, tNil, tAnd, tOr, tNot, tB, tTup, tLst, tIf, tAndV, tOrV, tNotV, tSl, tPart, tNoPart, tCall, iIx_ref, oGt_int, oMod_int, oFdiv_int, oAdd_int, oAdd_str, oSub_int, oMul_int, oLt_int, oGe_int, oLe_int, oPow_int, uNeg_int, oEq_int, oEq_str, oEq_bl, oNe_int, oNe_str, oNe_bl, cInt_int, cInt_bl, cAbs_int, cLen_ref, cList_ref, stL_ref, gName, gSub, gTup, gCons, gNil, rdSeq, List.getElem?_cons_zero, List.getElem?_cons_succ, List.set_cons_zero, List.set_cons_succ, List.cons_append, List.nil_append, Option.some.injEq, exists_eq_left', V.bl.injEq, V.int.injEq, V.ref.injEq, atI_0, atI_1, atI_2, setI_1, setI_2, Bool.not_true, Bool.not_false, Bool.false_eq_true, if_false, if_true, List.length_map]
      refine ⟨⟨by omega, log_len hp hps⟩, ?_⟩
      (try dsimp only [gName, tNext, List.set_cons_zero, List.set_cons_succ])
      have e1 : ((N : Int) - (told.length : Int)) / (gains.length : Int) + 1 = (((N - told.length) / gains.length + 1 : Nat) : Int) := by
        have : (N : Int) - (told.length : Int) = ((N - told.length : Nat) : Int) := by omega
        rw [this, ← Int.natCast_ediv]
        rfl
      rw [e1]
      have gvn : gv told gains N = (told.getD (N - ((N - told.length) / gains.length + 1) * gains.length) none).map (· + (((N - told.length) / gains.length + 1 : Nat) : Int) * gains.getD (N % gains.length) 0) := by
        unfold gv
        rw [if_neg (by omega)]
      have tb : ((N - told.length) / gains.length + 1) * gains.length ≤ N := by
        rw [Nat.add_mul, Nat.one_mul]
        have := Nat.div_mul_le_self (N - told.length) gains.length
        omega
      have tl : N - ((N - told.length) / gains.length + 1) * gains.length < told.length := by
        rw [Nat.add_mul, Nat.one_mul]
        have h1 := Nat.div_add_mod (N - told.length) gains.length
        have h2 := Nat.mod_lt (N - told.length) hp
        rw [Nat.mul_comm] at h1
        omega
      have bt : Bn 100000 (((N - told.length) / gains.length + 1 : Nat) : Int) := bn.le (by
        rw [Int.natAbs_natCast, Int.natAbs_natCast]
        exact Nat.le_trans (Nat.le_mul_of_pos_right _ hp) tb)
      generalize (N - told.length) / gains.length + 1 = T at *
      refine st_ret ?_
      (refine evE ?P37 (fun Q h => ?h37) ?_; (case h37 => (simp only [tTest, tOp, tUn, tVar, tC, tCB, tCons, tNil, tAnd, tOr, tNot, tB, tTup, tLst, tIf, tAndV, tOrV, tNotV, tSl, tPart, tNoPart, tCall, iIx_ref, oGt_int, oMod_int, oFdiv_int, oAdd_int, oAdd_str, oSub_int, oMul_int, oLt_int, oGe_int, oLe_int, oPow_int, uNeg_int, oEq_int, oEq_str, oEq_bl, oNe_int, oNe_str, oNe_bl, cInt_int, cInt_bl, cAbs_int, cLen_ref, cList_ref, stL_ref, gName, gSub, gTup, gCons, gNil, rdSeq, List.getElem?_cons_zero, List.getElem?_cons_succ, List.set_cons_zero, List.set_cons_succ, List.cons_append, List.nil_append, Option.some.injEq, exists_eq_left', V.bl.injEq, V.int.injEq, V.ref.injEq, atI_0, atI_1, atI_2, setI_1, setI_2, Bool.not_true, Bool.not_false, Bool.false_eq_true, if_false, if_true]; exact h)); (try dsimp only [gName, tNext, List.set_cons_zero, List.set_cons_succ]))
      refine lenE hg ?_
      simp only [tTest, tOp, tUn, tVar, tC, tCB, tCons, tNil, tAnd, tOr, tNot, tB, tTup, tLst, tIf, tAndV, tOrV, tNotV, tSl, tPart, tNoPart, tCall, iIx_ref, oGt_int, oMod_int, oFdiv_int, oAdd_int, oAdd_str, oSub_int, oMul_int, oLt_int, oGe_int, oLe_int, oPow_int, uNeg_int, oEq_int, oEq_str, oEq_bl, oNe_int, oNe_str, oNe_bl, cInt_int, cInt_bl, cAbs_int, cLen_ref, cList_ref, stL_ref, gName, gSub, gTup, gCons, gNil, rdSeq, List.getElem?_cons_zero, List.getElem?_cons_succ, List.set_cons_zero, List.set_cons_succ, List.cons_append, List.nil_append, Option.some.injEq, exists_eq_left', V.bl.injEq, V.int.injEq, V.ref.injEq, atI_0, atI_1, atI_2, setI_1, setI_2, Bool.not_true, Bool.not_false, Bool.false_eq_true, if_false, if_true, List.length_map]
      refine ⟨.of_right (intBits_le_64 (by omega) (by omega)), ?_⟩
      have e2 : (N : Int) - (T : Int) * (gains.length : Int) = ((N - T * gains.length : Nat) : Int) := by
        rw [← Int.natCast_mul]
        omega
      rw [e2]
      refine ixE ht (atI_map (d := none) tl) ?_
      refine lenE hg ?_
      simp only [tTest, tOp, tUn, tVar, tC, tCB, tCons, tNil, tAnd, tOr, tNot, tB, tTup, tLst, tIf, tAndV, tOrV, tNotV, tSl, tPart, tNoPart, tCall, iIx_ref, oGt_int, oMod_int, oFdiv_int, oAdd_int, oAdd_str, oSub_int, oMul_int, oLt_int, oGe_int, oLe_int, oPow_int, uNeg_int, oEq_int, oEq_str, oEq_bl, oNe_int, oNe_str, oNe_bl, cInt_int, cInt_bl, cAbs_int, cLen_ref, cList_ref, stL_ref, gName, gSub, gTup, gCons, gNil, rdSeq, List.getElem?_cons_zero, List.getElem?_cons_succ, List.set_cons_zero, List.set_cons_succ, List.cons_append, List.nil_append, Option.some.injEq, exists_eq_left', V.bl.injEq, V.int.injEq, V.ref.injEq, atI_0, atI_1, atI_2, setI_1, setI_2, Bool.not_true, Bool.not_false, Bool.false_eq_true, if_false, if_true, List.length_map]
      refine ⟨by omega, ?_⟩
      have e3 : (N : Int) % (gains.length : Int) = ((N % gains.length : Nat) : Int) := (Int.natCast_emod ..).symm
      rw [e3]
      have hm : N % gains.length < gains.length := Nat.mod_lt _ hp
      refine ixE hg (atI_map (d := 0) hm) ?_
      simp only [tTest, tOp, tUn, tVar, tC, tCB, tCons, tNil, tAnd, tOr, tNot, tB, tTup, tLst, tIf, tAndV, tOrV, tNotV, tSl, tPart, tNoPart, tCall, iIx_ref, oGt_int, oMod_int, oFdiv_int, oAdd_int, oAdd_str, oSub_int, oMul_int, oLt_int, oGe_int, oLe_int, oPow_int, uNeg_int, oEq_int, oEq_str, oEq_bl, oNe_int, oNe_str, oNe_bl, cInt_int, cInt_bl, cAbs_int, cLen_ref, cList_ref, stL_ref, gName, gSub, gTup, gCons, gNil, rdSeq, List.getElem?_cons_zero, List.getElem?_cons_succ, List.set_cons_zero, List.set_cons_succ, List.cons_append, List.nil_append, Option.some.injEq, exists_eq_left', V.bl.injEq, V.int.injEq, V.ref.injEq, atI_0, atI_1, atI_2, setI_1, setI_2, Bool.not_true, Bool.not_false, Bool.false_eq_true, if_false, if_true, added_oV]
      refine ⟨bt.mulok (bg _ (getD_mem hm)) (by decide), ?_⟩
      rw [gvn] at k
      exact k
  · exact h.elim

def sp_step_between (K : PySem.W.Frag) (A : Ad) : Sp := fun vs H Q _ => match vs with
  | [x, y] => ∃ a b, x = oV a ∧ y = oV b ∧ Q (oV (stepB a b)) H
  | _ => False
def t_step_between_1 (K : PySem.W.Frag) (A : Ad) : TS := (tRet (tIf (tTest (tOp (oEq K) (tVar 0) (tVar 1))) (tC (.int 0)) (tC .non)))
def t_step_between_2 (K : PySem.W.Frag) (A : Ad) : TS := (tRet (tOp oSub (tVar 1) (tVar 0)))
def t_step_between_0 (K : PySem.W.Frag) (A : Ad) : TS := (tSeq (tIfS (tOr (tTest (tOp oIs (tVar 0) (tC .non))) (tTest (tOp oIs (tVar 1) (tC .non)))) (t_step_between_1 K A) tNext) (t_step_between_2 K A))

theorem pure_step_between {K : PySem.W.Frag} {A : Ad} {vs : List V} {H : Hp} {Q : VK} {E : XK} (h : sp_step_between K A vs H Q E) : (t_step_between_0 K A) { nx := fun _ H' => Q .non H', rt := Q } (start ["low", "high"] vs) H := by
  unfold sp_step_between at h
  split at h
  · rename_i x y
    obtain ⟨a, b, rfl, rfl, k⟩ := h
    show (t_step_between_0 K A) _ [some (oV a), some (oV b)] H
    refine st_seq (st_if ?_)
    (refine evT ?P38 (fun Q h => ?h38) ?_; (case h38 => (simp only [tTest, tOp, tUn, tVar, tC, tCB, tCons, tNil, tAnd, tOr, tNot, tB, tTup, tLst, tIf, tAndV, tOrV, tNotV, tSl, tPart, tNoPart, tCall, iIx_ref, oGt_int, oMod_int, oFdiv_int, oAdd_int, oAdd_str, oSub_int, oMul_int, oLt_int, oGe_int, oLe_int, oPow_int, uNeg_int, oEq_int, oEq_str, oEq_bl, oNe_int, oNe_str, oNe_bl, cInt_int, cInt_bl, cAbs_int, cLen_ref, cList_ref, stL_ref, gName, gSub, gTup, gCons, gNil, rdSeq, List.getElem?_cons_zero, List.getElem?_cons_succ, List.set_cons_zero, List.set_cons_succ, List.cons_append, List.nil_append, Option.some.injEq, exists_eq_left', V.bl.injEq, V.int.injEq, V.ref.injEq, atI_0, atI_1, atI_2, setI_1, setI_2, Bool.not_true, Bool.not_false, Bool.false_eq_true, if_false, if_true, oIs_oV]; exact h)); (try dsimp only [gName, tNext, List.set_cons_zero, List.set_cons_succ]))
    cases a with
    | none =>
      refine if_yes ?_
      (refine if_yes ?_; (try dsimp only [gName, tNext, List.set_cons_zero, List.set_cons_succ]))
      refine st_ret ?_
      unfold tIf
      (refine evT ?P39 (fun Q h => ?h39) ?_; (case h39 => (simp only [tTest, tOp, tUn, tVar, tC, tCB, tCons, tNil, tAnd, tOr, tNot, tB, tTup, tLst, tIf, tAndV, tOrV, tNotV, tSl, tPart, tNoPart, tCall, iIx_ref, oGt_int, oMod_int, oFdiv_int, oAdd_int, oAdd_str, oSub_int, oMul_int, oLt_int, oGe_int, oLe_int, oPow_int, uNeg_int, oEq_int, oEq_str, oEq_bl, oNe_int, oNe_str, oNe_bl, cInt_int, cInt_bl, cAbs_int, cLen_ref, cList_ref, stL_ref, gName, gSub, gTup, gCons, gNil, rdSeq, List.getElem?_cons_zero, List.getElem?_cons_succ, List.set_cons_zero, List.set_cons_succ, List.cons_append, List.nil_append, Option.some.injEq, exists_eq_left', V.bl.injEq, V.int.injEq, V.ref.injEq, atI_0, atI_1, atI_2, setI_1, setI_2, Bool.not_true, Bool.not_false, Bool.false_eq_true, if_false, if_true]; exact h)); (try dsimp only [gName, tNext, List.set_cons_zero, List.set_cons_succ]))
      refine eqE (a := none) (b := b) ⟨_, rfl, ?_⟩
      cases b with
      | none =>
        (refine if_yes ?_; (try dsimp only [gName, tNext, List.set_cons_zero, List.set_cons_succ]))
        exact k
      | some j =>
        (refine if_no ?_; (try dsimp only [gName, tNext, List.set_cons_zero, List.set_cons_succ]))
        exact k
    | some i =>
      cases b with
      | none =>
        refine if_no (if_yes ?_)
        (try dsimp only [gName, tNext, List.set_cons_zero, List.set_cons_succ])
        refine st_ret ?_
        unfold tIf
        (refine evT ?P40 (fun Q h => ?h40) ?_; (case h40 => (simp only [tTest, tOp, tUn, tVar, tC, tCB, tCons, tNil, tAnd, tOr, tNot, tB, tTup, tLst, tIf, tAndV, tOrV, tNotV, tSl, tPart, tNoPart, tCall, iIx_ref, oGt_int, oMod_int, oFdiv_int, oAdd_int, oAdd_str, oSub_int, oMul_int, oLt_int, oGe_int, oLe_int, oPow_int, uNeg_int, oEq_int, oEq_str, oEq_bl, oNe_int, oNe_str, oNe_bl, cInt_int, cInt_bl, cAbs_int, cLen_ref, cList_ref, stL_ref, gName, gSub, gTup, gCons, gNil, rdSeq, List.getElem?_cons_zero, List.getElem?_cons_succ, List.set_cons_zero, List.set_cons_succ, List.cons_append, List.nil_append, Option.some.injEq, exists_eq_left', V.bl.injEq, V.int.injEq, V.ref.injEq, atI_0, atI_1, atI_2, setI_1, setI_2, Bool.not_true, Bool.not_false, Bool.false_eq_true, if_false, if_true]; exact h)); (try dsimp only [gName, tNext, List.set_cons_zero, List.set_cons_succ]))
        refine eqE (a := some i) (b := none) ⟨_, rfl, ?_⟩
        (refine if_no ?_; (try dsimp only [gName, tNext, List.set_cons_zero, List.set_cons_succ]))
        exact k
      | some j =>
        refine if_no (if_no ?_)
        (try dsimp only [gName, tNext, List.set_cons_zero, List.set_cons_succ])
        refine st_ret ?_
        (refine evE ?P41 (fun Q h => ?h41) ?_; (case h41 => (simp only [tTest, tOp, tUn, tVar, tC, tCB, tCons, tNil, tAnd, tOr, tNot, tB, tTup, tLst, tIf, tAndV, tOrV, tNotV, tSl, tPart, tNoPart, tCall, iIx_ref, oGt_int, oMod_int, oFdiv_int, oAdd_int, oAdd_str, oSub_int, oMul_int, oLt_int, oGe_int, oLe_int, oPow_int, uNeg_int, oEq_int, oEq_str, oEq_bl, oNe_int, oNe_str, oNe_bl, cInt_int, cInt_bl, cAbs_int, cLen_ref, cList_ref, stL_ref, gName, gSub, gTup, gCons, gNil, rdSeq, List.getElem?_cons_zero, List.getElem?_cons_succ, List.set_cons_zero, List.set_cons_succ, List.cons_append, List.nil_append, Option.some.injEq, exists_eq_left', V.bl.injEq, V.int.injEq, V.ref.injEq, atI_0, atI_1, atI_2, setI_1, setI_2, Bool.not_true, Bool.not_false, Bool.false_eq_true, if_false, if_true, oV]; exact h)); (try dsimp only [gName, tNext, List.set_cons_zero, List.set_cons_succ]))
        exact k
  · exact h.elim
def sp_gains_of (K : PySem.W.Frag) (A : Ad) : Sp := fun vs H Q _ => match vs with
  | [.ref r, .int L, .int p] => ∃ (row : List (Option Int)) (L' p' : Nat), L = L' ∧ p = p' ∧ H r = some (.lst (row.map oV)) ∧ 0 < p' ∧ 2 * p' ≤ row.length ∧ row.length ≤ 100000 ∧
      (gainsOf row L' p' = none → ∀ H', Grow H H' → Q .non H') ∧ (∀ gs, gainsOf row L' p' = some gs → ∀ t H', Grow H H' → H' t = some (.tup (gs.map V.int)) → Q (.ref t) H')
  | _ => False
def t_gains_of_2 (K : PySem.W.Frag) (A : Ad) : TS := (tRet (tC .non))
def t_gains_of_3 (K : PySem.W.Frag) (A : Ad) : TS := (tRet (tCB (cTupE K) (tCons (tLc (iRng1 (tCons (tVar 2) tNil)) (gName 5) tYes (tOp (rIx K) (tVar 3) (tOp oMod (tOp oSub (tVar 5) (tVar 1)) (tVar 2))) [5]) tNil)))
def t_gains_of_1 (K : PySem.W.Frag) (A : Ad) : TS := (tSeq (tIfS (tOr (tTest (tOp (oIn K) (tC .non) (tVar 3))) (tNot (tB (tCB (cAll K) (tCons (tLc (iRng1 (tCons (tCB (cLenE K) (tCons (tVar 3) tNil)) tNil)) (gName 4) tYes (tOp (oEq K) (tOp (rIx K) (tVar 3) (tVar 4)) (tOp (rIx K) (tVar 3) (tOp oMod (tVar 4) (tVar 2)))) [4]) tNil))))) (t_gains_of_2 K A) tNext) (t_gains_of_3 K A))
def t_gains_of_0 (K : PySem.W.Frag) (A : Ad) : TS := (tSeq (tAsg (tLc (iRng1 (tCons (tOp oSub (tCB (cLenE K) (tCons (tVar 0) tNil)) (tVar 2)) tNil)) (gName 4) tYes (tCall (sp_step_between K A) [] E0 (tCons (tOp (rIx K) (tVar 0) (tVar 4)) (tCons (tOp (rIx K) (tVar 0) (tOp oAdd (tVar 4) (tVar 2))) tNil))) [4]) (gName 3)) (t_gains_of_1 K A))

theorem pure_gains_of {K : PySem.W.Frag} {A : Ad} {vs : List V} {H : Hp} {Q : VK} {E : XK} (h : sp_gains_of K A vs H Q E) : (t_gains_of_0 K A) { nx := fun _ H' => Q .non H', rt := Q } (start ["row", "origin", "period", "steps", "at", "rest"] vs) H := by
  unfold sp_gains_of at h
  split at h
  · rename_i r L p
    obtain ⟨row, L, p, rfl, rfl, hr, hp, h2, hs, k1, k2⟩ := h
    show (t_gains_of_0 K A) _ [some (.ref r), some (.int L), some (.int p), none, none, none] H
    have hsz : sizeLine = 16777216 := rfl
    refine st_seq (st_asg (lc_ev ?_))
    unfold iRng1
    (refine evA ?P56 (fun Q h => ?h56) ?_; (case h56 => (simp only [tTest, tOp, tUn, tVar, tC, tCB, tCons, tNil, tAnd, tOr, tNot, tB, tTup, tLst, tIf, tAndV, tOrV, tNotV, tSl, tPart, tNoPart, tCall, iIx_ref, oGt_int, oMod_int, oFdiv_int, oAdd_int, oAdd_str, oSub_int, oMul_int, oLt_int, oGe_int, oLe_int, oPow_int, uNeg_int, oEq_int, oEq_str, oEq_bl, oNe_int, oNe_str, oNe_bl, cInt_int, cInt_bl, cAbs_int, cLen_ref, cList_ref, stL_ref, gName, gSub, gTup, gCons, gNil, rdSeq, List.getElem?_cons_zero, List.getElem?_cons_succ, List.set_cons_zero, List.set_cons_succ, List.cons_append, List.nil_append, Option.some.injEq, exists_eq_left', V.bl.injEq, V.int.injEq, V.ref.injEq, atI_0, atI_1, atI_2, setI_1, setI_2, Bool.not_true, Bool.not_false, Bool.false_eq_true, if_false, if_true]; exact h)))
    refine lenE (.l hr) ?_
    simp only [tTest, tOp, tUn, tVar, tC, tCB, tCons, tNil, tAnd, tOr, tNot, tB, tTup, tLst, tIf, tAndV, tOrV, tNotV, tSl, tPart, tNoPart, tCall, iIx_ref, oGt_int, oMod_int, oFdiv_int, oAdd_int, oAdd_str, oSub_int, oMul_int, oLt_int, oGe_int, oLe_int, oPow_int, uNeg_int, oEq_int, oEq_str, oEq_bl, oNe_int, oNe_str, oNe_bl, cInt_int, cInt_bl, cAbs_int, cLen_ref, cList_ref, stL_ref, gName, gSub, gTup, gCons, gNil, rdSeq, List.getElem?_cons_zero, List.getElem?_cons_succ, List.set_cons_zero, List.set_cons_succ, List.cons_append, List.nil_append, Option.some.injEq, exists_eq_left', V.bl.injEq, V.int.injEq, V.ref.injEq, atI_0, atI_1, atI_2, setI_1, setI_2, Bool.not_true, Bool.not_false, Bool.false_eq_true, if_false, if_true, List.length_map]
    refine ⟨_, rfl, by omega, by omega, ?_⟩
    have en : ((row.length : Int) - (p : Int)).toNat = row.length - p := by omega
    rw [en]
    refine lc_map jok_rng (fun j => oV (stepB (row.getD j none) (row.getD (j + p) none))) (by omega) (fun j hj H' g R hR => ?_) (fun D H' g hD hd => ?_) (by exact fun x => rfl)
    · (refine evE ?P42 (fun Q h => ?h42) ?_; (case h42 => (simp only [tTest, tOp, tUn, tVar, tC, tCB, tCons, tNil, tAnd, tOr, tNot, tB, tTup, tLst, tIf, tAndV, tOrV, tNotV, tSl, tPart, tNoPart, tCall, iIx_ref, oGt_int, oMod_int, oFdiv_int, oAdd_int, oAdd_str, oSub_int, oMul_int, oLt_int, oGe_int, oLe_int, oPow_int, uNeg_int, oEq_int, oEq_str, oEq_bl, oNe_int, oNe_str, oNe_bl, cInt_int, cInt_bl, cAbs_int, cLen_ref, cList_ref, stL_ref, gName, gSub, gTup, gCons, gNil, rdSeq, List.getElem?_cons_zero, List.getElem?_cons_succ, List.set_cons_zero, List.set_cons_succ, List.cons_append, List.nil_append, Option.some.injEq, exists_eq_left', V.bl.injEq, V.int.injEq, V.ref.injEq, atI_0, atI_1, atI_2, setI_1, setI_2, Bool.not_true, Bool.not_false, Bool.false_eq_true, if_false, if_true, wipe]; exact h)); (try dsimp only [gName, tNext, List.set_cons_zero, List.set_cons_succ]))
      have e0 : (0 : Int) + (j : Int) = (j : Int) := by omega
      rw [e0]
      refine ixE (.l (g _ _ hr)) (atI_map (d := none) (by omega)) ?_
      refine ixE (.l (g _ _ hr)) (by have e : (j : Int) + (p : Int) = ((j + p : Nat) : Int) := by omega
                                     rw [e]; exact atI_map (d := none) (by omega)) ?_
      exact ⟨_, _, rfl, rfl, hR _ .refl⟩
    (try dsimp only [gName, tNext, List.set_cons_zero, List.set_cons_succ])
    have hst : H' D = some (.lst ((stepsOf row p).map oV)) := by
      rw [hd]
      unfold stepsOf
      rw [List.map_map]
      rfl
    have hlen : (stepsOf row p).length = row.length - p := by unfold stepsOf; rw [List.length_map, List.length_range]
    clear hd
    refine st_seq (st_if ?_)
    (refine evT ?P57 (fun Q h => ?h57) ?_; (case h57 => (simp only [tTest, tOp, tUn, tVar, tC, tCB, tCons, tNil, tAnd, tOr, tNot, tB, tTup, tLst, tIf, tAndV, tOrV, tNotV, tSl, tPart, tNoPart, tCall, iIx_ref, oGt_int, oMod_int, oFdiv_int, oAdd_int, oAdd_str, oSub_int, oMul_int, oLt_int, oGe_int, oLe_int, oPow_int, uNeg_int, oEq_int, oEq_str, oEq_bl, oNe_int, oNe_str, oNe_bl, cInt_int, cInt_bl, cAbs_int, cLen_ref, cList_ref, stL_ref, gName, gSub, gTup, gCons, gNil, rdSeq, List.getElem?_cons_zero, List.getElem?_cons_succ, List.set_cons_zero, List.set_cons_succ, List.cons_append, List.nil_append, Option.some.injEq, exists_eq_left', V.bl.injEq, V.int.injEq, V.ref.injEq, atI_0, atI_1, atI_2, setI_1, setI_2, Bool.not_true, Bool.not_false, Bool.false_eq_true, if_false, if_true]; exact h)))
    refine inNone hst ⟨_, rfl, ?_⟩
    cases hany : (stepsOf row p).any (·.isNone) with
    | true =>
      refine if_yes ?_
      (refine if_yes ?_; (try dsimp only [gName, tNext, List.set_cons_zero, List.set_cons_succ]))
      refine st_ret ?_
      (refine evE ?P43 (fun Q h => ?h43) ?_; (case h43 => (simp only [tTest, tOp, tUn, tVar, tC, tCB, tCons, tNil, tAnd, tOr, tNot, tB, tTup, tLst, tIf, tAndV, tOrV, tNotV, tSl, tPart, tNoPart, tCall, iIx_ref, oGt_int, oMod_int, oFdiv_int, oAdd_int, oAdd_str, oSub_int, oMul_int, oLt_int, oGe_int, oLe_int, oPow_int, uNeg_int, oEq_int, oEq_str, oEq_bl, oNe_int, oNe_str, oNe_bl, cInt_int, cInt_bl, cAbs_int, cLen_ref, cList_ref, stL_ref, gName, gSub, gTup, gCons, gNil, rdSeq, List.getElem?_cons_zero, List.getElem?_cons_succ, List.set_cons_zero, List.set_cons_succ, List.cons_append, List.nil_append, Option.some.injEq, exists_eq_left', V.bl.injEq, V.int.injEq, V.ref.injEq, atI_0, atI_1, atI_2, setI_1, setI_2, Bool.not_true, Bool.not_false, Bool.false_eq_true, if_false, if_true]; exact h)); (try dsimp only [gName, tNext, List.set_cons_zero, List.set_cons_succ]))
      exact k1 (by unfold gainsOf; rw [if_pos (.inl hany)]) _ g
    | false =>
      refine if_no (lc_ev ?_)
      unfold iRng1
      (refine evA ?P58 (fun Q h => ?h58) ?_; (case h58 => (simp only [tTest, tOp, tUn, tVar, tC, tCB, tCons, tNil, tAnd, tOr, tNot, tB, tTup, tLst, tIf, tAndV, tOrV, tNotV, tSl, tPart, tNoPart, tCall, iIx_ref, oGt_int, oMod_int, oFdiv_int, oAdd_int, oAdd_str, oSub_int, oMul_int, oLt_int, oGe_int, oLe_int, oPow_int, uNeg_int, oEq_int, oEq_str, oEq_bl, oNe_int, oNe_str, oNe_bl, cInt_int, cInt_bl, cAbs_int, cLen_ref, cList_ref, stL_ref, gName, gSub, gTup, gCons, gNil, rdSeq, List.getElem?_cons_zero, List.getElem?_cons_succ, List.set_cons_zero, List.set_cons_succ, List.cons_append, List.nil_append, Option.some.injEq, exists_eq_left', V.bl.injEq, V.int.injEq, V.ref.injEq, atI_0, atI_1, atI_2, setI_1, setI_2, Bool.not_true, Bool.not_false, Bool.false_eq_true, if_false, if_true]; exact h)))
      refine lenE (.l hst) ?_
      simp only [tTest, tOp, tUn, tVar, tC, tCB, tCons, tNil, tAnd, tOr, tNot, tB, tTup, tLst, tIf, tAndV, tOrV, tNotV, tSl, tPart, tNoPart, tCall, iIx_ref, oGt_int, oMod_int, oFdiv_int, oAdd_int, oAdd_str, oSub_int, oMul_int, oLt_int, oGe_int, oLe_int, oPow_int, uNeg_int, oEq_int, oEq_str, oEq_bl, oNe_int, oNe_str, oNe_bl, cInt_int, cInt_bl, cAbs_int, cLen_ref, cList_ref, stL_ref, gName, gSub, gTup, gCons, gNil, rdSeq, List.getElem?_cons_zero, List.getElem?_cons_succ, List.set_cons_zero, List.set_cons_succ, List.cons_append, List.nil_append, Option.some.injEq, exists_eq_left', V.bl.injEq, V.int.injEq, V.ref.injEq, atI_0, atI_1, atI_2, setI_1, setI_2, Bool.not_true, Bool.not_false, Bool.false_eq_true, if_false, if_true, List.length_map]
      refine ⟨_, rfl, by omega, by omega, ?_⟩
      rw [Int.toNat_natCast]
      refine lc_map jok_rng (fun j => .bl (decide ((stepsOf row p).getD j none = (stepsOf row p).getD (j % p) none))) (by omega) (fun j hj H2 g2 R hR => ?_) (fun D2 H2 g2 hD2 hd2 => ?_) (by exact fun x => rfl)
      · (refine evE ?P44 (fun Q h => ?h44) ?_; (case h44 => (simp only [tTest, tOp, tUn, tVar, tC, tCB, tCons, tNil, tAnd, tOr, tNot, tB, tTup, tLst, tIf, tAndV, tOrV, tNotV, tSl, tPart, tNoPart, tCall, iIx_ref, oGt_int, oMod_int, oFdiv_int, oAdd_int, oAdd_str, oSub_int, oMul_int, oLt_int, oGe_int, oLe_int, oPow_int, uNeg_int, oEq_int, oEq_str, oEq_bl, oNe_int, oNe_str, oNe_bl, cInt_int, cInt_bl, cAbs_int, cLen_ref, cList_ref, stL_ref, gName, gSub, gTup, gCons, gNil, rdSeq, List.getElem?_cons_zero, List.getElem?_cons_succ, List.set_cons_zero, List.set_cons_succ, List.cons_append, List.nil_append, Option.some.injEq, exists_eq_left', V.bl.injEq, V.int.injEq, V.ref.injEq, atI_0, atI_1, atI_2, setI_1, setI_2, Bool.not_true, Bool.not_false, Bool.false_eq_true, if_false, if_true, wipe]; exact h)); (try dsimp only [gName, tNext, List.set_cons_zero, List.set_cons_succ]))
        have e0 : (0 : Int) + (j : Int) = (j : Int) := by omega
        rw [e0]
        refine ixE (.l (g2 _ _ hst)) (atI_map (d := none) hj) ?_
        refine ⟨by omega, ?_⟩
        have hm : j % p < p := Nat.mod_lt _ hp
        refine ixE (.l (g2 _ _ hst)) (by rw [← Int.natCast_emod]; exact atI_map (d := none) (by omega)) ?_
        exact eqE (hR _ .refl)
      refine ⟨D2, (List.range (stepsOf row p).length).map fun j => decide ((stepsOf row p).getD j none = (stepsOf row p).getD (j % p) none), rfl, by rw [hd2, List.map_map]; rfl, ⟨_, rfl, ?_⟩⟩
      cases hall : (((List.range (stepsOf row p).length).map fun j => decide ((stepsOf row p).getD j none = (stepsOf row p).getD (j % p) none)).all id) with
      | false =>
        (refine if_yes ?_; (try dsimp only [gName, tNext, List.set_cons_zero, List.set_cons_succ]))
        refine st_ret ?_
        (refine evE ?P45 (fun Q h => ?h45) ?_; (case h45 => (simp only [tTest, tOp, tUn, tVar, tC, tCB, tCons, tNil, tAnd, tOr, tNot, tB, tTup, tLst, tIf, tAndV, tOrV, tNotV, tSl, tPart, tNoPart, tCall, iIx_ref, oGt_int, oMod_int, oFdiv_int, oAdd_int, oAdd_str, oSub_int, oMul_int, oLt_int, oGe_int, oLe_int, oPow_int, uNeg_int, oEq_int, oEq_str, oEq_bl, oNe_int, oNe_str, oNe_bl, cInt_int, cInt_bl, cAbs_int, cLen_ref, cList_ref, stL_ref, gName, gSub, gTup, gCons, gNil, rdSeq, List.getElem?_cons_zero, List.getElem?_cons_succ, List.set_cons_zero, List.set_cons_succ, List.cons_append, List.nil_append, Option.some.injEq, exists_eq_left', V.bl.injEq, V.int.injEq, V.ref.injEq, atI_0, atI_1, atI_2, setI_1, setI_2, Bool.not_true, Bool.not_false, Bool.false_eq_true, if_false, if_true]; exact h)); (try dsimp only [gName, tNext, List.set_cons_zero, List.set_cons_succ]))
        exact k1 (by unfold gainsOf; rw [if_pos (.inr (by rw [hall]; decide))]) _ (g.trans g2)
      | true =>
        (refine if_no ?_; (try dsimp only [gName, tNext, List.set_cons_zero, List.set_cons_succ]))
        have hst2 := g2 _ _ hst
        have hg : gainsOf row L p = some ((List.range p).map fun r : Nat => ((stepsOf row p).getD (((r : Int) - (L : Int)) % (p : Int)).toNat none).getD 0) := by
          unfold gainsOf
          rw [if_neg]
          rintro (z | z)
          · rw [hany] at z; cases z
          · exact z hall
        refine st_ret ?_
        (refine evE ?P59 (fun Q h => ?h59) ?_; (case h59 => (simp only [tTest, tOp, tUn, tVar, tC, tCB, tCons, tNil, tAnd, tOr, tNot, tB, tTup, tLst, tIf, tAndV, tOrV, tNotV, tSl, tPart, tNoPart, tCall, iIx_ref, oGt_int, oMod_int, oFdiv_int, oAdd_int, oAdd_str, oSub_int, oMul_int, oLt_int, oGe_int, oLe_int, oPow_int, uNeg_int, oEq_int, oEq_str, oEq_bl, oNe_int, oNe_str, oNe_bl, cInt_int, cInt_bl, cAbs_int, cLen_ref, cList_ref, stL_ref, gName, gSub, gTup, gCons, gNil, rdSeq, List.getElem?_cons_zero, List.getElem?_cons_succ, List.set_cons_zero, List.set_cons_succ, List.cons_append, List.nil_append, Option.some.injEq, exists_eq_left', V.bl.injEq, V.int.injEq, V.ref.injEq, atI_0, atI_1, atI_2, setI_1, setI_2, Bool.not_true, Bool.not_false, Bool.false_eq_true, if_false, if_true]; exact h)))
        refine lc_ev ?_
        unfold iRng1
        (refine evA ?P60 (fun Q h => ?h60) ?_; (case h60 => (simp only [tTest, tOp, tUn, tVar, tC, tCB, tCons, tNil, tAnd, tOr, tNot, tB, tTup, tLst, tIf, tAndV, tOrV, tNotV, tSl, tPart, tNoPart, tCall, iIx_ref, oGt_int, oMod_int, oFdiv_int, oAdd_int, oAdd_str, oSub_int, oMul_int, oLt_int, oGe_int, oLe_int, oPow_int, uNeg_int, oEq_int, oEq_str, oEq_bl, oNe_int, oNe_str, oNe_bl, cInt_int, cInt_bl, cAbs_int, cLen_ref, cList_ref, stL_ref, gName, gSub, gTup, gCons, gNil, rdSeq, List.getElem?_cons_zero, List.getElem?_cons_succ, List.set_cons_zero, List.set_cons_succ, List.cons_append, List.nil_append, Option.some.injEq, exists_eq_left', V.bl.injEq, V.int.injEq, V.ref.injEq, atI_0, atI_1, atI_2, setI_1, setI_2, Bool.not_true, Bool.not_false, Bool.false_eq_true, if_false, if_true]; exact h)))
        refine ⟨_, rfl, by omega, by omega, ?_⟩
        rw [Int.toNat_natCast]
        refine lc_map jok_rng (fun j => .int (((stepsOf row p).getD (((j : Int) - (L : Int)) % (p : Int)).toNat none).getD 0)) (by omega) (fun j hj H3 g3 R hR => ?_) (fun D3 H3 g3 hD3 hd3 => ?_) (by exact fun x => rfl)
        · (refine evE ?P46 (fun Q h => ?h46) ?_; (case h46 => (simp only [tTest, tOp, tUn, tVar, tC, tCB, tCons, tNil, tAnd, tOr, tNot, tB, tTup, tLst, tIf, tAndV, tOrV, tNotV, tSl, tPart, tNoPart, tCall, iIx_ref, oGt_int, oMod_int, oFdiv_int, oAdd_int, oAdd_str, oSub_int, oMul_int, oLt_int, oGe_int, oLe_int, oPow_int, uNeg_int, oEq_int, oEq_str, oEq_bl, oNe_int, oNe_str, oNe_bl, cInt_int, cInt_bl, cAbs_int, cLen_ref, cList_ref, stL_ref, gName, gSub, gTup, gCons, gNil, rdSeq, List.getElem?_cons_zero, List.getElem?_cons_succ, List.set_cons_zero, List.set_cons_succ, List.cons_append, List.nil_append, Option.some.injEq, exists_eq_left', V.bl.injEq, V.int.injEq, V.ref.injEq, atI_0, atI_1, atI_2, setI_1, setI_2, Bool.not_true, Bool.not_false, Bool.false_eq_true, if_false, if_true, wipe]; exact h)); (try dsimp only [gName, tNext, List.set_cons_zero, List.set_cons_succ]))
          have e0 : (0 : Int) + (j : Int) = (j : Int) := by omega
          rw [e0]
          refine ⟨by omega, ?_⟩
          have hm := mod_range (x := (j : Int) - (L : Int)) (m := (p : Int)) (by omega)
          obtain ⟨i, hi⟩ : ∃ i : Nat, ((j : Int) - (L : Int)) % (p : Int) = i := ⟨(((j : Int) - (L : Int)) % (p : Int)).toNat, by omega⟩
          rw [hi] at hR ⊢
          refine ixE (.l (g3 _ _ hst2)) (atI_map (d := none) (by omega)) ?_
          have hne : (stepsOf row p).getD i none ≠ none := by
            intro z
            have hx : (stepsOf row p).any (·.isNone) = true := by
              rw [List.any_eq_true]
              refine ⟨none, ?_, rfl⟩
              rw [← z]
              exact getD_mem (by omega)
            rw [hany] at hx
            cases hx
          rw [Int.toNat_natCast] at hR
          cases ev : (stepsOf row p).getD i none with
          | none => exact absurd ev hne
          | some v =>
            rw [ev] at hR
            exact hR _ .refl
        refine tupL (xs := (((List.range p).map fun r : Nat => ((stepsOf row p).getD (((r : Int) - (L : Int)) % (p : Int)).toNat none).getD 0)).map V.int) (by rw [hd3, List.map_map]; rfl) fun l H4 g4 hl => ?_
        exact k2 _ hg l H4 ((g.trans g2).trans (g3.trans g4)) hl
  · exact h.elim

theorem findSome_at {α : Type} {F : Nat → Option α} {n i : Nat} {g : α} (hi : i < n) (h1 : ∀ j, j < i → F j = none) (h2 : F i = some g) : (List.range n).findSome? F = some g := by
  induction n with
  | zero => omega
  | succ n ih =>
    rw [List.range_succ, List.findSome?_append]
    by_cases e : i = n
    · subst e
      have : (List.range i).findSome? F = none := List.findSome?_eq_none_iff.mpr fun x hx => h1 x (List.mem_range.mp hx)
      rw [this]
      show ([i].findSome? F) = some g
      rw [List.findSome?_cons, h2]
    · rw [ih (by omega)]
      rfl
theorem findSome_no {α : Type} {F : Nat → Option α} {n : Nat} (h1 : ∀ j, j < n → F j = none) : (List.range n).findSome? F = none :=
  List.findSome?_eq_none_iff.mpr fun x hx => h1 x (List.mem_range.mp hx)
def sp_least_gains (K : PySem.W.Frag) (A : Ad) : Sp := fun vs H Q _ => match vs with
  | [.ref r, .int L, .int p] => ∃ (row : List (Option Int)) (L' p' : Nat) (gs : List Int), L = L' ∧ p = p' ∧ H r = some (.lst (row.map oV)) ∧ 0 < p' ∧ 2 * p' ≤ row.length ∧ row.length ≤ 100000 ∧
      leastG row L' p' = some gs ∧ ∀ t H', Grow H H' → H' t = some (.tup (gs.map V.int)) → Q (.ref t) H'
  | _ => False
def t_least_gains_3 (K : PySem.W.Frag) (A : Ad) : TS := (tRet (tVar 4))
def t_least_gains_2 (K : PySem.W.Frag) (A : Ad) : TS := (tIfS (tTest (tOp oIsNot (tVar 4) (tC .non))) (t_least_gains_3 K A) tNext)
def t_least_gains_1 (K : PySem.W.Frag) (A : Ad) : TS := (tSeq (tAsg (tIf (tTest (tOp (oEq K) (tOp oMod (tVar 2) (tVar 3)) (tC (.int 0)))) (tCall (sp_gains_of K A) [] E0 (tCons (tVar 0) (tCons (tVar 1) (tCons (tVar 3) tNil)))) (tC .non)) (gName 4)) (t_least_gains_2 K A))
def t_least_gains_4 (K : PySem.W.Frag) (A : Ad) : TS := (tRet (tCall (sp_gains_of K A) [] E0 (tCons (tVar 0) (tCons (tVar 1) (tCons (tVar 2) tNil)))))
def t_least_gains_0 (K : PySem.W.Frag) (A : Ad) : TS := (tSeq (tFor (iRng2 (tCons (tC (.int 1)) (tCons (tVar 2) tNil))) (gName 3)
    (t_least_gains_1 K A)) (t_least_gains_4 K A))

theorem pure_least_gains {K : PySem.W.Frag} {A : Ad} {vs : List V} {H : Hp} {Q : VK} {E : XK} (h : sp_least_gains K A vs H Q E) : (t_least_gains_0 K A) { nx := fun _ H' => Q .non H', rt := Q } (start ["row", "origin", "period", "least", "gains"] vs) H := by
  unfold sp_least_gains at h
  split at h
  · rename_i r L p
    obtain ⟨row, L, p, gs, rfl, rfl, hr, hp, h2, hs, hg, k⟩ := h
    show (t_least_gains_0 K A) _ [some (.ref r), some (.int L), some (.int p), none, none] H
    refine st_seq ?_
    unfold tFor iRng2
    (refine evA ?P47 (fun Q h => ?h47) ?_; (case h47 => (simp only [tTest, tOp, tUn, tVar, tC, tCB, tCons, tNil, tAnd, tOr, tNot, tB, tTup, tLst, tIf, tAndV, tOrV, tNotV, tSl, tPart, tNoPart, tCall, iIx_ref, oGt_int, oMod_int, oFdiv_int, oAdd_int, oAdd_str, oSub_int, oMul_int, oLt_int, oGe_int, oLe_int, oPow_int, uNeg_int, oEq_int, oEq_str, oEq_bl, oNe_int, oNe_str, oNe_bl, cInt_int, cInt_bl, cAbs_int, cLen_ref, cList_ref, stL_ref, gName, gSub, gTup, gCons, gNil, rdSeq, List.getElem?_cons_zero, List.getElem?_cons_succ, List.set_cons_zero, List.set_cons_succ, List.cons_append, List.nil_append, Option.some.injEq, exists_eq_left', V.bl.injEq, V.int.injEq, V.ref.injEq, atI_0, atI_1, atI_2, setI_1, setI_2, Bool.not_true, Bool.not_false, Bool.false_eq_true, if_false, if_true]; exact h)); (try dsimp only [gName, tNext, List.set_cons_zero, List.set_cons_succ]))
    refine ⟨_, _, rfl, ⟨by omega, by omega, by omega, by omega⟩, ?_⟩
    refine ⟨fun i m σ H' => i ≤ p - 1 ∧ m = p - 1 - i ∧ Grow H H' ∧ (∃ x y, σ = [some (.ref r), some (.int L), some (.int p), x, y]) ∧ ∀ j, j < i → (if p % (j + 1) = 0 then gainsOf row L (j + 1) else none) = none, ⟨_, Nat.zero_le _, rfl, .refl, ⟨_, _, rfl⟩, fun j hj => absurd hj (Nat.not_lt_zero _)⟩, ?_⟩
    rintro i m σ H' ⟨hi, hm, g, ⟨x, y, rfl⟩, hno⟩
    by_cases e : i = p - 1
    · refine .inl ⟨by show ((p : Int) - 1).toNat ≤ i; omega, ?_⟩
      refine st_ret ?_
      (refine evE ?P48 (fun Q h => ?h48) ?_; (case h48 => (simp only [tTest, tOp, tUn, tVar, tC, tCB, tCons, tNil, tAnd, tOr, tNot, tB, tTup, tLst, tIf, tAndV, tOrV, tNotV, tSl, tPart, tNoPart, tCall, iIx_ref, oGt_int, oMod_int, oFdiv_int, oAdd_int, oAdd_str, oSub_int, oMul_int, oLt_int, oGe_int, oLe_int, oPow_int, uNeg_int, oEq_int, oEq_str, oEq_bl, oNe_int, oNe_str, oNe_bl, cInt_int, cInt_bl, cAbs_int, cLen_ref, cList_ref, stL_ref, gName, gSub, gTup, gCons, gNil, rdSeq, List.getElem?_cons_zero, List.getElem?_cons_succ, List.set_cons_zero, List.set_cons_succ, List.cons_append, List.nil_append, Option.some.injEq, exists_eq_left', V.bl.injEq, V.int.injEq, V.ref.injEq, atI_0, atI_1, atI_2, setI_1, setI_2, Bool.not_true, Bool.not_false, Bool.false_eq_true, if_false, if_true]; exact h)); (try dsimp only [gName, tNext, List.set_cons_zero, List.set_cons_succ]))
      have hl : leastG row L p = gainsOf row L p := by
        unfold leastG
        rw [findSome_no (by rw [← e]; exact hno)]
      rw [hl] at hg
      exact ⟨row, L, p, rfl, rfl, g _ _ hr, hp, h2, hs, (fun z => by rw [z] at hg; cases hg), (fun gs' z t H2 g2 ht => by rw [hg] at z; cases z; exact k t H2 (g.trans g2) ht)⟩
    · refine .inr ⟨by show i < ((p : Int) - 1).toNat; omega, fun σ' H'' => Grow H H'' ∧ (∃ x y, σ' = [some (.ref r), some (.int L), some (.int p), x, y]) ∧ ∀ j, j < i + 1 → (if p % (j + 1) = 0 then gainsOf row L (j + 1) else none) = none, fun σ' H'' z => ⟨p - 1 - (i + 1), by omega, by omega, rfl, z⟩, ?_⟩
      rintro x' H'' ⟨rfl, rfl⟩
      (try dsimp only [gName, tNext, List.set_cons_zero, List.set_cons_succ])
      have e1 : (1 : Int) + (i : Int) = ((i + 1 : Nat) : Int) := by omega
      rw [e1]
      refine st_seq (st_asg ?_)
      unfold tIf
      (refine evT ?P49 (fun Q h => ?h49) ?_; (case h49 => (simp only [tTest, tOp, tUn, tVar, tC, tCB, tCons, tNil, tAnd, tOr, tNot, tB, tTup, tLst, tIf, tAndV, tOrV, tNotV, tSl, tPart, tNoPart, tCall, iIx_ref, oGt_int, oMod_int, oFdiv_int, oAdd_int, oAdd_str, oSub_int, oMul_int, oLt_int, oGe_int, oLe_int, oPow_int, uNeg_int, oEq_int, oEq_str, oEq_bl, oNe_int, oNe_str, oNe_bl, cInt_int, cInt_bl, cAbs_int, cLen_ref, cList_ref, stL_ref, gName, gSub, gTup, gCons, gNil, rdSeq, List.getElem?_cons_zero, List.getElem?_cons_succ, List.set_cons_zero, List.set_cons_succ, List.cons_append, List.nil_append, Option.some.injEq, exists_eq_left', V.bl.injEq, V.int.injEq, V.ref.injEq, atI_0, atI_1, atI_2, setI_1, setI_2, Bool.not_true, Bool.not_false, Bool.false_eq_true, if_false, if_true]; exact h)); (try dsimp only [gName, tNext, List.set_cons_zero, List.set_cons_succ]))
      refine ⟨by omega, ?_⟩
      have more : (if p % (i + 1) = 0 then gainsOf row L (i + 1) else none) = none → ∀ H3, Grow H'' H3 → (fun (σ' : L2.St) (H'' : Hp) => Grow H H'' ∧ (∃ x y, σ' = [some (.ref r), some (.int L), some (.int p), x, y]) ∧ ∀ j, j < i + 1 → (if p % (j + 1) = 0 then gainsOf row L (j + 1) else none) = none) ([some (.ref r), some (.int L), some (.int p), some (.int ((i + 1 : Nat) : Int)), some .non] : L2.St) H3 := by
        intro z H3 g3
        refine ⟨g.trans g3, ⟨_, _, rfl⟩, fun j hj => ?_⟩
        by_cases ej : j = i
        · rw [ej]; exact z
        · exact hno j (by omega)
      by_cases hd : p % (i + 1) = 0
      · have ed : decide ((p : Int) % ((i + 1 : Nat) : Int) = 0) = true := decide_eq_true (by rw [← Int.natCast_emod, hd]; rfl)
        rw [ed]
        refine if_yes ?_
        (refine evE ?P50 (fun Q h => ?h50) ?_; (case h50 => (simp only [tTest, tOp, tUn, tVar, tC, tCB, tCons, tNil, tAnd, tOr, tNot, tB, tTup, tLst, tIf, tAndV, tOrV, tNotV, tSl, tPart, tNoPart, tCall, iIx_ref, oGt_int, oMod_int, oFdiv_int, oAdd_int, oAdd_str, oSub_int, oMul_int, oLt_int, oGe_int, oLe_int, oPow_int, uNeg_int, oEq_int, oEq_str, oEq_bl, oNe_int, oNe_str, oNe_bl, cInt_int, cInt_bl, cAbs_int, cLen_ref, cList_ref, stL_ref, gName, gSub, gTup, gCons, gNil, rdSeq, List.getElem?_cons_zero, List.getElem?_cons_succ, List.set_cons_zero, List.set_cons_succ, List.cons_append, List.nil_append, Option.some.injEq, exists_eq_left', V.bl.injEq, V.int.injEq, V.ref.injEq, atI_0, atI_1, atI_2, setI_1, setI_2, Bool.not_true, Bool.not_false, Bool.false_eq_true, if_false, if_true]; exact h)); (try dsimp only [gName, tNext, List.set_cons_zero, List.set_cons_succ]))
        rw [if_pos hd] at more
        refine ⟨row, L, i + 1, rfl, rfl, g _ _ hr, by omega, by omega, hs, fun z H3 g3 => ?_, fun gs' z t H3 g3 ht => ?_⟩
        · (try dsimp only [gName, tNext, List.set_cons_zero, List.set_cons_succ])
          refine st_if ?_
          (refine evT ?P51 (fun Q h => ?h51) ?_; (case h51 => (simp only [tTest, tOp, tUn, tVar, tC, tCB, tCons, tNil, tAnd, tOr, tNot, tB, tTup, tLst, tIf, tAndV, tOrV, tNotV, tSl, tPart, tNoPart, tCall, iIx_ref, oGt_int, oMod_int, oFdiv_int, oAdd_int, oAdd_str, oSub_int, oMul_int, oLt_int, oGe_int, oLe_int, oPow_int, uNeg_int, oEq_int, oEq_str, oEq_bl, oNe_int, oNe_str, oNe_bl, cInt_int, cInt_bl, cAbs_int, cLen_ref, cList_ref, stL_ref, gName, gSub, gTup, gCons, gNil, rdSeq, List.getElem?_cons_zero, List.getElem?_cons_succ, List.set_cons_zero, List.set_cons_succ, List.cons_append, List.nil_append, Option.some.injEq, exists_eq_left', V.bl.injEq, V.int.injEq, V.ref.injEq, atI_0, atI_1, atI_2, setI_1, setI_2, Bool.not_true, Bool.not_false, Bool.false_eq_true, if_false, if_true, oIsNot]; exact h)); (try dsimp only [gName, tNext, List.set_cons_zero, List.set_cons_succ]))
          (refine if_no ?_; (try dsimp only [gName, tNext, List.set_cons_zero, List.set_cons_succ]))
          exact more z H3 g3
        · (try dsimp only [gName, tNext, List.set_cons_zero, List.set_cons_succ])
          refine st_if ?_
          (refine evT ?P52 (fun Q h => ?h52) ?_; (case h52 => (simp only [tTest, tOp, tUn, tVar, tC, tCB, tCons, tNil, tAnd, tOr, tNot, tB, tTup, tLst, tIf, tAndV, tOrV, tNotV, tSl, tPart, tNoPart, tCall, iIx_ref, oGt_int, oMod_int, oFdiv_int, oAdd_int, oAdd_str, oSub_int, oMul_int, oLt_int, oGe_int, oLe_int, oPow_int, uNeg_int, oEq_int, oEq_str, oEq_bl, oNe_int, oNe_str, oNe_bl, cInt_int, cInt_bl, cAbs_int, cLen_ref, cList_ref, stL_ref, gName, gSub, gTup, gCons, gNil, rdSeq, List.getElem?_cons_zero, List.getElem?_cons_succ, List.set_cons_zero, List.set_cons_succ, List.cons_append, List.nil_append, Option.some.injEq, exists_eq_left', V.bl.injEq, V.int.injEq, V.ref.injEq, atI_0, atI_1, atI_2, setI_1, setI_2, Bool.not_true, Bool.not_false, Bool.false_eq_true, if_false, if_true, oIsNot]; exact h)); (try dsimp only [gName, tNext, List.set_cons_zero, List.set_cons_succ]))
          (refine if_yes ?_; (try dsimp only [gName, tNext, List.set_cons_zero, List.set_cons_succ]))
          refine st_ret ?_
          (refine evE ?P53 (fun Q h => ?h53) ?_; (case h53 => (simp only [tTest, tOp, tUn, tVar, tC, tCB, tCons, tNil, tAnd, tOr, tNot, tB, tTup, tLst, tIf, tAndV, tOrV, tNotV, tSl, tPart, tNoPart, tCall, iIx_ref, oGt_int, oMod_int, oFdiv_int, oAdd_int, oAdd_str, oSub_int, oMul_int, oLt_int, oGe_int, oLe_int, oPow_int, uNeg_int, oEq_int, oEq_str, oEq_bl, oNe_int, oNe_str, oNe_bl, cInt_int, cInt_bl, cAbs_int, cLen_ref, cList_ref, stL_ref, gName, gSub, gTup, gCons, gNil, rdSeq, List.getElem?_cons_zero, List.getElem?_cons_succ, List.set_cons_zero, List.set_cons_succ, List.cons_append, List.nil_append, Option.some.injEq, exists_eq_left', V.bl.injEq, V.int.injEq, V.ref.injEq, atI_0, atI_1, atI_2, setI_1, setI_2, Bool.not_true, Bool.not_false, Bool.false_eq_true, if_false, if_true]; exact h)); (try dsimp only [gName, tNext, List.set_cons_zero, List.set_cons_succ]))
          have hl : leastG row L p = some gs' := by
            unfold leastG
            rw [findSome_at (F := fun i => if p % (i + 1) = 0 then gainsOf row L (i + 1) else none) (i := i) (g := gs') (by omega) hno (by show (if p % (i + 1) = 0 then gainsOf row L (i + 1) else none) = some gs'; rw [if_pos hd]; exact z)]
          rw [hl] at hg
          cases hg
          exact k t H3 (g.trans g3) ht
      · have ed : decide ((p : Int) % ((i + 1 : Nat) : Int) = 0) = false := decide_eq_false (by rw [← Int.natCast_emod]; omega)
        rw [ed]
        refine if_no ?_
        (refine evE ?P54 (fun Q h => ?h54) ?_; (case h54 => (simp only [tTest, tOp, tUn, tVar, tC, tCB, tCons, tNil, tAnd, tOr, tNot, tB, tTup, tLst, tIf, tAndV, tOrV, tNotV, tSl, tPart, tNoPart, tCall, iIx_ref, oGt_int, oMod_int, oFdiv_int, oAdd_int, oAdd_str, oSub_int, oMul_int, oLt_int, oGe_int, oLe_int, oPow_int, uNeg_int, oEq_int, oEq_str, oEq_bl, oNe_int, oNe_str, oNe_bl, cInt_int, cInt_bl, cAbs_int, cLen_ref, cList_ref, stL_ref, gName, gSub, gTup, gCons, gNil, rdSeq, List.getElem?_cons_zero, List.getElem?_cons_succ, List.set_cons_zero, List.set_cons_succ, List.cons_append, List.nil_append, Option.some.injEq, exists_eq_left', V.bl.injEq, V.int.injEq, V.ref.injEq, atI_0, atI_1, atI_2, setI_1, setI_2, Bool.not_true, Bool.not_false, Bool.false_eq_true, if_false, if_true]; exact h)); (try dsimp only [gName, tNext, List.set_cons_zero, List.set_cons_succ]))
        refine st_if ?_
        (refine evT ?P55 (fun Q h => ?h55) ?_; (case h55 => (simp only [tTest, tOp, tUn, tVar, tC, tCB, tCons, tNil, tAnd, tOr, tNot, tB, tTup, tLst, tIf, tAndV, tOrV, tNotV, tSl, tPart, tNoPart, tCall, iIx_ref, oGt_int, oMod_int, oFdiv_int, oAdd_int, oAdd_str, oSub_int, oMul_int, oLt_int, oGe_int, oLe_int, oPow_int, uNeg_int, oEq_int, oEq_str, oEq_bl, oNe_int, oNe_str, oNe_bl, cInt_int, cInt_bl, cAbs_int, cLen_ref, cList_ref, stL_ref, gName, gSub, gTup, gCons, gNil, rdSeq, List.getElem?_cons_zero, List.getElem?_cons_succ, List.set_cons_zero, List.set_cons_succ, List.cons_append, List.nil_append, Option.some.injEq, exists_eq_left', V.bl.injEq, V.int.injEq, V.ref.injEq, atI_0, atI_1, atI_2, setI_1, setI_2, Bool.not_true, Bool.not_false, Bool.false_eq_true, if_false, if_true, oIsNot]; exact h)); (try dsimp only [gName, tNext, List.set_cons_zero, List.set_cons_succ]))
        (refine if_no ?_; (try dsimp only [gName, tNext, List.set_cons_zero, List.set_cons_succ]))
        exact more (if_neg hd) _ .refl
  · exact h.elim

end HG

namespace HG
open PySem L2
def sp_trimmed (K : PySem.W.Frag) (A : Ad) : Sp := fun vs H Q _ => match vs with
  | [.ref t, .ref g] => ∃ (told : List (Option Int)) (gains : List Int), H t = some (.tup (List.map oV told)) ∧ Sq K H g (gains.map V.int) ∧ 0 < gains.length ∧ gains.length ≤ told.length ∧ told.length ≤ 1000000 ∧
      ∀ t' H', Grow H H' → H' t' = some (.tup (List.map oV (told.take (trimN told gains told.length)))) → Q (.ref t') H'
  | _ => False
def t_trimmed_2 (K : PySem.W.Frag) (A : Ad) : TS := (tAsg (tOp oSub (tVar 2) (tC (.int 1))) (gName 2))
def t_trimmed_3 (K : PySem.W.Frag) (A : Ad) : TS := (tRet (tSl (rSlA K) (tVar 0) tNoPart (tPart (tVar 2))))
def t_trimmed_1 (K : PySem.W.Frag) (A : Ad) : TS := (tSeq (tWhile (tAnd (tTest (tOp oGt (tVar 2) (tVar 3))) (tTest (tOp (oEq K) (tOp (rIx K) (tVar 0) (tOp oSub (tVar 2) (tC (.int 1)))) (tCall (sp_added K A) [] E0 (tCons (tOp (rIx K) (tVar 0) (tOp oSub (tOp oSub (tVar 2) (tC (.int 1))) (tVar 3))) (tCons (tOp (rIx K) (tVar 1) (tOp oMod (tOp oSub (tVar 2) (tC (.int 1))) (tVar 3))) tNil)))))) (t_trimmed_2 K A)) (t_trimmed_3 K A))
def t_trimmed_0 (K : PySem.W.Frag) (A : Ad) : TS := (tSeq (tPar 2 3 (tCons (tCB (cLenE K) (tCons (tVar 0) tNil)) (tCons (tCB (cLenE K) (tCons (tVar 1) tNil)) tNil))) (t_trimmed_1 K A))

theorem pure_trimmed {K : PySem.W.Frag} {A : Ad} {vs : List V} {H : Hp} {Q : VK} {E : XK} (h : sp_trimmed K A vs H Q E) : (t_trimmed_0 K A) { nx := fun _ H' => Q .non H', rt := Q } (start ["told", "gains", "many", "period"] vs) H := by
  unfold sp_trimmed at h
  split at h
  · rename_i t g
    obtain ⟨told, gains, ht0, hg, hp, hpl, hs, k⟩ := h
    have ht : St K H t (told.map oV) := .t ht0
    show (t_trimmed_0 K A) _ [some (.ref t), some (.ref g), none, none] H
    refine st_seq ?_
    unfold tPar
    (refine evA ?P61 (fun Q h => ?h61) ?_; (case h61 => (simp only [tTest, tOp, tUn, tVar, tC, tCB, tCons, tNil, tAnd, tOr, tNot, tB, tTup, tLst, tIf, tAndV, tOrV, tNotV, tSl, tPart, tNoPart, tCall, iIx_ref, oGt_int, oMod_int, oFdiv_int, oAdd_int, oAdd_str, oSub_int, oMul_int, oLt_int, oGe_int, oLe_int, oPow_int, uNeg_int, oEq_int, oEq_str, oEq_bl, oNe_int, oNe_str, oNe_bl, cInt_int, cInt_bl, cAbs_int, cLen_ref, cList_ref, stL_ref, gName, gSub, gTup, gCons, gNil, rdSeq, List.getElem?_cons_zero, List.getElem?_cons_succ, List.set_cons_zero, List.set_cons_succ, List.cons_append, List.nil_append, Option.some.injEq, exists_eq_left', V.bl.injEq, V.int.injEq, V.ref.injEq, atI_0, atI_1, atI_2, setI_1, setI_2, Bool.not_true, Bool.not_false, Bool.false_eq_true, if_false, if_true]; exact h)); (try dsimp only [gName, tNext, List.set_cons_zero, List.set_cons_succ]))
    refine lenE ht.sq (lenE hg ?_)
    refine ⟨_, _, rfl, ?_⟩
    (try dsimp only [gName, tNext, List.set_cons_zero, List.set_cons_succ])
    rw [List.length_map, List.length_map]
    refine st_seq ?_
    unfold tWhile
    refine ⟨fun m σ H' => H' = H ∧ σ = [some (.ref t), some (.ref g), some (.int m), some (.int gains.length)] ∧ gains.length ≤ m ∧ m ≤ told.length ∧ trimN told gains m = trimN told gains told.length, ⟨_, rfl, rfl, hpl, Nat.le_refl _, rfl⟩, ?_⟩
    rintro m σ H' ⟨rfl, rfl, hm1, hm2, hm3⟩
    have done : ∀ m' : Nat, m' ≤ told.length → trimN told gains told.length = m' → t_trimmed_3 K A { nx := fun x H' => Q .non H', rt := Q } [some (.ref t), some (.ref g), some (.int m'), some (.int gains.length)] H' := by
      intro m' hm' he
      refine st_ret ?_
      (refine evE ?P62 (fun Q h => ?h62) ?_; (case h62 => (simp only [tTest, tOp, tUn, tVar, tC, tCB, tCons, tNil, tAnd, tOr, tNot, tB, tTup, tLst, tIf, tAndV, tOrV, tNotV, tSl, tPart, tNoPart, tCall, iIx_ref, oGt_int, oMod_int, oFdiv_int, oAdd_int, oAdd_str, oSub_int, oMul_int, oLt_int, oGe_int, oLe_int, oPow_int, uNeg_int, oEq_int, oEq_str, oEq_bl, oNe_int, oNe_str, oNe_bl, cInt_int, cInt_bl, cAbs_int, cLen_ref, cList_ref, stL_ref, gName, gSub, gTup, gCons, gNil, rdSeq, List.getElem?_cons_zero, List.getElem?_cons_succ, List.set_cons_zero, List.set_cons_succ, List.cons_append, List.nil_append, Option.some.injEq, exists_eq_left', V.bl.injEq, V.int.injEq, V.ref.injEq, atI_0, atI_1, atI_2, setI_1, setI_2, Bool.not_true, Bool.not_false, Bool.false_eq_true, if_false, if_true, rSlA]; exact h)); (try dsimp only [gName, tNext, List.set_cons_zero, List.set_cons_succ]))
      rw [he] at k
      have c1 : HT.sIx (told.map oV).length 0 none = 0 := rfl
      have c2 : HT.sIx (told.map oV).length (told.map oV).length (some (m' : Int)) = m' := by rw [HT.sIx_nat, List.length_map]; omega
      refine ⟨t, _, rfl, ht.sqT, fun z => ?_, fun z q hq => ?_⟩
      · rw [c2, List.length_map] at z
        rw [z.2, List.take_length] at k
        exact k t H' .refl ht0
      · refine k q _ (Grow.new hq) ?_
        rw [upd_same]
        unfold cutV
        rw [c1, c2, List.drop_zero, Nat.sub_zero, List.map_take]
    (refine evT ?P63 (fun Q h => ?h63) ?_; (case h63 => (simp only [tTest, tOp, tUn, tVar, tC, tCB, tCons, tNil, tAnd, tOr, tNot, tB, tTup, tLst, tIf, tAndV, tOrV, tNotV, tSl, tPart, tNoPart, tCall, iIx_ref, oGt_int, oMod_int, oFdiv_int, oAdd_int, oAdd_str, oSub_int, oMul_int, oLt_int, oGe_int, oLe_int, oPow_int, uNeg_int, oEq_int, oEq_str, oEq_bl, oNe_int, oNe_str, oNe_bl, cInt_int, cInt_bl, cAbs_int, cLen_ref, cList_ref, stL_ref, gName, gSub, gTup, gCons, gNil, rdSeq, List.getElem?_cons_zero, List.getElem?_cons_succ, List.set_cons_zero, List.set_cons_succ, List.cons_append, List.nil_append, Option.some.injEq, exists_eq_left', V.bl.injEq, V.int.injEq, V.ref.injEq, atI_0, atI_1, atI_2, setI_1, setI_2, Bool.not_true, Bool.not_false, Bool.false_eq_true, if_false, if_true]; exact h)); (try dsimp only [gName, tNext, List.set_cons_zero, List.set_cons_succ]))
    refine ite_dec (fun hc => ?_) (fun hc => ?_)
    · obtain ⟨m, rfl⟩ : ∃ n, m = n + 1 := ⟨m - 1, by omega⟩
      have e1 : ((m + 1 : Nat) : Int) - 1 = (m : Int) := by omega
      rw [e1]
      refine ixE ht.sq (atI_map (d := none) (by omega)) ?_
      have e2 : (m : Int) - (gains.length : Int) = ((m - gains.length : Nat) : Int) := by omega
      rw [e2]
      refine ixE ht.sq (atI_map (d := none) (by omega)) ?_
      have hmm : m % gains.length < gains.length := Nat.mod_lt _ hp
      refine ⟨by omega, ixE hg (by rw [← Int.natCast_emod]; exact atI_map (d := 0) hmm) ?_⟩
      simp only [tTest, tOp, tUn, tVar, tC, tCB, tCons, tNil, tAnd, tOr, tNot, tB, tTup, tLst, tIf, tAndV, tOrV, tNotV, tSl, tPart, tNoPart, tCall, iIx_ref, oGt_int, oMod_int, oFdiv_int, oAdd_int, oAdd_str, oSub_int, oMul_int, oLt_int, oGe_int, oLe_int, oPow_int, uNeg_int, oEq_int, oEq_str, oEq_bl, oNe_int, oNe_str, oNe_bl, cInt_int, cInt_bl, cAbs_int, cLen_ref, cList_ref, stL_ref, gName, gSub, gTup, gCons, gNil, rdSeq, List.getElem?_cons_zero, List.getElem?_cons_succ, List.set_cons_zero, List.set_cons_succ, List.cons_append, List.nil_append, Option.some.injEq, exists_eq_left', V.bl.injEq, V.int.injEq, V.ref.injEq, atI_0, atI_1, atI_2, setI_1, setI_2, Bool.not_true, Bool.not_false, Bool.false_eq_true, if_false, if_true, added_oV]
      refine eqE ⟨_, rfl, ?_⟩
      refine ite_dec (fun hq => ?_) (fun hq => ?_)
      · have ht' : trimN told gains (m + 1) = trimN told gains m := by
          show (if gains.length < m + 1 ∧ told.getD m none = (told.getD (m - gains.length) none).map (· + gains.getD (m % gains.length) 0) then trimN told gains m else m + 1) = _
          rw [if_pos ⟨by omega, hq⟩]
        refine ⟨fun σ' H'' => H'' = H' ∧ σ' = [some (.ref t), some (.ref g), some (.int m), some (.int gains.length)], ?_, ?_⟩
        · rintro σ' H'' ⟨rfl, rfl⟩
          exact ⟨m, by omega, rfl, rfl, by omega, by omega, by rw [← ht', hm3]⟩
        · refine st_asg ?_
          (refine evE ?P64 (fun Q h => ?h64) ?_; (case h64 => (simp only [tTest, tOp, tUn, tVar, tC, tCB, tCons, tNil, tAnd, tOr, tNot, tB, tTup, tLst, tIf, tAndV, tOrV, tNotV, tSl, tPart, tNoPart, tCall, iIx_ref, oGt_int, oMod_int, oFdiv_int, oAdd_int, oAdd_str, oSub_int, oMul_int, oLt_int, oGe_int, oLe_int, oPow_int, uNeg_int, oEq_int, oEq_str, oEq_bl, oNe_int, oNe_str, oNe_bl, cInt_int, cInt_bl, cAbs_int, cLen_ref, cList_ref, stL_ref, gName, gSub, gTup, gCons, gNil, rdSeq, List.getElem?_cons_zero, List.getElem?_cons_succ, List.set_cons_zero, List.set_cons_succ, List.cons_append, List.nil_append, Option.some.injEq, exists_eq_left', V.bl.injEq, V.int.injEq, V.ref.injEq, atI_0, atI_1, atI_2, setI_1, setI_2, Bool.not_true, Bool.not_false, Bool.false_eq_true, if_false, if_true]; exact h)); (try dsimp only [gName, tNext, List.set_cons_zero, List.set_cons_succ]))
          exact ⟨rfl, by rw [e1]⟩
      · refine done (m + 1) (by omega) ?_
        rw [← hm3]
        show (if gains.length < m + 1 ∧ told.getD m none = (told.getD (m - gains.length) none).map (· + gains.getD (m % gains.length) 0) then trimN told gains m else m + 1) = m + 1
        rw [if_neg (fun z => hq z.2)]
    · refine done m hm2 ?_
      rw [← hm3]
      cases m with
      | zero => rfl
      | succ m =>
        show (if gains.length < m + 1 ∧ told.getD m none = (told.getD (m - gains.length) none).map (· + gains.getD (m % gains.length) 0) then trimN told gains m else m + 1) = m + 1
        rw [if_neg (fun z => by omega)]
  · exact h.elim

def sp_normal_form (K : PySem.W.Frag) (A : Ad) : Sp := fun vs H Q _ => match vs with
  | [.ref t, .ref g] => ∃ (told : List (Option Int)) (gains : List Int), H t = some (.tup (List.map oV told)) ∧ St K H g (gains.map V.int) ∧ 0 < gains.length ∧ gains.length ≤ told.length ∧ told.length ≤ 100000 ∧ gains.length ≤ 10000 ∧ BnA gains ∧
      ∀ r t' g' H', Grow H H' → H' r = some (.tup [.ref t', .ref g']) → H' t' = some (.tup (List.map oV (nfT told gains))) → H' g' = some (.tup ((nfG told gains).map V.int)) → Q (.ref r) H'
  | _ => False
def t_normal_form_3 (K : PySem.W.Frag) (A : Ad) : TS := (tRet (tTup (tCons (tCall (sp_trimmed K A) [] E0 (tCons (tVar 0) (tCons (tVar 5) tNil))) (tCons (tVar 5) tNil))))
def t_normal_form_2 (K : PySem.W.Frag) (A : Ad) : TS := (tSeq (tAsg (tCall (sp_least_gains K A) [] E0 (tCons (tVar 4) (tCons (tVar 2) (tCons (tVar 3) tNil)))) (gName 5)) (t_normal_form_3 K A))
def t_normal_form_1 (K : PySem.W.Frag) (A : Ad) : TS := (tSeq (tAsg (tLc (iRng1 (tCons (tOp oMul (tC (.int 3)) (tVar 3)) tNil)) (gName 6) tYes (tCall (sp_value_at K A) [] E0 (tCons (tVar 0) (tCons (tVar 1) (tCons (tOp oAdd (tVar 2) (tVar 6)) tNil)))) [6]) (gName 4)) (t_normal_form_2 K A))
def t_normal_form_0 (K : PySem.W.Frag) (A : Ad) : TS := (tSeq (tAsg (tTup (tCons (tCB (cLenE K) (tCons (tVar 0) tNil)) (tCons (tCB (cLenE K) (tCons (tVar 1) tNil)) tNil))) (gTup K 2 (gCons (gName 2) (gCons (gName 3) gNil)))) (t_normal_form_1 K A))

theorem bn_nat {m n : Nat} (h : n < 2 ^ m) : Bn m (n : Int) := by unfold Bn; rw [Int.natAbs_natCast]; exact h
theorem lt_pow_big {n : Nat} (h : n ≤ 1000000) : Bn 100000 (n : Int) := (bn_nat (m := 20) (by omega)).up (by decide)
theorem pure_normal_form {K : PySem.W.Frag} {A : Ad} {vs : List V} {H : Hp} {Q : VK} {E : XK} (h : sp_normal_form K A vs H Q E) : (t_normal_form_0 K A) { nx := fun _ H' => Q .non H', rt := Q } (start ["told", "gains", "origin", "period", "row", "least", "at"] vs) H := by
  unfold sp_normal_form at h
  split at h
  · rename_i t g
    obtain ⟨told, gains, ht0, hg, hp, hpl, hs, hs2, bg, k⟩ := h
    have ht : St K H t (told.map oV) := .t ht0
    have hsz : sizeLine = 16777216 := rfl
    show (t_normal_form_0 K A) _ [some (.ref t), some (.ref g), none, none, none, none, none] H
    refine st_seq (st_asg ?_)
    (refine evE ?P65 (fun Q h => ?h65) ?_; (case h65 => (simp only [tTest, tOp, tUn, tVar, tC, tCB, tCons, tNil, tAnd, tOr, tNot, tB, tTup, tLst, tIf, tAndV, tOrV, tNotV, tSl, tPart, tNoPart, tCall, iIx_ref, oGt_int, oMod_int, oFdiv_int, oAdd_int, oAdd_str, oSub_int, oMul_int, oLt_int, oGe_int, oLe_int, oPow_int, uNeg_int, oEq_int, oEq_str, oEq_bl, oNe_int, oNe_str, oNe_bl, cInt_int, cInt_bl, cAbs_int, cLen_ref, cList_ref, stL_ref, gName, gSub, gTup, gCons, gNil, rdSeq, List.getElem?_cons_zero, List.getElem?_cons_succ, List.set_cons_zero, List.set_cons_succ, List.cons_append, List.nil_append, Option.some.injEq, exists_eq_left', V.bl.injEq, V.int.injEq, V.ref.injEq, atI_0, atI_1, atI_2, setI_1, setI_2, Bool.not_true, Bool.not_false, Bool.false_eq_true, if_false, if_true]; exact h)); (try dsimp only [gName, tNext, List.set_cons_zero, List.set_cons_succ]))
    refine lenE ht.sq (lenE hg.sq ?_)
    refine ⟨by show 2 ≤ sizeLine; decide, fun pt hpt => ?_⟩
    refine ⟨pt, _, rfl, SqT.of upd_same, rfl, ?_⟩
    refine ⟨_, _, rfl, ?_⟩
    refine ⟨_, _, rfl, ?_⟩
    refine ⟨rfl, ?_⟩
    (try dsimp only [gName, tNext, List.set_cons_zero, List.set_cons_succ])
    rw [List.length_map, List.length_map]
    have g0 := Grow.new (o := .tup [.int told.length, .int gains.length]) hpt
    replace ht := ht.grow g0
    replace ht0 := g0 _ _ ht0
    replace hg := hg.grow g0
    replace k := fun r t' g' H' (g : Grow (upd H pt (.tup [.int told.length, .int gains.length])) H') => k r t' g' H' (g0.trans g)
    generalize upd H pt (.tup [.int told.length, .int gains.length]) = H at *
    refine st_seq (st_asg (lc_ev ?_))
    unfold iRng1
    (refine evA ?P73 (fun Q h => ?h73) ?_; (case h73 => (simp only [tTest, tOp, tUn, tVar, tC, tCB, tCons, tNil, tAnd, tOr, tNot, tB, tTup, tLst, tIf, tAndV, tOrV, tNotV, tSl, tPart, tNoPart, tCall, iIx_ref, oGt_int, oMod_int, oFdiv_int, oAdd_int, oAdd_str, oSub_int, oMul_int, oLt_int, oGe_int, oLe_int, oPow_int, uNeg_int, oEq_int, oEq_str, oEq_bl, oNe_int, oNe_str, oNe_bl, cInt_int, cInt_bl, cAbs_int, cLen_ref, cList_ref, stL_ref, gName, gSub, gTup, gCons, gNil, rdSeq, List.getElem?_cons_zero, List.getElem?_cons_succ, List.set_cons_zero, List.set_cons_succ, List.cons_append, List.nil_append, Option.some.injEq, exists_eq_left', V.bl.injEq, V.int.injEq, V.ref.injEq, atI_0, atI_1, atI_2, setI_1, setI_2, Bool.not_true, Bool.not_false, Bool.false_eq_true, if_false, if_true]; exact h)))
    refine ⟨mulok_left (by decide) (by decide), _, rfl, by omega, by omega, ?_⟩
    have en : (3 * (gains.length : Int)).toNat = 3 * gains.length := by omega
    rw [en]
    refine lc_map jok_rng (fun j => oV (gv told gains (told.length + j))) (by omega) (fun j hj H' g' R hR => ?_) (fun D H' g1 hD hd => ?_) (by exact fun x => rfl)
    · (refine evE ?P66 (fun Q h => ?h66) ?_; (case h66 => (simp only [tTest, tOp, tUn, tVar, tC, tCB, tCons, tNil, tAnd, tOr, tNot, tB, tTup, tLst, tIf, tAndV, tOrV, tNotV, tSl, tPart, tNoPart, tCall, iIx_ref, oGt_int, oMod_int, oFdiv_int, oAdd_int, oAdd_str, oSub_int, oMul_int, oLt_int, oGe_int, oLe_int, oPow_int, uNeg_int, oEq_int, oEq_str, oEq_bl, oNe_int, oNe_str, oNe_bl, cInt_int, cInt_bl, cAbs_int, cLen_ref, cList_ref, stL_ref, gName, gSub, gTup, gCons, gNil, rdSeq, List.getElem?_cons_zero, List.getElem?_cons_succ, List.set_cons_zero, List.set_cons_succ, List.cons_append, List.nil_append, Option.some.injEq, exists_eq_left', V.bl.injEq, V.int.injEq, V.ref.injEq, atI_0, atI_1, atI_2, setI_1, setI_2, Bool.not_true, Bool.not_false, Bool.false_eq_true, if_false, if_true, wipe]; exact h)); (try dsimp only [gName, tNext, List.set_cons_zero, List.set_cons_succ]))
      have e0 : (told.length : Int) + (0 + (j : Int)) = ((told.length + j : Nat) : Int) := by omega
      rw [e0]
      refine ⟨told, gains, ht.sq.grow g', hg.sq.grow g', by omega, hp, hpl, by omega, bg, lt_pow_big (by omega), ?_⟩
      rw [Int.toNat_natCast]
      exact hR _ .refl
    (try dsimp only [gName, tNext, List.set_cons_zero, List.set_cons_succ])
    have hrow : H' D = some (.lst ((rowOf told gains).map oV)) := by
      rw [hd]
      unfold rowOf
      rw [List.map_map]
      rfl
    have G := gr_gv hp hpl
    obtain ⟨rl1, _⟩ := rowOf_ok G
    obtain ⟨n1, n2, n3, n4⟩ := nf_spec G
    refine st_seq (st_asg ?_)
    (refine evE ?P67 (fun Q h => ?h67) ?_; (case h67 => (simp only [tTest, tOp, tUn, tVar, tC, tCB, tCons, tNil, tAnd, tOr, tNot, tB, tTup, tLst, tIf, tAndV, tOrV, tNotV, tSl, tPart, tNoPart, tCall, iIx_ref, oGt_int, oMod_int, oFdiv_int, oAdd_int, oAdd_str, oSub_int, oMul_int, oLt_int, oGe_int, oLe_int, oPow_int, uNeg_int, oEq_int, oEq_str, oEq_bl, oNe_int, oNe_str, oNe_bl, cInt_int, cInt_bl, cAbs_int, cLen_ref, cList_ref, stL_ref, gName, gSub, gTup, gCons, gNil, rdSeq, List.getElem?_cons_zero, List.getElem?_cons_succ, List.set_cons_zero, List.set_cons_succ, List.cons_append, List.nil_append, Option.some.injEq, exists_eq_left', V.bl.injEq, V.int.injEq, V.ref.injEq, atI_0, atI_1, atI_2, setI_1, setI_2, Bool.not_true, Bool.not_false, Bool.false_eq_true, if_false, if_true]; exact h)); (try dsimp only [gName, tNext, List.set_cons_zero, List.set_cons_succ]))
    refine ⟨rowOf told gains, told.length, gains.length, nfG told gains, rfl, rfl, hrow, hp, by omega, by omega, n1, fun l H2 g2 hl => ?_⟩
    (try dsimp only [gName, tNext, List.set_cons_zero, List.set_cons_succ])
    refine st_ret ?_
    (refine evE ?P68 (fun Q h => ?h68) ?_; (case h68 => (simp only [tTest, tOp, tUn, tVar, tC, tCB, tCons, tNil, tAnd, tOr, tNot, tB, tTup, tLst, tIf, tAndV, tOrV, tNotV, tSl, tPart, tNoPart, tCall, iIx_ref, oGt_int, oMod_int, oFdiv_int, oAdd_int, oAdd_str, oSub_int, oMul_int, oLt_int, oGe_int, oLe_int, oPow_int, uNeg_int, oEq_int, oEq_str, oEq_bl, oNe_int, oNe_str, oNe_bl, cInt_int, cInt_bl, cAbs_int, cLen_ref, cList_ref, stL_ref, gName, gSub, gTup, gCons, gNil, rdSeq, List.getElem?_cons_zero, List.getElem?_cons_succ, List.set_cons_zero, List.set_cons_succ, List.cons_append, List.nil_append, Option.some.injEq, exists_eq_left', V.bl.injEq, V.int.injEq, V.ref.injEq, atI_0, atI_1, atI_2, setI_1, setI_2, Bool.not_true, Bool.not_false, Bool.false_eq_true, if_false, if_true]; exact h)); (try dsimp only [gName, tNext, List.set_cons_zero, List.set_cons_succ]))
    refine ⟨told, nfG told gains, (g1.trans g2) _ _ ht0, .t hl, n3.pos, n3.le, by omega, fun t' H3 g3 ht' => ?_⟩
    refine ⟨by show 2 ≤ sizeLine; decide, fun r hr => ?_⟩
    exact k r t' l _ ((g1.trans g2).trans (g3.trans (Grow.new hr))) upd_same ((Grow.new hr) _ _ ht') ((g3.trans (Grow.new hr)) _ _ hl)
  · exact h.elim
/-- a growth stands at a -/
def GrAt (K : PySem.W.Frag) (A : Ad) (H : Hp) (a : Addr) (told : List (Option Int)) (gains : List Int) : Prop :=
  ∃ dx t g, H a = some (.ins A.c_Growth dx [("told", .ref t), ("gains", .ref g)]) ∧ H t = some (.tup (List.map oV told)) ∧ H g = some (.tup (gains.map V.int))
theorem GrAt.grow {K : PySem.W.Frag} {A : Ad} {H H' : Hp} {a : Addr} {told : List (Option Int)} {gains : List Int} (h : GrAt K A H a told gains) (g : Grow H H') : GrAt K A H' a told gains := by
  obtain ⟨dx, t, gg, h1, h2, h3⟩ := h
  exact ⟨dx, t, gg, g _ _ h1, g _ _ h2, g _ _ h3⟩
structure KF (K : PySem.W.Frag) (A : Ad) : Prop where
  cl : Cls K A.c_Growth
  ut : NoAttr K A.c_Growth "told"
  ug : NoAttr K A.c_Growth "gains"
  dt : ∀ H, St K H A.dt_Growth_init_0 [.int 0]
  it : InsTy K A.c_Growth
  ki : PySem.W.kitOne K (.ref A.c_Growth) (.type "int") = some false
  kr : PySem.W.kitOne K (.ref A.c_Growth) (.ref A.c_Growth) = some true
  ks : ∀ n ∈ ["int", "bool", "NoneType", "str", "list", "tuple", "dict"], PySem.W.kitOne K (.type n) (.ref A.c_Growth) = some false
  nr : PySem.W.notFirst K A.c_Growth (.ref A.c_Growth) = true
  nf : ∀ n ∈ ["int", "bool", "NoneType", "str", "list", "tuple", "dict"], PySem.W.notFirst K A.c_Growth (.type n) = true
def sp_Growth_init (K : PySem.W.Frag) (A : Ad) : Sp := fun vs H Q _ => match vs with
  | [.ref x, .ref t, .ref g] => ∃ (dx : Addr) (told : List (Option Int)) (gains : List Int), H x = some (.ins A.c_Growth dx []) ∧ Sr H t (told.map oV) ∧ Sq K H g (gains.map V.int) ∧ 0 < gains.length ∧ gains.length ≤ 60 ∧ gains.length ≤ told.length ∧ told.length ≤ 100000 ∧ BnA gains ∧ (nfT told gains).length ≤ 4000 ∧
      ∀ H', (∀ b o, b ≠ x → H b = some o → H' b = some o) → GrAt K A H' x (nfT told gains) (nfG told gains) → Q .non H'
  | _ => False
def t_Growth_init_1 (K : PySem.W.Frag) (A : Ad) : TS := tNever
def t_Growth_init_3 (K : PySem.W.Frag) (A : Ad) : TS := tNever
def t_Growth_init_6 (K : PySem.W.Frag) (A : Ad) : TS := tNever
def t_Growth_init_5 (K : PySem.W.Frag) (A : Ad) : TS := (tIfS (tTest (tOp oGt (tCB (cLenE K) (tCons (tFld K (tVar 0) "told") tNil)) (tC (.int 4000)))) (t_Growth_init_6 K A) tNext)
def t_Growth_init_4 (K : PySem.W.Frag) (A : Ad) : TS := (tSeq (tAsg (tCall (sp_normal_form K A) [] E0 (tCons (tCB (cTupE K) (tCons (tVar 1) tNil)) (tCons (tCB (cTupE K) (tCons (tVar 2) tNil)) tNil))) (gTup K 2 (gCons (gFld K (tVar 0) "told") (gCons (gFld K (tVar 0) "gains") gNil)))) (t_Growth_init_5 K A))
def t_Growth_init_2 (K : PySem.W.Frag) (A : Ad) : TS := (tSeq (tIfS (tOr (tNot (tB (tCall (sp_is_list K A) [] E0 (tCons (tVar 1) (tCons (tCB (cLenE K) (tCons (tVar 2) tNil)) tNil))))) (tNot (tB (tCB (cAll K) (tCons (tLc (iSeq K (tVar 1)) (gName 4) tYes (tCall (sp_is_value K A) [] E0 (tCons (tVar 4) tNil)) [4]) tNil))))) (t_Growth_init_3 K A) tNext) (t_Growth_init_4 K A))
def t_Growth_init_0 (K : PySem.W.Frag) (A : Ad) : TS := (tSeq (tIfS (tOr (tNot (tB (tCall (sp_is_list K A) [] E0 (tCons (tVar 2) (tCons (tC (.int 1)) tNil))))) (tOr (tTest (tOp oGt (tCB (cLenE K) (tCons (tVar 2) tNil)) (tC (.int 60)))) (tNot (tB (tCB (cAll K) (tCons (tLc (iSeq K (tVar 2)) (gName 3) tYes (tCall (sp_is_integer K A) [] E0 (tCons (tVar 3) tNil)) [3]) tNil)))))) (t_Growth_init_1 K A) tNext) (t_Growth_init_2 K A))

theorem pure_Growth_init {K : PySem.W.Frag} {A : Ad} {vs : List V} {H : Hp} {Q : VK} {E : XK} (F : KF K A) (h : sp_Growth_init K A vs H Q E) : (t_Growth_init_0 K A) { nx := fun _ H' => Q .non H', rt := Q } (start ["self", "told", "gains", "gain", "value"] vs) H := by
  unfold sp_Growth_init at h
  split at h
  · rename_i x t g
    obtain ⟨dx, told, gains, hx, ht, hg, hp, hp60, hpl, hs, bg, h4k, k⟩ := h
    have htq : Sq K H t (told.map oV) := ht.sq
    have hsz : sizeLine = 16777216 := rfl
    show (t_Growth_init_0 K A) _ [some (.ref x), some (.ref t), some (.ref g), none, none] H
    refine st_seq (st_if ?_)
    (refine evT ?P74 (fun Q h => ?h74) ?_; (case h74 => (simp only [tTest, tOp, tUn, tVar, tC, tCB, tCons, tNil, tAnd, tOr, tNot, tB, tTup, tLst, tIf, tAndV, tOrV, tNotV, tSl, tPart, tNoPart, tCall, iIx_ref, oGt_int, oMod_int, oFdiv_int, oAdd_int, oAdd_str, oSub_int, oMul_int, oLt_int, oGe_int, oLe_int, oPow_int, uNeg_int, oEq_int, oEq_str, oEq_bl, oNe_int, oNe_str, oNe_bl, cInt_int, cInt_bl, cAbs_int, cLen_ref, cList_ref, stL_ref, gName, gSub, gTup, gCons, gNil, rdSeq, List.getElem?_cons_zero, List.getElem?_cons_succ, List.set_cons_zero, List.set_cons_succ, List.cons_append, List.nil_append, Option.some.injEq, exists_eq_left', V.bl.injEq, V.int.injEq, V.ref.injEq, atI_0, atI_1, atI_2, setI_1, setI_2, Bool.not_true, Bool.not_false, Bool.false_eq_true, if_false, if_true]; exact h)))
    refine ⟨_, hg, fun H1 g1 => ?_⟩
    rw [List.length_map, decide_eq_true (by omega)]
    simp only [tTest, tOp, tUn, tVar, tC, tCB, tCons, tNil, tAnd, tOr, tNot, tB, tTup, tLst, tIf, tAndV, tOrV, tNotV, tSl, tPart, tNoPart, tCall, iIx_ref, oGt_int, oMod_int, oFdiv_int, oAdd_int, oAdd_str, oSub_int, oMul_int, oLt_int, oGe_int, oLe_int, oPow_int, uNeg_int, oEq_int, oEq_str, oEq_bl, oNe_int, oNe_str, oNe_bl, cInt_int, cInt_bl, cAbs_int, cLen_ref, cList_ref, stL_ref, gName, gSub, gTup, gCons, gNil, rdSeq, List.getElem?_cons_zero, List.getElem?_cons_succ, List.set_cons_zero, List.set_cons_succ, List.cons_append, List.nil_append, Option.some.injEq, exists_eq_left', V.bl.injEq, V.int.injEq, V.ref.injEq, atI_0, atI_1, atI_2, setI_1, setI_2, Bool.not_true, Bool.not_false, Bool.false_eq_true, if_false, if_true]
    refine lenE (hg.grow g1) ?_
    rw [List.length_map]
    simp only [tTest, tOp, tUn, tVar, tC, tCB, tCons, tNil, tAnd, tOr, tNot, tB, tTup, tLst, tIf, tAndV, tOrV, tNotV, tSl, tPart, tNoPart, tCall, iIx_ref, oGt_int, oMod_int, oFdiv_int, oAdd_int, oAdd_str, oSub_int, oMul_int, oLt_int, oGe_int, oLe_int, oPow_int, uNeg_int, oEq_int, oEq_str, oEq_bl, oNe_int, oNe_str, oNe_bl, cInt_int, cInt_bl, cAbs_int, cLen_ref, cList_ref, stL_ref, gName, gSub, gTup, gCons, gNil, rdSeq, List.getElem?_cons_zero, List.getElem?_cons_succ, List.set_cons_zero, List.set_cons_succ, List.cons_append, List.nil_append, Option.some.injEq, exists_eq_left', V.bl.injEq, V.int.injEq, V.ref.injEq, atI_0, atI_1, atI_2, setI_1, setI_2, Bool.not_true, Bool.not_false, Bool.false_eq_true, if_false, if_true]
    rw [decide_eq_false (by omega)]
    refine if_no (lc_ev ?_)
    unfold iSeq
    (refine evE ?P75 (fun Q h => ?h75) ?_; (case h75 => (simp only [tTest, tOp, tUn, tVar, tC, tCB, tCons, tNil, tAnd, tOr, tNot, tB, tTup, tLst, tIf, tAndV, tOrV, tNotV, tSl, tPart, tNoPart, tCall, iIx_ref, oGt_int, oMod_int, oFdiv_int, oAdd_int, oAdd_str, oSub_int, oMul_int, oLt_int, oGe_int, oLe_int, oPow_int, uNeg_int, oEq_int, oEq_str, oEq_bl, oNe_int, oNe_str, oNe_bl, cInt_int, cInt_bl, cAbs_int, cLen_ref, cList_ref, stL_ref, gName, gSub, gTup, gCons, gNil, rdSeq, List.getElem?_cons_zero, List.getElem?_cons_succ, List.set_cons_zero, List.set_cons_succ, List.cons_append, List.nil_append, Option.some.injEq, exists_eq_left', V.bl.injEq, V.int.injEq, V.ref.injEq, atI_0, atI_1, atI_2, setI_1, setI_2, Bool.not_true, Bool.not_false, Bool.false_eq_true, if_false, if_true]; exact h)))
    refine jok_sq (hg.grow g1) fun J hJ => ?_
    refine lc_map hJ (fun _ => .bl true) (by rw [List.length_map]; omega) (fun j hj H' g' R hR => ?_) (fun D H2 g2 hD hd => ?_) (by exact fun x => rfl)
    · (refine evE ?P69 (fun Q h => ?h69) ?_; (case h69 => (simp only [tTest, tOp, tUn, tVar, tC, tCB, tCons, tNil, tAnd, tOr, tNot, tB, tTup, tLst, tIf, tAndV, tOrV, tNotV, tSl, tPart, tNoPart, tCall, iIx_ref, oGt_int, oMod_int, oFdiv_int, oAdd_int, oAdd_str, oSub_int, oMul_int, oLt_int, oGe_int, oLe_int, oPow_int, uNeg_int, oEq_int, oEq_str, oEq_bl, oNe_int, oNe_str, oNe_bl, cInt_int, cInt_bl, cAbs_int, cLen_ref, cList_ref, stL_ref, gName, gSub, gTup, gCons, gNil, rdSeq, List.getElem?_cons_zero, List.getElem?_cons_succ, List.set_cons_zero, List.set_cons_succ, List.cons_append, List.nil_append, Option.some.injEq, exists_eq_left', V.bl.injEq, V.int.injEq, V.ref.injEq, atI_0, atI_1, atI_2, setI_1, setI_2, Bool.not_true, Bool.not_false, Bool.false_eq_true, if_false, if_true, wipe]; exact h)); (try dsimp only [gName, tNext, List.set_cons_zero, List.set_cons_succ]))
      rw [List.length_map] at hj
      rw [List.getD_eq_getElem?_getD, List.getElem?_map, List.getElem?_eq_getElem hj]
      exact hR _ .refl
    refine ⟨D, List.replicate gains.length true, rfl, ?_, ⟨_, rfl, ?_⟩⟩
    · rw [hd, List.length_map, List.map_replicate, List.map_const', List.length_range]
    have ha : (List.replicate gains.length true).all id = true := by simp
    rw [ha]
    (refine if_no ?_; (try dsimp only [gName, tNext, List.set_cons_zero, List.set_cons_succ]))
    have g12 := g1.trans g2
    refine st_seq (st_if ?_)
    (refine evT ?P76 (fun Q h => ?h76) ?_; (case h76 => (simp only [tTest, tOp, tUn, tVar, tC, tCB, tCons, tNil, tAnd, tOr, tNot, tB, tTup, tLst, tIf, tAndV, tOrV, tNotV, tSl, tPart, tNoPart, tCall, iIx_ref, oGt_int, oMod_int, oFdiv_int, oAdd_int, oAdd_str, oSub_int, oMul_int, oLt_int, oGe_int, oLe_int, oPow_int, uNeg_int, oEq_int, oEq_str, oEq_bl, oNe_int, oNe_str, oNe_bl, cInt_int, cInt_bl, cAbs_int, cLen_ref, cList_ref, stL_ref, gName, gSub, gTup, gCons, gNil, rdSeq, List.getElem?_cons_zero, List.getElem?_cons_succ, List.set_cons_zero, List.set_cons_succ, List.cons_append, List.nil_append, Option.some.injEq, exists_eq_left', V.bl.injEq, V.int.injEq, V.ref.injEq, atI_0, atI_1, atI_2, setI_1, setI_2, Bool.not_true, Bool.not_false, Bool.false_eq_true, if_false, if_true]; exact h)))
    refine lenE (hg.grow g12) ?_
    rw [List.length_map]
    refine ⟨_, htq.grow g12, fun H3 g3 => ?_⟩
    rw [List.length_map, decide_eq_true (by omega)]
    simp only [tTest, tOp, tUn, tVar, tC, tCB, tCons, tNil, tAnd, tOr, tNot, tB, tTup, tLst, tIf, tAndV, tOrV, tNotV, tSl, tPart, tNoPart, tCall, iIx_ref, oGt_int, oMod_int, oFdiv_int, oAdd_int, oAdd_str, oSub_int, oMul_int, oLt_int, oGe_int, oLe_int, oPow_int, uNeg_int, oEq_int, oEq_str, oEq_bl, oNe_int, oNe_str, oNe_bl, cInt_int, cInt_bl, cAbs_int, cLen_ref, cList_ref, stL_ref, gName, gSub, gTup, gCons, gNil, rdSeq, List.getElem?_cons_zero, List.getElem?_cons_succ, List.set_cons_zero, List.set_cons_succ, List.cons_append, List.nil_append, Option.some.injEq, exists_eq_left', V.bl.injEq, V.int.injEq, V.ref.injEq, atI_0, atI_1, atI_2, setI_1, setI_2, Bool.not_true, Bool.not_false, Bool.false_eq_true, if_false, if_true]
    refine lc_ev ?_
    unfold iSeq
    (refine evE ?P77 (fun Q h => ?h77) ?_; (case h77 => (simp only [tTest, tOp, tUn, tVar, tC, tCB, tCons, tNil, tAnd, tOr, tNot, tB, tTup, tLst, tIf, tAndV, tOrV, tNotV, tSl, tPart, tNoPart, tCall, iIx_ref, oGt_int, oMod_int, oFdiv_int, oAdd_int, oAdd_str, oSub_int, oMul_int, oLt_int, oGe_int, oLe_int, oPow_int, uNeg_int, oEq_int, oEq_str, oEq_bl, oNe_int, oNe_str, oNe_bl, cInt_int, cInt_bl, cAbs_int, cLen_ref, cList_ref, stL_ref, gName, gSub, gTup, gCons, gNil, rdSeq, List.getElem?_cons_zero, List.getElem?_cons_succ, List.set_cons_zero, List.set_cons_succ, List.cons_append, List.nil_append, Option.some.injEq, exists_eq_left', V.bl.injEq, V.int.injEq, V.ref.injEq, atI_0, atI_1, atI_2, setI_1, setI_2, Bool.not_true, Bool.not_false, Bool.false_eq_true, if_false, if_true]; exact h)))
    refine jok_sq ((htq.grow g12).grow g3) fun J hJ => ?_
    refine lc_map hJ (fun _ => .bl true) (by rw [List.length_map]; omega) (fun j hj H' g' R hR => ?_) (fun D2 H4 g4 hD2 hd2 => ?_) (by exact fun x => rfl)
    · (refine evE ?P70 (fun Q h => ?h70) ?_; (case h70 => (simp only [tTest, tOp, tUn, tVar, tC, tCB, tCons, tNil, tAnd, tOr, tNot, tB, tTup, tLst, tIf, tAndV, tOrV, tNotV, tSl, tPart, tNoPart, tCall, iIx_ref, oGt_int, oMod_int, oFdiv_int, oAdd_int, oAdd_str, oSub_int, oMul_int, oLt_int, oGe_int, oLe_int, oPow_int, uNeg_int, oEq_int, oEq_str, oEq_bl, oNe_int, oNe_str, oNe_bl, cInt_int, cInt_bl, cAbs_int, cLen_ref, cList_ref, stL_ref, gName, gSub, gTup, gCons, gNil, rdSeq, List.getElem?_cons_zero, List.getElem?_cons_succ, List.set_cons_zero, List.set_cons_succ, List.cons_append, List.nil_append, Option.some.injEq, exists_eq_left', V.bl.injEq, V.int.injEq, V.ref.injEq, atI_0, atI_1, atI_2, setI_1, setI_2, Bool.not_true, Bool.not_false, Bool.false_eq_true, if_false, if_true, wipe]; exact h)); (try dsimp only [gName, tNext, List.set_cons_zero, List.set_cons_succ]))
      rw [List.length_map] at hj
      rw [List.getD_eq_getElem?_getD, List.getElem?_map, List.getElem?_eq_getElem hj]
      show sp_is_value K A [oV _] _ _ _
      rw [isv_oV]
      exact hR _ .refl
    refine ⟨D2, List.replicate told.length true, rfl, ?_, ⟨_, rfl, ?_⟩⟩
    · rw [hd2, List.length_map, List.map_replicate, List.map_const', List.length_range]
    have ha2 : (List.replicate told.length true).all id = true := by simp
    rw [ha2]
    (refine if_no ?_; (try dsimp only [gName, tNext, List.set_cons_zero, List.set_cons_succ]))
    have g14 := (g12.trans g3).trans g4
    refine st_seq (st_asg ?_)
    (refine evE ?P78 (fun Q h => ?h78) ?_; (case h78 => (simp only [tTest, tOp, tUn, tVar, tC, tCB, tCons, tNil, tAnd, tOr, tNot, tB, tTup, tLst, tIf, tAndV, tOrV, tNotV, tSl, tPart, tNoPart, tCall, iIx_ref, oGt_int, oMod_int, oFdiv_int, oAdd_int, oAdd_str, oSub_int, oMul_int, oLt_int, oGe_int, oLe_int, oPow_int, uNeg_int, oEq_int, oEq_str, oEq_bl, oNe_int, oNe_str, oNe_bl, cInt_int, cInt_bl, cAbs_int, cLen_ref, cList_ref, stL_ref, gName, gSub, gTup, gCons, gNil, rdSeq, List.getElem?_cons_zero, List.getElem?_cons_succ, List.set_cons_zero, List.set_cons_succ, List.cons_append, List.nil_append, Option.some.injEq, exists_eq_left', V.bl.injEq, V.int.injEq, V.ref.injEq, atI_0, atI_1, atI_2, setI_1, setI_2, Bool.not_true, Bool.not_false, Bool.false_eq_true, if_false, if_true]; exact h)))
    refine tupR (ht.grow g14) fun t1 H5 g5 ht1 => ?_
    refine tupE ((hg.grow g14).grow g5) fun q1 H6 g6 hg1 => ?_
    refine ⟨told, gains, g6 _ _ ht1, hg1, hp, hpl, hs, by omega, bg, fun r t' g' H7 g7 hr ht' hg' => ?_⟩
    have g17 := (g14.trans g5).trans (g6.trans g7)
    have hx7 := g17 _ _ hx
    refine ⟨r, _, rfl, SqT.of hr, rfl, ?_⟩
    refine ⟨_, _, rfl, ?_⟩
    refine ⟨_, rfl, x, _, dx, _, rfl, hx7, F.cl, F.ut, by decide, ?_⟩
    refine ⟨_, _, rfl, ?_⟩
    refine ⟨_, rfl, x, _, dx, _, rfl, upd_same, F.cl, F.ug, by show 1 < 1000; decide, ?_⟩
    refine ⟨rfl, ?_⟩
    generalize hH8 : upd (upd H7 x _) x _ = H8
    have hx8 : H8 x = some (.ins A.c_Growth dx [("told", .ref t'), ("gains", .ref g')]) := by rw [← hH8, upd_same]; rfl
    have kp : ∀ b o, b ≠ x → H7 b = some o → H8 b = some o := fun b o hb e => by rw [← hH8, upd_ne hb, upd_ne hb]; exact e
    have ht8 : H8 t' = some (.tup (List.map oV (nfT told gains))) := kp _ _ (fun z => by rw [z, hx7] at ht'; cases ht') ht'
    have hg8 : H8 g' = some (.tup ((nfG told gains).map V.int)) := kp _ _ (fun z => by rw [z, hx7] at hg'; cases hg') hg'
    show t_Growth_init_5 K A _ _ _
    refine st_if ?_
    (refine evT ?P71 (fun Q h => ?h71) ?_; (case h71 => (simp only [tTest, tOp, tUn, tVar, tC, tCB, tCons, tNil, tAnd, tOr, tNot, tB, tTup, tLst, tIf, tAndV, tOrV, tNotV, tSl, tPart, tNoPart, tCall, iIx_ref, oGt_int, oMod_int, oFdiv_int, oAdd_int, oAdd_str, oSub_int, oMul_int, oLt_int, oGe_int, oLe_int, oPow_int, uNeg_int, oEq_int, oEq_str, oEq_bl, oNe_int, oNe_str, oNe_bl, cInt_int, cInt_bl, cAbs_int, cLen_ref, cList_ref, stL_ref, gName, gSub, gTup, gCons, gNil, rdSeq, List.getElem?_cons_zero, List.getElem?_cons_succ, List.set_cons_zero, List.set_cons_succ, List.cons_append, List.nil_append, Option.some.injEq, exists_eq_left', V.bl.injEq, V.int.injEq, V.ref.injEq, atI_0, atI_1, atI_2, setI_1, setI_2, Bool.not_true, Bool.not_false, Bool.false_eq_true, if_false, if_true, tFld_eq, fldR_eq hx8 F.cl F.ut rfl]; exact h)); (try dsimp only [gName, tNext, List.set_cons_zero, List.set_cons_succ]))
    refine lenE (.t ht8) ?_
    rw [List.length_map]
    simp only [tTest, tOp, tUn, tVar, tC, tCB, tCons, tNil, tAnd, tOr, tNot, tB, tTup, tLst, tIf, tAndV, tOrV, tNotV, tSl, tPart, tNoPart, tCall, iIx_ref, oGt_int, oMod_int, oFdiv_int, oAdd_int, oAdd_str, oSub_int, oMul_int, oLt_int, oGe_int, oLe_int, oPow_int, uNeg_int, oEq_int, oEq_str, oEq_bl, oNe_int, oNe_str, oNe_bl, cInt_int, cInt_bl, cAbs_int, cLen_ref, cList_ref, stL_ref, gName, gSub, gTup, gCons, gNil, rdSeq, List.getElem?_cons_zero, List.getElem?_cons_succ, List.set_cons_zero, List.set_cons_succ, List.cons_append, List.nil_append, Option.some.injEq, exists_eq_left', V.bl.injEq, V.int.injEq, V.ref.injEq, atI_0, atI_1, atI_2, setI_1, setI_2, Bool.not_true, Bool.not_false, Bool.false_eq_true, if_false, if_true]
    rw [decide_eq_false (by omega)]
    (refine if_no ?_; (try dsimp only [gName, tNext, List.set_cons_zero, List.set_cons_succ]))
    exact k H8 (fun b o hb e => kp b o hb (g17 b o e)) ⟨dx, t', g', hx8, ht8, hg8⟩
  · exact h.elim

theorem mkG {K : PySem.W.Frag} {A : Ad} {t g : Addr} {told : List (Option Int)} {gains : List Int} {f : V → List V} {H : Hp} {Q : VK} (ht : Sr H t (told.map oV)) (hg : Sq K H g (gains.map V.int)) (hp : 0 < gains.length) (hp60 : gains.length ≤ 60) (hpl : gains.length ≤ told.length) (hs : told.length ≤ 100000) (bg : BnA gains) (h4k : (nfT told gains).length ≤ 4000)
    (k : ∀ c H', Grow H H' → GrAt K A H' c (nfT told gains) (nfG told gains) → Q (.ref c) H') (hf : ∀ r, f r = [r, .ref t, .ref g] := by exact fun _ => rfl) : MKf A.c_Growth (sp_Growth_init K A) E0 f H Q := by
  intro x dx hx hd hn
  rw [hf]
  have gr : Grow H (upd (upd H dx (.own x)) x (.ins A.c_Growth dx [])) := fun b o e => by
    rw [upd_ne (fun z => by rw [z, hx] at e; cases e), upd_ne (fun z => by rw [z, hd] at e; cases e)]; exact e
  refine ⟨dx, told, gains, upd_same, ht.grow gr, hg.grow gr, hp, hp60, hpl, hs, bg, h4k, fun H' h1 h2 => ⟨rfl, k x H' (fun b o e => h1 b o (fun z => by rw [z, hx] at e; cases e) (gr b o e)) h2⟩⟩
def sp_Growth_period (K : PySem.W.Frag) (A : Ad) : Sp := fun vs H Q _ => match vs with
  | [.ref a] => ∃ told gains, GrAt K A H a told gains ∧ Q (.int (gains.length : Int)) H
  | _ => False
def t_Growth_period_0 (K : PySem.W.Frag) (A : Ad) : TS := (tRet (tCB (cLenE K) (tCons (tFld K (tVar 0) "gains") tNil)))

theorem pure_Growth_period {K : PySem.W.Frag} {A : Ad} {vs : List V} {H : Hp} {Q : VK} {E : XK} (F : KF K A) (h : sp_Growth_period K A vs H Q E) : (t_Growth_period_0 K A) { nx := fun _ H' => Q .non H', rt := Q } (start ["self"] vs) H := by
  unfold sp_Growth_period at h
  split at h
  · rename_i a
    obtain ⟨told, gains, ⟨dx, t, g, h1, h2, h3⟩, k⟩ := h
    show (t_Growth_period_0 K A) _ [some (.ref a)] H
    refine st_ret ?_
    (refine evE ?P72 (fun Q h => ?h72) ?_; (case h72 => (simp only [tTest, tOp, tUn, tVar, tC, tCB, tCons, tNil, tAnd, tOr, tNot, tB, tTup, tLst, tIf, tAndV, tOrV, tNotV, tSl, tPart, tNoPart, tCall, iIx_ref, oGt_int, oMod_int, oFdiv_int, oAdd_int, oAdd_str, oSub_int, oMul_int, oLt_int, oGe_int, oLe_int, oPow_int, uNeg_int, oEq_int, oEq_str, oEq_bl, oNe_int, oNe_str, oNe_bl, cInt_int, cInt_bl, cAbs_int, cLen_ref, cList_ref, stL_ref, gName, gSub, gTup, gCons, gNil, rdSeq, List.getElem?_cons_zero, List.getElem?_cons_succ, List.set_cons_zero, List.set_cons_succ, List.cons_append, List.nil_append, Option.some.injEq, exists_eq_left', V.bl.injEq, V.int.injEq, V.ref.injEq, atI_0, atI_1, atI_2, setI_1, setI_2, Bool.not_true, Bool.not_false, Bool.false_eq_true, if_false, if_true, tFld_eq, fldR_eq h1 F.cl F.ug rfl]; exact h)); (try dsimp only [gName, tNext, List.set_cons_zero, List.set_cons_succ]))
    refine lenE (.t h3) ?_
    rw [List.length_map]
    exact k
  · exact h.elim
/-- the gains of the rests that last -/
def lastL (told : List (Option Int)) (gains : List Int) : List Int :=
  ((List.range gains.length).filter fun j => (told.getD (told.length - gains.length + j) none).isSome).map fun j => gains.getD ((told.length - gains.length + j) % gains.length) 0
theorem prG {A : Ad} {K : PySem.W.Frag} {a : Addr} {told : List (Option Int)} {gains : List Int} {sp : Sp} {H : Hp} {Q : VK} (h : GrAt K A H a told gains) (k : sp [.ref a] H Q E0) : PRf A.c_Growth sp [] E0 (.ref a) H Q := by
  obtain ⟨dx, t, g, h1, _⟩ := h
  exact ⟨a, dx, _, rfl, h1, k⟩

end HG

namespace HG
open PySem L2
def sp_need_integer (K : PySem.W.Frag) (A : Ad) : Sp := fun vs H Q _ => match vs with
  | [.int _] => Q .non H
  | _ => False
theorem need_int {K : PySem.W.Frag} {A : Ad} {i : Int} {H : Hp} {Q : VK} {E : XK} : sp_need_integer K A [.int i] H Q E = Q .non H := rfl
def t_need_integer_1 (K : PySem.W.Frag) (A : Ad) : TS := tNever
def t_need_integer_0 (K : PySem.W.Frag) (A : Ad) : TS := (tIfS (tNot (tB (tCall (sp_is_integer K A) [] E0 (tCons (tVar 0) tNil)))) (t_need_integer_1 K A) tNext)

theorem pure_need_integer {K : PySem.W.Frag} {A : Ad} {vs : List V} {H : Hp} {Q : VK} {E : XK} (h : sp_need_integer K A vs H Q E) : (t_need_integer_0 K A) { nx := fun _ H' => Q .non H', rt := Q } (start ["number"] vs) H := by
  unfold sp_need_integer at h
  split at h
  · show (t_need_integer_0 K A) _ [some (.int _)] H
    refine st_if ?_
    (refine evT ?P79 (fun Q h => ?h79) ?_; (case h79 => (simp only [tTest, tOp, tUn, tVar, tC, tCB, tCons, tNil, tAnd, tOr, tNot, tB, tTup, tLst, tIf, tAndV, tOrV, tNotV, tSl, tPart, tNoPart, tCall, iIx_ref, oGt_int, oMod_int, oFdiv_int, oAdd_int, oAdd_str, oSub_int, oMul_int, oLt_int, oGe_int, oLe_int, oPow_int, uNeg_int, oEq_int, oEq_str, oEq_bl, oNe_int, oNe_str, oNe_bl, cInt_int, cInt_bl, cAbs_int, cLen_ref, cList_ref, stL_ref, gName, gSub, gTup, gCons, gNil, rdSeq, List.getElem?_cons_zero, List.getElem?_cons_succ, List.set_cons_zero, List.set_cons_succ, List.cons_append, List.nil_append, Option.some.injEq, exists_eq_left', V.bl.injEq, V.int.injEq, V.ref.injEq, atI_0, atI_1, atI_2, setI_1, setI_2, Bool.not_true, Bool.not_false, Bool.false_eq_true, if_false, if_true, is_int]; exact h)); (try dsimp only [gName, tNext, List.set_cons_zero, List.set_cons_succ]))
    (refine if_no ?_; (try dsimp only [gName, tNext, List.set_cons_zero, List.set_cons_succ]))
    exact h
  · exact h.elim
theorem nfT_len (told : List (Option Int)) (gains : List Int) : (nfT told gains).length ≤ told.length := by
  unfold nfT
  rw [List.length_take]
  omega
theorem bnA_one {x : Int} (h : Bn 100000 x) : BnA [x] := fun y hy => by rw [List.mem_singleton] at hy; rw [hy]; exact h
def sp_shared_multiple (K : PySem.W.Frag) (A : Ad) : Sp := fun vs H Q _ => match vs with
  | [.int a, .int b] => 0 < a ∧ 0 < b ∧ Bn 8000 a ∧ Bn 8000 b ∧ Q (.int (a / (Int.gcd a b : Int) * b)) H
  | _ => False
def t_shared_multiple_2 (K : PySem.W.Frag) (A : Ad) : TS := (tPar 2 3 (tCons (tOp oMod (tVar 3) (tVar 2)) (tCons (tVar 2) tNil)))
def t_shared_multiple_3 (K : PySem.W.Frag) (A : Ad) : TS := (tRet (tOp oMul (tOp oFdiv (tVar 0) (tVar 3)) (tVar 1)))
def t_shared_multiple_1 (K : PySem.W.Frag) (A : Ad) : TS := (tSeq (tWhile (tTest (tOp oGt (tVar 2) (tC (.int 0)))) (t_shared_multiple_2 K A)) (t_shared_multiple_3 K A))
def t_shared_multiple_0 (K : PySem.W.Frag) (A : Ad) : TS := (tSeq (tPar 2 3 (tCons (tVar 0) (tCons (tVar 1) tNil))) (t_shared_multiple_1 K A))

theorem pure_shared_multiple {K : PySem.W.Frag} {A : Ad} {vs : List V} {H : Hp} {Q : VK} {E : XK} (h : sp_shared_multiple K A vs H Q E) : (t_shared_multiple_0 K A) { nx := fun _ H' => Q .non H', rt := Q } (start ["one", "other", "low", "high"] vs) H := by
  unfold sp_shared_multiple at h
  split at h
  · rename_i a b
    obtain ⟨ha, hb, ba, bb, k⟩ := h
    show (t_shared_multiple_0 K A) _ [some (.int a), some (.int b), none, none] H
    refine st_seq ?_
    unfold tPar
    (refine evA ?P80 (fun Q h => ?h80) ?_; (case h80 => (simp only [tTest, tOp, tUn, tVar, tC, tCB, tCons, tNil, tAnd, tOr, tNot, tB, tTup, tLst, tIf, tAndV, tOrV, tNotV, tSl, tPart, tNoPart, tCall, iIx_ref, oGt_int, oMod_int, oFdiv_int, oAdd_int, oAdd_str, oSub_int, oMul_int, oLt_int, oGe_int, oLe_int, oPow_int, uNeg_int, oEq_int, oEq_str, oEq_bl, oNe_int, oNe_str, oNe_bl, cInt_int, cInt_bl, cAbs_int, cLen_ref, cList_ref, stL_ref, gName, gSub, gTup, gCons, gNil, rdSeq, List.getElem?_cons_zero, List.getElem?_cons_succ, List.set_cons_zero, List.set_cons_succ, List.cons_append, List.nil_append, Option.some.injEq, exists_eq_left', V.bl.injEq, V.int.injEq, V.ref.injEq, atI_0, atI_1, atI_2, setI_1, setI_2, Bool.not_true, Bool.not_false, Bool.false_eq_true, if_false, if_true]; exact h)); (try dsimp only [gName, tNext, List.set_cons_zero, List.set_cons_succ]))
    refine ⟨_, _, rfl, ?_⟩
    (try dsimp only [gName, tNext, List.set_cons_zero, List.set_cons_succ])
    refine st_seq ?_
    unfold tWhile
    refine ⟨fun m σ H' => H' = H ∧ ∃ x y : Int, σ = [some (.int a), some (.int b), some (.int x), some (.int y)] ∧ 0 ≤ x ∧ 0 < y ∧ Int.gcd x y = Int.gcd a b ∧ x.toNat = m, ⟨a.toNat, rfl, _, _, rfl, by omega, hb, rfl, rfl⟩, ?_⟩
    rintro m σ H' ⟨rfl, x, y, rfl, hx, hy, hg, hm⟩
    (refine evT ?P81 (fun Q h => ?h81) ?_; (case h81 => (simp only [tTest, tOp, tUn, tVar, tC, tCB, tCons, tNil, tAnd, tOr, tNot, tB, tTup, tLst, tIf, tAndV, tOrV, tNotV, tSl, tPart, tNoPart, tCall, iIx_ref, oGt_int, oMod_int, oFdiv_int, oAdd_int, oAdd_str, oSub_int, oMul_int, oLt_int, oGe_int, oLe_int, oPow_int, uNeg_int, oEq_int, oEq_str, oEq_bl, oNe_int, oNe_str, oNe_bl, cInt_int, cInt_bl, cAbs_int, cLen_ref, cList_ref, stL_ref, gName, gSub, gTup, gCons, gNil, rdSeq, List.getElem?_cons_zero, List.getElem?_cons_succ, List.set_cons_zero, List.set_cons_succ, List.cons_append, List.nil_append, Option.some.injEq, exists_eq_left', V.bl.injEq, V.int.injEq, V.ref.injEq, atI_0, atI_1, atI_2, setI_1, setI_2, Bool.not_true, Bool.not_false, Bool.false_eq_true, if_false, if_true]; exact h)); (try dsimp only [gName, tNext, List.set_cons_zero, List.set_cons_succ]))
    refine ite_dec (fun hc => ?_) (fun hc => ?_)
    · refine ⟨fun σ' H'' => H'' = H' ∧ σ' = [some (.int a), some (.int b), some (.int (y % x)), some (.int x)], ?_, ?_⟩
      · rintro σ' H'' ⟨rfl, rfl⟩
        have z := mod_range (x := y) hc
        exact ⟨(y % x).toNat, by omega, rfl, y % x, x, rfl, z.1, hc, by rw [Int.gcd_comm, gcd_step hc, Int.gcd_comm, hg], rfl⟩
      · show tPar _ _ _ _ _ _
        unfold tPar
        (refine evA ?P82 (fun Q h => ?h82) ?_; (case h82 => (simp only [tTest, tOp, tUn, tVar, tC, tCB, tCons, tNil, tAnd, tOr, tNot, tB, tTup, tLst, tIf, tAndV, tOrV, tNotV, tSl, tPart, tNoPart, tCall, iIx_ref, oGt_int, oMod_int, oFdiv_int, oAdd_int, oAdd_str, oSub_int, oMul_int, oLt_int, oGe_int, oLe_int, oPow_int, uNeg_int, oEq_int, oEq_str, oEq_bl, oNe_int, oNe_str, oNe_bl, cInt_int, cInt_bl, cAbs_int, cLen_ref, cList_ref, stL_ref, gName, gSub, gTup, gCons, gNil, rdSeq, List.getElem?_cons_zero, List.getElem?_cons_succ, List.set_cons_zero, List.set_cons_succ, List.cons_append, List.nil_append, Option.some.injEq, exists_eq_left', V.bl.injEq, V.int.injEq, V.ref.injEq, atI_0, atI_1, atI_2, setI_1, setI_2, Bool.not_true, Bool.not_false, Bool.false_eq_true, if_false, if_true]; exact h)); (try dsimp only [gName, tNext, List.set_cons_zero, List.set_cons_succ]))
        refine ⟨hc, _, _, rfl, rfl, rfl⟩
    · refine st_ret ?_
      (refine evE ?P83 (fun Q h => ?h83) ?_; (case h83 => (simp only [tTest, tOp, tUn, tVar, tC, tCB, tCons, tNil, tAnd, tOr, tNot, tB, tTup, tLst, tIf, tAndV, tOrV, tNotV, tSl, tPart, tNoPart, tCall, iIx_ref, oGt_int, oMod_int, oFdiv_int, oAdd_int, oAdd_str, oSub_int, oMul_int, oLt_int, oGe_int, oLe_int, oPow_int, uNeg_int, oEq_int, oEq_str, oEq_bl, oNe_int, oNe_str, oNe_bl, cInt_int, cInt_bl, cAbs_int, cLen_ref, cList_ref, stL_ref, gName, gSub, gTup, gCons, gNil, rdSeq, List.getElem?_cons_zero, List.getElem?_cons_succ, List.set_cons_zero, List.set_cons_succ, List.cons_append, List.nil_append, Option.some.injEq, exists_eq_left', V.bl.injEq, V.int.injEq, V.ref.injEq, atI_0, atI_1, atI_2, setI_1, setI_2, Bool.not_true, Bool.not_false, Bool.false_eq_true, if_false, if_true]; exact h)); (try dsimp only [gName, tNext, List.set_cons_zero, List.set_cons_succ]))
      have e : x = 0 := by omega
      subst e
      rw [Int.gcd_zero_left] at hg
      have e : y = (Int.gcd a b : Int) := by omega
      rw [e]
      have h2 : ((Int.gcd a b : Nat) : Int).natAbs ≤ b.natAbs := by
        have z : Int.gcd a b ∣ b.natAbs := Nat.gcd_dvd_right _ _
        have := Nat.le_of_dvd (by omega) z
        omega
      have h3 := Bn.log (m := 7999) (bb.le h2)
      exact ⟨⟨by omega, by omega⟩, ba.div.mulok bb, k⟩
  · exact h.elim

/-! ### growths by their functions -/
def GF (K : PySem.W.Frag) (A : Ad) (H : Hp) (a : Addr) (f : Nat → Option Int) : Prop := ∃ told gains, GrAt K A H a told gains ∧ Nf told gains f ∧ gains.length ≤ 60 ∧ told.length ≤ 4000
section
variable {K : PySem.W.Frag} {A : Ad} {H H' : Hp} {a t g : Addr} {f : Nat → Option Int} {told : List (Option Int)} {gains : List Int} {Q : VK} {M : Nat}
theorem GF.grow (h : GF K A H a f) (g : Grow H H') : GF K A H' a f := by
  obtain ⟨told, gains, h1, h2⟩ := h
  exact ⟨told, gains, h1.grow g, h2⟩
theorem GF.at (h : GF K A H a f) : ∃ dx fs, H a = some (.ins A.c_Growth dx fs) := by
  obtain ⟨told, gains, ⟨dx, t, g, h1, _⟩, _⟩ := h
  exact ⟨dx, _, h1⟩
theorem GF.isIns (h : GF K A H a f) : isIns A.c_Growth H (.ref a) := by
  obtain ⟨dx, fs, e⟩ := h.at
  show (match H a with | some (.ins D _ _) => D = A.c_Growth | _ => False)
  rw [e]
theorem GF.ty (h : GF K A H a f) : tyF H (.ref a) = some (.ref A.c_Growth) := by
  obtain ⟨dx, fs, e⟩ := h.at
  simp only [tyF, e]
theorem GF.okf (h : GF K A H a f) : Okf f := by
  obtain ⟨told, gains, h1, h2, h3, h4⟩ := h
  exact h2.okf h3 h4
theorem bn_of_le {x : Int} {m n : Nat} (h : x.natAbs ≤ n) (hn : n < 2 ^ m) : Bn m x := Nat.lt_of_le_of_lt h hn
theorem mul_pow {M k a b : Nat} (h : M < 2 ^ a) (hk : k ≤ 2 ^ b) : M * k < 2 ^ (a + b) := by
  rw [Nat.pow_add]
  by_cases z : k = 0
  · rw [z, Nat.mul_zero]
    exact Nat.mul_pos (Nat.pow_pos (by decide)) (Nat.pow_pos (by decide))
  · exact Nat.lt_of_lt_of_le (Nat.mul_lt_mul_of_pos_right h (by omega)) (Nat.mul_le_mul_left _ hk)
theorem nf_bn (n : Nf told gains f) (hl : told.length ≤ 4000) (h : FB M f) (hM : M < 2 ^ 1000) : ∀ x ∈ gains, Bn 1014 x := fun x hx => bn_of_le (gains_le n h x hx) (mul_pow (b := 14) hM (by omega))
theorem nf_bnT (n : Nf told gains f) (hl : told.length ≤ 4000) (h : FB M f) (hM : M < 2 ^ 1000) : ∀ o ∈ told, ∀ i, o = some i → Bn 1012 i := by
  intro o ho i e
  obtain ⟨j, hj, rfl⟩ := List.getElem_of_mem ho
  have e2 : f j = some i := by
    rw [n.gr.lo j hj, List.getD_eq_getElem?_getD, List.getElem?_eq_getElem hj]
    exact e
  exact bn_of_le (h j i e2) (mul_pow (b := 12) hM (by omega))
theorem mkF {F : V → List V} (ht : Sr H t (told.map oV)) (hg : Sq K H g (gains.map V.int)) (G : Gr told gains f) (hp60 : gains.length ≤ 60) (hs : told.length ≤ 100000) (bg : BnA gains) (hok : Okf f)
    (k : ∀ c H', Grow H H' → GF K A H' c f → Q (.ref c) H') (hf : ∀ r, F r = [r, .ref t, .ref g] := by exact fun _ => rfl) : MKf A.c_Growth (sp_Growth_init K A) E0 F H Q := by
  have n := nf_nf G
  obtain ⟨s1, s2⟩ := n.shortOk hok
  exact mkG ht hg G.pos hp60 G.le hs bg s2 (fun c H' g hc => k c H' g ⟨_, _, hc, n, s1, s2⟩) hf
end
def sp_need_growth (K : PySem.W.Frag) (A : Ad) : Sp := fun vs H Q _ => match vs with
  | [.ref a] => tyF H (.ref a) = some (.ref A.c_Growth) ∧ Q .non H
  | _ => False
def t_need_growth_1 (K : PySem.W.Frag) (A : Ad) : TS := tNever
def t_need_growth_0 (K : PySem.W.Frag) (A : Ad) : TS := (tIfS (tNot (tB (tCB (cIsi K) (tCons (tVar 0) (tCons (tC (.ref A.c_Growth)) tNil))))) (t_need_growth_1 K A) tNext)

theorem pure_need_growth {K : PySem.W.Frag} {A : Ad} {vs : List V} {H : Hp} {Q : VK} {E : XK} (F : KF K A) (h : sp_need_growth K A vs H Q E) : (t_need_growth_0 K A) { nx := fun _ H' => Q .non H', rt := Q } (start ["other"] vs) H := by
  unfold sp_need_growth at h
  split at h
  · rename_i a
    obtain ⟨h1, k⟩ := h
    show (t_need_growth_0 K A) _ [some (.ref a)] H
    refine st_if ?_
    (refine evT ?P84 (fun Q h => ?h84) ?_; (case h84 => (simp only [tTest, tOp, tUn, tVar, tC, tCB, tCons, tNil, tAnd, tOr, tNot, tB, tTup, tLst, tIf, tAndV, tOrV, tNotV, tSl, tPart, tNoPart, tCall, iIx_ref, oGt_int, oMod_int, oFdiv_int, oAdd_int, oAdd_str, oSub_int, oMul_int, oLt_int, oGe_int, oLe_int, oPow_int, uNeg_int, oEq_int, oEq_str, oEq_bl, oNe_int, oNe_str, oNe_bl, cInt_int, cInt_bl, cAbs_int, cLen_ref, cList_ref, stL_ref, gName, gSub, gTup, gCons, gNil, rdSeq, List.getElem?_cons_zero, List.getElem?_cons_succ, List.set_cons_zero, List.set_cons_succ, List.cons_append, List.nil_append, Option.some.injEq, exists_eq_left', V.bl.injEq, V.int.injEq, V.ref.injEq, atI_0, atI_1, atI_2, setI_1, setI_2, Bool.not_true, Bool.not_false, Bool.false_eq_true, if_false, if_true, cIsi, h1, F.kr]; exact h)); (try dsimp only [gName, tNext, List.set_cons_zero, List.set_cons_succ]))
    exact ⟨F.it, k⟩
  · exact h.elim
def sp_need_index (K : PySem.W.Frag) (A : Ad) : Sp := fun vs H Q _ => match vs with
  | [.int n] => 0 ≤ n ∧ Q .non H
  | _ => False
def t_need_index_1 (K : PySem.W.Frag) (A : Ad) : TS := tNever
def t_need_index_0 (K : PySem.W.Frag) (A : Ad) : TS := (tIfS (tOr (tNot (tB (tCall (sp_is_integer K A) [] E0 (tCons (tVar 0) tNil)))) (tTest (tOp oLt (tVar 0) (tC (.int 0))))) (t_need_index_1 K A) tNext)

theorem pure_need_index {K : PySem.W.Frag} {A : Ad} {vs : List V} {H : Hp} {Q : VK} {E : XK} (h : sp_need_index K A vs H Q E) : (t_need_index_0 K A) { nx := fun _ H' => Q .non H', rt := Q } (start ["n"] vs) H := by
  unfold sp_need_index at h
  split at h
  · rename_i n
    obtain ⟨hn, k⟩ := h
    show (t_need_index_0 K A) _ [some (.int n)] H
    refine st_if ?_
    (refine evT ?P85 (fun Q h => ?h85) ?_; (case h85 => (simp only [tTest, tOp, tUn, tVar, tC, tCB, tCons, tNil, tAnd, tOr, tNot, tB, tTup, tLst, tIf, tAndV, tOrV, tNotV, tSl, tPart, tNoPart, tCall, iIx_ref, oGt_int, oMod_int, oFdiv_int, oAdd_int, oAdd_str, oSub_int, oMul_int, oLt_int, oGe_int, oLe_int, oPow_int, uNeg_int, oEq_int, oEq_str, oEq_bl, oNe_int, oNe_str, oNe_bl, cInt_int, cInt_bl, cAbs_int, cLen_ref, cList_ref, stL_ref, gName, gSub, gTup, gCons, gNil, rdSeq, List.getElem?_cons_zero, List.getElem?_cons_succ, List.set_cons_zero, List.set_cons_succ, List.cons_append, List.nil_append, Option.some.injEq, exists_eq_left', V.bl.injEq, V.int.injEq, V.ref.injEq, atI_0, atI_1, atI_2, setI_1, setI_2, Bool.not_true, Bool.not_false, Bool.false_eq_true, if_false, if_true, is_int]; exact h)); (try dsimp only [gName, tNext, List.set_cons_zero, List.set_cons_succ]))
    rw [decide_eq_false (by omega)]
    (refine if_no ?_; (try dsimp only [gName, tNext, List.set_cons_zero, List.set_cons_succ]))
    exact k
  · exact h.elim
def sp_Growth_getitem (K : PySem.W.Frag) (A : Ad) : Sp := fun vs H Q _ => match vs with
  | [.ref a, .int n] => ∃ (f : Nat → Option Int) (M : Nat), GF K A H a f ∧ FB M f ∧ M < 2 ^ 1000 ∧ 0 ≤ n ∧ Bn 100000 n ∧ Q (oV (f n.toNat)) H
  | _ => False
def t_Growth_getitem_1 (K : PySem.W.Frag) (A : Ad) : TS := (tRet (tCall (sp_value_at K A) [] E0 (tCons (tFld K (tVar 0) "told") (tCons (tFld K (tVar 0) "gains") (tCons (tVar 1) tNil)))))
def t_Growth_getitem_0 (K : PySem.W.Frag) (A : Ad) : TS := (tSeq (tDrop (tCall (sp_need_index K A) [] E0 (tCons (tVar 1) tNil))) (t_Growth_getitem_1 K A))

theorem pure_Growth_getitem {K : PySem.W.Frag} {A : Ad} {vs : List V} {H : Hp} {Q : VK} {E : XK} (F : KF K A) (h : sp_Growth_getitem K A vs H Q E) : (t_Growth_getitem_0 K A) { nx := fun _ H' => Q .non H', rt := Q } (start ["self", "n"] vs) H := by
  unfold sp_Growth_getitem at h
  split at h
  · rename_i a n
    obtain ⟨f, M, ⟨told, gains, ⟨dx, t, g, h1, h2, h3⟩, nf, l1, l2⟩, fb, hM, hn, bn, k⟩ := h
    show (t_Growth_getitem_0 K A) _ [some (.ref a), some (.int n)] H
    refine st_seq (st_drop ?_)
    (refine evE ?P86 (fun Q h => ?h86) ?_; (case h86 => (simp only [tTest, tOp, tUn, tVar, tC, tCB, tCons, tNil, tAnd, tOr, tNot, tB, tTup, tLst, tIf, tAndV, tOrV, tNotV, tSl, tPart, tNoPart, tCall, iIx_ref, oGt_int, oMod_int, oFdiv_int, oAdd_int, oAdd_str, oSub_int, oMul_int, oLt_int, oGe_int, oLe_int, oPow_int, uNeg_int, oEq_int, oEq_str, oEq_bl, oNe_int, oNe_str, oNe_bl, cInt_int, cInt_bl, cAbs_int, cLen_ref, cList_ref, stL_ref, gName, gSub, gTup, gCons, gNil, rdSeq, List.getElem?_cons_zero, List.getElem?_cons_succ, List.set_cons_zero, List.set_cons_succ, List.cons_append, List.nil_append, Option.some.injEq, exists_eq_left', V.bl.injEq, V.int.injEq, V.ref.injEq, atI_0, atI_1, atI_2, setI_1, setI_2, Bool.not_true, Bool.not_false, Bool.false_eq_true, if_false, if_true]; exact h)); (try dsimp only [gName, tNext, List.set_cons_zero, List.set_cons_succ]))
    refine ⟨hn, ?_⟩
    refine st_ret ?_
    (refine evE ?P87 (fun Q h => ?h87) ?_; (case h87 => (simp only [tTest, tOp, tUn, tVar, tC, tCB, tCons, tNil, tAnd, tOr, tNot, tB, tTup, tLst, tIf, tAndV, tOrV, tNotV, tSl, tPart, tNoPart, tCall, iIx_ref, oGt_int, oMod_int, oFdiv_int, oAdd_int, oAdd_str, oSub_int, oMul_int, oLt_int, oGe_int, oLe_int, oPow_int, uNeg_int, oEq_int, oEq_str, oEq_bl, oNe_int, oNe_str, oNe_bl, cInt_int, cInt_bl, cAbs_int, cLen_ref, cList_ref, stL_ref, gName, gSub, gTup, gCons, gNil, rdSeq, List.getElem?_cons_zero, List.getElem?_cons_succ, List.set_cons_zero, List.set_cons_succ, List.cons_append, List.nil_append, Option.some.injEq, exists_eq_left', V.bl.injEq, V.int.injEq, V.ref.injEq, atI_0, atI_1, atI_2, setI_1, setI_2, Bool.not_true, Bool.not_false, Bool.false_eq_true, if_false, if_true, tFld_eq, fldR_eq h1 F.cl F.ut rfl, fldR_eq h1 F.cl F.ug rfl]; exact h)); (try dsimp only [gName, tNext, List.set_cons_zero, List.set_cons_succ]))
    refine ⟨told, gains, .t h2, .t h3, hn, nf.gr.pos, nf.gr.le, by omega, fun x hx => (nf_bn nf l2 fb hM x hx).up (by decide), bn, ?_⟩
    rw [(gr_gv nf.gr.pos nf.gr.le).eq nf.gr]
    exact k
  · exact h.elim
theorem ixG {K : PySem.W.Frag} {A : Ad} {H : Hp} {a : Addr} {f : Nat → Option Int} {M : Nat} {n : Int} {Q : VK} (h : GF K A H a f) (fb : FB M f) (hM : M < 2 ^ 1000) (hn : 0 ≤ n) (bn : Bn 100000 n) (k : Q (oV (f n.toNat)) H) : rIxO A.c_Growth (sp_Growth_getitem K A) (.ref a) (.int n) H Q :=
  ⟨h.isIns, f, M, h, fb, hM, hn, bn, k⟩
def sp_sum_of (K : PySem.W.Frag) (A : Ad) : Sp := fun vs H Q _ => match vs with
  | [x, y] => ∃ a b, x = oV a ∧ y = oV b ∧ Q (oV (oSum a b)) H
  | _ => False
def t_sum_of_0 (K : PySem.W.Frag) (A : Ad) : TS := (tRet (tIf (tTest (tOp oIs (tVar 1) (tC .non))) (tC .non) (tCall (sp_added K A) [] E0 (tCons (tVar 0) (tCons (tVar 1) tNil)))))

theorem pure_sum_of {K : PySem.W.Frag} {A : Ad} {vs : List V} {H : Hp} {Q : VK} {E : XK} (h : sp_sum_of K A vs H Q E) : (t_sum_of_0 K A) { nx := fun _ H' => Q .non H', rt := Q } (start ["one", "other"] vs) H := by
  unfold sp_sum_of at h
  split at h
  · rename_i x y
    obtain ⟨a, b, rfl, rfl, k⟩ := h
    show (t_sum_of_0 K A) _ [some (oV a), some (oV b)] H
    refine st_ret ?_
    cases b with
    | none =>
      (refine evE ?P88 (fun Q h => ?h88) ?_; (case h88 => (simp only [tTest, tOp, tUn, tVar, tC, tCB, tCons, tNil, tAnd, tOr, tNot, tB, tTup, tLst, tIf, tAndV, tOrV, tNotV, tSl, tPart, tNoPart, tCall, iIx_ref, oGt_int, oMod_int, oFdiv_int, oAdd_int, oAdd_str, oSub_int, oMul_int, oLt_int, oGe_int, oLe_int, oPow_int, uNeg_int, oEq_int, oEq_str, oEq_bl, oNe_int, oNe_str, oNe_bl, cInt_int, cInt_bl, cAbs_int, cLen_ref, cList_ref, stL_ref, gName, gSub, gTup, gCons, gNil, rdSeq, List.getElem?_cons_zero, List.getElem?_cons_succ, List.set_cons_zero, List.set_cons_succ, List.cons_append, List.nil_append, Option.some.injEq, exists_eq_left', V.bl.injEq, V.int.injEq, V.ref.injEq, atI_0, atI_1, atI_2, setI_1, setI_2, Bool.not_true, Bool.not_false, Bool.false_eq_true, if_false, if_true, oIs, oV]; exact h)); (try dsimp only [gName, tNext, List.set_cons_zero, List.set_cons_succ]))
      cases a <;> exact k
    | some j =>
      (refine evE ?P89 (fun Q h => ?h89) ?_; (case h89 => (simp only [tTest, tOp, tUn, tVar, tC, tCB, tCons, tNil, tAnd, tOr, tNot, tB, tTup, tLst, tIf, tAndV, tOrV, tNotV, tSl, tPart, tNoPart, tCall, iIx_ref, oGt_int, oMod_int, oFdiv_int, oAdd_int, oAdd_str, oSub_int, oMul_int, oLt_int, oGe_int, oLe_int, oPow_int, uNeg_int, oEq_int, oEq_str, oEq_bl, oNe_int, oNe_str, oNe_bl, cInt_int, cInt_bl, cAbs_int, cLen_ref, cList_ref, stL_ref, gName, gSub, gTup, gCons, gNil, rdSeq, List.getElem?_cons_zero, List.getElem?_cons_succ, List.set_cons_zero, List.set_cons_succ, List.cons_append, List.nil_append, Option.some.injEq, exists_eq_left', V.bl.injEq, V.int.injEq, V.ref.injEq, atI_0, atI_1, atI_2, setI_1, setI_2, Bool.not_true, Bool.not_false, Bool.false_eq_true, if_false, if_true, oIs, oV]; exact h)); (try dsimp only [gName, tNext, List.set_cons_zero, List.set_cons_succ]))
      show sp_added K A [oV a, .int j] H Q E0
      rw [added_oV]
      cases a <;> exact k
  · exact h.elim

end HG

namespace HG
open PySem L2
def sp_combined (K : PySem.W.Frag) (A : Ad) : Sp := fun vs H Q _ => match vs with
  | [.str w, x, y] => w = "sum" ∧ ∃ a b, x = oV a ∧ y = oV b ∧ Q (oV (oSum a b)) H
  | _ => False
def t_combined_1 (K : PySem.W.Frag) (A : Ad) : TS := (tRet (tCall (sp_sum_of K A) [] E0 (tCons (tVar 1) (tCons (tVar 2) tNil))))
def t_combined_2 (K : PySem.W.Frag) (A : Ad) : TS := tNever
def t_combined_0 (K : PySem.W.Frag) (A : Ad) : TS := (tSeq (tIfS (tTest (tOp (oEq K) (tVar 0) (tC (.str "sum")))) (t_combined_1 K A) tNext) (t_combined_2 K A))

theorem pure_combined {K : PySem.W.Frag} {A : Ad} {vs : List V} {H : Hp} {Q : VK} {E : XK} (h : sp_combined K A vs H Q E) : (t_combined_0 K A) { nx := fun _ H' => Q .non H', rt := Q } (start ["word", "one", "other"] vs) H := by
  unfold sp_combined at h
  split at h
  · rename_i w x y
    obtain ⟨rfl, a, b, rfl, rfl, k⟩ := h
    show (t_combined_0 K A) _ [some (.str "sum"), some (oV a), some (oV b)] H
    refine st_seq (st_if ?_)
    (refine evT ?P90 (fun Q h => ?h90) ?_; (case h90 => (simp only [tTest, tOp, tUn, tVar, tC, tCB, tCons, tNil, tAnd, tOr, tNot, tB, tTup, tLst, tIf, tAndV, tOrV, tNotV, tSl, tPart, tNoPart, tCall, iIx_ref, oGt_int, oMod_int, oFdiv_int, oAdd_int, oAdd_str, oSub_int, oMul_int, oLt_int, oGe_int, oLe_int, oPow_int, uNeg_int, oEq_int, oEq_str, oEq_bl, oNe_int, oNe_str, oNe_bl, cInt_int, cInt_bl, cAbs_int, cLen_ref, cList_ref, stL_ref, gName, gSub, gTup, gCons, gNil, rdSeq, List.getElem?_cons_zero, List.getElem?_cons_succ, List.set_cons_zero, List.set_cons_succ, List.cons_append, List.nil_append, Option.some.injEq, exists_eq_left', V.bl.injEq, V.int.injEq, V.ref.injEq, atI_0, atI_1, atI_2, setI_1, setI_2, Bool.not_true, Bool.not_false, Bool.false_eq_true, if_false, if_true, decide_true]; exact h)); (try dsimp only [gName, tNext, List.set_cons_zero, List.set_cons_succ]))
    (refine if_yes ?_; (try dsimp only [gName, tNext, List.set_cons_zero, List.set_cons_succ]))
    refine st_ret ?_
    (refine evE ?P91 (fun Q h => ?h91) ?_; (case h91 => (simp only [tTest, tOp, tUn, tVar, tC, tCB, tCons, tNil, tAnd, tOr, tNot, tB, tTup, tLst, tIf, tAndV, tOrV, tNotV, tSl, tPart, tNoPart, tCall, iIx_ref, oGt_int, oMod_int, oFdiv_int, oAdd_int, oAdd_str, oSub_int, oMul_int, oLt_int, oGe_int, oLe_int, oPow_int, uNeg_int, oEq_int, oEq_str, oEq_bl, oNe_int, oNe_str, oNe_bl, cInt_int, cInt_bl, cAbs_int, cLen_ref, cList_ref, stL_ref, gName, gSub, gTup, gCons, gNil, rdSeq, List.getElem?_cons_zero, List.getElem?_cons_succ, List.set_cons_zero, List.set_cons_succ, List.cons_append, List.nil_append, Option.some.injEq, exists_eq_left', V.bl.injEq, V.int.injEq, V.ref.injEq, atI_0, atI_1, atI_2, setI_1, setI_2, Bool.not_true, Bool.not_false, Bool.false_eq_true, if_false, if_true]; exact h)); (try dsimp only [gName, tNext, List.set_cons_zero, List.set_cons_succ]))
    exact ⟨a, b, rfl, rfl, k⟩
  · exact h.elim
def sp_merged (K : PySem.W.Frag) (A : Ad) : Sp := fun vs H Q _ => match vs with
  | [.str w, .ref a, .ref b] => w = "sum" ∧ ∃ (f g : Nat → Option Int) (M : Nat), GF K A H a f ∧ GF K A H b g ∧ FB M f ∧ FB M g ∧ M < 2 ^ 900 ∧ Okf (fSum f g) ∧ ∀ c H', Grow H H' → GF K A H' c (fSum f g) → Q (.ref c) H'
  | _ => False
def t_merged_3 (K : PySem.W.Frag) (A : Ad) : TS := tNever
def t_merged_7 (K : PySem.W.Frag) (A : Ad) : TS := tNever
def t_merged_9 (K : PySem.W.Frag) (A : Ad) : TS := tNever
def t_merged_10 (K : PySem.W.Frag) (A : Ad) : TS := (tRet (tMake A.c_Growth (sp_Growth_init K A) [] E0 (tCons (tLc (iRng1 (tCons (tOp oAdd (tVar 4) (tVar 3)) tNil)) (gName 7) tYes (tCall (sp_combined K A) [] E0 (tCons (tVar 0) (tCons (tOp (rIxO A.c_Growth (sp_Growth_getitem K A)) (tVar 1) (tVar 7)) (tCons (tOp (rIxO A.c_Growth (sp_Growth_getitem K A)) (tVar 2) (tVar 7)) tNil)))) [7]) (tCons (tVar 6) tNil))))
def t_merged_8 (K : PySem.W.Frag) (A : Ad) : TS := (tSeq (tIfS (tTest (tOp oGt (tVar 4) (tC (.int 20000)))) (t_merged_9 K A) tNext) (t_merged_10 K A))
def t_merged_6 (K : PySem.W.Frag) (A : Ad) : TS := (tSeq (tIfS (tTest (tOp oGt (tCB (cLenE K) (tCons (tVar 6) tNil)) (tC (.int 60)))) (t_merged_7 K A) tNext) (t_merged_8 K A))
def t_merged_5 (K : PySem.W.Frag) (A : Ad) : TS := (tSeq (tAsg (tCall (sp_least_gains K A) [] E0 (tCons (tVar 5) (tCons (tVar 4) (tCons (tVar 3) tNil)))) (gName 6)) (t_merged_6 K A))
def t_merged_4 (K : PySem.W.Frag) (A : Ad) : TS := (tSeq (tAsg (tLc (iRng2 (tCons (tVar 4) (tCons (tOp oAdd (tVar 4) (tOp oMul (tC (.int 3)) (tVar 3))) tNil))) (gName 7) tYes (tCall (sp_combined K A) [] E0 (tCons (tVar 0) (tCons (tOp (rIxO A.c_Growth (sp_Growth_getitem K A)) (tVar 1) (tVar 7)) (tCons (tOp (rIxO A.c_Growth (sp_Growth_getitem K A)) (tVar 2) (tVar 7)) tNil)))) [7]) (gName 5)) (t_merged_5 K A))
def t_merged_2 (K : PySem.W.Frag) (A : Ad) : TS := (tSeq (tIfS (tTest (tOp (oNe K) (tVar 0) (tC (.str "sum")))) (t_merged_3 K A) tNext) (t_merged_4 K A))
def t_merged_1 (K : PySem.W.Frag) (A : Ad) : TS := (tSeq (tAsg (tCB (cMax K) (tCons (tCB (cLenE K) (tCons (tFld K (tVar 1) "told") tNil)) (tCons (tCB (cLenE K) (tCons (tFld K (tVar 2) "told") tNil)) tNil))) (gName 4)) (t_merged_2 K A))
def t_merged_0 (K : PySem.W.Frag) (A : Ad) : TS := (tSeq (tAsg (tCall (sp_shared_multiple K A) [] E0 (tCons (tCB (cLenE K) (tCons (tFld K (tVar 1) "gains") tNil)) (tCons (tCB (cLenE K) (tCons (tFld K (tVar 2) "gains") tNil)) tNil))) (gName 3)) (t_merged_1 K A))

theorem valsP_map {f : Nat → Option Int} {n : Nat} : (valsP f n).map oV = (List.range n).map fun j => oV (f j) := by
  unfold valsP
  rw [List.map_map]
  rfl
theorem pure_merged {K : PySem.W.Frag} {A : Ad} {vs : List V} {H : Hp} {Q : VK} {E : XK} (F : KF K A) (h : sp_merged K A vs H Q E) : (t_merged_0 K A) { nx := fun _ H' => Q .non H', rt := Q } (start ["word", "one", "other", "period", "origin", "row", "gains", "n"] vs) H := by
  unfold sp_merged at h
  split at h
  · rename_i w a b
    obtain ⟨rfl, f, g, M, hA, hB, fa, fb, hM, hok, k⟩ := h
    have hsz : sizeLine = 16777216 := rfl
    have hM' : M < 2 ^ 1000 := Nat.lt_trans hM (by decide)
    show (t_merged_0 K A) _ [some (.str "sum"), some (.ref a), some (.ref b), none, none, none, none, none] H
    obtain ⟨t1, g1, ⟨dx, at1, ag1, a1, a2, a3⟩, n1, l1, m1⟩ := id hA
    obtain ⟨t2, g2, ⟨dy, at2, ag2, b1, b2, b3⟩, n2, l2, m2⟩ := id hB
    have p1 := n1.gr.pos
    have p2 := n2.gr.pos
    refine st_seq (st_asg ?_)
    (refine evE ?P92 (fun Q h => ?h92) ?_; (case h92 => (simp only [tTest, tOp, tUn, tVar, tC, tCB, tCons, tNil, tAnd, tOr, tNot, tB, tTup, tLst, tIf, tAndV, tOrV, tNotV, tSl, tPart, tNoPart, tCall, iIx_ref, oGt_int, oMod_int, oFdiv_int, oAdd_int, oAdd_str, oSub_int, oMul_int, oLt_int, oGe_int, oLe_int, oPow_int, uNeg_int, oEq_int, oEq_str, oEq_bl, oNe_int, oNe_str, oNe_bl, cInt_int, cInt_bl, cAbs_int, cLen_ref, cList_ref, stL_ref, gName, gSub, gTup, gCons, gNil, rdSeq, List.getElem?_cons_zero, List.getElem?_cons_succ, List.set_cons_zero, List.set_cons_succ, List.cons_append, List.nil_append, Option.some.injEq, exists_eq_left', V.bl.injEq, V.int.injEq, V.ref.injEq, atI_0, atI_1, atI_2, setI_1, setI_2, Bool.not_true, Bool.not_false, Bool.false_eq_true, if_false, if_true, tFld_eq, fldR_eq a1 F.cl F.ug rfl, fldR_eq b1 F.cl F.ug rfl]; exact h)); (try dsimp only [gName, tNext, List.set_cons_zero, List.set_cons_succ]))
    refine lenE (.t a3) ?_
    simp only [tTest, tOp, tUn, tVar, tC, tCB, tCons, tNil, tAnd, tOr, tNot, tB, tTup, tLst, tIf, tAndV, tOrV, tNotV, tSl, tPart, tNoPart, tCall, iIx_ref, oGt_int, oMod_int, oFdiv_int, oAdd_int, oAdd_str, oSub_int, oMul_int, oLt_int, oGe_int, oLe_int, oPow_int, uNeg_int, oEq_int, oEq_str, oEq_bl, oNe_int, oNe_str, oNe_bl, cInt_int, cInt_bl, cAbs_int, cLen_ref, cList_ref, stL_ref, gName, gSub, gTup, gCons, gNil, rdSeq, List.getElem?_cons_zero, List.getElem?_cons_succ, List.set_cons_zero, List.set_cons_succ, List.cons_append, List.nil_append, Option.some.injEq, exists_eq_left', V.bl.injEq, V.int.injEq, V.ref.injEq, atI_0, atI_1, atI_2, setI_1, setI_2, Bool.not_true, Bool.not_false, Bool.false_eq_true, if_false, if_true, fldR_eq b1 F.cl F.ug rfl]
    refine lenE (.t b3) ?_
    rw [List.length_map, List.length_map]
    obtain ⟨p, ep, d1, d2, hp, hple⟩ := lcm_facts p1 p2
    refine ⟨by omega, by omega, bn_nat (by omega), bn_nat (by omega), ?_⟩
    rw [ep]
    (try dsimp only [gName, tNext, List.set_cons_zero, List.set_cons_succ])
    have hp3 : p ≤ 3600 := by
      have : g1.length * g2.length ≤ 60 * 60 := Nat.mul_le_mul l1 l2
      omega
    refine st_seq (st_asg ?_)
    (refine evE ?P93 (fun Q h => ?h93) ?_; (case h93 => (simp only [tTest, tOp, tUn, tVar, tC, tCB, tCons, tNil, tAnd, tOr, tNot, tB, tTup, tLst, tIf, tAndV, tOrV, tNotV, tSl, tPart, tNoPart, tCall, iIx_ref, oGt_int, oMod_int, oFdiv_int, oAdd_int, oAdd_str, oSub_int, oMul_int, oLt_int, oGe_int, oLe_int, oPow_int, uNeg_int, oEq_int, oEq_str, oEq_bl, oNe_int, oNe_str, oNe_bl, cInt_int, cInt_bl, cAbs_int, cLen_ref, cList_ref, stL_ref, gName, gSub, gTup, gCons, gNil, rdSeq, List.getElem?_cons_zero, List.getElem?_cons_succ, List.set_cons_zero, List.set_cons_succ, List.cons_append, List.nil_append, Option.some.injEq, exists_eq_left', V.bl.injEq, V.int.injEq, V.ref.injEq, atI_0, atI_1, atI_2, setI_1, setI_2, Bool.not_true, Bool.not_false, Bool.false_eq_true, if_false, if_true, tFld_eq, fldR_eq a1 F.cl F.ut rfl, fldR_eq b1 F.cl F.ut rfl]; exact h)); (try dsimp only [gName, tNext, List.set_cons_zero, List.set_cons_succ]))
    refine lenE (.t a2) ?_
    simp only [tTest, tOp, tUn, tVar, tC, tCB, tCons, tNil, tAnd, tOr, tNot, tB, tTup, tLst, tIf, tAndV, tOrV, tNotV, tSl, tPart, tNoPart, tCall, iIx_ref, oGt_int, oMod_int, oFdiv_int, oAdd_int, oAdd_str, oSub_int, oMul_int, oLt_int, oGe_int, oLe_int, oPow_int, uNeg_int, oEq_int, oEq_str, oEq_bl, oNe_int, oNe_str, oNe_bl, cInt_int, cInt_bl, cAbs_int, cLen_ref, cList_ref, stL_ref, gName, gSub, gTup, gCons, gNil, rdSeq, List.getElem?_cons_zero, List.getElem?_cons_succ, List.set_cons_zero, List.set_cons_succ, List.cons_append, List.nil_append, Option.some.injEq, exists_eq_left', V.bl.injEq, V.int.injEq, V.ref.injEq, atI_0, atI_1, atI_2, setI_1, setI_2, Bool.not_true, Bool.not_false, Bool.false_eq_true, if_false, if_true, fldR_eq b1 F.cl F.ut rfl]
    refine lenE (.t b2) ?_
    rw [List.length_map, List.length_map]
    simp only [tTest, tOp, tUn, tVar, tC, tCB, tCons, tNil, tAnd, tOr, tNot, tB, tTup, tLst, tIf, tAndV, tOrV, tNotV, tSl, tPart, tNoPart, tCall, iIx_ref, oGt_int, oMod_int, oFdiv_int, oAdd_int, oAdd_str, oSub_int, oMul_int, oLt_int, oGe_int, oLe_int, oPow_int, uNeg_int, oEq_int, oEq_str, oEq_bl, oNe_int, oNe_str, oNe_bl, cInt_int, cInt_bl, cAbs_int, cLen_ref, cList_ref, stL_ref, gName, gSub, gTup, gCons, gNil, rdSeq, List.getElem?_cons_zero, List.getElem?_cons_succ, List.set_cons_zero, List.set_cons_succ, List.cons_append, List.nil_append, Option.some.injEq, exists_eq_left', V.bl.injEq, V.int.injEq, V.ref.injEq, atI_0, atI_1, atI_2, setI_1, setI_2, Bool.not_true, Bool.not_false, Bool.false_eq_true, if_false, if_true, cMax]
    (try dsimp only [gName, tNext, List.set_cons_zero, List.set_cons_succ])
    obtain ⟨o, eo, o1, o2, o3⟩ : ∃ o : Nat, (if (t2.length : Int) > (t1.length : Int) then (t2.length : Int) else (t1.length : Int)) = (o : Int) ∧ t1.length ≤ o ∧ t2.length ≤ o ∧ o ≤ 4000 := by
      split
      · exact ⟨t2.length, rfl, by omega, by omega, by omega⟩
      · exact ⟨t1.length, rfl, by omega, by omega, by omega⟩
    rw [eo]
    refine st_seq (st_if ?_)
    (refine evT ?P94 (fun Q h => ?h94) ?_; (case h94 => (simp only [tTest, tOp, tUn, tVar, tC, tCB, tCons, tNil, tAnd, tOr, tNot, tB, tTup, tLst, tIf, tAndV, tOrV, tNotV, tSl, tPart, tNoPart, tCall, iIx_ref, oGt_int, oMod_int, oFdiv_int, oAdd_int, oAdd_str, oSub_int, oMul_int, oLt_int, oGe_int, oLe_int, oPow_int, uNeg_int, oEq_int, oEq_str, oEq_bl, oNe_int, oNe_str, oNe_bl, cInt_int, cInt_bl, cAbs_int, cLen_ref, cList_ref, stL_ref, gName, gSub, gTup, gCons, gNil, rdSeq, List.getElem?_cons_zero, List.getElem?_cons_succ, List.set_cons_zero, List.set_cons_succ, List.cons_append, List.nil_append, Option.some.injEq, exists_eq_left', V.bl.injEq, V.int.injEq, V.ref.injEq, atI_0, atI_1, atI_2, setI_1, setI_2, Bool.not_true, Bool.not_false, Bool.false_eq_true, if_false, if_true, decide_true]; exact h)); (try dsimp only [gName, tNext, List.set_cons_zero, List.set_cons_succ]))
    have val : ∀ n : Nat, n ≤ 20000 → ∀ (H' : Hp) (R : VK), Grow H H' → R (oV (fSum f g n)) H' → rIxO A.c_Growth (sp_Growth_getitem K A) (.ref a) (.int n) H' fun x H1 => rIxO A.c_Growth (sp_Growth_getitem K A) (.ref b) (.int n) H1 fun y H2 => sp_combined K A [.str "sum", x, y] H2 R E0 := by
      intro n hn H' R g' hR
      refine ixG (hA.grow g') fa hM' (by omega) (lt_pow_big (by omega)) ?_
      refine ixG (hB.grow g') fb hM' (by omega) (lt_pow_big (by omega)) ?_
      rw [Int.toNat_natCast]
      exact ⟨rfl, f n, g n, rfl, rfl, hR⟩
    refine st_seq (st_asg (lc_ev ?_))
    unfold iRng2
    (refine evA ?P100 (fun Q h => ?h100) ?_; (case h100 => (simp only [tTest, tOp, tUn, tVar, tC, tCB, tCons, tNil, tAnd, tOr, tNot, tB, tTup, tLst, tIf, tAndV, tOrV, tNotV, tSl, tPart, tNoPart, tCall, iIx_ref, oGt_int, oMod_int, oFdiv_int, oAdd_int, oAdd_str, oSub_int, oMul_int, oLt_int, oGe_int, oLe_int, oPow_int, uNeg_int, oEq_int, oEq_str, oEq_bl, oNe_int, oNe_str, oNe_bl, cInt_int, cInt_bl, cAbs_int, cLen_ref, cList_ref, stL_ref, gName, gSub, gTup, gCons, gNil, rdSeq, List.getElem?_cons_zero, List.getElem?_cons_succ, List.set_cons_zero, List.set_cons_succ, List.cons_append, List.nil_append, Option.some.injEq, exists_eq_left', V.bl.injEq, V.int.injEq, V.ref.injEq, atI_0, atI_1, atI_2, setI_1, setI_2, Bool.not_true, Bool.not_false, Bool.false_eq_true, if_false, if_true]; exact h)))
    refine ⟨mulok_left (by decide) (by decide), _, _, rfl, ⟨by omega, by omega, by omega, by omega⟩, ?_⟩
    have en : ((o : Int) + 3 * (p : Int) - (o : Int)).toNat = 3 * p := by omega
    rw [en]
    refine lc_map jok_rng (fun j => oV (fSum f g (o + j))) (by omega) (fun j hj H' g' R hR => ?_) (fun D H1 h1 hD hd => ?_) (by exact fun x => rfl)
    · (refine evE ?P95 (fun Q h => ?h95) ?_; (case h95 => (simp only [tTest, tOp, tUn, tVar, tC, tCB, tCons, tNil, tAnd, tOr, tNot, tB, tTup, tLst, tIf, tAndV, tOrV, tNotV, tSl, tPart, tNoPart, tCall, iIx_ref, oGt_int, oMod_int, oFdiv_int, oAdd_int, oAdd_str, oSub_int, oMul_int, oLt_int, oGe_int, oLe_int, oPow_int, uNeg_int, oEq_int, oEq_str, oEq_bl, oNe_int, oNe_str, oNe_bl, cInt_int, cInt_bl, cAbs_int, cLen_ref, cList_ref, stL_ref, gName, gSub, gTup, gCons, gNil, rdSeq, List.getElem?_cons_zero, List.getElem?_cons_succ, List.set_cons_zero, List.set_cons_succ, List.cons_append, List.nil_append, Option.some.injEq, exists_eq_left', V.bl.injEq, V.int.injEq, V.ref.injEq, atI_0, atI_1, atI_2, setI_1, setI_2, Bool.not_true, Bool.not_false, Bool.false_eq_true, if_false, if_true, wipe]; exact h)); (try dsimp only [gName, tNext, List.set_cons_zero, List.set_cons_succ]))
      have e0 : (o : Int) + (j : Int) = ((o + j : Nat) : Int) := by omega
      rw [e0]
      exact val (o + j) (by omega) H' R g' (hR _ .refl)
    (try dsimp only [gName, tNext, List.set_cons_zero, List.set_cons_succ])
    have hrow : H1 D = some (.lst (((List.range (3 * p)).map fun j => fSum f g (o + j)).map oV)) := by rw [hd, List.map_map]; rfl
    generalize erow : ((List.range (3 * p)).map fun j => fSum f g (o + j)) = row at hrow
    have rl : row.length = 3 * p := by rw [← erow, List.length_map, List.length_range]
    have rv : ∀ i, i < row.length → row.getD i none = fSum f g (o + i) := fun i hi => by rw [← erow, getD_map_range (by omega)]
    obtain ⟨c1, P1⟩ := per_dvd (gr_per n1.gr) d1 hp
    obtain ⟨c2, P2⟩ := per_dvd (gr_per n2.gr) d2 hp
    have P := per_sum (P1.up (M := o) (by omega)) (P2.up (M := o) (by omega))
    obtain ⟨gs, hgs⟩ := leastG_some P (Nat.le_refl _) (by omega) rv
    obtain ⟨q1, q2, c3, q3, q4⟩ := leastG_lst P (Nat.le_refl _) (by omega) rv hgs
    refine st_seq (st_asg ?_)
    (refine evE ?P96 (fun Q h => ?h96) ?_; (case h96 => (simp only [tTest, tOp, tUn, tVar, tC, tCB, tCons, tNil, tAnd, tOr, tNot, tB, tTup, tLst, tIf, tAndV, tOrV, tNotV, tSl, tPart, tNoPart, tCall, iIx_ref, oGt_int, oMod_int, oFdiv_int, oAdd_int, oAdd_str, oSub_int, oMul_int, oLt_int, oGe_int, oLe_int, oPow_int, uNeg_int, oEq_int, oEq_str, oEq_bl, oNe_int, oNe_str, oNe_bl, cInt_int, cInt_bl, cAbs_int, cLen_ref, cList_ref, stL_ref, gName, gSub, gTup, gCons, gNil, rdSeq, List.getElem?_cons_zero, List.getElem?_cons_succ, List.set_cons_zero, List.set_cons_succ, List.cons_append, List.nil_append, Option.some.injEq, exists_eq_left', V.bl.injEq, V.int.injEq, V.ref.injEq, atI_0, atI_1, atI_2, setI_1, setI_2, Bool.not_true, Bool.not_false, Bool.false_eq_true, if_false, if_true]; exact h)); (try dsimp only [gName, tNext, List.set_cons_zero, List.set_cons_succ]))
    refine ⟨row, o, p, gs, rfl, rfl, hrow, hp, by omega, by omega, hgs, fun gt H2 h2 hgt => ?_⟩
    (try dsimp only [gName, tNext, List.set_cons_zero, List.set_cons_succ])
    have g60 : gs.length ≤ 60 := by
      obtain ⟨l, N, c, z1, z2, z3⟩ := hok
      have := q2 _ _ _ z1
      omega
    have gle : gs.length ≤ p := Nat.le_of_dvd hp q1
    refine st_seq (st_if ?_)
    (refine evT ?P97 (fun Q h => ?h97) ?_; (case h97 => (simp only [tTest, tOp, tUn, tVar, tC, tCB, tCons, tNil, tAnd, tOr, tNot, tB, tTup, tLst, tIf, tAndV, tOrV, tNotV, tSl, tPart, tNoPart, tCall, iIx_ref, oGt_int, oMod_int, oFdiv_int, oAdd_int, oAdd_str, oSub_int, oMul_int, oLt_int, oGe_int, oLe_int, oPow_int, uNeg_int, oEq_int, oEq_str, oEq_bl, oNe_int, oNe_str, oNe_bl, cInt_int, cInt_bl, cAbs_int, cLen_ref, cList_ref, stL_ref, gName, gSub, gTup, gCons, gNil, rdSeq, List.getElem?_cons_zero, List.getElem?_cons_succ, List.set_cons_zero, List.set_cons_succ, List.cons_append, List.nil_append, Option.some.injEq, exists_eq_left', V.bl.injEq, V.int.injEq, V.ref.injEq, atI_0, atI_1, atI_2, setI_1, setI_2, Bool.not_true, Bool.not_false, Bool.false_eq_true, if_false, if_true]; exact h)); (try dsimp only [gName, tNext, List.set_cons_zero, List.set_cons_succ]))
    refine lenE (.t hgt) ?_
    rw [List.length_map]
    simp only [tTest, tOp, tUn, tVar, tC, tCB, tCons, tNil, tAnd, tOr, tNot, tB, tTup, tLst, tIf, tAndV, tOrV, tNotV, tSl, tPart, tNoPart, tCall, iIx_ref, oGt_int, oMod_int, oFdiv_int, oAdd_int, oAdd_str, oSub_int, oMul_int, oLt_int, oGe_int, oLe_int, oPow_int, uNeg_int, oEq_int, oEq_str, oEq_bl, oNe_int, oNe_str, oNe_bl, cInt_int, cInt_bl, cAbs_int, cLen_ref, cList_ref, stL_ref, gName, gSub, gTup, gCons, gNil, rdSeq, List.getElem?_cons_zero, List.getElem?_cons_succ, List.set_cons_zero, List.set_cons_succ, List.cons_append, List.nil_append, Option.some.injEq, exists_eq_left', V.bl.injEq, V.int.injEq, V.ref.injEq, atI_0, atI_1, atI_2, setI_1, setI_2, Bool.not_true, Bool.not_false, Bool.false_eq_true, if_false, if_true]
    rw [decide_eq_false (by omega)]
    (refine if_no ?_; (try dsimp only [gName, tNext, List.set_cons_zero, List.set_cons_succ]))
    refine st_seq (st_if ?_)
    (refine evT ?P98 (fun Q h => ?h98) ?_; (case h98 => (simp only [tTest, tOp, tUn, tVar, tC, tCB, tCons, tNil, tAnd, tOr, tNot, tB, tTup, tLst, tIf, tAndV, tOrV, tNotV, tSl, tPart, tNoPart, tCall, iIx_ref, oGt_int, oMod_int, oFdiv_int, oAdd_int, oAdd_str, oSub_int, oMul_int, oLt_int, oGe_int, oLe_int, oPow_int, uNeg_int, oEq_int, oEq_str, oEq_bl, oNe_int, oNe_str, oNe_bl, cInt_int, cInt_bl, cAbs_int, cLen_ref, cList_ref, stL_ref, gName, gSub, gTup, gCons, gNil, rdSeq, List.getElem?_cons_zero, List.getElem?_cons_succ, List.set_cons_zero, List.set_cons_succ, List.cons_append, List.nil_append, Option.some.injEq, exists_eq_left', V.bl.injEq, V.int.injEq, V.ref.injEq, atI_0, atI_1, atI_2, setI_1, setI_2, Bool.not_true, Bool.not_false, Bool.false_eq_true, if_false, if_true]; exact h)); (try dsimp only [gName, tNext, List.set_cons_zero, List.set_cons_succ]))
    rw [decide_eq_false (by omega)]
    (refine if_no ?_; (try dsimp only [gName, tNext, List.set_cons_zero, List.set_cons_succ]))
    refine st_ret ?_
    (refine evE ?P101 (fun Q h => ?h101) ?_; (case h101 => (simp only [tTest, tOp, tUn, tVar, tC, tCB, tCons, tNil, tAnd, tOr, tNot, tB, tTup, tLst, tIf, tAndV, tOrV, tNotV, tSl, tPart, tNoPart, tCall, iIx_ref, oGt_int, oMod_int, oFdiv_int, oAdd_int, oAdd_str, oSub_int, oMul_int, oLt_int, oGe_int, oLe_int, oPow_int, uNeg_int, oEq_int, oEq_str, oEq_bl, oNe_int, oNe_str, oNe_bl, cInt_int, cInt_bl, cAbs_int, cLen_ref, cList_ref, stL_ref, gName, gSub, gTup, gCons, gNil, rdSeq, List.getElem?_cons_zero, List.getElem?_cons_succ, List.set_cons_zero, List.set_cons_succ, List.cons_append, List.nil_append, Option.some.injEq, exists_eq_left', V.bl.injEq, V.int.injEq, V.ref.injEq, atI_0, atI_1, atI_2, setI_1, setI_2, Bool.not_true, Bool.not_false, Bool.false_eq_true, if_false, if_true, tMake_eq]; exact h)))
    refine lc_ev ?_
    unfold iRng1
    (refine evA ?P102 (fun Q h => ?h102) ?_; (case h102 => (simp only [tTest, tOp, tUn, tVar, tC, tCB, tCons, tNil, tAnd, tOr, tNot, tB, tTup, tLst, tIf, tAndV, tOrV, tNotV, tSl, tPart, tNoPart, tCall, iIx_ref, oGt_int, oMod_int, oFdiv_int, oAdd_int, oAdd_str, oSub_int, oMul_int, oLt_int, oGe_int, oLe_int, oPow_int, uNeg_int, oEq_int, oEq_str, oEq_bl, oNe_int, oNe_str, oNe_bl, cInt_int, cInt_bl, cAbs_int, cLen_ref, cList_ref, stL_ref, gName, gSub, gTup, gCons, gNil, rdSeq, List.getElem?_cons_zero, List.getElem?_cons_succ, List.set_cons_zero, List.set_cons_succ, List.cons_append, List.nil_append, Option.some.injEq, exists_eq_left', V.bl.injEq, V.int.injEq, V.ref.injEq, atI_0, atI_1, atI_2, setI_1, setI_2, Bool.not_true, Bool.not_false, Bool.false_eq_true, if_false, if_true]; exact h)))
    refine ⟨_, rfl, by omega, by omega, ?_⟩
    have en : ((o : Int) + (p : Int)).toNat = o + p := by omega
    rw [en]
    refine lc_map jok_rng (fun j => oV (fSum f g j)) (by omega) (fun j hj H' g' R hR => ?_) (fun D2 H3 h3 hD2 hd2 => ?_) (by exact fun x => rfl)
    · (refine evE ?P99 (fun Q h => ?h99) ?_; (case h99 => (simp only [tTest, tOp, tUn, tVar, tC, tCB, tCons, tNil, tAnd, tOr, tNot, tB, tTup, tLst, tIf, tAndV, tOrV, tNotV, tSl, tPart, tNoPart, tCall, iIx_ref, oGt_int, oMod_int, oFdiv_int, oAdd_int, oAdd_str, oSub_int, oMul_int, oLt_int, oGe_int, oLe_int, oPow_int, uNeg_int, oEq_int, oEq_str, oEq_bl, oNe_int, oNe_str, oNe_bl, cInt_int, cInt_bl, cAbs_int, cLen_ref, cList_ref, stL_ref, gName, gSub, gTup, gCons, gNil, rdSeq, List.getElem?_cons_zero, List.getElem?_cons_succ, List.set_cons_zero, List.set_cons_succ, List.cons_append, List.nil_append, Option.some.injEq, exists_eq_left', V.bl.injEq, V.int.injEq, V.ref.injEq, atI_0, atI_1, atI_2, setI_1, setI_2, Bool.not_true, Bool.not_false, Bool.false_eq_true, if_false, if_true, wipe]; exact h)); (try dsimp only [gName, tNext, List.set_cons_zero, List.set_cons_succ]))
      have e0 : (0 : Int) + (j : Int) = (j : Int) := by omega
      rw [e0]
      exact val j (by omega) H' R ((h1.trans h2).trans g') (hR _ .refl)
    have G := gr_vals q3 rfl q4 (Nat.le_refl _) (m := o + p) (by omega)
    rw [← valsP_map] at hd2
    refine mkF (.l hd2) (.t (h3 _ _ hgt)) G g60 (by rw [valsP_len]; omega) (fun x hx => ?_) hok fun c H4 h4 hc => k c H4 ((h1.trans h2).trans (h3.trans h4)) hc
    have b1 := found_le q3 rfl q4 (Nat.le_refl _) (fb_sum fa fb) x hx
    have b2 : M + M < 2 ^ 901 := by rw [Nat.pow_succ]; omega
    exact (bn_of_le b1 (mul_pow (b := 15) b2 (by omega))).up (by decide)
  · exact h.elim

end HG

namespace HG
open PySem L2
theorem range_getD {α : Type} (l : List α) (d : α) : (List.range l.length).map (fun j => l.getD j d) = l := by
  apply List.ext_getElem
  · rw [List.length_map, List.length_range]
  · intro i h1 h2
    rw [List.getElem_map, List.getElem_range, List.getD_eq_getElem?_getD, List.getElem?_eq_getElem h2]
    rfl
theorem resF_list {α : Type} (l : List α) (d : α) (p : α → Bool) (f : α → V) : resF (fun j => p (l.getD j d)) (fun j => f (l.getD j d)) l.length = (l.filter p).map f := by
  unfold resF
  have h : (l.filter p).map f = (((List.range l.length).map (fun j => l.getD j d)).filter p).map f := by rw [range_getD]
  rw [h, List.filter_map, List.map_map]
  rfl
theorem map_list {α : Type} (l : List α) (d : α) (f : α → V) : (List.range l.length).map (fun j => f (l.getD j d)) = l.map f := by
  have h : l.map f = ((List.range l.length).map (fun j => l.getD j d)).map f := by rw [range_getD]
  rw [h, List.map_map]
  rfl
def nums (told : List (Option Int)) : List Int := told.filterMap id
theorem nums_map : ∀ told : List (Option Int), (told.filter (·.isSome)).map oV = (nums told).map V.int
  | [] => rfl
  | none :: r => nums_map r
  | some i :: r => by
    show V.int i :: (r.filter (·.isSome)).map oV = V.int i :: (nums r).map V.int
    rw [nums_map r]
theorem eq_nil {K : PySem.W.Frag} {H : Hp} {l q : Addr} {ns : List Int} {Q : VK} (hl : H l = some (.lst (ns.map V.int))) (hq : H q = some (.lst [])) (h : Q (.bl ns.isEmpty) H) : oEq K (.ref l) (.ref q) H Q := by
  have e1 : dataF 8 H (.ref l) = some (.list (ns.map PyData.int)) := dataF_ints hl
  have e2 : dataF 8 H (.ref q) = some (.list []) := dataF_ints (ns := []) hq
  simp only [oEq, e1, e2]
  exact ⟨shaped_ints ns, shaped_ints [], by rw [eqv_nil]; exact h⟩
theorem getD_map_int {ns : List Int} {j : Nat} (h : j < ns.length) : (ns.map V.int).getD j .non = .int (ns.getD j 0) := by
  rw [List.getD_eq_getElem?_getD, List.getElem?_map, List.getElem?_eq_getElem h, List.getD_eq_getElem?_getD, List.getElem?_eq_getElem h]
  rfl
theorem getD_map_oV {ns : List (Option Int)} {j : Nat} (h : j < ns.length) : (ns.map oV).getD j .non = oV (ns.getD j none) := by
  rw [List.getD_eq_getElem?_getD, List.getElem?_map, List.getElem?_eq_getElem h, List.getD_eq_getElem?_getD, List.getElem?_eq_getElem h]
  rfl

def sp_times (K : PySem.W.Frag) (A : Ad) : Sp := fun vs H Q _ => match vs with
  | [.ref a, .int k] => ∃ (f : Nat → Option Int) (M : Nat), GF K A H a f ∧ FB M f ∧ M < 2 ^ 900 ∧ Bn 900 k ∧ ∀ c H', Grow H H' → GF K A H' c (fTimes k f) → Q (.ref c) H'
  | _ => False
def t_times_1 (K : PySem.W.Frag) (A : Ad) : TS := (tRet (tMake A.c_Growth (sp_Growth_init K A) [] E0 (tCons (tVar 2) (tCons (tLc (iSeq K (tFld K (tVar 0) "gains")) (gName 4) tYes (tOp oMul (tVar 1) (tVar 4)) [4]) tNil))))
def t_times_0 (K : PySem.W.Frag) (A : Ad) : TS := (tSeq (tAsg (tLc (iSeq K (tFld K (tVar 0) "told")) (gName 3) tYes (tIf (tTest (tOp oIs (tVar 3) (tC .non))) (tC .non) (tOp oMul (tVar 1) (tVar 3))) [3]) (gName 2)) (t_times_1 K A))

theorem pure_times {K : PySem.W.Frag} {A : Ad} {vs : List V} {H : Hp} {Q : VK} {E : XK} (F : KF K A) (h : sp_times K A vs H Q E) : (t_times_0 K A) { nx := fun _ H' => Q .non H', rt := Q } (start ["growth", "number", "told", "value", "gain"] vs) H := by
  unfold sp_times at h
  split at h
  · rename_i a n
    obtain ⟨f, M, hA, fa, hM, bk, k⟩ := h
    have hsz : sizeLine = 16777216 := rfl
    have hM' : M < 2 ^ 1000 := Nat.lt_trans hM (by decide)
    show (t_times_0 K A) _ [some (.ref a), some (.int n), none, none, none] H
    obtain ⟨t1, g1, ⟨dx, at1, ag1, a1, a2, a3⟩, n1, l1, m1⟩ := id hA
    have bt := nf_bnT n1 m1 fa hM'
    have bg := nf_bn n1 m1 fa hM'
    refine st_seq (st_asg (lc_ev ?_))
    unfold iSeq
    (refine evE ?P117 (fun Q h => ?h117) ?_; (case h117 => (simp only [tTest, tOp, tUn, tVar, tC, tCB, tCons, tNil, tAnd, tOr, tNot, tB, tTup, tLst, tIf, tAndV, tOrV, tNotV, tSl, tPart, tNoPart, tCall, iIx_ref, oGt_int, oMod_int, oFdiv_int, oAdd_int, oAdd_str, oSub_int, oMul_int, oLt_int, oGe_int, oLe_int, oPow_int, uNeg_int, oEq_int, oEq_str, oEq_bl, oNe_int, oNe_str, oNe_bl, cInt_int, cInt_bl, cAbs_int, cLen_ref, cList_ref, stL_ref, gName, gSub, gTup, gCons, gNil, rdSeq, List.getElem?_cons_zero, List.getElem?_cons_succ, List.set_cons_zero, List.set_cons_succ, List.cons_append, List.nil_append, Option.some.injEq, exists_eq_left', V.bl.injEq, V.int.injEq, V.ref.injEq, atI_0, atI_1, atI_2, setI_1, setI_2, Bool.not_true, Bool.not_false, Bool.false_eq_true, if_false, if_true, tFld_eq, fldR_eq a1 F.cl F.ut rfl]; exact h)))
    refine jok_sq (.t a2) fun J hJ => ?_
    refine lc_map hJ (fun j => oV (oTimes n (t1.getD j none))) (by rw [List.length_map]; omega) (fun j hj H' g' R hR => ?_) (fun D H1 h1 hD hd => ?_) (by exact fun x => rfl)
    · rw [List.length_map] at hj
      rw [getD_map_oV hj]
      have bj := bt _ (getD_mem (d := none) hj)
      cases eo : t1.getD j none with
      | none =>
        (refine evE ?P103 (fun Q h => ?h103) ?_; (case h103 => (simp only [tTest, tOp, tUn, tVar, tC, tCB, tCons, tNil, tAnd, tOr, tNot, tB, tTup, tLst, tIf, tAndV, tOrV, tNotV, tSl, tPart, tNoPart, tCall, iIx_ref, oGt_int, oMod_int, oFdiv_int, oAdd_int, oAdd_str, oSub_int, oMul_int, oLt_int, oGe_int, oLe_int, oPow_int, uNeg_int, oEq_int, oEq_str, oEq_bl, oNe_int, oNe_str, oNe_bl, cInt_int, cInt_bl, cAbs_int, cLen_ref, cList_ref, stL_ref, gName, gSub, gTup, gCons, gNil, rdSeq, List.getElem?_cons_zero, List.getElem?_cons_succ, List.set_cons_zero, List.set_cons_succ, List.cons_append, List.nil_append, Option.some.injEq, exists_eq_left', V.bl.injEq, V.int.injEq, V.ref.injEq, atI_0, atI_1, atI_2, setI_1, setI_2, Bool.not_true, Bool.not_false, Bool.false_eq_true, if_false, if_true, wipe, oIs, oV]; exact h)); (try dsimp only [gName, tNext, List.set_cons_zero, List.set_cons_succ]))
        rw [eo] at hR
        exact hR _ .refl
      | some v =>
        (refine evE ?P104 (fun Q h => ?h104) ?_; (case h104 => (simp only [tTest, tOp, tUn, tVar, tC, tCB, tCons, tNil, tAnd, tOr, tNot, tB, tTup, tLst, tIf, tAndV, tOrV, tNotV, tSl, tPart, tNoPart, tCall, iIx_ref, oGt_int, oMod_int, oFdiv_int, oAdd_int, oAdd_str, oSub_int, oMul_int, oLt_int, oGe_int, oLe_int, oPow_int, uNeg_int, oEq_int, oEq_str, oEq_bl, oNe_int, oNe_str, oNe_bl, cInt_int, cInt_bl, cAbs_int, cLen_ref, cList_ref, stL_ref, gName, gSub, gTup, gCons, gNil, rdSeq, List.getElem?_cons_zero, List.getElem?_cons_succ, List.set_cons_zero, List.set_cons_succ, List.cons_append, List.nil_append, Option.some.injEq, exists_eq_left', V.bl.injEq, V.int.injEq, V.ref.injEq, atI_0, atI_1, atI_2, setI_1, setI_2, Bool.not_true, Bool.not_false, Bool.false_eq_true, if_false, if_true, wipe, oIs, oV]; exact h)); (try dsimp only [gName, tNext, List.set_cons_zero, List.set_cons_succ]))
        rw [eo] at hR
        exact ⟨bk.mulok (bj v eo), hR _ .refl⟩
    (try dsimp only [gName, tNext, List.set_cons_zero, List.set_cons_succ])
    have hd' : H1 D = some (.lst ((t1.map (oTimes n)).map oV)) := by
      rw [hd, List.length_map, List.map_map, ← map_list t1 none (oV ∘ oTimes n)]
      rfl
    refine st_ret ?_
    (refine evE ?P118 (fun Q h => ?h118) ?_; (case h118 => (simp only [tTest, tOp, tUn, tVar, tC, tCB, tCons, tNil, tAnd, tOr, tNot, tB, tTup, tLst, tIf, tAndV, tOrV, tNotV, tSl, tPart, tNoPart, tCall, iIx_ref, oGt_int, oMod_int, oFdiv_int, oAdd_int, oAdd_str, oSub_int, oMul_int, oLt_int, oGe_int, oLe_int, oPow_int, uNeg_int, oEq_int, oEq_str, oEq_bl, oNe_int, oNe_str, oNe_bl, cInt_int, cInt_bl, cAbs_int, cLen_ref, cList_ref, stL_ref, gName, gSub, gTup, gCons, gNil, rdSeq, List.getElem?_cons_zero, List.getElem?_cons_succ, List.set_cons_zero, List.set_cons_succ, List.cons_append, List.nil_append, Option.some.injEq, exists_eq_left', V.bl.injEq, V.int.injEq, V.ref.injEq, atI_0, atI_1, atI_2, setI_1, setI_2, Bool.not_true, Bool.not_false, Bool.false_eq_true, if_false, if_true, tMake_eq]; exact h)))
    refine lc_ev ?_
    unfold iSeq
    (refine evE ?P119 (fun Q h => ?h119) ?_; (case h119 => (simp only [tTest, tOp, tUn, tVar, tC, tCB, tCons, tNil, tAnd, tOr, tNot, tB, tTup, tLst, tIf, tAndV, tOrV, tNotV, tSl, tPart, tNoPart, tCall, iIx_ref, oGt_int, oMod_int, oFdiv_int, oAdd_int, oAdd_str, oSub_int, oMul_int, oLt_int, oGe_int, oLe_int, oPow_int, uNeg_int, oEq_int, oEq_str, oEq_bl, oNe_int, oNe_str, oNe_bl, cInt_int, cInt_bl, cAbs_int, cLen_ref, cList_ref, stL_ref, gName, gSub, gTup, gCons, gNil, rdSeq, List.getElem?_cons_zero, List.getElem?_cons_succ, List.set_cons_zero, List.set_cons_succ, List.cons_append, List.nil_append, Option.some.injEq, exists_eq_left', V.bl.injEq, V.int.injEq, V.ref.injEq, atI_0, atI_1, atI_2, setI_1, setI_2, Bool.not_true, Bool.not_false, Bool.false_eq_true, if_false, if_true, tFld_eq, fldR_eq (h1 _ _ a1) F.cl F.ug rfl]; exact h)))
    refine jok_sq (.t (h1 _ _ a3)) fun J hJ => ?_
    refine lc_map hJ (fun j => .int (n * g1.getD j 0)) (by rw [List.length_map]; omega) (fun j hj H' g' R hR => ?_) (fun D2 H2 h2 hD2 hd2 => ?_) (by exact fun x => rfl)
    · rw [List.length_map] at hj
      rw [getD_map_int hj]
      (refine evE ?P105 (fun Q h => ?h105) ?_; (case h105 => (simp only [tTest, tOp, tUn, tVar, tC, tCB, tCons, tNil, tAnd, tOr, tNot, tB, tTup, tLst, tIf, tAndV, tOrV, tNotV, tSl, tPart, tNoPart, tCall, iIx_ref, oGt_int, oMod_int, oFdiv_int, oAdd_int, oAdd_str, oSub_int, oMul_int, oLt_int, oGe_int, oLe_int, oPow_int, uNeg_int, oEq_int, oEq_str, oEq_bl, oNe_int, oNe_str, oNe_bl, cInt_int, cInt_bl, cAbs_int, cLen_ref, cList_ref, stL_ref, gName, gSub, gTup, gCons, gNil, rdSeq, List.getElem?_cons_zero, List.getElem?_cons_succ, List.set_cons_zero, List.set_cons_succ, List.cons_append, List.nil_append, Option.some.injEq, exists_eq_left', V.bl.injEq, V.int.injEq, V.ref.injEq, atI_0, atI_1, atI_2, setI_1, setI_2, Bool.not_true, Bool.not_false, Bool.false_eq_true, if_false, if_true, wipe]; exact h)); (try dsimp only [gName, tNext, List.set_cons_zero, List.set_cons_succ]))
      exact ⟨bk.mulok (bg _ (getD_mem hj)), hR _ .refl⟩
    have hd2' : H2 D2 = some (.lst ((g1.map (n * ·)).map V.int)) := by
      rw [hd2, List.length_map, List.map_map, ← map_list g1 0 (V.int ∘ (n * ·))]
      rfl
    refine mkF (.l (h2 _ _ hd')) (.l hd2') (gr_times n n1.gr) (by rw [List.length_map]; exact l1) (by rw [List.length_map]; omega) (fun x hx => ?_) (okf_times hA.okf) fun c H3 h3 hc => k c H3 (h1.trans (h2.trans h3)) hc
    obtain ⟨y, hy, rfl⟩ := List.mem_map.mp hx
    exact (bk.mul (bg y hy)).up (by decide)
  · exact h.elim
def sp_term (K : PySem.W.Frag) (A : Ad) : Sp := fun vs H Q _ => match vs with
  | [.ref a] => tyF H (.ref a) = some (.ref A.c_Growth) ∧ Q (.ref a) H
  | [.int i] => ∀ c H', Grow H H' → GF K A H' c (fun _ => some i) → Q (.ref c) H'
  | _ => False
def t_term_1 (K : PySem.W.Frag) (A : Ad) : TS := (tRet (tMake A.c_Growth (sp_Growth_init K A) [.ref A.dt_Growth_init_0] E0 (tCons (tLst (tCons (tVar 0) tNil)) tNil)))
def t_term_3 (K : PySem.W.Frag) (A : Ad) : TS := (tRet (tVar 0))
def t_term_2 (K : PySem.W.Frag) (A : Ad) : TS := (tSeq (tDrop (tCall (sp_need_growth K A) [] E0 (tCons (tVar 0) tNil))) (t_term_3 K A))
def t_term_0 (K : PySem.W.Frag) (A : Ad) : TS := (tSeq (tIfS (tB (tCall (sp_is_integer K A) [] E0 (tCons (tVar 0) tNil))) (t_term_1 K A) tNext) (t_term_2 K A))

theorem pure_term {K : PySem.W.Frag} {A : Ad} {vs : List V} {H : Hp} {Q : VK} {E : XK} (F : KF K A) (h : sp_term K A vs H Q E) : (t_term_0 K A) { nx := fun _ H' => Q .non H', rt := Q } (start ["other"] vs) H := by
  unfold sp_term at h
  split at h
  · rename_i a
    obtain ⟨h1, k⟩ := h
    show (t_term_0 K A) _ [some (.ref a)] H
    refine st_seq (st_if ?_)
    (refine evT ?P106 (fun Q h => ?h106) ?_; (case h106 => (simp only [tTest, tOp, tUn, tVar, tC, tCB, tCons, tNil, tAnd, tOr, tNot, tB, tTup, tLst, tIf, tAndV, tOrV, tNotV, tSl, tPart, tNoPart, tCall, iIx_ref, oGt_int, oMod_int, oFdiv_int, oAdd_int, oAdd_str, oSub_int, oMul_int, oLt_int, oGe_int, oLe_int, oPow_int, uNeg_int, oEq_int, oEq_str, oEq_bl, oNe_int, oNe_str, oNe_bl, cInt_int, cInt_bl, cAbs_int, cLen_ref, cList_ref, stL_ref, gName, gSub, gTup, gCons, gNil, rdSeq, List.getElem?_cons_zero, List.getElem?_cons_succ, List.set_cons_zero, List.set_cons_succ, List.cons_append, List.nil_append, Option.some.injEq, exists_eq_left', V.bl.injEq, V.int.injEq, V.ref.injEq, atI_0, atI_1, atI_2, setI_1, setI_2, Bool.not_true, Bool.not_false, Bool.false_eq_true, if_false, if_true]; exact h)); (try dsimp only [gName, tNext, List.set_cons_zero, List.set_cons_succ]))
    refine ⟨_, h1, F.it, F.ki, _, rfl, ?_⟩
    (refine if_no ?_; (try dsimp only [gName, tNext, List.set_cons_zero, List.set_cons_succ]))
    refine st_seq (st_drop ?_)
    (refine evE ?P107 (fun Q h => ?h107) ?_; (case h107 => (simp only [tTest, tOp, tUn, tVar, tC, tCB, tCons, tNil, tAnd, tOr, tNot, tB, tTup, tLst, tIf, tAndV, tOrV, tNotV, tSl, tPart, tNoPart, tCall, iIx_ref, oGt_int, oMod_int, oFdiv_int, oAdd_int, oAdd_str, oSub_int, oMul_int, oLt_int, oGe_int, oLe_int, oPow_int, uNeg_int, oEq_int, oEq_str, oEq_bl, oNe_int, oNe_str, oNe_bl, cInt_int, cInt_bl, cAbs_int, cLen_ref, cList_ref, stL_ref, gName, gSub, gTup, gCons, gNil, rdSeq, List.getElem?_cons_zero, List.getElem?_cons_succ, List.set_cons_zero, List.set_cons_succ, List.cons_append, List.nil_append, Option.some.injEq, exists_eq_left', V.bl.injEq, V.int.injEq, V.ref.injEq, atI_0, atI_1, atI_2, setI_1, setI_2, Bool.not_true, Bool.not_false, Bool.false_eq_true, if_false, if_true]; exact h)); (try dsimp only [gName, tNext, List.set_cons_zero, List.set_cons_succ]))
    refine ⟨h1, ?_⟩
    refine st_ret ?_
    (refine evE ?P108 (fun Q h => ?h108) ?_; (case h108 => (simp only [tTest, tOp, tUn, tVar, tC, tCB, tCons, tNil, tAnd, tOr, tNot, tB, tTup, tLst, tIf, tAndV, tOrV, tNotV, tSl, tPart, tNoPart, tCall, iIx_ref, oGt_int, oMod_int, oFdiv_int, oAdd_int, oAdd_str, oSub_int, oMul_int, oLt_int, oGe_int, oLe_int, oPow_int, uNeg_int, oEq_int, oEq_str, oEq_bl, oNe_int, oNe_str, oNe_bl, cInt_int, cInt_bl, cAbs_int, cLen_ref, cList_ref, stL_ref, gName, gSub, gTup, gCons, gNil, rdSeq, List.getElem?_cons_zero, List.getElem?_cons_succ, List.set_cons_zero, List.set_cons_succ, List.cons_append, List.nil_append, Option.some.injEq, exists_eq_left', V.bl.injEq, V.int.injEq, V.ref.injEq, atI_0, atI_1, atI_2, setI_1, setI_2, Bool.not_true, Bool.not_false, Bool.false_eq_true, if_false, if_true]; exact h)); (try dsimp only [gName, tNext, List.set_cons_zero, List.set_cons_succ]))
    exact k
  · rename_i i
    show (t_term_0 K A) _ [some (.int i)] H
    refine st_seq (st_if ?_)
    (refine evT ?P109 (fun Q h => ?h109) ?_; (case h109 => (simp only [tTest, tOp, tUn, tVar, tC, tCB, tCons, tNil, tAnd, tOr, tNot, tB, tTup, tLst, tIf, tAndV, tOrV, tNotV, tSl, tPart, tNoPart, tCall, iIx_ref, oGt_int, oMod_int, oFdiv_int, oAdd_int, oAdd_str, oSub_int, oMul_int, oLt_int, oGe_int, oLe_int, oPow_int, uNeg_int, oEq_int, oEq_str, oEq_bl, oNe_int, oNe_str, oNe_bl, cInt_int, cInt_bl, cAbs_int, cLen_ref, cList_ref, stL_ref, gName, gSub, gTup, gCons, gNil, rdSeq, List.getElem?_cons_zero, List.getElem?_cons_succ, List.set_cons_zero, List.set_cons_succ, List.cons_append, List.nil_append, Option.some.injEq, exists_eq_left', V.bl.injEq, V.int.injEq, V.ref.injEq, atI_0, atI_1, atI_2, setI_1, setI_2, Bool.not_true, Bool.not_false, Bool.false_eq_true, if_false, if_true, is_int]; exact h)); (try dsimp only [gName, tNext, List.set_cons_zero, List.set_cons_succ]))
    (refine if_yes ?_; (try dsimp only [gName, tNext, List.set_cons_zero, List.set_cons_succ]))
    refine st_ret ?_
    (refine evE ?P110 (fun Q h => ?h110) ?_; (case h110 => (simp only [tTest, tOp, tUn, tVar, tC, tCB, tCons, tNil, tAnd, tOr, tNot, tB, tTup, tLst, tIf, tAndV, tOrV, tNotV, tSl, tPart, tNoPart, tCall, iIx_ref, oGt_int, oMod_int, oFdiv_int, oAdd_int, oAdd_str, oSub_int, oMul_int, oLt_int, oGe_int, oLe_int, oPow_int, uNeg_int, oEq_int, oEq_str, oEq_bl, oNe_int, oNe_str, oNe_bl, cInt_int, cInt_bl, cAbs_int, cLen_ref, cList_ref, stL_ref, gName, gSub, gTup, gCons, gNil, rdSeq, List.getElem?_cons_zero, List.getElem?_cons_succ, List.set_cons_zero, List.set_cons_succ, List.cons_append, List.nil_append, Option.some.injEq, exists_eq_left', V.bl.injEq, V.int.injEq, V.ref.injEq, atI_0, atI_1, atI_2, setI_1, setI_2, Bool.not_true, Bool.not_false, Bool.false_eq_true, if_false, if_true, tMake_eq]; exact h)); (try dsimp only [gName, tNext, List.set_cons_zero, List.set_cons_succ]))
    refine ⟨by show 1 ≤ sizeLine; decide, fun l hl => ?_⟩
    exact mkF (told := [some i]) (gains := [0]) (.l upd_same) (F.dt _).sq (gr_const i) (by decide) (by show 1 ≤ 100000; decide) (bnA_one (lt_pow_big (n := 0) (by decide))) (okf_of (per_const i (l := 1) (N := 0) (by decide)) (by decide) (by decide)) fun c H' g hc => h c H' ((Grow.new hl).trans g) hc
  · exact h.elim
/-- what may stand on the right of + -/
def spRight (K : PySem.W.Frag) (A : Ad) (H : Hp) (y : V) (g : Nat → Option Int) : Prop := (∃ b, y = .ref b ∧ GF K A H b g) ∨ ∃ i, y = .int i ∧ g = fun _ => some i
def sp_Growth_add (K : PySem.W.Frag) (A : Ad) : Sp := fun vs H Q _ => match vs with
  | [.ref a, y] => ∃ (f g : Nat → Option Int) (M : Nat), GF K A H a f ∧ spRight K A H y g ∧ FB M f ∧ FB M g ∧ M < 2 ^ 900 ∧ Okf (fSum f g) ∧ ∀ c H', Grow H H' → GF K A H' c (fSum f g) → Q (.ref c) H'
  | _ => False
def t_Growth_add_0 (K : PySem.W.Frag) (A : Ad) : TS := (tRet (tCall (sp_merged K A) [] E0 (tCons (tC (.str "sum")) (tCons (tVar 0) (tCons (tCall (sp_term K A) [] E0 (tCons (tVar 1) tNil)) tNil)))))

theorem pure_Growth_add {K : PySem.W.Frag} {A : Ad} {vs : List V} {H : Hp} {Q : VK} {E : XK} (F : KF K A) (h : sp_Growth_add K A vs H Q E) : (t_Growth_add_0 K A) { nx := fun _ H' => Q .non H', rt := Q } (start ["self", "other"] vs) H := by
  unfold sp_Growth_add at h
  split at h
  · rename_i a y
    obtain ⟨f, g, M, hA, hB, fa, fb, hM, hok, k⟩ := h
    rcases hB with ⟨b, rfl, hB⟩ | ⟨i, rfl, rfl⟩
    · show (t_Growth_add_0 K A) _ [some (.ref a), some (.ref b)] H
      refine st_ret ?_
      (refine evE ?P111 (fun Q h => ?h111) ?_; (case h111 => (simp only [tTest, tOp, tUn, tVar, tC, tCB, tCons, tNil, tAnd, tOr, tNot, tB, tTup, tLst, tIf, tAndV, tOrV, tNotV, tSl, tPart, tNoPart, tCall, iIx_ref, oGt_int, oMod_int, oFdiv_int, oAdd_int, oAdd_str, oSub_int, oMul_int, oLt_int, oGe_int, oLe_int, oPow_int, uNeg_int, oEq_int, oEq_str, oEq_bl, oNe_int, oNe_str, oNe_bl, cInt_int, cInt_bl, cAbs_int, cLen_ref, cList_ref, stL_ref, gName, gSub, gTup, gCons, gNil, rdSeq, List.getElem?_cons_zero, List.getElem?_cons_succ, List.set_cons_zero, List.set_cons_succ, List.cons_append, List.nil_append, Option.some.injEq, exists_eq_left', V.bl.injEq, V.int.injEq, V.ref.injEq, atI_0, atI_1, atI_2, setI_1, setI_2, Bool.not_true, Bool.not_false, Bool.false_eq_true, if_false, if_true]; exact h)); (try dsimp only [gName, tNext, List.set_cons_zero, List.set_cons_succ]))
      exact ⟨hB.ty, rfl, f, g, M, hA, hB, fa, fb, hM, hok, k⟩
    · show (t_Growth_add_0 K A) _ [some (.ref a), some (.int i)] H
      refine st_ret ?_
      (refine evE ?P112 (fun Q h => ?h112) ?_; (case h112 => (simp only [tTest, tOp, tUn, tVar, tC, tCB, tCons, tNil, tAnd, tOr, tNot, tB, tTup, tLst, tIf, tAndV, tOrV, tNotV, tSl, tPart, tNoPart, tCall, iIx_ref, oGt_int, oMod_int, oFdiv_int, oAdd_int, oAdd_str, oSub_int, oMul_int, oLt_int, oGe_int, oLe_int, oPow_int, uNeg_int, oEq_int, oEq_str, oEq_bl, oNe_int, oNe_str, oNe_bl, cInt_int, cInt_bl, cAbs_int, cLen_ref, cList_ref, stL_ref, gName, gSub, gTup, gCons, gNil, rdSeq, List.getElem?_cons_zero, List.getElem?_cons_succ, List.set_cons_zero, List.set_cons_succ, List.cons_append, List.nil_append, Option.some.injEq, exists_eq_left', V.bl.injEq, V.int.injEq, V.ref.injEq, atI_0, atI_1, atI_2, setI_1, setI_2, Bool.not_true, Bool.not_false, Bool.false_eq_true, if_false, if_true]; exact h)); (try dsimp only [gName, tNext, List.set_cons_zero, List.set_cons_succ]))
      exact fun c H' g' hc => ⟨rfl, f, _, M, hA.grow g', hc, fa, fb, hM, hok, fun c' H2 g2 hc' => k c' H2 (g'.trans g2) hc'⟩
  · exact h.elim
def sp_Growth_mul (K : PySem.W.Frag) (A : Ad) : Sp := sp_times K A
def t_Growth_mul_1 (K : PySem.W.Frag) (A : Ad) : TS := (tRet (tCall (sp_times K A) [] E0 (tCons (tVar 0) (tCons (tVar 1) tNil))))
def t_Growth_mul_0 (K : PySem.W.Frag) (A : Ad) : TS := (tSeq (tDrop (tCall (sp_need_integer K A) [] E0 (tCons (tVar 1) tNil))) (t_Growth_mul_1 K A))

theorem pure_Growth_mul {K : PySem.W.Frag} {A : Ad} {vs : List V} {H : Hp} {Q : VK} {E : XK} (F : KF K A) (h : sp_Growth_mul K A vs H Q E) : (t_Growth_mul_0 K A) { nx := fun _ H' => Q .non H', rt := Q } (start ["self", "number"] vs) H := by
  unfold sp_Growth_mul sp_times at h
  split at h
  · rename_i a n
    show (t_Growth_mul_0 K A) _ [some (.ref a), some (.int n)] H
    refine st_seq (st_drop ?_)
    (refine evE ?P113 (fun Q h => ?h113) ?_; (case h113 => (simp only [tTest, tOp, tUn, tVar, tC, tCB, tCons, tNil, tAnd, tOr, tNot, tB, tTup, tLst, tIf, tAndV, tOrV, tNotV, tSl, tPart, tNoPart, tCall, iIx_ref, oGt_int, oMod_int, oFdiv_int, oAdd_int, oAdd_str, oSub_int, oMul_int, oLt_int, oGe_int, oLe_int, oPow_int, uNeg_int, oEq_int, oEq_str, oEq_bl, oNe_int, oNe_str, oNe_bl, cInt_int, cInt_bl, cAbs_int, cLen_ref, cList_ref, stL_ref, gName, gSub, gTup, gCons, gNil, rdSeq, List.getElem?_cons_zero, List.getElem?_cons_succ, List.set_cons_zero, List.set_cons_succ, List.cons_append, List.nil_append, Option.some.injEq, exists_eq_left', V.bl.injEq, V.int.injEq, V.ref.injEq, atI_0, atI_1, atI_2, setI_1, setI_2, Bool.not_true, Bool.not_false, Bool.false_eq_true, if_false, if_true, need_int]; exact h)); (try dsimp only [gName, tNext, List.set_cons_zero, List.set_cons_succ]))
    refine st_ret ?_
    (refine evE ?P114 (fun Q h => ?h114) ?_; (case h114 => (simp only [tTest, tOp, tUn, tVar, tC, tCB, tCons, tNil, tAnd, tOr, tNot, tB, tTup, tLst, tIf, tAndV, tOrV, tNotV, tSl, tPart, tNoPart, tCall, iIx_ref, oGt_int, oMod_int, oFdiv_int, oAdd_int, oAdd_str, oSub_int, oMul_int, oLt_int, oGe_int, oLe_int, oPow_int, uNeg_int, oEq_int, oEq_str, oEq_bl, oNe_int, oNe_str, oNe_bl, cInt_int, cInt_bl, cAbs_int, cLen_ref, cList_ref, stL_ref, gName, gSub, gTup, gCons, gNil, rdSeq, List.getElem?_cons_zero, List.getElem?_cons_succ, List.set_cons_zero, List.set_cons_succ, List.cons_append, List.nil_append, Option.some.injEq, exists_eq_left', V.bl.injEq, V.int.injEq, V.ref.injEq, atI_0, atI_1, atI_2, setI_1, setI_2, Bool.not_true, Bool.not_false, Bool.false_eq_true, if_false, if_true]; exact h)); (try dsimp only [gName, tNext, List.set_cons_zero, List.set_cons_succ]))
    exact h
  · exact h.elim
def sp_Growth_eq (K : PySem.W.Frag) (A : Ad) : Sp := fun vs H Q _ => match vs with
  | [.ref a, y] => ∃ f, GF K A H a f ∧ ((∃ b g, y = .ref b ∧ GF K A H b g ∧ (f = g → Q (.bl true) H) ∧ (f ≠ g → Q (.bl false) H)) ∨ (∃ t, tyF H y = some t ∧ tyOk K t ∧ PySem.W.kitOne K t (.ref A.c_Growth) = some false ∧ Q (.bl false) H))
  | _ => False
def t_Growth_eq_0 (K : PySem.W.Frag) (A : Ad) : TS := (tRet (tAndV (tCB (cIsi K) (tCons (tVar 1) (tCons (tC (.ref A.c_Growth)) tNil))) (tAndV (tOp (oEq K) (tFld K (tVar 0) "told") (tFld K (tVar 1) "told")) (tOp (oEq K) (tFld K (tVar 0) "gains") (tFld K (tVar 1) "gains")))))

theorem pure_Growth_eq {K : PySem.W.Frag} {A : Ad} {vs : List V} {H : Hp} {Q : VK} {E : XK} (F : KF K A) (h : sp_Growth_eq K A vs H Q E) : (t_Growth_eq_0 K A) { nx := fun _ H' => Q .non H', rt := Q } (start ["self", "other"] vs) H := by
  unfold sp_Growth_eq at h
  split at h
  · rename_i a y
    obtain ⟨f, hA, h⟩ := h
    rcases h with ⟨b, g, rfl, hB, k1, k2⟩ | ⟨t, h1, h2, h3, k⟩
    · show (t_Growth_eq_0 K A) _ [some (.ref a), some (.ref b)] H
      obtain ⟨t1, g1, ⟨dx, at1, ag1, a1, a2, a3⟩, n1, l1, m1⟩ := id hA
      obtain ⟨t2, g2, ⟨dy, at2, ag2, b1, b2, b3⟩, n2, l2, m2⟩ := id hB
      refine st_ret ?_
      (refine evE ?P115 (fun Q h => ?h115) ?_; (case h115 => (simp only [tTest, tOp, tUn, tVar, tC, tCB, tCons, tNil, tAnd, tOr, tNot, tB, tTup, tLst, tIf, tAndV, tOrV, tNotV, tSl, tPart, tNoPart, tCall, iIx_ref, oGt_int, oMod_int, oFdiv_int, oAdd_int, oAdd_str, oSub_int, oMul_int, oLt_int, oGe_int, oLe_int, oPow_int, uNeg_int, oEq_int, oEq_str, oEq_bl, oNe_int, oNe_str, oNe_bl, cInt_int, cInt_bl, cAbs_int, cLen_ref, cList_ref, stL_ref, gName, gSub, gTup, gCons, gNil, rdSeq, List.getElem?_cons_zero, List.getElem?_cons_succ, List.set_cons_zero, List.set_cons_succ, List.cons_append, List.nil_append, Option.some.injEq, exists_eq_left', V.bl.injEq, V.int.injEq, V.ref.injEq, atI_0, atI_1, atI_2, setI_1, setI_2, Bool.not_true, Bool.not_false, Bool.false_eq_true, if_false, if_true, cIsi, hB.ty, F.kr, tFld_eq, fldR_eq a1 F.cl F.ut rfl, fldR_eq b1 F.cl F.ut rfl, fldR_eq a1 F.cl F.ug rfl, fldR_eq b1 F.cl F.ug rfl]; exact h)); (try dsimp only [gName, tNext, List.set_cons_zero, List.set_cons_succ]))
      refine ⟨F.it, ?_⟩
      refine eqT a2 b2 ?_
      by_cases e1 : t1 = t2
      · rw [decide_eq_true e1]
        simp only [tTest, tOp, tUn, tVar, tC, tCB, tCons, tNil, tAnd, tOr, tNot, tB, tTup, tLst, tIf, tAndV, tOrV, tNotV, tSl, tPart, tNoPart, tCall, iIx_ref, oGt_int, oMod_int, oFdiv_int, oAdd_int, oAdd_str, oSub_int, oMul_int, oLt_int, oGe_int, oLe_int, oPow_int, uNeg_int, oEq_int, oEq_str, oEq_bl, oNe_int, oNe_str, oNe_bl, cInt_int, cInt_bl, cAbs_int, cLen_ref, cList_ref, stL_ref, gName, gSub, gTup, gCons, gNil, rdSeq, List.getElem?_cons_zero, List.getElem?_cons_succ, List.set_cons_zero, List.set_cons_succ, List.cons_append, List.nil_append, Option.some.injEq, exists_eq_left', V.bl.injEq, V.int.injEq, V.ref.injEq, atI_0, atI_1, atI_2, setI_1, setI_2, Bool.not_true, Bool.not_false, Bool.false_eq_true, if_false, if_true, fldR_eq a1 F.cl F.ug rfl, fldR_eq b1 F.cl F.ug rfl]
        refine eqG a3 b3 ?_
        by_cases e2 : g1 = g2
        · rw [decide_eq_true e2]
          refine k1 ?_
          funext n
          rw [e1, e2] at n1
          exact n1.gr.eq n2.gr n
        · rw [decide_eq_false e2]
          refine k2 fun z => e2 ?_
          rw [z] at n1
          exact (n1.uniq n2).2
      · rw [decide_eq_false e1]
        simp only [tTest, tOp, tUn, tVar, tC, tCB, tCons, tNil, tAnd, tOr, tNot, tB, tTup, tLst, tIf, tAndV, tOrV, tNotV, tSl, tPart, tNoPart, tCall, iIx_ref, oGt_int, oMod_int, oFdiv_int, oAdd_int, oAdd_str, oSub_int, oMul_int, oLt_int, oGe_int, oLe_int, oPow_int, uNeg_int, oEq_int, oEq_str, oEq_bl, oNe_int, oNe_str, oNe_bl, cInt_int, cInt_bl, cAbs_int, cLen_ref, cList_ref, stL_ref, gName, gSub, gTup, gCons, gNil, rdSeq, List.getElem?_cons_zero, List.getElem?_cons_succ, List.set_cons_zero, List.set_cons_succ, List.cons_append, List.nil_append, Option.some.injEq, exists_eq_left', V.bl.injEq, V.int.injEq, V.ref.injEq, atI_0, atI_1, atI_2, setI_1, setI_2, Bool.not_true, Bool.not_false, Bool.false_eq_true, if_false, if_true]
        refine k2 fun z => e1 ?_
        rw [z] at n1
        exact (n1.uniq n2).1
    · show (t_Growth_eq_0 K A) _ [some (.ref a), some (y)] H
      refine st_ret ?_
      (refine evE ?P116 (fun Q h => ?h116) ?_; (case h116 => (simp only [tTest, tOp, tUn, tVar, tC, tCB, tCons, tNil, tAnd, tOr, tNot, tB, tTup, tLst, tIf, tAndV, tOrV, tNotV, tSl, tPart, tNoPart, tCall, iIx_ref, oGt_int, oMod_int, oFdiv_int, oAdd_int, oAdd_str, oSub_int, oMul_int, oLt_int, oGe_int, oLe_int, oPow_int, uNeg_int, oEq_int, oEq_str, oEq_bl, oNe_int, oNe_str, oNe_bl, cInt_int, cInt_bl, cAbs_int, cLen_ref, cList_ref, stL_ref, gName, gSub, gTup, gCons, gNil, rdSeq, List.getElem?_cons_zero, List.getElem?_cons_succ, List.set_cons_zero, List.set_cons_succ, List.cons_append, List.nil_append, Option.some.injEq, exists_eq_left', V.bl.injEq, V.int.injEq, V.ref.injEq, atI_0, atI_1, atI_2, setI_1, setI_2, Bool.not_true, Bool.not_false, Bool.false_eq_true, if_false, if_true, cIsi, h1, h3]; exact h)); (try dsimp only [gName, tNext, List.set_cons_zero, List.set_cons_succ]))
      exact ⟨h2, k⟩
  · exact h.elim

/-! ### growths compared, made into texts, added: the readings at values -/
section
variable {K : PySem.W.Frag} {A : Ad} {H : Hp} {a b : Addr} {f g : Nat → Option Int} {Q : VK} {y : V} {r2 : R2}
theorem onIns_tup {r1 r2 : R2} {xs : List V} (h : H a = some (.tup xs)) : onIns r1 r2 (.ref a) y H Q = r2 (.ref a) y H Q := by simp only [onIns, h]
theorem GF.on (h : GF K A H a f) {r1 r2 : R2} : onIns r1 r2 (.ref a) y H Q = r1 (.ref a) y H Q := by
  obtain ⟨dx, fs, e⟩ := h.at
  exact onIns_yes e
theorem neG_no (F : KF K A) (hA : GF K A H a f) (hB : GF K A H b g) (e : f = g) (k : Q (.bl false) H) : onIns (rNeO A.c_Growth (sp_Growth_eq K A)) r2 (.ref a) (.ref b) H Q := by
  rw [hA.on]
  exact ⟨hA.isIns, hB.isIns, f, hA, .inl ⟨b, g, rfl, hB, fun _ => k, fun z => absurd e z⟩⟩
theorem eqG_yes (F : KF K A) (hA : GF K A H a f) (hB : GF K A H b g) (e : f = g) (k : Q (.bl true) H) : onIns (rCmp K A.c_Growth (sp_Growth_eq K A)) r2 (.ref a) (.ref b) H Q := by
  rw [hA.on]
  exact ⟨hA.isIns, ⟨_, hB.ty, F.it, F.nr⟩, f, hA, .inl ⟨b, g, rfl, hB, fun _ => k, fun z => absurd e z⟩⟩
theorem eqG_no (F : KF K A) (hA : GF K A H a f) (hB : GF K A H b g) (e : f ≠ g) (k : Q (.bl false) H) : onIns (rCmp K A.c_Growth (sp_Growth_eq K A)) r2 (.ref a) (.ref b) H Q := by
  rw [hA.on]
  exact ⟨hA.isIns, ⟨_, hB.ty, F.it, F.nr⟩, f, hA, .inl ⟨b, g, rfl, hB, fun z => absurd z e, fun _ => k⟩⟩
theorem eqG_ty {n : String} (F : KF K A) (hA : GF K A H a f) (ht : tyF H y = some (.type n)) (hn : n ∈ ["int", "bool", "NoneType", "str", "list", "tuple", "dict"]) (k : Q (.bl false) H) : onIns (rCmp K A.c_Growth (sp_Growth_eq K A)) r2 (.ref a) y H Q := by
  rw [hA.on]
  exact ⟨hA.isIns, ⟨_, ht, trivial, F.nf n hn⟩, f, hA, .inr ⟨_, ht, trivial, F.ks n hn, k⟩⟩
theorem addG {M : Nat} (hA : GF K A H a f) (hB : GF K A H b g) (fa : FB M f) (fb : FB M g) (hM : M < 2 ^ 900) (hok : Okf (fSum f g)) (k : ∀ c H', Grow H H' → GF K A H' c (fSum f g) → Q (.ref c) H') : onIns (rBinL A.c_Growth (sp_Growth_add K A)) r2 (.ref a) (.ref b) H Q := by
  rw [hA.on]
  exact ⟨hA.isIns, .inl hB.isIns, f, g, M, hA, .inl ⟨b, rfl, hB⟩, fa, fb, hM, hok, k⟩
theorem mulG {M : Nat} {i : Int} (hA : GF K A H a f) (fa : FB M f) (hM : M < 2 ^ 900) (bi : Bn 900 i) (k : ∀ c H', Grow H H' → GF K A H' c (fTimes i f) → Q (.ref c) H') : onIns (rBinL A.c_Growth (sp_Growth_mul K A)) r2 (.ref a) (.int i) H Q := by
  rw [hA.on]
  exact ⟨hA.isIns, .inr ⟨i, rfl⟩, f, M, hA, fa, hM, bi, k⟩
end

end HG

namespace HG
open PySem L2
theorem ints_of {R : Int → Prop} : ∀ {vs : List V}, (∀ v ∈ vs, ∃ x, v = .int x ∧ R x) → ∃ ns : List Int, vs = ns.map V.int ∧ ∀ n ∈ ns, R n
  | [], _ => ⟨[], rfl, fun n hn => (List.not_mem_nil hn).elim⟩
  | v :: r, h => by
    obtain ⟨x, rfl, hx⟩ := h v (List.mem_cons_self ..)
    obtain ⟨ns, rfl, hn⟩ := ints_of (vs := r) fun u hu => h u (List.mem_cons_of_mem _ hu)
    refine ⟨x :: ns, rfl, fun n hm => ?_⟩
    rcases List.mem_cons.mp hm with e | e
    · rw [e]; exact hx
    · exact hn n e
theorem opts_of {R : Option Int → Prop} : ∀ {vs : List V}, (∀ v ∈ vs, ∃ x, v = oV x ∧ R x) → ∃ ns : List (Option Int), vs = ns.map oV ∧ ∀ n ∈ ns, R n
  | [], _ => ⟨[], rfl, fun n hn => (List.not_mem_nil hn).elim⟩
  | v :: r, h => by
    obtain ⟨x, rfl, hx⟩ := h v (List.mem_cons_self ..)
    obtain ⟨ns, rfl, hn⟩ := opts_of (vs := r) fun u hu => h u (List.mem_cons_of_mem _ hu)
    refine ⟨x :: ns, rfl, fun n hm => ?_⟩
    rcases List.mem_cons.mp hm with e | e
    · rw [e]; exact hx
    · exact hn n e
def sp_law_told (K : PySem.W.Frag) (A : Ad) : Sp := fun vs H Q _ => match vs with
  | [.ref p] => ∃ l n, PenL H p l n ∧ n ≤ 900000 ∧ ∀ r t g told gains H', PenL H' p l (n + 30) → Keep p H H' → H' r = some (.tup [.ref t, .ref g]) → H' t = some (.lst (List.map oV told)) → H' g = some (.lst (List.map V.int gains)) → t ≠ p → g ≠ p → r ≠ p →
      0 < gains.length → gains.length ≤ 6 → gains.length ≤ told.length → told.length ≤ 9 → (∀ x ∈ gains, -3 ≤ x ∧ x ≤ 4) → (∀ o ∈ told, ∀ i, o = some i → -9 ≤ i ∧ i ≤ 30) → Q (.ref r) H'
  | _ => False
def t_law_told_2 (K : PySem.W.Frag) (A : Ad) : TS := (tRet (tTup (tCons (tLc (iRng1 (tCons (tVar 2) tNil)) (gName 3) tYes (tIf (tTest (tOp (oEq K) (tCall (sp_law_draw K A) [] E0 (tCons (tVar 0) (tCons (tC (.int 5)) tNil))) (tC (.int 0)))) (tC .non) (tOp oSub (tCall (sp_law_draw K A) [] E0 (tCons (tVar 0) (tCons (tC (.int 40)) tNil))) (tC (.int 9)))) [3]) (tCons (tVar 1) tNil))))
def t_law_told_1 (K : PySem.W.Frag) (A : Ad) : TS := (tSeq (tAsg (tOp oAdd (tCB (cLenE K) (tCons (tVar 1) tNil)) (tCall (sp_law_draw K A) [] E0 (tCons (tVar 0) (tCons (tC (.int 4)) tNil)))) (gName 2)) (t_law_told_2 K A))
def t_law_told_0 (K : PySem.W.Frag) (A : Ad) : TS := (tSeq (tAsg (tLc (iRng1 (tCons (tOp oAdd (tC (.int 1)) (tCall (sp_law_draw K A) [] E0 (tCons (tVar 0) (tCons (tC (.int 6)) tNil)))) tNil)) (gName 3) tYes (tOp oSub (tCall (sp_law_draw K A) [] E0 (tCons (tVar 0) (tCons (tC (.int 8)) tNil))) (tC (.int 3))) [3]) (gName 1)) (t_law_told_1 K A))

theorem pure_law_told {K : PySem.W.Frag} {A : Ad} {vs : List V} {H : Hp} {Q : VK} {E : XK} (h : sp_law_told K A vs H Q E) : (t_law_told_0 K A) { nx := fun _ H' => Q .non H', rt := Q } (start ["_law_pen_here", "_law_gains", "_law_many", "_law_turn"] vs) H := by
  unfold sp_law_told at h
  split at h
  · rename_i p
    obtain ⟨l, n, hp, hn, k⟩ := h
    have hsz : sizeLine = 16777216 := rfl
    show (t_law_told_0 K A) _ [some (.ref p), none, none, none] H
    refine st_seq (st_asg (lc_ev ?_))
    unfold iRng1
    (refine evA ?P130 (fun Q h => ?h130) ?_; (case h130 => (simp only [tTest, tOp, tUn, tVar, tC, tCB, tCons, tNil, tAnd, tOr, tNot, tB, tTup, tLst, tIf, tAndV, tOrV, tNotV, tSl, tPart, tNoPart, tCall, iIx_ref, oGt_int, oMod_int, oFdiv_int, oAdd_int, oAdd_str, oSub_int, oMul_int, oLt_int, oGe_int, oLe_int, oPow_int, uNeg_int, oEq_int, oEq_str, oEq_bl, oNe_int, oNe_str, oNe_bl, cInt_int, cInt_bl, cAbs_int, cLen_ref, cList_ref, stL_ref, gName, gSub, gTup, gCons, gNil, rdSeq, List.getElem?_cons_zero, List.getElem?_cons_succ, List.set_cons_zero, List.set_cons_succ, List.cons_append, List.nil_append, Option.some.injEq, exists_eq_left', V.bl.injEq, V.int.injEq, V.ref.injEq, atI_0, atI_1, atI_2, setI_1, setI_2, Bool.not_true, Bool.not_false, Bool.false_eq_true, if_false, if_true]; exact h)))
    refine ⟨l, n, hp, by omega, by decide, by decide, fun d H1 d0 d1 hp1 k1 => ?_⟩
    simp only [tTest, tOp, tUn, tVar, tC, tCB, tCons, tNil, tAnd, tOr, tNot, tB, tTup, tLst, tIf, tAndV, tOrV, tNotV, tSl, tPart, tNoPart, tCall, iIx_ref, oGt_int, oMod_int, oFdiv_int, oAdd_int, oAdd_str, oSub_int, oMul_int, oLt_int, oGe_int, oLe_int, oPow_int, uNeg_int, oEq_int, oEq_str, oEq_bl, oNe_int, oNe_str, oNe_bl, cInt_int, cInt_bl, cAbs_int, cLen_ref, cList_ref, stL_ref, gName, gSub, gTup, gCons, gNil, rdSeq, List.getElem?_cons_zero, List.getElem?_cons_succ, List.set_cons_zero, List.set_cons_succ, List.cons_append, List.nil_append, Option.some.injEq, exists_eq_left', V.bl.injEq, V.int.injEq, V.ref.injEq, atI_0, atI_1, atI_2, setI_1, setI_2, Bool.not_true, Bool.not_false, Bool.false_eq_true, if_false, if_true]
    refine ⟨_, rfl, by omega, by omega, ?_⟩
    obtain ⟨z1, z2, z3⟩ := keep_rng (p := p) (H1 := H1) (lo := 0) (n := (1 + d).toNat)
    refine lc_pen (fun v => ∃ x : Int, v = .int x ∧ (-3 ≤ x ∧ x ≤ 4)) 1 hp1 z1 z2 z3 (by omega) (fun j hj H' hp' k' R hR => ?_) (fun D H2 vs hvl hvs hp2 k2 hD hd => ?_) (by exact fun x => rfl)
    · (refine evE ?P120 (fun Q h => ?h120) ?_; (case h120 => (simp only [tTest, tOp, tUn, tVar, tC, tCB, tCons, tNil, tAnd, tOr, tNot, tB, tTup, tLst, tIf, tAndV, tOrV, tNotV, tSl, tPart, tNoPart, tCall, iIx_ref, oGt_int, oMod_int, oFdiv_int, oAdd_int, oAdd_str, oSub_int, oMul_int, oLt_int, oGe_int, oLe_int, oPow_int, uNeg_int, oEq_int, oEq_str, oEq_bl, oNe_int, oNe_str, oNe_bl, cInt_int, cInt_bl, cAbs_int, cLen_ref, cList_ref, stL_ref, gName, gSub, gTup, gCons, gNil, rdSeq, List.getElem?_cons_zero, List.getElem?_cons_succ, List.set_cons_zero, List.set_cons_succ, List.cons_append, List.nil_append, Option.some.injEq, exists_eq_left', V.bl.injEq, V.int.injEq, V.ref.injEq, atI_0, atI_1, atI_2, setI_1, setI_2, Bool.not_true, Bool.not_false, Bool.false_eq_true, if_false, if_true, wipe]; exact h)); (try dsimp only [gName, tNext, List.set_cons_zero, List.set_cons_succ]))
      refine ⟨l, _, hp', by omega, by decide, by decide, fun e H3 e0 e1 hp3 k3 => ?_⟩
      simp only [tTest, tOp, tUn, tVar, tC, tCB, tCons, tNil, tAnd, tOr, tNot, tB, tTup, tLst, tIf, tAndV, tOrV, tNotV, tSl, tPart, tNoPart, tCall, iIx_ref, oGt_int, oMod_int, oFdiv_int, oAdd_int, oAdd_str, oSub_int, oMul_int, oLt_int, oGe_int, oLe_int, oPow_int, uNeg_int, oEq_int, oEq_str, oEq_bl, oNe_int, oNe_str, oNe_bl, cInt_int, cInt_bl, cAbs_int, cLen_ref, cList_ref, stL_ref, gName, gSub, gTup, gCons, gNil, rdSeq, List.getElem?_cons_zero, List.getElem?_cons_succ, List.set_cons_zero, List.set_cons_succ, List.cons_append, List.nil_append, Option.some.injEq, exists_eq_left', V.bl.injEq, V.int.injEq, V.ref.injEq, atI_0, atI_1, atI_2, setI_1, setI_2, Bool.not_true, Bool.not_false, Bool.false_eq_true, if_false, if_true]
      exact hR _ _ ⟨_, rfl, by omega, by omega⟩ (hp3.up (by omega)) k3
    obtain ⟨gains, rfl, hgs⟩ := ints_of hvs
    rw [List.length_map] at hvl
    (try dsimp only [gName, tNext, List.set_cons_zero, List.set_cons_succ])
    have hDp : D ≠ p := hp1.fresh hD
    refine st_seq (st_asg ?_)
    (refine evE ?P121 (fun Q h => ?h121) ?_; (case h121 => (simp only [tTest, tOp, tUn, tVar, tC, tCB, tCons, tNil, tAnd, tOr, tNot, tB, tTup, tLst, tIf, tAndV, tOrV, tNotV, tSl, tPart, tNoPart, tCall, iIx_ref, oGt_int, oMod_int, oFdiv_int, oAdd_int, oAdd_str, oSub_int, oMul_int, oLt_int, oGe_int, oLe_int, oPow_int, uNeg_int, oEq_int, oEq_str, oEq_bl, oNe_int, oNe_str, oNe_bl, cInt_int, cInt_bl, cAbs_int, cLen_ref, cList_ref, stL_ref, gName, gSub, gTup, gCons, gNil, rdSeq, List.getElem?_cons_zero, List.getElem?_cons_succ, List.set_cons_zero, List.set_cons_succ, List.cons_append, List.nil_append, Option.some.injEq, exists_eq_left', V.bl.injEq, V.int.injEq, V.ref.injEq, atI_0, atI_1, atI_2, setI_1, setI_2, Bool.not_true, Bool.not_false, Bool.false_eq_true, if_false, if_true]; exact h)); (try dsimp only [gName, tNext, List.set_cons_zero, List.set_cons_succ]))
    refine lenE (.l hd) ?_
    rw [List.length_map]
    refine ⟨l, _, hp2, by omega, by decide, by decide, fun e H3 e0 e1 hp3 k3 => ?_⟩
    simp only [tTest, tOp, tUn, tVar, tC, tCB, tCons, tNil, tAnd, tOr, tNot, tB, tTup, tLst, tIf, tAndV, tOrV, tNotV, tSl, tPart, tNoPart, tCall, iIx_ref, oGt_int, oMod_int, oFdiv_int, oAdd_int, oAdd_str, oSub_int, oMul_int, oLt_int, oGe_int, oLe_int, oPow_int, uNeg_int, oEq_int, oEq_str, oEq_bl, oNe_int, oNe_str, oNe_bl, cInt_int, cInt_bl, cAbs_int, cLen_ref, cList_ref, stL_ref, gName, gSub, gTup, gCons, gNil, rdSeq, List.getElem?_cons_zero, List.getElem?_cons_succ, List.set_cons_zero, List.set_cons_succ, List.cons_append, List.nil_append, Option.some.injEq, exists_eq_left', V.bl.injEq, V.int.injEq, V.ref.injEq, atI_0, atI_1, atI_2, setI_1, setI_2, Bool.not_true, Bool.not_false, Bool.false_eq_true, if_false, if_true]
    (try dsimp only [gName, tNext, List.set_cons_zero, List.set_cons_succ])
    refine st_ret ?_
    (refine evE ?P131 (fun Q h => ?h131) ?_; (case h131 => (simp only [tTest, tOp, tUn, tVar, tC, tCB, tCons, tNil, tAnd, tOr, tNot, tB, tTup, tLst, tIf, tAndV, tOrV, tNotV, tSl, tPart, tNoPart, tCall, iIx_ref, oGt_int, oMod_int, oFdiv_int, oAdd_int, oAdd_str, oSub_int, oMul_int, oLt_int, oGe_int, oLe_int, oPow_int, uNeg_int, oEq_int, oEq_str, oEq_bl, oNe_int, oNe_str, oNe_bl, cInt_int, cInt_bl, cAbs_int, cLen_ref, cList_ref, stL_ref, gName, gSub, gTup, gCons, gNil, rdSeq, List.getElem?_cons_zero, List.getElem?_cons_succ, List.set_cons_zero, List.set_cons_succ, List.cons_append, List.nil_append, Option.some.injEq, exists_eq_left', V.bl.injEq, V.int.injEq, V.ref.injEq, atI_0, atI_1, atI_2, setI_1, setI_2, Bool.not_true, Bool.not_false, Bool.false_eq_true, if_false, if_true]; exact h)))
    refine lc_ev ?_
    unfold iRng1
    (refine evA ?P132 (fun Q h => ?h132) ?_; (case h132 => (simp only [tTest, tOp, tUn, tVar, tC, tCB, tCons, tNil, tAnd, tOr, tNot, tB, tTup, tLst, tIf, tAndV, tOrV, tNotV, tSl, tPart, tNoPart, tCall, iIx_ref, oGt_int, oMod_int, oFdiv_int, oAdd_int, oAdd_str, oSub_int, oMul_int, oLt_int, oGe_int, oLe_int, oPow_int, uNeg_int, oEq_int, oEq_str, oEq_bl, oNe_int, oNe_str, oNe_bl, cInt_int, cInt_bl, cAbs_int, cLen_ref, cList_ref, stL_ref, gName, gSub, gTup, gCons, gNil, rdSeq, List.getElem?_cons_zero, List.getElem?_cons_succ, List.set_cons_zero, List.set_cons_succ, List.cons_append, List.nil_append, Option.some.injEq, exists_eq_left', V.bl.injEq, V.int.injEq, V.ref.injEq, atI_0, atI_1, atI_2, setI_1, setI_2, Bool.not_true, Bool.not_false, Bool.false_eq_true, if_false, if_true]; exact h)))
    refine ⟨_, rfl, by omega, by omega, ?_⟩
    have hd3 := k3 _ _ hDp hd
    obtain ⟨z1, z2, z3⟩ := keep_rng (p := p) (H1 := H3) (lo := 0) (n := ((gains.length : Int) + e).toNat)
    refine lc_pen (fun v => ∃ x : Option Int, v = oV x ∧ ∀ i, x = some i → -9 ≤ i ∧ i ≤ 30) 2 hp3 z1 z2 z3 (by omega) (fun j hj H' hp' k' R hR => ?_) (fun D2 H4 vs hvl2 hvs2 hp4 k4 hD2 hd2 => ?_) (by exact fun x => rfl)
    · unfold tIf
      (refine evT ?P122 (fun Q h => ?h122) ?_; (case h122 => (simp only [tTest, tOp, tUn, tVar, tC, tCB, tCons, tNil, tAnd, tOr, tNot, tB, tTup, tLst, tIf, tAndV, tOrV, tNotV, tSl, tPart, tNoPart, tCall, iIx_ref, oGt_int, oMod_int, oFdiv_int, oAdd_int, oAdd_str, oSub_int, oMul_int, oLt_int, oGe_int, oLe_int, oPow_int, uNeg_int, oEq_int, oEq_str, oEq_bl, oNe_int, oNe_str, oNe_bl, cInt_int, cInt_bl, cAbs_int, cLen_ref, cList_ref, stL_ref, gName, gSub, gTup, gCons, gNil, rdSeq, List.getElem?_cons_zero, List.getElem?_cons_succ, List.set_cons_zero, List.set_cons_succ, List.cons_append, List.nil_append, Option.some.injEq, exists_eq_left', V.bl.injEq, V.int.injEq, V.ref.injEq, atI_0, atI_1, atI_2, setI_1, setI_2, Bool.not_true, Bool.not_false, Bool.false_eq_true, if_false, if_true, wipe]; exact h)); (try dsimp only [gName, tNext, List.set_cons_zero, List.set_cons_succ]))
      refine ⟨l, _, hp', by omega, by decide, by decide, fun u H5 u0 u1 hp5 k5 => ?_⟩
      simp only [tTest, tOp, tUn, tVar, tC, tCB, tCons, tNil, tAnd, tOr, tNot, tB, tTup, tLst, tIf, tAndV, tOrV, tNotV, tSl, tPart, tNoPart, tCall, iIx_ref, oGt_int, oMod_int, oFdiv_int, oAdd_int, oAdd_str, oSub_int, oMul_int, oLt_int, oGe_int, oLe_int, oPow_int, uNeg_int, oEq_int, oEq_str, oEq_bl, oNe_int, oNe_str, oNe_bl, cInt_int, cInt_bl, cAbs_int, cLen_ref, cList_ref, stL_ref, gName, gSub, gTup, gCons, gNil, rdSeq, List.getElem?_cons_zero, List.getElem?_cons_succ, List.set_cons_zero, List.set_cons_succ, List.cons_append, List.nil_append, Option.some.injEq, exists_eq_left', V.bl.injEq, V.int.injEq, V.ref.injEq, atI_0, atI_1, atI_2, setI_1, setI_2, Bool.not_true, Bool.not_false, Bool.false_eq_true, if_false, if_true]
      refine ite_dec (fun hc => ?_) (fun hc => ?_)
      · exact hR .non H5 ⟨none, rfl, fun i z => by cases z⟩ (hp5.up (by omega)) k5
      · refine ⟨_, rfl, l, _, hp5, by omega, by decide, by decide, fun w H6 w0 w1 hp6 k6 => ?_⟩
        simp only [tTest, tOp, tUn, tVar, tC, tCB, tCons, tNil, tAnd, tOr, tNot, tB, tTup, tLst, tIf, tAndV, tOrV, tNotV, tSl, tPart, tNoPart, tCall, iIx_ref, oGt_int, oMod_int, oFdiv_int, oAdd_int, oAdd_str, oSub_int, oMul_int, oLt_int, oGe_int, oLe_int, oPow_int, uNeg_int, oEq_int, oEq_str, oEq_bl, oNe_int, oNe_str, oNe_bl, cInt_int, cInt_bl, cAbs_int, cLen_ref, cList_ref, stL_ref, gName, gSub, gTup, gCons, gNil, rdSeq, List.getElem?_cons_zero, List.getElem?_cons_succ, List.set_cons_zero, List.set_cons_succ, List.cons_append, List.nil_append, Option.some.injEq, exists_eq_left', V.bl.injEq, V.int.injEq, V.ref.injEq, atI_0, atI_1, atI_2, setI_1, setI_2, Bool.not_true, Bool.not_false, Bool.false_eq_true, if_false, if_true]
        exact hR _ _ ⟨some (w - 9), rfl, fun i z => by cases z; omega⟩ (hp6.up (by omega)) (k5.trans k6)
    obtain ⟨told, rfl, hts⟩ := opts_of hvs2
    rw [List.length_map] at hvl2
    simp only [tTest, tOp, tUn, tVar, tC, tCB, tCons, tNil, tAnd, tOr, tNot, tB, tTup, tLst, tIf, tAndV, tOrV, tNotV, tSl, tPart, tNoPart, tCall, iIx_ref, oGt_int, oMod_int, oFdiv_int, oAdd_int, oAdd_str, oSub_int, oMul_int, oLt_int, oGe_int, oLe_int, oPow_int, uNeg_int, oEq_int, oEq_str, oEq_bl, oNe_int, oNe_str, oNe_bl, cInt_int, cInt_bl, cAbs_int, cLen_ref, cList_ref, stL_ref, gName, gSub, gTup, gCons, gNil, rdSeq, List.getElem?_cons_zero, List.getElem?_cons_succ, List.set_cons_zero, List.set_cons_succ, List.cons_append, List.nil_append, Option.some.injEq, exists_eq_left', V.bl.injEq, V.int.injEq, V.ref.injEq, atI_0, atI_1, atI_2, setI_1, setI_2, Bool.not_true, Bool.not_false, Bool.false_eq_true, if_false, if_true]
    refine ⟨by show 2 ≤ sizeLine; decide, fun r hr => ?_⟩
    have hD2p : D2 ≠ p := hp3.fresh hD2
    have gr := Grow.new (o := .tup [.ref D2, .ref D]) hr
    refine k r D2 D told gains _ ((hp4.grow gr).up (by omega)) ((k1.trans (k2.trans (k3.trans k4))).trans gr.keep) upd_same (gr _ _ hd2) (gr _ _ (k4 _ _ hDp hd3)) hD2p hDp (hp4.fresh hr) (by omega) (by omega) (by omega) (by omega) hgs hts
  · exact h.elim

structure PairAt (H : Hp) (r t g : Addr) (told : List (Option Int)) (gains : List Int) : Prop where
  hr : H r = some (.tup [.ref t, .ref g])
  ht : H t = some (.lst (told.map oV))
  hg : H g = some (.lst (gains.map V.int))
theorem PairAt.grow {H H' : Hp} {r t g : Addr} {told : List (Option Int)} {gains : List Int} (h : PairAt H r t g told gains) (k : Grow H H') : PairAt H' r t g told gains := ⟨k _ _ h.hr, k _ _ h.ht, k _ _ h.hg⟩

def sp_law_at (K : PySem.W.Frag) (A : Ad) : Sp := fun vs H Q _ => match vs with
  | [.ref r, .int n] => ∃ t g told gains, PairAt H r t g told gains ∧ 0 ≤ n ∧ 0 < gains.length ∧ gains.length ≤ told.length ∧ told.length ≤ 100000 ∧ BnA gains ∧ Bn 100000 n ∧ Q (oV (gv told gains n.toNat)) H
  | _ => False
def t_law_at_2 (K : PySem.W.Frag) (A : Ad) : TS := (tRet (tOp (rIx K) (tVar 2) (tVar 1)))
def t_law_at_5 (K : PySem.W.Frag) (A : Ad) : TS := (tRet (tIf (tTest (tOp oIs (tVar 5) (tC .non))) (tC .non) (tOp oAdd (tVar 5) (tOp oMul (tVar 4) (tOp (rIx K) (tVar 3) (tOp oMod (tCB cInt (tCons (tVar 1) tNil)) (tCB (cLenE K) (tCons (tVar 3) tNil))))))))
def t_law_at_4 (K : PySem.W.Frag) (A : Ad) : TS := (tSeq (tAsg (tOp (rIx K) (tVar 2) (tOp oSub (tVar 1) (tOp oMul (tVar 4) (tCB (cLenE K) (tCons (tVar 3) tNil))))) (gName 5)) (t_law_at_5 K A))
def t_law_at_3 (K : PySem.W.Frag) (A : Ad) : TS := (tSeq (tAsg (tOp oAdd (tOp oFdiv (tCB cInt (tCons (tOp oSub (tVar 1) (tCB (cLenE K) (tCons (tVar 2) tNil))) tNil)) (tCB (cLenE K) (tCons (tVar 3) tNil))) (tC (.int 1))) (gName 4)) (t_law_at_4 K A))
def t_law_at_1 (K : PySem.W.Frag) (A : Ad) : TS := (tSeq (tIfS (tTest (tOp oLt (tVar 1) (tCB (cLenE K) (tCons (tVar 2) tNil)))) (t_law_at_2 K A) tNext) (t_law_at_3 K A))
def t_law_at_0 (K : PySem.W.Frag) (A : Ad) : TS := (tSeq (tAsg (tVar 0) (gTup K 2 (gCons (gName 2) (gCons (gName 3) gNil)))) (t_law_at_1 K A))

theorem pure_law_at {K : PySem.W.Frag} {A : Ad} {vs : List V} {H : Hp} {Q : VK} {E : XK} (h : sp_law_at K A vs H Q E) : (t_law_at_0 K A) { nx := fun _ H' => Q .non H', rt := Q } (start ["_law_pair", "_law_n", "_law_told_here", "_law_gains", "_law_turns", "_law_value"] vs) H := by
  unfold sp_law_at at h
  split at h
  · rename_i r n
    obtain ⟨t, g, told, gains, hP, hn, hp, hpl, hps, bg, bn, k⟩ := h
    obtain ⟨N, rfl⟩ : ∃ N : Nat, n = N := ⟨n.toNat, by omega⟩
    rw [Int.toNat_natCast] at k
    have ht : Sq K H t (told.map oV) := .l hP.ht
    have hg : Sq K H g (gains.map V.int) := .l hP.hg
    show (t_law_at_0 K A) _ [some (.ref r), some (.int N), none, none, none, none] H
    refine st_seq (st_asg ?_)
    (refine evE ?P123 (fun Q h => ?h123) ?_; (case h123 => (simp only [tTest, tOp, tUn, tVar, tC, tCB, tCons, tNil, tAnd, tOr, tNot, tB, tTup, tLst, tIf, tAndV, tOrV, tNotV, tSl, tPart, tNoPart, tCall, iIx_ref, oGt_int, oMod_int, oFdiv_int, oAdd_int, oAdd_str, oSub_int, oMul_int, oLt_int, oGe_int, oLe_int, oPow_int, uNeg_int, oEq_int, oEq_str, oEq_bl, oNe_int, oNe_str, oNe_bl, cInt_int, cInt_bl, cAbs_int, cLen_ref, cList_ref, stL_ref, gName, gSub, gTup, gCons, gNil, rdSeq, List.getElem?_cons_zero, List.getElem?_cons_succ, List.set_cons_zero, List.set_cons_succ, List.cons_append, List.nil_append, Option.some.injEq, exists_eq_left', V.bl.injEq, V.int.injEq, V.ref.injEq, atI_0, atI_1, atI_2, setI_1, setI_2, Bool.not_true, Bool.not_false, Bool.false_eq_true, if_false, if_true]; exact h)); (try dsimp only [gName, tNext, List.set_cons_zero, List.set_cons_succ]))
    refine ⟨r, _, rfl, SqT.of hP.hr, rfl, ?_⟩
    refine ⟨_, _, rfl, ?_⟩
    refine ⟨_, _, rfl, ?_⟩
    refine ⟨rfl, ?_⟩
    (try dsimp only [gName, tNext, List.set_cons_zero, List.set_cons_succ])
    refine st_seq (st_if ?_)
    (refine evT ?P124 (fun Q h => ?h124) ?_; (case h124 => (simp only [tTest, tOp, tUn, tVar, tC, tCB, tCons, tNil, tAnd, tOr, tNot, tB, tTup, tLst, tIf, tAndV, tOrV, tNotV, tSl, tPart, tNoPart, tCall, iIx_ref, oGt_int, oMod_int, oFdiv_int, oAdd_int, oAdd_str, oSub_int, oMul_int, oLt_int, oGe_int, oLe_int, oPow_int, uNeg_int, oEq_int, oEq_str, oEq_bl, oNe_int, oNe_str, oNe_bl, cInt_int, cInt_bl, cAbs_int, cLen_ref, cList_ref, stL_ref, gName, gSub, gTup, gCons, gNil, rdSeq, List.getElem?_cons_zero, List.getElem?_cons_succ, List.set_cons_zero, List.set_cons_succ, List.cons_append, List.nil_append, Option.some.injEq, exists_eq_left', V.bl.injEq, V.int.injEq, V.ref.injEq, atI_0, atI_1, atI_2, setI_1, setI_2, Bool.not_true, Bool.not_false, Bool.false_eq_true, if_false, if_true]; exact h)); (try dsimp only [gName, tNext, List.set_cons_zero, List.set_cons_succ]))
    refine lenE ht ?_
    simp only [tTest, tOp, tUn, tVar, tC, tCB, tCons, tNil, tAnd, tOr, tNot, tB, tTup, tLst, tIf, tAndV, tOrV, tNotV, tSl, tPart, tNoPart, tCall, iIx_ref, oGt_int, oMod_int, oFdiv_int, oAdd_int, oAdd_str, oSub_int, oMul_int, oLt_int, oGe_int, oLe_int, oPow_int, uNeg_int, oEq_int, oEq_str, oEq_bl, oNe_int, oNe_str, oNe_bl, cInt_int, cInt_bl, cAbs_int, cLen_ref, cList_ref, stL_ref, gName, gSub, gTup, gCons, gNil, rdSeq, List.getElem?_cons_zero, List.getElem?_cons_succ, List.set_cons_zero, List.set_cons_succ, List.cons_append, List.nil_append, Option.some.injEq, exists_eq_left', V.bl.injEq, V.int.injEq, V.ref.injEq, atI_0, atI_1, atI_2, setI_1, setI_2, Bool.not_true, Bool.not_false, Bool.false_eq_true, if_false, if_true, List.length_map]
    refine ite_dec (fun hc => ?_) (fun hc => ?_)
    all_goals (try dsimp only [gName, tNext, List.set_cons_zero, List.set_cons_succ])
    · refine st_ret ?_
      (refine evE ?P125 (fun Q h => ?h125) ?_; (case h125 => (simp only [tTest, tOp, tUn, tVar, tC, tCB, tCons, tNil, tAnd, tOr, tNot, tB, tTup, tLst, tIf, tAndV, tOrV, tNotV, tSl, tPart, tNoPart, tCall, iIx_ref, oGt_int, oMod_int, oFdiv_int, oAdd_int, oAdd_str, oSub_int, oMul_int, oLt_int, oGe_int, oLe_int, oPow_int, uNeg_int, oEq_int, oEq_str, oEq_bl, oNe_int, oNe_str, oNe_bl, cInt_int, cInt_bl, cAbs_int, cLen_ref, cList_ref, stL_ref, gName, gSub, gTup, gCons, gNil, rdSeq, List.getElem?_cons_zero, List.getElem?_cons_succ, List.set_cons_zero, List.set_cons_succ, List.cons_append, List.nil_append, Option.some.injEq, exists_eq_left', V.bl.injEq, V.int.injEq, V.ref.injEq, atI_0, atI_1, atI_2, setI_1, setI_2, Bool.not_true, Bool.not_false, Bool.false_eq_true, if_false, if_true]; exact h)); (try dsimp only [gName, tNext, List.set_cons_zero, List.set_cons_succ]))
      refine ixE ht (atI_map (d := none) (by omega)) ?_
      rw [gv_lt (by omega)] at k
      exact k
    · refine st_seq (st_asg ?_)
      (refine evE ?P126 (fun Q h => ?h126) ?_; (case h126 => (simp only [tTest, tOp, tUn, tVar, tC, tCB, tCons, tNil, tAnd, tOr, tNot, tB, tTup, tLst, tIf, tAndV, tOrV, tNotV, tSl, tPart, tNoPart, tCall, iIx_ref, oGt_int, oMod_int, oFdiv_int, oAdd_int, oAdd_str, oSub_int, oMul_int, oLt_int, oGe_int, oLe_int, oPow_int, uNeg_int, oEq_int, oEq_str, oEq_bl, oNe_int, oNe_str, oNe_bl, cInt_int, cInt_bl, cAbs_int, cLen_ref, cList_ref, stL_ref, gName, gSub, gTup, gCons, gNil, rdSeq, List.getElem?_cons_zero, List.getElem?_cons_succ, List.set_cons_zero, List.set_cons_succ, List.cons_append, List.nil_append, Option.some.injEq, exists_eq_left', V.bl.injEq, V.int.injEq, V.ref.injEq, atI_0, atI_1, atI_2, setI_1, setI_2, Bool.not_true, Bool.not_false, Bool.false_eq_true, if_false, if_true]; exact h)); (try dsimp only [gName, tNext, List.set_cons_zero, List.set_cons_succ]))
      refine lenE ht ?_
      simp only [tTest, tOp, tUn, tVar, tC, tCB, tCons, tNil, tAnd, tOr, tNot, tB, tTup, tLst, tIf, tAndV, tOrV, tNotV, tSl, tPart, tNoPart, tCall, iIx_ref, oGt_int, oMod_int, oFdiv_int, oAdd_int, oAdd_str, oSub_int, oMul_int, oLt_int, oGe_int, oLe_int, oPow_int, uNeg_int, oEq_int, oEq_str, oEq_bl, oNe_int, oNe_str, oNe_bl, cInt_int, cInt_bl, cAbs_int, cLen_ref, cList_ref, stL_ref, gName, gSub, gTup, gCons, gNil, rdSeq, List.getElem?_cons_zero, List.getElem?_cons_succ, List.set_cons_zero, List.set_cons_succ, List.cons_append, List.nil_append, Option.some.injEq, exists_eq_left', V.bl.injEq, V.int.injEq, V.ref.injEq, atI_0, atI_1, atI_2, setI_1, setI_2, Bool.not_true, Bool.not_false, Bool.false_eq_true, if_false, if_true]
      refine lenE hg ?_
      simp only [tTest, tOp, tUn, tVar, tC, tCB, tCons, tNil, tAnd, tOr, tNot, tB, tTup, tLst, tIf, tAndV, tOrV, tNotV, tSl, tPart, tNoPart, tCall, iIx_ref, oGt_int, oMod_int, oFdiv_int, oAdd_int, oAdd_str, oSub_int, oMul_int, oLt_int, oGe_int, oLe_int, oPow_int, uNeg_int, oEq_int, oEq_str, oEq_bl, oNe_int, oNe_str, oNe_bl, cInt_int, cInt_bl, cAbs_int, cLen_ref, cList_ref, stL_ref, gName, gSub, gTup, gCons, gNil, rdSeq, List.getElem?_cons_zero, List.getElem?_cons_succ, List.set_cons_zero, List.set_cons_succ, List.cons_append, List.nil_append, Option.some.injEq, exists_eq_left', V.bl.injEq, V.int.injEq, V.ref.injEq, atI_0, atI_1, atI_2, setI_1, setI_2, Bool.not_true, Bool.not_false, Bool.false_eq_true, if_false, if_true, List.length_map]
      refine ⟨⟨by omega, log_len hp (by omega)⟩, ?_⟩
      (try dsimp only [gName, tNext, List.set_cons_zero, List.set_cons_succ])
      have e1 : ((N : Int) - (told.length : Int)) / (gains.length : Int) + 1 = (((N - told.length) / gains.length + 1 : Nat) : Int) := by
        have : (N : Int) - (told.length : Int) = ((N - told.length : Nat) : Int) := by omega
        rw [this, ← Int.natCast_ediv]
        rfl
      rw [e1]
      have gvn : gv told gains N = (told.getD (N - ((N - told.length) / gains.length + 1) * gains.length) none).map (· + (((N - told.length) / gains.length + 1 : Nat) : Int) * gains.getD (N % gains.length) 0) := by
        unfold gv
        rw [if_neg (by omega)]
      have tb : ((N - told.length) / gains.length + 1) * gains.length ≤ N := by
        rw [Nat.add_mul, Nat.one_mul]
        have := Nat.div_mul_le_self (N - told.length) gains.length
        omega
      have tl : N - ((N - told.length) / gains.length + 1) * gains.length < told.length := by
        rw [Nat.add_mul, Nat.one_mul]
        have h1 := Nat.div_add_mod (N - told.length) gains.length
        have h2 := Nat.mod_lt (N - told.length) hp
        rw [Nat.mul_comm] at h1
        omega
      have bt : Bn 100000 (((N - told.length) / gains.length + 1 : Nat) : Int) := bn.le (by
        rw [Int.natAbs_natCast, Int.natAbs_natCast]
        exact Nat.le_trans (Nat.le_mul_of_pos_right _ hp) tb)
      generalize (N - told.length) / gains.length + 1 = T at *
      refine st_seq (st_asg ?_)
      (refine evE ?P127 (fun Q h => ?h127) ?_; (case h127 => (simp only [tTest, tOp, tUn, tVar, tC, tCB, tCons, tNil, tAnd, tOr, tNot, tB, tTup, tLst, tIf, tAndV, tOrV, tNotV, tSl, tPart, tNoPart, tCall, iIx_ref, oGt_int, oMod_int, oFdiv_int, oAdd_int, oAdd_str, oSub_int, oMul_int, oLt_int, oGe_int, oLe_int, oPow_int, uNeg_int, oEq_int, oEq_str, oEq_bl, oNe_int, oNe_str, oNe_bl, cInt_int, cInt_bl, cAbs_int, cLen_ref, cList_ref, stL_ref, gName, gSub, gTup, gCons, gNil, rdSeq, List.getElem?_cons_zero, List.getElem?_cons_succ, List.set_cons_zero, List.set_cons_succ, List.cons_append, List.nil_append, Option.some.injEq, exists_eq_left', V.bl.injEq, V.int.injEq, V.ref.injEq, atI_0, atI_1, atI_2, setI_1, setI_2, Bool.not_true, Bool.not_false, Bool.false_eq_true, if_false, if_true]; exact h)); (try dsimp only [gName, tNext, List.set_cons_zero, List.set_cons_succ]))
      refine lenE hg ?_
      simp only [tTest, tOp, tUn, tVar, tC, tCB, tCons, tNil, tAnd, tOr, tNot, tB, tTup, tLst, tIf, tAndV, tOrV, tNotV, tSl, tPart, tNoPart, tCall, iIx_ref, oGt_int, oMod_int, oFdiv_int, oAdd_int, oAdd_str, oSub_int, oMul_int, oLt_int, oGe_int, oLe_int, oPow_int, uNeg_int, oEq_int, oEq_str, oEq_bl, oNe_int, oNe_str, oNe_bl, cInt_int, cInt_bl, cAbs_int, cLen_ref, cList_ref, stL_ref, gName, gSub, gTup, gCons, gNil, rdSeq, List.getElem?_cons_zero, List.getElem?_cons_succ, List.set_cons_zero, List.set_cons_succ, List.cons_append, List.nil_append, Option.some.injEq, exists_eq_left', V.bl.injEq, V.int.injEq, V.ref.injEq, atI_0, atI_1, atI_2, setI_1, setI_2, Bool.not_true, Bool.not_false, Bool.false_eq_true, if_false, if_true, List.length_map]
      refine ⟨.of_right (intBits_le_64 (by omega) (by omega)), ?_⟩
      have e2 : (N : Int) - (T : Int) * (gains.length : Int) = ((N - T * gains.length : Nat) : Int) := by
        rw [← Int.natCast_mul]
        omega
      rw [e2]
      refine ixE ht (atI_map (d := none) tl) ?_
      (try dsimp only [gName, tNext, List.set_cons_zero, List.set_cons_succ])
      refine st_ret ?_
      rw [gvn] at k
      cases ev : told.getD (N - T * gains.length) none with
      | none =>
        rw [ev] at k
        (refine evE ?P128 (fun Q h => ?h128) ?_; (case h128 => (simp only [tTest, tOp, tUn, tVar, tC, tCB, tCons, tNil, tAnd, tOr, tNot, tB, tTup, tLst, tIf, tAndV, tOrV, tNotV, tSl, tPart, tNoPart, tCall, iIx_ref, oGt_int, oMod_int, oFdiv_int, oAdd_int, oAdd_str, oSub_int, oMul_int, oLt_int, oGe_int, oLe_int, oPow_int, uNeg_int, oEq_int, oEq_str, oEq_bl, oNe_int, oNe_str, oNe_bl, cInt_int, cInt_bl, cAbs_int, cLen_ref, cList_ref, stL_ref, gName, gSub, gTup, gCons, gNil, rdSeq, List.getElem?_cons_zero, List.getElem?_cons_succ, List.set_cons_zero, List.set_cons_succ, List.cons_append, List.nil_append, Option.some.injEq, exists_eq_left', V.bl.injEq, V.int.injEq, V.ref.injEq, atI_0, atI_1, atI_2, setI_1, setI_2, Bool.not_true, Bool.not_false, Bool.false_eq_true, if_false, if_true, oIs, oV]; exact h)); (try dsimp only [gName, tNext, List.set_cons_zero, List.set_cons_succ]))
        exact k
      | some v =>
        rw [ev] at k
        (refine evE ?P129 (fun Q h => ?h129) ?_; (case h129 => (simp only [tTest, tOp, tUn, tVar, tC, tCB, tCons, tNil, tAnd, tOr, tNot, tB, tTup, tLst, tIf, tAndV, tOrV, tNotV, tSl, tPart, tNoPart, tCall, iIx_ref, oGt_int, oMod_int, oFdiv_int, oAdd_int, oAdd_str, oSub_int, oMul_int, oLt_int, oGe_int, oLe_int, oPow_int, uNeg_int, oEq_int, oEq_str, oEq_bl, oNe_int, oNe_str, oNe_bl, cInt_int, cInt_bl, cAbs_int, cLen_ref, cList_ref, stL_ref, gName, gSub, gTup, gCons, gNil, rdSeq, List.getElem?_cons_zero, List.getElem?_cons_succ, List.set_cons_zero, List.set_cons_succ, List.cons_append, List.nil_append, Option.some.injEq, exists_eq_left', V.bl.injEq, V.int.injEq, V.ref.injEq, atI_0, atI_1, atI_2, setI_1, setI_2, Bool.not_true, Bool.not_false, Bool.false_eq_true, if_false, if_true, oIs, oV]; exact h)); (try dsimp only [gName, tNext, List.set_cons_zero, List.set_cons_succ]))
        refine lenE hg ?_
        simp only [tTest, tOp, tUn, tVar, tC, tCB, tCons, tNil, tAnd, tOr, tNot, tB, tTup, tLst, tIf, tAndV, tOrV, tNotV, tSl, tPart, tNoPart, tCall, iIx_ref, oGt_int, oMod_int, oFdiv_int, oAdd_int, oAdd_str, oSub_int, oMul_int, oLt_int, oGe_int, oLe_int, oPow_int, uNeg_int, oEq_int, oEq_str, oEq_bl, oNe_int, oNe_str, oNe_bl, cInt_int, cInt_bl, cAbs_int, cLen_ref, cList_ref, stL_ref, gName, gSub, gTup, gCons, gNil, rdSeq, List.getElem?_cons_zero, List.getElem?_cons_succ, List.set_cons_zero, List.set_cons_succ, List.cons_append, List.nil_append, Option.some.injEq, exists_eq_left', V.bl.injEq, V.int.injEq, V.ref.injEq, atI_0, atI_1, atI_2, setI_1, setI_2, Bool.not_true, Bool.not_false, Bool.false_eq_true, if_false, if_true, List.length_map]
        refine ⟨by omega, ?_⟩
        have e3 : (N : Int) % (gains.length : Int) = ((N % gains.length : Nat) : Int) := (Int.natCast_emod ..).symm
        rw [e3]
        have hm : N % gains.length < gains.length := Nat.mod_lt _ hp
        refine ixE hg (atI_map (d := 0) hm) ?_
        simp only [tTest, tOp, tUn, tVar, tC, tCB, tCons, tNil, tAnd, tOr, tNot, tB, tTup, tLst, tIf, tAndV, tOrV, tNotV, tSl, tPart, tNoPart, tCall, iIx_ref, oGt_int, oMod_int, oFdiv_int, oAdd_int, oAdd_str, oSub_int, oMul_int, oLt_int, oGe_int, oLe_int, oPow_int, uNeg_int, oEq_int, oEq_str, oEq_bl, oNe_int, oNe_str, oNe_bl, cInt_int, cInt_bl, cAbs_int, cLen_ref, cList_ref, stL_ref, gName, gSub, gTup, gCons, gNil, rdSeq, List.getElem?_cons_zero, List.getElem?_cons_succ, List.set_cons_zero, List.set_cons_succ, List.cons_append, List.nil_append, Option.some.injEq, exists_eq_left', V.bl.injEq, V.int.injEq, V.ref.injEq, atI_0, atI_1, atI_2, setI_1, setI_2, Bool.not_true, Bool.not_false, Bool.false_eq_true, if_false, if_true]
        exact ⟨bt.mulok (bg _ (getD_mem hm)) (by decide), k⟩
  · exact h.elim

end HG

namespace HG
open PySem L2
def sp_law_repeats (K : PySem.W.Frag) (A : Ad) : Sp := fun vs H Q _ => match vs with
  | [.ref r, .int less] => ∃ t g told gains f, PairAt H r t g told gains ∧ Gr told gains f ∧ told.length ≤ 5000 ∧ gains.length ≤ 100 ∧ BnA gains ∧ 0 < less ∧ less.toNat ∣ gains.length ∧ ∀ b H', (b = true → ∃ N c, Per f less.toNat N c) → Grow H H' → Q (.bl b) H'
  | _ => False
def t_law_repeats_4 (K : PySem.W.Frag) (A : Ad) : TS := (tRet (tC (.bl false)))
def t_law_repeats_5 (K : PySem.W.Frag) (A : Ad) : TS := (tDrop (tBM K "list" rAppend (tVar 3) (tCons (tIf (tTest (tOp oIs (tVar 5) (tC .non))) (tC (.int 0)) (tOp oSub (tVar 6) (tVar 5))) tNil)))
def t_law_repeats_3 (K : PySem.W.Frag) (A : Ad) : TS := (tSeq (tIfS (tTest (tOp (oNe K) (tOp oIs (tVar 5) (tC .non)) (tOp oIs (tVar 6) (tC .non)))) (t_law_repeats_4 K A) tNext) (t_law_repeats_5 K A))
def t_law_repeats_2 (K : PySem.W.Frag) (A : Ad) : TS := (tSeq (tPar 5 6 (tCons (tCall (sp_law_at K A) [] E0 (tCons (tVar 0) (tCons (tVar 4) tNil))) (tCons (tCall (sp_law_at K A) [] E0 (tCons (tVar 0) (tCons (tOp oAdd (tVar 4) (tVar 1)) tNil))) tNil))) (t_law_repeats_3 K A))
def t_law_repeats_6 (K : PySem.W.Frag) (A : Ad) : TS := (tRet (tOp (oEq K) (tLc (iRng1 (tCons (tOp oSub (tCB (cLenE K) (tCons (tVar 3) tNil)) (tVar 1)) tNil)) (gName 7) (tTest (tOp (oNe K) (tOp (rIx K) (tVar 3) (tVar 7)) (tOp (rIx K) (tVar 3) (tOp oAdd (tVar 7) (tVar 1))))) (tVar 7) [7]) (tLst tNil)))
def t_law_repeats_1 (K : PySem.W.Frag) (A : Ad) : TS := (tSeq (tFor (iRng2 (tCons (tVar 2) (tCons (tOp oAdd (tVar 2) (tOp oMul (tC (.int 2)) (tCB (cLenE K) (tCons (tOp (rIx K) (tVar 0) (tC (.int 1))) tNil)))) tNil))) (gName 4)
    (t_law_repeats_2 K A)) (t_law_repeats_6 K A))
def t_law_repeats_0 (K : PySem.W.Frag) (A : Ad) : TS := (tSeq (tAsg (tTup (tCons (tCB (cLenE K) (tCons (tOp (rIx K) (tVar 0) (tC (.int 0))) tNil)) (tCons (tLst tNil) tNil))) (gTup K 2 (gCons (gName 2) (gCons (gName 3) gNil)))) (t_law_repeats_1 K A))

theorem stepv {a b : Option Int} (h : a.isNone = b.isNone) : ∃ s : Int, b = a.map (· + s) ∧ (a = none → s = 0) := by
  cases a with
  | none =>
    cases b with
    | none => exact ⟨0, rfl, fun _ => rfl⟩
    | some y => cases h
  | some x =>
    cases b with
    | none => cases h
    | some y => exact ⟨y - x, by simp; omega, fun z => by cases z⟩
theorem steps_mod {ss : List Int} {less n : Nat} (hl : 0 < less) (hn : ss.length = n) (h : ∀ i, i + less < n → ss.getD i 0 = ss.getD (i + less) 0) : ∀ i, i < n → ss.getD i 0 = ss.getD (i % less) 0 := by
  intro i
  induction i using Nat.strongRecOn with
  | _ i ih =>
    intro hi
    by_cases c : i < less
    · rw [Nat.mod_eq_of_lt c]
    · have e := h (i - less) (by omega)
      rw [Nat.sub_add_cancel (by omega)] at e
      rw [← e, ih (i - less) (by omega) (by omega), Nat.mod_eq_sub_mod (by omega : i ≥ less)]
theorem pure_law_repeats {K : PySem.W.Frag} {A : Ad} {vs : List V} {H : Hp} {Q : VK} {E : XK} (h : sp_law_repeats K A vs H Q E) : (t_law_repeats_0 K A) { nx := fun _ H' => Q .non H', rt := Q } (start ["_law_pair", "_law_less", "_law_begun", "_law_steps", "_law_n", "_law_low", "_law_high", "_law_at_here"] vs) H := by
  unfold sp_law_repeats at h
  split at h
  · rename_i r less'
    obtain ⟨t, g, told, gains, f, hP, G, hs, hs2, bg, hl, hd, k⟩ := h
    obtain ⟨less, rfl⟩ : ∃ N : Nat, less' = N := ⟨less'.toNat, by omega⟩
    rw [Int.toNat_natCast] at hd k
    have hp := G.pos
    have hpl := G.le
    have hle := Nat.le_of_dvd hp hd
    have hsz : sizeLine = 16777216 := rfl
    show (t_law_repeats_0 K A) _ [some (.ref r), some (.int less), none, none, none, none, none, none] H
    refine st_seq (st_asg ?_)
    (refine evE ?P133 (fun Q h => ?h133) ?_; (case h133 => (simp only [tTest, tOp, tUn, tVar, tC, tCB, tCons, tNil, tAnd, tOr, tNot, tB, tTup, tLst, tIf, tAndV, tOrV, tNotV, tSl, tPart, tNoPart, tCall, iIx_ref, oGt_int, oMod_int, oFdiv_int, oAdd_int, oAdd_str, oSub_int, oMul_int, oLt_int, oGe_int, oLe_int, oPow_int, uNeg_int, oEq_int, oEq_str, oEq_bl, oNe_int, oNe_str, oNe_bl, cInt_int, cInt_bl, cAbs_int, cLen_ref, cList_ref, stL_ref, gName, gSub, gTup, gCons, gNil, rdSeq, List.getElem?_cons_zero, List.getElem?_cons_succ, List.set_cons_zero, List.set_cons_succ, List.cons_append, List.nil_append, Option.some.injEq, exists_eq_left', V.bl.injEq, V.int.injEq, V.ref.injEq, atI_0, atI_1, atI_2, setI_1, setI_2, Bool.not_true, Bool.not_false, Bool.false_eq_true, if_false, if_true]; exact h)); (try dsimp only [gName, tNext, List.set_cons_zero, List.set_cons_succ]))
    refine ixE (.t hP.hr) atI_0 ?_
    refine lenE (.l hP.ht) ?_
    rw [List.length_map]
    refine ⟨by show 0 ≤ sizeLine; decide, fun D hD => ?_⟩
    have hDe : upd H D (.lst []) D = some (.lst []) := upd_same
    have g1 := Grow.new (o := .lst []) hD
    generalize upd H D (.lst []) = H1 at *
    refine ⟨by show 2 ≤ sizeLine; decide, fun pt hpt => ?_⟩
    have g2 := Grow.new (o := .tup [.int told.length, .ref D]) hpt
    have hte : upd H1 pt (.tup [.int told.length, .ref D]) pt = some (.tup [.int told.length, .ref D]) := upd_same
    have hD2 := g2 _ _ hDe
    generalize upd H1 pt (.tup [.int told.length, .ref D]) = H2 at *
    refine ⟨pt, _, rfl, SqT.of hte, rfl, ?_⟩
    refine ⟨_, _, rfl, ?_⟩
    refine ⟨_, _, rfl, ?_⟩
    refine ⟨rfl, ?_⟩
    (try dsimp only [gName, tNext, List.set_cons_zero, List.set_cons_succ])
    have P2 := hP.grow (g1.trans g2)
    have gg := g1.trans g2
    refine st_seq ?_
    unfold tFor iRng2
    (refine evA ?P134 (fun Q h => ?h134) ?_; (case h134 => (simp only [tTest, tOp, tUn, tVar, tC, tCB, tCons, tNil, tAnd, tOr, tNot, tB, tTup, tLst, tIf, tAndV, tOrV, tNotV, tSl, tPart, tNoPart, tCall, iIx_ref, oGt_int, oMod_int, oFdiv_int, oAdd_int, oAdd_str, oSub_int, oMul_int, oLt_int, oGe_int, oLe_int, oPow_int, uNeg_int, oEq_int, oEq_str, oEq_bl, oNe_int, oNe_str, oNe_bl, cInt_int, cInt_bl, cAbs_int, cLen_ref, cList_ref, stL_ref, gName, gSub, gTup, gCons, gNil, rdSeq, List.getElem?_cons_zero, List.getElem?_cons_succ, List.set_cons_zero, List.set_cons_succ, List.cons_append, List.nil_append, Option.some.injEq, exists_eq_left', V.bl.injEq, V.int.injEq, V.ref.injEq, atI_0, atI_1, atI_2, setI_1, setI_2, Bool.not_true, Bool.not_false, Bool.false_eq_true, if_false, if_true]; exact h)); (try dsimp only [gName, tNext, List.set_cons_zero, List.set_cons_succ]))
    refine ixE (.t P2.hr) atI_1 ?_
    refine lenE (.l P2.hg) ?_
    rw [List.length_map]
    simp only [tTest, tOp, tUn, tVar, tC, tCB, tCons, tNil, tAnd, tOr, tNot, tB, tTup, tLst, tIf, tAndV, tOrV, tNotV, tSl, tPart, tNoPart, tCall, iIx_ref, oGt_int, oMod_int, oFdiv_int, oAdd_int, oAdd_str, oSub_int, oMul_int, oLt_int, oGe_int, oLe_int, oPow_int, uNeg_int, oEq_int, oEq_str, oEq_bl, oNe_int, oNe_str, oNe_bl, cInt_int, cInt_bl, cAbs_int, cLen_ref, cList_ref, stL_ref, gName, gSub, gTup, gCons, gNil, rdSeq, List.getElem?_cons_zero, List.getElem?_cons_succ, List.set_cons_zero, List.set_cons_succ, List.cons_append, List.nil_append, Option.some.injEq, exists_eq_left', V.bl.injEq, V.int.injEq, V.ref.injEq, atI_0, atI_1, atI_2, setI_1, setI_2, Bool.not_true, Bool.not_false, Bool.false_eq_true, if_false, if_true]
    refine ⟨mulok_left (by decide) (by decide), _, _, rfl, ⟨by omega, by omega, by omega, by omega⟩, ?_⟩
    have en : ((told.length : Int) + 2 * (gains.length : Int) - (told.length : Int)).toNat = 2 * gains.length := by omega
    rw [en]
    refine ⟨fun i m σ H' => i ≤ 2 * gains.length ∧ m = 2 * gains.length - i ∧ Grow H H' ∧ (∃ x y z w, σ = [some (.ref r), some (.int less), some (.int told.length), some (.ref D), x, y, z, w]) ∧ ∃ ss : List Int, ss.length = i ∧ H' D = some (.lst (ss.map V.int)) ∧ ∀ j, j < i → f (told.length + j + less) = (f (told.length + j)).map (· + ss.getD j 0),
      ⟨_, Nat.zero_le _, rfl, gg, ⟨_, _, _, _, rfl⟩, [], rfl, hD2, fun j hj => absurd hj (Nat.not_lt_zero _)⟩, ?_⟩
    rintro i m σ H' ⟨hi, hm, gw, ⟨x, y, z, w, rfl⟩, ss, hsl, hDs, hss⟩
    have P' := hP.grow gw
    by_cases e : i = 2 * gains.length
    · refine .inl ⟨by show 2 * gains.length ≤ i; omega, ?_⟩
      refine st_ret ?_
      (refine evE ?P140 (fun Q h => ?h140) ?_; (case h140 => (simp only [tTest, tOp, tUn, tVar, tC, tCB, tCons, tNil, tAnd, tOr, tNot, tB, tTup, tLst, tIf, tAndV, tOrV, tNotV, tSl, tPart, tNoPart, tCall, iIx_ref, oGt_int, oMod_int, oFdiv_int, oAdd_int, oAdd_str, oSub_int, oMul_int, oLt_int, oGe_int, oLe_int, oPow_int, uNeg_int, oEq_int, oEq_str, oEq_bl, oNe_int, oNe_str, oNe_bl, cInt_int, cInt_bl, cAbs_int, cLen_ref, cList_ref, stL_ref, gName, gSub, gTup, gCons, gNil, rdSeq, List.getElem?_cons_zero, List.getElem?_cons_succ, List.set_cons_zero, List.set_cons_succ, List.cons_append, List.nil_append, Option.some.injEq, exists_eq_left', V.bl.injEq, V.int.injEq, V.ref.injEq, atI_0, atI_1, atI_2, setI_1, setI_2, Bool.not_true, Bool.not_false, Bool.false_eq_true, if_false, if_true]; exact h)))
      refine lc_ev ?_
      unfold iRng1
      (refine evA ?P141 (fun Q h => ?h141) ?_; (case h141 => (simp only [tTest, tOp, tUn, tVar, tC, tCB, tCons, tNil, tAnd, tOr, tNot, tB, tTup, tLst, tIf, tAndV, tOrV, tNotV, tSl, tPart, tNoPart, tCall, iIx_ref, oGt_int, oMod_int, oFdiv_int, oAdd_int, oAdd_str, oSub_int, oMul_int, oLt_int, oGe_int, oLe_int, oPow_int, uNeg_int, oEq_int, oEq_str, oEq_bl, oNe_int, oNe_str, oNe_bl, cInt_int, cInt_bl, cAbs_int, cLen_ref, cList_ref, stL_ref, gName, gSub, gTup, gCons, gNil, rdSeq, List.getElem?_cons_zero, List.getElem?_cons_succ, List.set_cons_zero, List.set_cons_succ, List.cons_append, List.nil_append, Option.some.injEq, exists_eq_left', V.bl.injEq, V.int.injEq, V.ref.injEq, atI_0, atI_1, atI_2, setI_1, setI_2, Bool.not_true, Bool.not_false, Bool.false_eq_true, if_false, if_true]; exact h)))
      refine lenE (.l hDs) ?_
      rw [List.length_map]
      simp only [tTest, tOp, tUn, tVar, tC, tCB, tCons, tNil, tAnd, tOr, tNot, tB, tTup, tLst, tIf, tAndV, tOrV, tNotV, tSl, tPart, tNoPart, tCall, iIx_ref, oGt_int, oMod_int, oFdiv_int, oAdd_int, oAdd_str, oSub_int, oMul_int, oLt_int, oGe_int, oLe_int, oPow_int, uNeg_int, oEq_int, oEq_str, oEq_bl, oNe_int, oNe_str, oNe_bl, cInt_int, cInt_bl, cAbs_int, cLen_ref, cList_ref, stL_ref, gName, gSub, gTup, gCons, gNil, rdSeq, List.getElem?_cons_zero, List.getElem?_cons_succ, List.set_cons_zero, List.set_cons_succ, List.cons_append, List.nil_append, Option.some.injEq, exists_eq_left', V.bl.injEq, V.int.injEq, V.ref.injEq, atI_0, atI_1, atI_2, setI_1, setI_2, Bool.not_true, Bool.not_false, Bool.false_eq_true, if_false, if_true]
      refine ⟨_, rfl, by omega, by omega, ?_⟩
      have en : ((ss.length : Int) - (less : Int)).toNat = 2 * gains.length - less := by omega
      rw [en]
      refine lc_filter jok_rng (fun j => !decide (ss.getD j 0 = ss.getD (j + less) 0)) (fun j => .int (j : Int)) (by omega) (fun j hj H3 g3 R hR => ?_) (fun j hj hpj H3 g3 R hR => ?_) (fun D3 H3 g3 hD3 hd3 => ?_) (by exact fun x => rfl)
      · (refine evT ?P135 (fun Q h => ?h135) ?_; (case h135 => (simp only [tTest, tOp, tUn, tVar, tC, tCB, tCons, tNil, tAnd, tOr, tNot, tB, tTup, tLst, tIf, tAndV, tOrV, tNotV, tSl, tPart, tNoPart, tCall, iIx_ref, oGt_int, oMod_int, oFdiv_int, oAdd_int, oAdd_str, oSub_int, oMul_int, oLt_int, oGe_int, oLe_int, oPow_int, uNeg_int, oEq_int, oEq_str, oEq_bl, oNe_int, oNe_str, oNe_bl, cInt_int, cInt_bl, cAbs_int, cLen_ref, cList_ref, stL_ref, gName, gSub, gTup, gCons, gNil, rdSeq, List.getElem?_cons_zero, List.getElem?_cons_succ, List.set_cons_zero, List.set_cons_succ, List.cons_append, List.nil_append, Option.some.injEq, exists_eq_left', V.bl.injEq, V.int.injEq, V.ref.injEq, atI_0, atI_1, atI_2, setI_1, setI_2, Bool.not_true, Bool.not_false, Bool.false_eq_true, if_false, if_true, wipe]; exact h)); (try dsimp only [gName, tNext, List.set_cons_zero, List.set_cons_succ]))
        have e0 : (0 : Int) + (j : Int) = (j : Int) := by omega
        rw [e0]
        refine ixE (.l (g3 _ _ hDs)) (atI_map (d := 0) (by omega)) ?_
        have e1 : (j : Int) + (less : Int) = ((j + less : Nat) : Int) := by omega
        rw [e1]
        refine ixE (.l (g3 _ _ hDs)) (atI_map (d := 0) (by omega)) ?_
        simp only [tTest, tOp, tUn, tVar, tC, tCB, tCons, tNil, tAnd, tOr, tNot, tB, tTup, tLst, tIf, tAndV, tOrV, tNotV, tSl, tPart, tNoPart, tCall, iIx_ref, oGt_int, oMod_int, oFdiv_int, oAdd_int, oAdd_str, oSub_int, oMul_int, oLt_int, oGe_int, oLe_int, oPow_int, uNeg_int, oEq_int, oEq_str, oEq_bl, oNe_int, oNe_str, oNe_bl, cInt_int, cInt_bl, cAbs_int, cLen_ref, cList_ref, stL_ref, gName, gSub, gTup, gCons, gNil, rdSeq, List.getElem?_cons_zero, List.getElem?_cons_succ, List.set_cons_zero, List.set_cons_succ, List.cons_append, List.nil_append, Option.some.injEq, exists_eq_left', V.bl.injEq, V.int.injEq, V.ref.injEq, atI_0, atI_1, atI_2, setI_1, setI_2, Bool.not_true, Bool.not_false, Bool.false_eq_true, if_false, if_true]
        exact hR _ .refl
      · (refine evE ?P136 (fun Q h => ?h136) ?_; (case h136 => (simp only [tTest, tOp, tUn, tVar, tC, tCB, tCons, tNil, tAnd, tOr, tNot, tB, tTup, tLst, tIf, tAndV, tOrV, tNotV, tSl, tPart, tNoPart, tCall, iIx_ref, oGt_int, oMod_int, oFdiv_int, oAdd_int, oAdd_str, oSub_int, oMul_int, oLt_int, oGe_int, oLe_int, oPow_int, uNeg_int, oEq_int, oEq_str, oEq_bl, oNe_int, oNe_str, oNe_bl, cInt_int, cInt_bl, cAbs_int, cLen_ref, cList_ref, stL_ref, gName, gSub, gTup, gCons, gNil, rdSeq, List.getElem?_cons_zero, List.getElem?_cons_succ, List.set_cons_zero, List.set_cons_succ, List.cons_append, List.nil_append, Option.some.injEq, exists_eq_left', V.bl.injEq, V.int.injEq, V.ref.injEq, atI_0, atI_1, atI_2, setI_1, setI_2, Bool.not_true, Bool.not_false, Bool.false_eq_true, if_false, if_true, wipe]; exact h)); (try dsimp only [gName, tNext, List.set_cons_zero, List.set_cons_succ]))
        have e0 : (0 : Int) + (j : Int) = (j : Int) := by omega
        rw [e0]
        exact hR _ .refl
      refine ⟨by show 0 ≤ sizeLine; decide, fun em hem => ?_⟩
      have g4 := Grow.new (o := .lst []) hem
      have hd3' : H3 D3 = some (.lst ((((List.range (2 * gains.length - less)).filter fun j => !decide (ss.getD j 0 = ss.getD (j + less) 0)).map fun j : Nat => (j : Int)).map V.int)) := by
        rw [hd3]
        unfold resF
        rw [List.map_map]
        rfl
      refine eq_nil (g4 _ _ hd3') upd_same ?_
      refine k _ _ (fun hb => ?_) (gw.trans (g3.trans g4))
      rw [List.isEmpty_iff, List.map_eq_nil_iff] at hb
      have same : ∀ j, j + less < 2 * gains.length → ss.getD j 0 = ss.getD (j + less) 0 := by
        intro j hj
        have := List.filter_eq_nil_iff.mp hb j (List.mem_range.mpr (by omega))
        simpa using this
      obtain ⟨c', hc⟩ := per_of_row (cc := fun j => ss.getD j 0) (L := told.length) (gr_per G) (by omega) hd (by omega) (fun j hj => by
        rw [hss j (by omega), steps_mod (less := less) (by omega) hsl (by rw [e]; exact same) j (by omega)])
      exact ⟨_, c', hc⟩
    · refine .inr ⟨by show i < 2 * gains.length; omega, fun σ' H'' => Grow H H'' ∧ (∃ x y z w, σ' = [some (.ref r), some (.int less), some (.int told.length), some (.ref D), x, y, z, w]) ∧ ∃ ss : List Int, ss.length = i + 1 ∧ H'' D = some (.lst (ss.map V.int)) ∧ ∀ j, j < i + 1 → f (told.length + j + less) = (f (told.length + j)).map (· + ss.getD j 0), fun σ' H'' z => ⟨2 * gains.length - (i + 1), by omega, by omega, rfl, z⟩, ?_⟩
      rintro x' H'' ⟨rfl, rfl⟩
      (try dsimp only [gName, tNext, List.set_cons_zero, List.set_cons_succ])
      have e1 : (told.length : Int) + (i : Int) = ((told.length + i : Nat) : Int) := by omega
      rw [e1]
      refine st_seq ?_
      unfold tPar
      (refine evA ?P137 (fun Q h => ?h137) ?_; (case h137 => (simp only [tTest, tOp, tUn, tVar, tC, tCB, tCons, tNil, tAnd, tOr, tNot, tB, tTup, tLst, tIf, tAndV, tOrV, tNotV, tSl, tPart, tNoPart, tCall, iIx_ref, oGt_int, oMod_int, oFdiv_int, oAdd_int, oAdd_str, oSub_int, oMul_int, oLt_int, oGe_int, oLe_int, oPow_int, uNeg_int, oEq_int, oEq_str, oEq_bl, oNe_int, oNe_str, oNe_bl, cInt_int, cInt_bl, cAbs_int, cLen_ref, cList_ref, stL_ref, gName, gSub, gTup, gCons, gNil, rdSeq, List.getElem?_cons_zero, List.getElem?_cons_succ, List.set_cons_zero, List.set_cons_succ, List.cons_append, List.nil_append, Option.some.injEq, exists_eq_left', V.bl.injEq, V.int.injEq, V.ref.injEq, atI_0, atI_1, atI_2, setI_1, setI_2, Bool.not_true, Bool.not_false, Bool.false_eq_true, if_false, if_true]; exact h)); (try dsimp only [gName, tNext, List.set_cons_zero, List.set_cons_succ]))
      refine ⟨t, g, told, gains, P', by omega, hp, hpl, by omega, bg, lt_pow_big (by omega), ?_⟩
      refine ⟨t, g, told, gains, P', by omega, hp, hpl, by omega, bg, by rw [← Int.natCast_add]; exact lt_pow_big (by omega), ?_⟩
      refine ⟨_, _, rfl, ?_⟩
      have e2 : ((told.length + i : Nat) : Int) + (less : Int) = ((told.length + i + less : Nat) : Int) := by omega
      rw [e2, Int.toNat_natCast, Int.toNat_natCast, (gr_gv hp hpl).eq G, (gr_gv hp hpl).eq G]
      (try dsimp only [gName, tNext, List.set_cons_zero, List.set_cons_succ])
      refine st_seq (st_if ?_)
      (refine evT ?P138 (fun Q h => ?h138) ?_; (case h138 => (simp only [tTest, tOp, tUn, tVar, tC, tCB, tCons, tNil, tAnd, tOr, tNot, tB, tTup, tLst, tIf, tAndV, tOrV, tNotV, tSl, tPart, tNoPart, tCall, iIx_ref, oGt_int, oMod_int, oFdiv_int, oAdd_int, oAdd_str, oSub_int, oMul_int, oLt_int, oGe_int, oLe_int, oPow_int, uNeg_int, oEq_int, oEq_str, oEq_bl, oNe_int, oNe_str, oNe_bl, cInt_int, cInt_bl, cAbs_int, cLen_ref, cList_ref, stL_ref, gName, gSub, gTup, gCons, gNil, rdSeq, List.getElem?_cons_zero, List.getElem?_cons_succ, List.set_cons_zero, List.set_cons_succ, List.cons_append, List.nil_append, Option.some.injEq, exists_eq_left', V.bl.injEq, V.int.injEq, V.ref.injEq, atI_0, atI_1, atI_2, setI_1, setI_2, Bool.not_true, Bool.not_false, Bool.false_eq_true, if_false, if_true, oIs_oV]; exact h)); (try dsimp only [gName, tNext, List.set_cons_zero, List.set_cons_succ]))
      by_cases hn : (f (told.length + i)).isNone = (f (told.length + i + less)).isNone
      · rw [hn, decide_eq_true rfl]
        (refine if_no ?_; (try dsimp only [gName, tNext, List.set_cons_zero, List.set_cons_succ]))
        obtain ⟨s, hs1, hs0⟩ := stepv hn
        have hDs' := hDs
        refine st_drop ?_
        (refine evE ?P142 (fun Q h => ?h142) ?_; (case h142 => (simp only [tTest, tOp, tUn, tVar, tC, tCB, tCons, tNil, tAnd, tOr, tNot, tB, tTup, tLst, tIf, tAndV, tOrV, tNotV, tSl, tPart, tNoPart, tCall, iIx_ref, oGt_int, oMod_int, oFdiv_int, oAdd_int, oAdd_str, oSub_int, oMul_int, oLt_int, oGe_int, oLe_int, oPow_int, uNeg_int, oEq_int, oEq_str, oEq_bl, oNe_int, oNe_str, oNe_bl, cInt_int, cInt_bl, cAbs_int, cLen_ref, cList_ref, stL_ref, gName, gSub, gTup, gCons, gNil, rdSeq, List.getElem?_cons_zero, List.getElem?_cons_succ, List.set_cons_zero, List.set_cons_succ, List.cons_append, List.nil_append, Option.some.injEq, exists_eq_left', V.bl.injEq, V.int.injEq, V.ref.injEq, atI_0, atI_1, atI_2, setI_1, setI_2, Bool.not_true, Bool.not_false, Bool.false_eq_true, if_false, if_true, tBM]; exact h)))
        refine ⟨.inl ⟨rfl, _, SqL.of hDs⟩, ?_⟩
        have nx : ∀ s' : Int, f (told.length + i + less) = (f (told.length + i)).map (· + s') → (fun (σ' : L2.St) (H'' : Hp) => Grow H H'' ∧ (∃ x y z w, σ' = [some (.ref r), some (.int less), some (.int told.length), some (.ref D), x, y, z, w]) ∧ ∃ ss : List Int, ss.length = i + 1 ∧ H'' D = some (.lst (ss.map V.int)) ∧ ∀ j, j < i + 1 → f (told.length + j + less) = (f (told.length + j)).map (· + ss.getD j 0))
            [some (.ref r), some (.int less), some (.int told.length), some (.ref D), some (.int ((told.length + i : Nat) : Int)), some (oV (f (told.length + i))), some (oV (f (told.length + i + less))), w] (upd H'' D (.lst (ss.map V.int ++ [.int s']))) := by
          intro s' hs'
          refine ⟨fun b o eb => ?_, ⟨_, _, _, _, rfl⟩, ss ++ [s'], by rw [List.length_append, hsl]; rfl, by rw [upd_same, List.map_append]; rfl, fun j hj => ?_⟩
          · rw [upd_ne (fun z => by rw [z, hD] at eb; cases eb)]
            exact gw b o eb
          · by_cases ej : j = i
            · rw [ej, hs', List.getD_eq_getElem?_getD, List.getElem?_append_right (by omega), hsl, Nat.sub_self]
              rfl
            · rw [hss j (by omega), List.getD_eq_getElem?_getD, List.getD_eq_getElem?_getD, List.getElem?_append_left (by omega)]
        cases ea : f (told.length + i) with
        | none =>
          rw [ea] at nx hs1
          refine ⟨true, rfl, ?_⟩
          refine if_yes ?_
          exact appE hDs (by rw [List.length_map]; omega) (nx 0 (by rw [hs1]; rfl))
        | some v =>
          rw [ea] at nx hs1
          refine ⟨false, rfl, ?_⟩
          refine if_no ?_
          rw [hs1]
          rw [hs1] at nx
          show oSub (.int (v + s)) (.int v) _ _
          rw [oSub_int]
          exact appE hDs (by rw [List.length_map]; omega) (nx (v + s - v) (by simp only [Option.map_some, Option.some.injEq]; omega))
      · rw [decide_eq_false hn]
        (refine if_yes ?_; (try dsimp only [gName, tNext, List.set_cons_zero, List.set_cons_succ]))
        refine st_ret ?_
        (refine evE ?P139 (fun Q h => ?h139) ?_; (case h139 => (simp only [tTest, tOp, tUn, tVar, tC, tCB, tCons, tNil, tAnd, tOr, tNot, tB, tTup, tLst, tIf, tAndV, tOrV, tNotV, tSl, tPart, tNoPart, tCall, iIx_ref, oGt_int, oMod_int, oFdiv_int, oAdd_int, oAdd_str, oSub_int, oMul_int, oLt_int, oGe_int, oLe_int, oPow_int, uNeg_int, oEq_int, oEq_str, oEq_bl, oNe_int, oNe_str, oNe_bl, cInt_int, cInt_bl, cAbs_int, cLen_ref, cList_ref, stL_ref, gName, gSub, gTup, gCons, gNil, rdSeq, List.getElem?_cons_zero, List.getElem?_cons_succ, List.set_cons_zero, List.set_cons_succ, List.cons_append, List.nil_append, Option.some.injEq, exists_eq_left', V.bl.injEq, V.int.injEq, V.ref.injEq, atI_0, atI_1, atI_2, setI_1, setI_2, Bool.not_true, Bool.not_false, Bool.false_eq_true, if_false, if_true]; exact h)); (try dsimp only [gName, tNext, List.set_cons_zero, List.set_cons_succ]))
        exact k _ _ (fun z => by cases z) gw
  · exact h.elim

end HG

namespace HG
open PySem L2
def sp_law_is_normal (K : PySem.W.Frag) (A : Ad) : Sp := fun vs H Q _ => match vs with
  | [.ref t, .ref g] => ∃ told gains f, H t = some (.tup (List.map oV told)) ∧ H g = some (.tup (List.map V.int gains)) ∧ Nf told gains f ∧ told.length ≤ 4000 ∧ gains.length ≤ 60 ∧ BnA gains ∧ ∀ H', Grow H H' → Q (.bl true) H'
  | _ => False
def t_law_is_normal_2 (K : PySem.W.Frag) (A : Ad) : TS := (tRet (tC (.bl false)))
def t_law_is_normal_5 (K : PySem.W.Frag) (A : Ad) : TS := (tRet (tC (.bl false)))
def t_law_is_normal_4 (K : PySem.W.Frag) (A : Ad) : TS := (tIfS (tAnd (tTest (tOp oIs (tOp (rIx K) (tVar 0) (tVar 5)) (tC .non))) (tTest (tOp (oNe K) (tOp (rIx K) (tVar 1) (tOp oMod (tCB cInt (tCons (tVar 5) tNil)) (tVar 3))) (tC (.int 0))))) (t_law_is_normal_5 K A) tNext)
def t_law_is_normal_9 (K : PySem.W.Frag) (A : Ad) : TS := (tRet (tC (.bl false)))
def t_law_is_normal_11 (K : PySem.W.Frag) (A : Ad) : TS := (tRet (tC (.bl false)))
def t_law_is_normal_10 (K : PySem.W.Frag) (A : Ad) : TS := (tIfS (tAnd (tTest (tOp oIsNot (tVar 6) (tC .non))) (tAnd (tTest (tOp oIsNot (tVar 7) (tC .non))) (tTest (tOp (oEq K) (tOp oSub (tVar 7) (tVar 6)) (tOp (rIx K) (tVar 1) (tOp oMod (tCB cInt (tCons (tOp oSub (tVar 2) (tC (.int 1))) tNil)) (tVar 3))))))) (t_law_is_normal_11 K A) tNext)
def t_law_is_normal_8 (K : PySem.W.Frag) (A : Ad) : TS := (tSeq (tIfS (tAnd (tTest (tOp oIs (tVar 6) (tC .non))) (tTest (tOp oIs (tVar 7) (tC .non)))) (t_law_is_normal_9 K A) tNext) (t_law_is_normal_10 K A))
def t_law_is_normal_7 (K : PySem.W.Frag) (A : Ad) : TS := (tSeq (tPar 6 7 (tCons (tOp (rIx K) (tVar 0) (tOp oSub (tOp oSub (tVar 2) (tC (.int 1))) (tVar 3))) (tCons (tOp (rIx K) (tVar 0) (tOp oSub (tVar 2) (tC (.int 1)))) tNil))) (t_law_is_normal_8 K A))
def t_law_is_normal_12 (K : PySem.W.Frag) (A : Ad) : TS := (tRet (tOp (oEq K) (tLc (iRng2 (tCons (tC (.int 1)) (tCons (tVar 3) tNil))) (gName 8) (tAnd (tTest (tOp (oEq K) (tOp oMod (tCB cInt (tCons (tVar 3) tNil)) (tVar 8)) (tC (.int 0)))) (tB (tCall (sp_law_repeats K A) [] E0 (tCons (tVar 4) (tCons (tVar 8) tNil))))) (tVar 8) [8]) (tLst tNil)))
def t_law_is_normal_6 (K : PySem.W.Frag) (A : Ad) : TS := (tSeq (tIfS (tTest (tOp oGt (tVar 2) (tVar 3))) (t_law_is_normal_7 K A) tNext) (t_law_is_normal_12 K A))
def t_law_is_normal_3 (K : PySem.W.Frag) (A : Ad) : TS := (tSeq (tFor (iRng2 (tCons (tOp oSub (tVar 2) (tVar 3)) (tCons (tVar 2) tNil))) (gName 5)
    (t_law_is_normal_4 K A)) (t_law_is_normal_6 K A))
def t_law_is_normal_1 (K : PySem.W.Frag) (A : Ad) : TS := (tSeq (tIfS (tTest (tOp oLt (tVar 2) (tVar 3))) (t_law_is_normal_2 K A) tNext) (t_law_is_normal_3 K A))
def t_law_is_normal_0 (K : PySem.W.Frag) (A : Ad) : TS := (tSeq (tAsg (tTup (tCons (tCB (cLenE K) (tCons (tVar 0) tNil)) (tCons (tCB (cLenE K) (tCons (tVar 1) tNil)) (tCons (tTup (tCons (tCB (cListE K) (tCons (tVar 0) tNil)) (tCons (tCB (cListE K) (tCons (tVar 1) tNil)) tNil))) tNil)))) (gTup K 3 (gCons (gName 2) (gCons (gName 3) (gCons (gName 4) gNil))))) (t_law_is_normal_1 K A))

theorem pure_law_is_normal {K : PySem.W.Frag} {A : Ad} {vs : List V} {H : Hp} {Q : VK} {E : XK} (h : sp_law_is_normal K A vs H Q E) : (t_law_is_normal_0 K A) { nx := fun _ H' => Q .non H', rt := Q } (start ["_law_told_here", "_law_gains", "_law_many", "_law_period", "_law_pair", "_law_n", "_law_before", "_law_last", "_law_less"] vs) H := by
  unfold sp_law_is_normal at h
  split at h
  · rename_i t g
    obtain ⟨told, gains, f, ht, hg, nf, hs, hs2, bg, k⟩ := h
    have hp := nf.gr.pos
    have hpl := nf.gr.le
    have hsz : sizeLine = 16777216 := rfl
    show (t_law_is_normal_0 K A) _ [some (.ref t), some (.ref g), none, none, none, none, none, none, none] H
    refine st_seq (st_asg ?_)
    (refine evE ?P143 (fun Q h => ?h143) ?_; (case h143 => (simp only [tTest, tOp, tUn, tVar, tC, tCB, tCons, tNil, tAnd, tOr, tNot, tB, tTup, tLst, tIf, tAndV, tOrV, tNotV, tSl, tPart, tNoPart, tCall, iIx_ref, oGt_int, oMod_int, oFdiv_int, oAdd_int, oAdd_str, oSub_int, oMul_int, oLt_int, oGe_int, oLe_int, oPow_int, uNeg_int, oEq_int, oEq_str, oEq_bl, oNe_int, oNe_str, oNe_bl, cInt_int, cInt_bl, cAbs_int, cLen_ref, cList_ref, stL_ref, gName, gSub, gTup, gCons, gNil, rdSeq, List.getElem?_cons_zero, List.getElem?_cons_succ, List.set_cons_zero, List.set_cons_succ, List.cons_append, List.nil_append, Option.some.injEq, exists_eq_left', V.bl.injEq, V.int.injEq, V.ref.injEq, atI_0, atI_1, atI_2, setI_1, setI_2, Bool.not_true, Bool.not_false, Bool.false_eq_true, if_false, if_true]; exact h)); (try dsimp only [gName, tNext, List.set_cons_zero, List.set_cons_succ]))
    refine lenE (.t ht) (lenE (.t hg) ?_)
    rw [List.length_map, List.length_map]
    refine listE (.t ht) fun t1 ht1 => ?_
    have g1 := Grow.new (o := .lst (told.map oV)) ht1
    have e1 : upd H t1 (.lst (told.map oV)) t1 = some (.lst (told.map oV)) := upd_same
    generalize upd H t1 (.lst (told.map oV)) = H1 at *
    refine listE (.t (g1 _ _ hg)) fun t2 ht2 => ?_
    have g2 := Grow.new (o := .lst (gains.map V.int)) ht2
    have e2 : upd H1 t2 (.lst (gains.map V.int)) t2 = some (.lst (gains.map V.int)) := upd_same
    have e1' := g2 _ _ e1
    generalize upd H1 t2 (.lst (gains.map V.int)) = H2 at *
    refine ⟨by show 2 ≤ sizeLine; decide, fun r hr => ?_⟩
    have g3 := Grow.new (o := .tup [.ref t1, .ref t2]) hr
    have P3 : PairAt (upd H2 r (.tup [.ref t1, .ref t2])) r t1 t2 told gains := ⟨upd_same, g3 _ _ e1', g3 _ _ e2⟩
    generalize upd H2 r (.tup [.ref t1, .ref t2]) = H3 at *
    refine ⟨by show 3 ≤ sizeLine; decide, fun pt hpt => ?_⟩
    have g4 := Grow.new (o := .tup [.int told.length, .int gains.length, .ref r]) hpt
    have hte : upd H3 pt (.tup [.int told.length, .int gains.length, .ref r]) pt = some (.tup [.int told.length, .int gains.length, .ref r]) := upd_same
    have P4 := P3.grow g4
    generalize upd H3 pt (.tup [.int told.length, .int gains.length, .ref r]) = H4 at *
    refine ⟨pt, _, rfl, SqT.of hte, rfl, ?_⟩
    refine ⟨_, _, rfl, ?_⟩
    refine ⟨_, _, rfl, ?_⟩
    refine ⟨_, _, rfl, ?_⟩
    refine ⟨rfl, ?_⟩
    (try dsimp only [gName, tNext, List.set_cons_zero, List.set_cons_succ])
    have gg := (g1.trans g2).trans (g3.trans g4)
    have ht4 := gg _ _ ht
    have hg4 := gg _ _ hg
    refine st_seq (st_if ?_)
    (refine evT ?P144 (fun Q h => ?h144) ?_; (case h144 => (simp only [tTest, tOp, tUn, tVar, tC, tCB, tCons, tNil, tAnd, tOr, tNot, tB, tTup, tLst, tIf, tAndV, tOrV, tNotV, tSl, tPart, tNoPart, tCall, iIx_ref, oGt_int, oMod_int, oFdiv_int, oAdd_int, oAdd_str, oSub_int, oMul_int, oLt_int, oGe_int, oLe_int, oPow_int, uNeg_int, oEq_int, oEq_str, oEq_bl, oNe_int, oNe_str, oNe_bl, cInt_int, cInt_bl, cAbs_int, cLen_ref, cList_ref, stL_ref, gName, gSub, gTup, gCons, gNil, rdSeq, List.getElem?_cons_zero, List.getElem?_cons_succ, List.set_cons_zero, List.set_cons_succ, List.cons_append, List.nil_append, Option.some.injEq, exists_eq_left', V.bl.injEq, V.int.injEq, V.ref.injEq, atI_0, atI_1, atI_2, setI_1, setI_2, Bool.not_true, Bool.not_false, Bool.false_eq_true, if_false, if_true]; exact h)); (try dsimp only [gName, tNext, List.set_cons_zero, List.set_cons_succ]))
    rw [decide_eq_false (by omega)]
    (refine if_no ?_; (try dsimp only [gName, tNext, List.set_cons_zero, List.set_cons_succ]))
    refine st_seq ?_
    unfold tFor iRng2
    (refine evA ?P145 (fun Q h => ?h145) ?_; (case h145 => (simp only [tTest, tOp, tUn, tVar, tC, tCB, tCons, tNil, tAnd, tOr, tNot, tB, tTup, tLst, tIf, tAndV, tOrV, tNotV, tSl, tPart, tNoPart, tCall, iIx_ref, oGt_int, oMod_int, oFdiv_int, oAdd_int, oAdd_str, oSub_int, oMul_int, oLt_int, oGe_int, oLe_int, oPow_int, uNeg_int, oEq_int, oEq_str, oEq_bl, oNe_int, oNe_str, oNe_bl, cInt_int, cInt_bl, cAbs_int, cLen_ref, cList_ref, stL_ref, gName, gSub, gTup, gCons, gNil, rdSeq, List.getElem?_cons_zero, List.getElem?_cons_succ, List.set_cons_zero, List.set_cons_succ, List.cons_append, List.nil_append, Option.some.injEq, exists_eq_left', V.bl.injEq, V.int.injEq, V.ref.injEq, atI_0, atI_1, atI_2, setI_1, setI_2, Bool.not_true, Bool.not_false, Bool.false_eq_true, if_false, if_true]; exact h)); (try dsimp only [gName, tNext, List.set_cons_zero, List.set_cons_succ]))
    refine ⟨_, _, rfl, ⟨by omega, by omega, by omega, by omega⟩, ?_⟩
    have en : ((told.length : Int) - ((told.length : Int) - (gains.length : Int))).toNat = gains.length := by omega
    rw [en]
    refine ⟨fun i m σ H' => i ≤ gains.length ∧ m = gains.length - i ∧ H' = H4 ∧ ∃ x y z w, σ = [some (.ref t), some (.ref g), some (.int told.length), some (.int gains.length), some (.ref r), x, y, z, w], ⟨_, Nat.zero_le _, rfl, rfl, _, _, _, _, rfl⟩, ?_⟩
    rintro i m σ H' ⟨hi, hm, rfl, x, y, z, w, rfl⟩
    by_cases e : i = gains.length
    · refine .inl ⟨by show gains.length ≤ i; omega, ?_⟩
      have last : ∀ x y z w, t_law_is_normal_12 K A { nx := fun x H' => Q .non H', rt := Q } [some (.ref t), some (.ref g), some (.int told.length), some (.int gains.length), some (.ref r), x, y, z, w] H' := by
        intro x y z w
        refine st_ret ?_
        (refine evE ?P153 (fun Q h => ?h153) ?_; (case h153 => (simp only [tTest, tOp, tUn, tVar, tC, tCB, tCons, tNil, tAnd, tOr, tNot, tB, tTup, tLst, tIf, tAndV, tOrV, tNotV, tSl, tPart, tNoPart, tCall, iIx_ref, oGt_int, oMod_int, oFdiv_int, oAdd_int, oAdd_str, oSub_int, oMul_int, oLt_int, oGe_int, oLe_int, oPow_int, uNeg_int, oEq_int, oEq_str, oEq_bl, oNe_int, oNe_str, oNe_bl, cInt_int, cInt_bl, cAbs_int, cLen_ref, cList_ref, stL_ref, gName, gSub, gTup, gCons, gNil, rdSeq, List.getElem?_cons_zero, List.getElem?_cons_succ, List.set_cons_zero, List.set_cons_succ, List.cons_append, List.nil_append, Option.some.injEq, exists_eq_left', V.bl.injEq, V.int.injEq, V.ref.injEq, atI_0, atI_1, atI_2, setI_1, setI_2, Bool.not_true, Bool.not_false, Bool.false_eq_true, if_false, if_true]; exact h)))
        refine lc_ev ?_
        unfold iRng2
        (refine evA ?P154 (fun Q h => ?h154) ?_; (case h154 => (simp only [tTest, tOp, tUn, tVar, tC, tCB, tCons, tNil, tAnd, tOr, tNot, tB, tTup, tLst, tIf, tAndV, tOrV, tNotV, tSl, tPart, tNoPart, tCall, iIx_ref, oGt_int, oMod_int, oFdiv_int, oAdd_int, oAdd_str, oSub_int, oMul_int, oLt_int, oGe_int, oLe_int, oPow_int, uNeg_int, oEq_int, oEq_str, oEq_bl, oNe_int, oNe_str, oNe_bl, cInt_int, cInt_bl, cAbs_int, cLen_ref, cList_ref, stL_ref, gName, gSub, gTup, gCons, gNil, rdSeq, List.getElem?_cons_zero, List.getElem?_cons_succ, List.set_cons_zero, List.set_cons_succ, List.cons_append, List.nil_append, Option.some.injEq, exists_eq_left', V.bl.injEq, V.int.injEq, V.ref.injEq, atI_0, atI_1, atI_2, setI_1, setI_2, Bool.not_true, Bool.not_false, Bool.false_eq_true, if_false, if_true]; exact h)))
        refine ⟨_, _, rfl, ⟨by omega, by omega, by omega, by omega⟩, ?_⟩
        refine lc_filter jok_rng (fun _ => false) (fun _ => .non) (by omega) (fun j hj H5 g5 R hR => ?_) (fun j hj hpj => by cases hpj) (fun D5 H5 g5 hD5 hd5 => ?_) (by exact fun x => rfl)
        · (refine evT ?P146 (fun Q h => ?h146) ?_; (case h146 => (simp only [tTest, tOp, tUn, tVar, tC, tCB, tCons, tNil, tAnd, tOr, tNot, tB, tTup, tLst, tIf, tAndV, tOrV, tNotV, tSl, tPart, tNoPart, tCall, iIx_ref, oGt_int, oMod_int, oFdiv_int, oAdd_int, oAdd_str, oSub_int, oMul_int, oLt_int, oGe_int, oLe_int, oPow_int, uNeg_int, oEq_int, oEq_str, oEq_bl, oNe_int, oNe_str, oNe_bl, cInt_int, cInt_bl, cAbs_int, cLen_ref, cList_ref, stL_ref, gName, gSub, gTup, gCons, gNil, rdSeq, List.getElem?_cons_zero, List.getElem?_cons_succ, List.set_cons_zero, List.set_cons_succ, List.cons_append, List.nil_append, Option.some.injEq, exists_eq_left', V.bl.injEq, V.int.injEq, V.ref.injEq, atI_0, atI_1, atI_2, setI_1, setI_2, Bool.not_true, Bool.not_false, Bool.false_eq_true, if_false, if_true, wipe]; exact h)); (try dsimp only [gName, tNext, List.set_cons_zero, List.set_cons_succ]))
          have e0 : (1 : Int) + (j : Int) = ((j + 1 : Nat) : Int) := by omega
          rw [e0]
          refine ⟨by omega, ?_⟩
          by_cases hd : gains.length % (j + 1) = 0
          · have ed : decide ((gains.length : Int) % ((j + 1 : Nat) : Int) = 0) = true := decide_eq_true (by rw [← Int.natCast_emod, hd]; rfl)
            rw [ed]
            refine if_yes ⟨t1, t2, told, gains, f, P4.grow g5, nf.gr, by omega, by omega, bg, by omega, ?_, fun b H6 hb g6 => ⟨b, rfl, ?_⟩⟩
            · rw [Int.toNat_natCast]
              exact Nat.dvd_of_mod_eq_zero hd
            · cases b with
              | false => exact hR _ g6
              | true =>
                exfalso
                obtain ⟨N, c, hc⟩ := hb rfl
                rw [Int.toNat_natCast] at hc
                have := nf.lst _ _ _ hc
                omega
          · have ed : decide ((gains.length : Int) % ((j + 1 : Nat) : Int) = 0) = false := decide_eq_false (by rw [← Int.natCast_emod]; omega)
            rw [ed]
            refine if_no ?_
            exact hR _ .refl
        have hr0 : ∀ n, resF (fun _ => false) (fun _ => V.non) n = [] := fun n => by unfold resF; simp
        rw [hr0] at hd5
        refine ⟨by show 0 ≤ sizeLine; decide, fun e5 he5 => ?_⟩
        have g6 := Grow.new (o := .lst []) he5
        refine eq_nil (ns := []) (g6 _ _ hd5) upd_same ?_
        exact k _ (gg.trans (g5.trans g6))
      refine st_seq (st_if ?_)
      (refine evT ?P147 (fun Q h => ?h147) ?_; (case h147 => (simp only [tTest, tOp, tUn, tVar, tC, tCB, tCons, tNil, tAnd, tOr, tNot, tB, tTup, tLst, tIf, tAndV, tOrV, tNotV, tSl, tPart, tNoPart, tCall, iIx_ref, oGt_int, oMod_int, oFdiv_int, oAdd_int, oAdd_str, oSub_int, oMul_int, oLt_int, oGe_int, oLe_int, oPow_int, uNeg_int, oEq_int, oEq_str, oEq_bl, oNe_int, oNe_str, oNe_bl, cInt_int, cInt_bl, cAbs_int, cLen_ref, cList_ref, stL_ref, gName, gSub, gTup, gCons, gNil, rdSeq, List.getElem?_cons_zero, List.getElem?_cons_succ, List.set_cons_zero, List.set_cons_succ, List.cons_append, List.nil_append, Option.some.injEq, exists_eq_left', V.bl.injEq, V.int.injEq, V.ref.injEq, atI_0, atI_1, atI_2, setI_1, setI_2, Bool.not_true, Bool.not_false, Bool.false_eq_true, if_false, if_true]; exact h)); (try dsimp only [gName, tNext, List.set_cons_zero, List.set_cons_succ]))
      refine ite_dec (fun hc => ?_) (fun hc => ?_)
      all_goals (try dsimp only [gName, tNext, List.set_cons_zero, List.set_cons_succ])
      · refine st_seq ?_
        unfold tPar
        (refine evA ?P148 (fun Q h => ?h148) ?_; (case h148 => (simp only [tTest, tOp, tUn, tVar, tC, tCB, tCons, tNil, tAnd, tOr, tNot, tB, tTup, tLst, tIf, tAndV, tOrV, tNotV, tSl, tPart, tNoPart, tCall, iIx_ref, oGt_int, oMod_int, oFdiv_int, oAdd_int, oAdd_str, oSub_int, oMul_int, oLt_int, oGe_int, oLe_int, oPow_int, uNeg_int, oEq_int, oEq_str, oEq_bl, oNe_int, oNe_str, oNe_bl, cInt_int, cInt_bl, cAbs_int, cLen_ref, cList_ref, stL_ref, gName, gSub, gTup, gCons, gNil, rdSeq, List.getElem?_cons_zero, List.getElem?_cons_succ, List.set_cons_zero, List.set_cons_succ, List.cons_append, List.nil_append, Option.some.injEq, exists_eq_left', V.bl.injEq, V.int.injEq, V.ref.injEq, atI_0, atI_1, atI_2, setI_1, setI_2, Bool.not_true, Bool.not_false, Bool.false_eq_true, if_false, if_true]; exact h)); (try dsimp only [gName, tNext, List.set_cons_zero, List.set_cons_succ]))
        have q1 : (told.length : Int) - 1 - (gains.length : Int) = ((told.length - 1 - gains.length : Nat) : Int) := by omega
        have q2 : (told.length : Int) - 1 = ((told.length - 1 : Nat) : Int) := by omega
        rw [q1, q2]
        refine ixE (.t ht4) (atI_map (d := none) (by omega)) ?_
        refine ixE (.t ht4) (atI_map (d := none) (by omega)) ?_
        refine ⟨_, _, rfl, ?_⟩
        (try dsimp only [gName, tNext, List.set_cons_zero, List.set_cons_succ])
        have cut := nf.cut (by omega)
        generalize eu : told.getD (told.length - 1 - gains.length) none = u at *
        generalize ev : told.getD (told.length - 1) none = v at *
        have hm : (told.length - 1) % gains.length < gains.length := Nat.mod_lt _ hp
        refine st_seq (st_if ?_)
        (refine evT ?P149 (fun Q h => ?h149) ?_; (case h149 => (simp only [tTest, tOp, tUn, tVar, tC, tCB, tCons, tNil, tAnd, tOr, tNot, tB, tTup, tLst, tIf, tAndV, tOrV, tNotV, tSl, tPart, tNoPart, tCall, iIx_ref, oGt_int, oMod_int, oFdiv_int, oAdd_int, oAdd_str, oSub_int, oMul_int, oLt_int, oGe_int, oLe_int, oPow_int, uNeg_int, oEq_int, oEq_str, oEq_bl, oNe_int, oNe_str, oNe_bl, cInt_int, cInt_bl, cAbs_int, cLen_ref, cList_ref, stL_ref, gName, gSub, gTup, gCons, gNil, rdSeq, List.getElem?_cons_zero, List.getElem?_cons_succ, List.set_cons_zero, List.set_cons_succ, List.cons_append, List.nil_append, Option.some.injEq, exists_eq_left', V.bl.injEq, V.int.injEq, V.ref.injEq, atI_0, atI_1, atI_2, setI_1, setI_2, Bool.not_true, Bool.not_false, Bool.false_eq_true, if_false, if_true, oIs_oV]; exact h)); (try dsimp only [gName, tNext, List.set_cons_zero, List.set_cons_succ]))
        cases u with
        | none =>
          refine if_yes ?_
          cases v with
          | none => exact absurd rfl cut
          | some b =>
            (refine if_no ?_; (try dsimp only [gName, tNext, List.set_cons_zero, List.set_cons_succ]))
            refine st_if ?_
            (refine evT ?P150 (fun Q h => ?h150) ?_; (case h150 => (simp only [tTest, tOp, tUn, tVar, tC, tCB, tCons, tNil, tAnd, tOr, tNot, tB, tTup, tLst, tIf, tAndV, tOrV, tNotV, tSl, tPart, tNoPart, tCall, iIx_ref, oGt_int, oMod_int, oFdiv_int, oAdd_int, oAdd_str, oSub_int, oMul_int, oLt_int, oGe_int, oLe_int, oPow_int, uNeg_int, oEq_int, oEq_str, oEq_bl, oNe_int, oNe_str, oNe_bl, cInt_int, cInt_bl, cAbs_int, cLen_ref, cList_ref, stL_ref, gName, gSub, gTup, gCons, gNil, rdSeq, List.getElem?_cons_zero, List.getElem?_cons_succ, List.set_cons_zero, List.set_cons_succ, List.cons_append, List.nil_append, Option.some.injEq, exists_eq_left', V.bl.injEq, V.int.injEq, V.ref.injEq, atI_0, atI_1, atI_2, setI_1, setI_2, Bool.not_true, Bool.not_false, Bool.false_eq_true, if_false, if_true, oIsNot_oV]; exact h)); (try dsimp only [gName, tNext, List.set_cons_zero, List.set_cons_succ]))
            (refine if_no ?_; (try dsimp only [gName, tNext, List.set_cons_zero, List.set_cons_succ]))
            exact last _ _ _ _
        | some a =>
          refine if_no ?_
          (try dsimp only [gName, tNext, List.set_cons_zero, List.set_cons_succ])
          (refine if_no ?_; (try dsimp only [gName, tNext, List.set_cons_zero, List.set_cons_succ]))
          refine st_if ?_
          (refine evT ?P151 (fun Q h => ?h151) ?_; (case h151 => (simp only [tTest, tOp, tUn, tVar, tC, tCB, tCons, tNil, tAnd, tOr, tNot, tB, tTup, tLst, tIf, tAndV, tOrV, tNotV, tSl, tPart, tNoPart, tCall, iIx_ref, oGt_int, oMod_int, oFdiv_int, oAdd_int, oAdd_str, oSub_int, oMul_int, oLt_int, oGe_int, oLe_int, oPow_int, uNeg_int, oEq_int, oEq_str, oEq_bl, oNe_int, oNe_str, oNe_bl, cInt_int, cInt_bl, cAbs_int, cLen_ref, cList_ref, stL_ref, gName, gSub, gTup, gCons, gNil, rdSeq, List.getElem?_cons_zero, List.getElem?_cons_succ, List.set_cons_zero, List.set_cons_succ, List.cons_append, List.nil_append, Option.some.injEq, exists_eq_left', V.bl.injEq, V.int.injEq, V.ref.injEq, atI_0, atI_1, atI_2, setI_1, setI_2, Bool.not_true, Bool.not_false, Bool.false_eq_true, if_false, if_true, oIsNot_oV]; exact h)); (try dsimp only [gName, tNext, List.set_cons_zero, List.set_cons_succ]))
          refine if_yes ?_
          cases v with
          | none =>
            simp only [tTest, tOp, tUn, tVar, tC, tCB, tCons, tNil, tAnd, tOr, tNot, tB, tTup, tLst, tIf, tAndV, tOrV, tNotV, tSl, tPart, tNoPart, tCall, iIx_ref, oGt_int, oMod_int, oFdiv_int, oAdd_int, oAdd_str, oSub_int, oMul_int, oLt_int, oGe_int, oLe_int, oPow_int, uNeg_int, oEq_int, oEq_str, oEq_bl, oNe_int, oNe_str, oNe_bl, cInt_int, cInt_bl, cAbs_int, cLen_ref, cList_ref, stL_ref, gName, gSub, gTup, gCons, gNil, rdSeq, List.getElem?_cons_zero, List.getElem?_cons_succ, List.set_cons_zero, List.set_cons_succ, List.cons_append, List.nil_append, Option.some.injEq, exists_eq_left', V.bl.injEq, V.int.injEq, V.ref.injEq, atI_0, atI_1, atI_2, setI_1, setI_2, Bool.not_true, Bool.not_false, Bool.false_eq_true, if_false, if_true, oIsNot_oV]
            first
              | exact last _ _ _ _
              | (refine if_no ?_; exact last _ _ _ _)
              | (refine if_no ?_; (refine if_no ?_; (try dsimp only [gName, tNext, List.set_cons_zero, List.set_cons_succ])); exact last _ _ _ _)
          | some b =>
            simp only [tTest, tOp, tUn, tVar, tC, tCB, tCons, tNil, tAnd, tOr, tNot, tB, tTup, tLst, tIf, tAndV, tOrV, tNotV, tSl, tPart, tNoPart, tCall, iIx_ref, oGt_int, oMod_int, oFdiv_int, oAdd_int, oAdd_str, oSub_int, oMul_int, oLt_int, oGe_int, oLe_int, oPow_int, uNeg_int, oEq_int, oEq_str, oEq_bl, oNe_int, oNe_str, oNe_bl, cInt_int, cInt_bl, cAbs_int, cLen_ref, cList_ref, stL_ref, gName, gSub, gTup, gCons, gNil, rdSeq, List.getElem?_cons_zero, List.getElem?_cons_succ, List.set_cons_zero, List.set_cons_succ, List.cons_append, List.nil_append, Option.some.injEq, exists_eq_left', V.bl.injEq, V.int.injEq, V.ref.injEq, atI_0, atI_1, atI_2, setI_1, setI_2, Bool.not_true, Bool.not_false, Bool.false_eq_true, if_false, if_true, oIsNot_oV, oV]
            refine if_yes ?_
            refine ⟨by omega, ixE (.t hg4) (by rw [q2, ← Int.natCast_emod]; exact atI_map (d := 0) hm) ?_⟩
            simp only [tTest, tOp, tUn, tVar, tC, tCB, tCons, tNil, tAnd, tOr, tNot, tB, tTup, tLst, tIf, tAndV, tOrV, tNotV, tSl, tPart, tNoPart, tCall, iIx_ref, oGt_int, oMod_int, oFdiv_int, oAdd_int, oAdd_str, oSub_int, oMul_int, oLt_int, oGe_int, oLe_int, oPow_int, uNeg_int, oEq_int, oEq_str, oEq_bl, oNe_int, oNe_str, oNe_bl, cInt_int, cInt_bl, cAbs_int, cLen_ref, cList_ref, stL_ref, gName, gSub, gTup, gCons, gNil, rdSeq, List.getElem?_cons_zero, List.getElem?_cons_succ, List.set_cons_zero, List.set_cons_succ, List.cons_append, List.nil_append, Option.some.injEq, exists_eq_left', V.bl.injEq, V.int.injEq, V.ref.injEq, atI_0, atI_1, atI_2, setI_1, setI_2, Bool.not_true, Bool.not_false, Bool.false_eq_true, if_false, if_true]
            rw [decide_eq_false (fun z => cut (by simp only [Option.map_some, Option.some.injEq]; omega))]
            (refine if_no ?_; (try dsimp only [gName, tNext, List.set_cons_zero, List.set_cons_succ]))
            exact last _ _ _ _
      · exact last _ _ _ _
    · refine .inr ⟨by show i < gains.length; omega, fun σ' H'' => H'' = H' ∧ ∃ x y z w, σ' = [some (.ref t), some (.ref g), some (.int told.length), some (.int gains.length), some (.ref r), x, y, z, w], fun σ' H'' z => ⟨gains.length - (i + 1), by omega, by omega, rfl, z⟩, ?_⟩
      rintro x' H'' ⟨rfl, rfl⟩
      (try dsimp only [gName, tNext, List.set_cons_zero, List.set_cons_succ])
      have q1 : (told.length : Int) - (gains.length : Int) + (i : Int) = ((told.length - gains.length + i : Nat) : Int) := by omega
      rw [q1]
      refine st_if ?_
      (refine evT ?P152 (fun Q h => ?h152) ?_; (case h152 => (simp only [tTest, tOp, tUn, tVar, tC, tCB, tCons, tNil, tAnd, tOr, tNot, tB, tTup, tLst, tIf, tAndV, tOrV, tNotV, tSl, tPart, tNoPart, tCall, iIx_ref, oGt_int, oMod_int, oFdiv_int, oAdd_int, oAdd_str, oSub_int, oMul_int, oLt_int, oGe_int, oLe_int, oPow_int, uNeg_int, oEq_int, oEq_str, oEq_bl, oNe_int, oNe_str, oNe_bl, cInt_int, cInt_bl, cAbs_int, cLen_ref, cList_ref, stL_ref, gName, gSub, gTup, gCons, gNil, rdSeq, List.getElem?_cons_zero, List.getElem?_cons_succ, List.set_cons_zero, List.set_cons_succ, List.cons_append, List.nil_append, Option.some.injEq, exists_eq_left', V.bl.injEq, V.int.injEq, V.ref.injEq, atI_0, atI_1, atI_2, setI_1, setI_2, Bool.not_true, Bool.not_false, Bool.false_eq_true, if_false, if_true]; exact h)); (try dsimp only [gName, tNext, List.set_cons_zero, List.set_cons_succ]))
      refine ixE (.t ht4) (atI_map (d := none) (by omega)) ?_
      simp only [tTest, tOp, tUn, tVar, tC, tCB, tCons, tNil, tAnd, tOr, tNot, tB, tTup, tLst, tIf, tAndV, tOrV, tNotV, tSl, tPart, tNoPart, tCall, iIx_ref, oGt_int, oMod_int, oFdiv_int, oAdd_int, oAdd_str, oSub_int, oMul_int, oLt_int, oGe_int, oLe_int, oPow_int, uNeg_int, oEq_int, oEq_str, oEq_bl, oNe_int, oNe_str, oNe_bl, cInt_int, cInt_bl, cAbs_int, cLen_ref, cList_ref, stL_ref, gName, gSub, gTup, gCons, gNil, rdSeq, List.getElem?_cons_zero, List.getElem?_cons_succ, List.set_cons_zero, List.set_cons_succ, List.cons_append, List.nil_append, Option.some.injEq, exists_eq_left', V.bl.injEq, V.int.injEq, V.ref.injEq, atI_0, atI_1, atI_2, setI_1, setI_2, Bool.not_true, Bool.not_false, Bool.false_eq_true, if_false, if_true, oIs_oV]
      have hm : (told.length - gains.length + i) % gains.length < gains.length := Nat.mod_lt _ hp
      cases eo : told.getD (told.length - gains.length + i) none with
      | none =>
        refine if_yes ⟨by omega, ixE (.t hg4) (by rw [← Int.natCast_emod]; exact atI_map (d := 0) hm) ?_⟩
        have z0 := nf.z (told.length - gains.length + i) (by omega) (by rw [nf.gr.lo _ (by omega)]; exact eo)
        rw [z0]
        simp only [tTest, tOp, tUn, tVar, tC, tCB, tCons, tNil, tAnd, tOr, tNot, tB, tTup, tLst, tIf, tAndV, tOrV, tNotV, tSl, tPart, tNoPart, tCall, iIx_ref, oGt_int, oMod_int, oFdiv_int, oAdd_int, oAdd_str, oSub_int, oMul_int, oLt_int, oGe_int, oLe_int, oPow_int, uNeg_int, oEq_int, oEq_str, oEq_bl, oNe_int, oNe_str, oNe_bl, cInt_int, cInt_bl, cAbs_int, cLen_ref, cList_ref, stL_ref, gName, gSub, gTup, gCons, gNil, rdSeq, List.getElem?_cons_zero, List.getElem?_cons_succ, List.set_cons_zero, List.set_cons_succ, List.cons_append, List.nil_append, Option.some.injEq, exists_eq_left', V.bl.injEq, V.int.injEq, V.ref.injEq, atI_0, atI_1, atI_2, setI_1, setI_2, Bool.not_true, Bool.not_false, Bool.false_eq_true, if_false, if_true, decide_true]
        exact ⟨trivial, _, _, _, _, rfl⟩
      | some v =>
        (refine if_no ?_; (try dsimp only [gName, tNext, List.set_cons_zero, List.set_cons_succ]))
        exact ⟨trivial, _, _, _, _, rfl⟩
  · exact h.elim

end HG

namespace HG
open PySem L2
/-! ### the other signs of growths -/
theorem fb_neg {M : Nat} {f : Nat → Option Int} (h : FB M f) : FB M (fTimes (-1) f) := by
  have := fb_times (k := -1) h
  rw [show (-1 : Int).natAbs * M = M from by rw [show (-1 : Int).natAbs = 1 from rfl, Nat.one_mul]] at this
  exact this
theorem bn_m1 : Bn 900 (-1 : Int) := by show (1 : Nat) < 2 ^ 900; exact Nat.one_lt_two_pow (by decide)
def sp_Growth_radd (K : PySem.W.Frag) (A : Ad) : Sp := fun vs H Q _ => match vs with
  | [.ref a, .int i] => ∃ (f : Nat → Option Int) (M : Nat), GF K A H a f ∧ FB M f ∧ i.natAbs ≤ M ∧ M < 2 ^ 900 ∧ Okf (fSum (fun _ => some i) f) ∧ ∀ c H', Grow H H' → GF K A H' c (fSum (fun _ => some i) f) → Q (.ref c) H'
  | _ => False
def t_Growth_radd_0 (K : PySem.W.Frag) (A : Ad) : TS := (tRet (tCall (sp_merged K A) [] E0 (tCons (tC (.str "sum")) (tCons (tCall (sp_term K A) [] E0 (tCons (tVar 1) tNil)) (tCons (tVar 0) tNil)))))

theorem pure_Growth_radd {K : PySem.W.Frag} {A : Ad} {vs : List V} {H : Hp} {Q : VK} {E : XK} (F : KF K A) (h : sp_Growth_radd K A vs H Q E) : (t_Growth_radd_0 K A) { nx := fun _ H' => Q .non H', rt := Q } (start ["self", "other"] vs) H := by
  unfold sp_Growth_radd at h
  split at h
  · rename_i a i
    obtain ⟨f, M, hA, fa, hi, hM, hok, k⟩ := h
    show (t_Growth_radd_0 K A) _ [some (.ref a), some (.int i)] H
    refine st_ret ?_
    (refine evE ?P155 (fun Q h => ?h155) ?_; (case h155 => (simp only [tTest, tOp, tUn, tVar, tC, tCB, tCons, tNil, tAnd, tOr, tNot, tB, tTup, tLst, tIf, tAndV, tOrV, tNotV, tSl, tPart, tNoPart, tCall, iIx_ref, oGt_int, oMod_int, oFdiv_int, oAdd_int, oAdd_str, oSub_int, oMul_int, oLt_int, oGe_int, oLe_int, oPow_int, uNeg_int, oEq_int, oEq_str, oEq_bl, oNe_int, oNe_str, oNe_bl, cInt_int, cInt_bl, cAbs_int, cLen_ref, cList_ref, stL_ref, gName, gSub, gTup, gCons, gNil, rdSeq, List.getElem?_cons_zero, List.getElem?_cons_succ, List.set_cons_zero, List.set_cons_succ, List.cons_append, List.nil_append, Option.some.injEq, exists_eq_left', V.bl.injEq, V.int.injEq, V.ref.injEq, atI_0, atI_1, atI_2, setI_1, setI_2, Bool.not_true, Bool.not_false, Bool.false_eq_true, if_false, if_true]; exact h)); (try dsimp only [gName, tNext, List.set_cons_zero, List.set_cons_succ]))
    exact fun c H' g' hc => ⟨rfl, _, f, M, hc, hA.grow g', (fb_const i).up hi, fa, hM, hok, fun c' H2 g2 hc' => k c' H2 (g'.trans g2) hc'⟩
  · exact h.elim
def sp_Growth_sub (K : PySem.W.Frag) (A : Ad) : Sp := fun vs H Q _ => match vs with
  | [.ref a, y] => ∃ (f g : Nat → Option Int) (M : Nat), GF K A H a f ∧ spRight K A H y g ∧ FB M f ∧ FB M g ∧ M < 2 ^ 900 ∧ Okf (fSum f (fTimes (-1) g)) ∧ ∀ c H', Grow H H' → GF K A H' c (fSum f (fTimes (-1) g)) → Q (.ref c) H'
  | _ => False
def t_Growth_sub_0 (K : PySem.W.Frag) (A : Ad) : TS := (tRet (tCall (sp_merged K A) [] E0 (tCons (tC (.str "sum")) (tCons (tVar 0) (tCons (tCall (sp_times K A) [] E0 (tCons (tCall (sp_term K A) [] E0 (tCons (tVar 1) tNil)) (tCons (tUn uNeg (tC (.int 1))) tNil))) tNil)))))

theorem pure_Growth_sub {K : PySem.W.Frag} {A : Ad} {vs : List V} {H : Hp} {Q : VK} {E : XK} (F : KF K A) (h : sp_Growth_sub K A vs H Q E) : (t_Growth_sub_0 K A) { nx := fun _ H' => Q .non H', rt := Q } (start ["self", "other"] vs) H := by
  unfold sp_Growth_sub at h
  split at h
  · rename_i a y
    obtain ⟨f, g, M, hA, hB, fa, fb, hM, hok, k⟩ := h
    rcases hB with ⟨b, rfl, hB⟩ | ⟨i, rfl, rfl⟩
    · show (t_Growth_sub_0 K A) _ [some (.ref a), some (.ref b)] H
      refine st_ret ?_
      (refine evE ?P156 (fun Q h => ?h156) ?_; (case h156 => (simp only [tTest, tOp, tUn, tVar, tC, tCB, tCons, tNil, tAnd, tOr, tNot, tB, tTup, tLst, tIf, tAndV, tOrV, tNotV, tSl, tPart, tNoPart, tCall, iIx_ref, oGt_int, oMod_int, oFdiv_int, oAdd_int, oAdd_str, oSub_int, oMul_int, oLt_int, oGe_int, oLe_int, oPow_int, uNeg_int, oEq_int, oEq_str, oEq_bl, oNe_int, oNe_str, oNe_bl, cInt_int, cInt_bl, cAbs_int, cLen_ref, cList_ref, stL_ref, gName, gSub, gTup, gCons, gNil, rdSeq, List.getElem?_cons_zero, List.getElem?_cons_succ, List.set_cons_zero, List.set_cons_succ, List.cons_append, List.nil_append, Option.some.injEq, exists_eq_left', V.bl.injEq, V.int.injEq, V.ref.injEq, atI_0, atI_1, atI_2, setI_1, setI_2, Bool.not_true, Bool.not_false, Bool.false_eq_true, if_false, if_true]; exact h)); (try dsimp only [gName, tNext, List.set_cons_zero, List.set_cons_succ]))
      refine ⟨hB.ty, g, M, hB, fb, hM, bn_m1, fun c H' g' hc => ?_⟩
      exact ⟨rfl, f, _, M, hA.grow g', hc, fa, fb_neg fb, hM, hok, fun c' H2 g2 hc' => k c' H2 (g'.trans g2) hc'⟩
    · show (t_Growth_sub_0 K A) _ [some (.ref a), some (.int i)] H
      refine st_ret ?_
      (refine evE ?P157 (fun Q h => ?h157) ?_; (case h157 => (simp only [tTest, tOp, tUn, tVar, tC, tCB, tCons, tNil, tAnd, tOr, tNot, tB, tTup, tLst, tIf, tAndV, tOrV, tNotV, tSl, tPart, tNoPart, tCall, iIx_ref, oGt_int, oMod_int, oFdiv_int, oAdd_int, oAdd_str, oSub_int, oMul_int, oLt_int, oGe_int, oLe_int, oPow_int, uNeg_int, oEq_int, oEq_str, oEq_bl, oNe_int, oNe_str, oNe_bl, cInt_int, cInt_bl, cAbs_int, cLen_ref, cList_ref, stL_ref, gName, gSub, gTup, gCons, gNil, rdSeq, List.getElem?_cons_zero, List.getElem?_cons_succ, List.set_cons_zero, List.set_cons_succ, List.cons_append, List.nil_append, Option.some.injEq, exists_eq_left', V.bl.injEq, V.int.injEq, V.ref.injEq, atI_0, atI_1, atI_2, setI_1, setI_2, Bool.not_true, Bool.not_false, Bool.false_eq_true, if_false, if_true]; exact h)); (try dsimp only [gName, tNext, List.set_cons_zero, List.set_cons_succ]))
      refine fun c1 H1 g1 hc1 => ⟨_, M, hc1, fb, hM, bn_m1, fun c H' g' hc => ?_⟩
      exact ⟨rfl, f, _, M, hA.grow (g1.trans g'), hc, fa, fb_neg fb, hM, hok, fun c' H2 g2 hc' => k c' H2 ((g1.trans g').trans g2) hc'⟩
  · exact h.elim
def sp_Growth_rsub (K : PySem.W.Frag) (A : Ad) : Sp := fun vs H Q _ => match vs with
  | [.ref a, .int i] => ∃ (f : Nat → Option Int) (M : Nat), GF K A H a f ∧ FB M f ∧ i.natAbs ≤ M ∧ M < 2 ^ 900 ∧ Okf (fSum (fun _ => some i) (fTimes (-1) f)) ∧ ∀ c H', Grow H H' → GF K A H' c (fSum (fun _ => some i) (fTimes (-1) f)) → Q (.ref c) H'
  | _ => False
def t_Growth_rsub_0 (K : PySem.W.Frag) (A : Ad) : TS := (tRet (tCall (sp_merged K A) [] E0 (tCons (tC (.str "sum")) (tCons (tCall (sp_term K A) [] E0 (tCons (tVar 1) tNil)) (tCons (tCall (sp_times K A) [] E0 (tCons (tVar 0) (tCons (tUn uNeg (tC (.int 1))) tNil))) tNil)))))

theorem pure_Growth_rsub {K : PySem.W.Frag} {A : Ad} {vs : List V} {H : Hp} {Q : VK} {E : XK} (F : KF K A) (h : sp_Growth_rsub K A vs H Q E) : (t_Growth_rsub_0 K A) { nx := fun _ H' => Q .non H', rt := Q } (start ["self", "other"] vs) H := by
  unfold sp_Growth_rsub at h
  split at h
  · rename_i a i
    obtain ⟨f, M, hA, fa, hi, hM, hok, k⟩ := h
    show (t_Growth_rsub_0 K A) _ [some (.ref a), some (.int i)] H
    refine st_ret ?_
    (refine evE ?P158 (fun Q h => ?h158) ?_; (case h158 => (simp only [tTest, tOp, tUn, tVar, tC, tCB, tCons, tNil, tAnd, tOr, tNot, tB, tTup, tLst, tIf, tAndV, tOrV, tNotV, tSl, tPart, tNoPart, tCall, iIx_ref, oGt_int, oMod_int, oFdiv_int, oAdd_int, oAdd_str, oSub_int, oMul_int, oLt_int, oGe_int, oLe_int, oPow_int, uNeg_int, oEq_int, oEq_str, oEq_bl, oNe_int, oNe_str, oNe_bl, cInt_int, cInt_bl, cAbs_int, cLen_ref, cList_ref, stL_ref, gName, gSub, gTup, gCons, gNil, rdSeq, List.getElem?_cons_zero, List.getElem?_cons_succ, List.set_cons_zero, List.set_cons_succ, List.cons_append, List.nil_append, Option.some.injEq, exists_eq_left', V.bl.injEq, V.int.injEq, V.ref.injEq, atI_0, atI_1, atI_2, setI_1, setI_2, Bool.not_true, Bool.not_false, Bool.false_eq_true, if_false, if_true]; exact h)); (try dsimp only [gName, tNext, List.set_cons_zero, List.set_cons_succ]))
    refine fun c1 H1 g1 hc1 => ⟨f, M, hA.grow g1, fa, hM, bn_m1, fun c H' g' hc => ?_⟩
    exact ⟨rfl, _, _, M, hc1.grow g', hc, (fb_const i).up hi, fb_neg fa, hM, hok, fun c' H2 g2 hc' => k c' H2 ((g1.trans g').trans g2) hc'⟩
  · exact h.elim
def sp_Growth_neg (K : PySem.W.Frag) (A : Ad) : Sp := fun vs H Q _ => match vs with
  | [.ref a] => ∃ (f : Nat → Option Int) (M : Nat), GF K A H a f ∧ FB M f ∧ M < 2 ^ 900 ∧ ∀ c H', Grow H H' → GF K A H' c (fTimes (-1) f) → Q (.ref c) H'
  | _ => False
def t_Growth_neg_0 (K : PySem.W.Frag) (A : Ad) : TS := (tRet (tCall (sp_times K A) [] E0 (tCons (tVar 0) (tCons (tUn uNeg (tC (.int 1))) tNil))))

theorem pure_Growth_neg {K : PySem.W.Frag} {A : Ad} {vs : List V} {H : Hp} {Q : VK} {E : XK} (F : KF K A) (h : sp_Growth_neg K A vs H Q E) : (t_Growth_neg_0 K A) { nx := fun _ H' => Q .non H', rt := Q } (start ["self"] vs) H := by
  unfold sp_Growth_neg at h
  split at h
  · rename_i a
    obtain ⟨f, M, hA, fa, hM, k⟩ := h
    show (t_Growth_neg_0 K A) _ [some (.ref a)] H
    refine st_ret ?_
    (refine evE ?P159 (fun Q h => ?h159) ?_; (case h159 => (simp only [tTest, tOp, tUn, tVar, tC, tCB, tCons, tNil, tAnd, tOr, tNot, tB, tTup, tLst, tIf, tAndV, tOrV, tNotV, tSl, tPart, tNoPart, tCall, iIx_ref, oGt_int, oMod_int, oFdiv_int, oAdd_int, oAdd_str, oSub_int, oMul_int, oLt_int, oGe_int, oLe_int, oPow_int, uNeg_int, oEq_int, oEq_str, oEq_bl, oNe_int, oNe_str, oNe_bl, cInt_int, cInt_bl, cAbs_int, cLen_ref, cList_ref, stL_ref, gName, gSub, gTup, gCons, gNil, rdSeq, List.getElem?_cons_zero, List.getElem?_cons_succ, List.set_cons_zero, List.set_cons_succ, List.cons_append, List.nil_append, Option.some.injEq, exists_eq_left', V.bl.injEq, V.int.injEq, V.ref.injEq, atI_0, atI_1, atI_2, setI_1, setI_2, Bool.not_true, Bool.not_false, Bool.false_eq_true, if_false, if_true]; exact h)); (try dsimp only [gName, tNext, List.set_cons_zero, List.set_cons_succ]))
    exact ⟨f, M, hA, fa, hM, bn_m1, k⟩
  · exact h.elim
def sp_Growth_rmul (K : PySem.W.Frag) (A : Ad) : Sp := sp_times K A
def t_Growth_rmul_1 (K : PySem.W.Frag) (A : Ad) : TS := (tRet (tCall (sp_times K A) [] E0 (tCons (tVar 0) (tCons (tVar 1) tNil))))
def t_Growth_rmul_0 (K : PySem.W.Frag) (A : Ad) : TS := (tSeq (tDrop (tCall (sp_need_integer K A) [] E0 (tCons (tVar 1) tNil))) (t_Growth_rmul_1 K A))

theorem pure_Growth_rmul {K : PySem.W.Frag} {A : Ad} {vs : List V} {H : Hp} {Q : VK} {E : XK} (F : KF K A) (h : sp_Growth_rmul K A vs H Q E) : (t_Growth_rmul_0 K A) { nx := fun _ H' => Q .non H', rt := Q } (start ["self", "number"] vs) H := by
  unfold sp_Growth_rmul sp_times at h
  split at h
  · rename_i a n
    show (t_Growth_rmul_0 K A) _ [some (.ref a), some (.int n)] H
    refine st_seq (st_drop ?_)
    (refine evE ?P160 (fun Q h => ?h160) ?_; (case h160 => (simp only [tTest, tOp, tUn, tVar, tC, tCB, tCons, tNil, tAnd, tOr, tNot, tB, tTup, tLst, tIf, tAndV, tOrV, tNotV, tSl, tPart, tNoPart, tCall, iIx_ref, oGt_int, oMod_int, oFdiv_int, oAdd_int, oAdd_str, oSub_int, oMul_int, oLt_int, oGe_int, oLe_int, oPow_int, uNeg_int, oEq_int, oEq_str, oEq_bl, oNe_int, oNe_str, oNe_bl, cInt_int, cInt_bl, cAbs_int, cLen_ref, cList_ref, stL_ref, gName, gSub, gTup, gCons, gNil, rdSeq, List.getElem?_cons_zero, List.getElem?_cons_succ, List.set_cons_zero, List.set_cons_succ, List.cons_append, List.nil_append, Option.some.injEq, exists_eq_left', V.bl.injEq, V.int.injEq, V.ref.injEq, atI_0, atI_1, atI_2, setI_1, setI_2, Bool.not_true, Bool.not_false, Bool.false_eq_true, if_false, if_true, need_int]; exact h)); (try dsimp only [gName, tNext, List.set_cons_zero, List.set_cons_succ]))
    refine st_ret ?_
    (refine evE ?P161 (fun Q h => ?h161) ?_; (case h161 => (simp only [tTest, tOp, tUn, tVar, tC, tCB, tCons, tNil, tAnd, tOr, tNot, tB, tTup, tLst, tIf, tAndV, tOrV, tNotV, tSl, tPart, tNoPart, tCall, iIx_ref, oGt_int, oMod_int, oFdiv_int, oAdd_int, oAdd_str, oSub_int, oMul_int, oLt_int, oGe_int, oLe_int, oPow_int, uNeg_int, oEq_int, oEq_str, oEq_bl, oNe_int, oNe_str, oNe_bl, cInt_int, cInt_bl, cAbs_int, cLen_ref, cList_ref, stL_ref, gName, gSub, gTup, gCons, gNil, rdSeq, List.getElem?_cons_zero, List.getElem?_cons_succ, List.set_cons_zero, List.set_cons_succ, List.cons_append, List.nil_append, Option.some.injEq, exists_eq_left', V.bl.injEq, V.int.injEq, V.ref.injEq, atI_0, atI_1, atI_2, setI_1, setI_2, Bool.not_true, Bool.not_false, Bool.false_eq_true, if_false, if_true]; exact h)); (try dsimp only [gName, tNext, List.set_cons_zero, List.set_cons_succ]))
    exact h
  · exact h.elim

end HG

namespace HG
open PySem L2
def sp_Growth_stretch (K : PySem.W.Frag) (A : Ad) : Sp := fun vs H Q _ => match vs with
  | [.ref x, .int a, .int b] => ∃ (f : Nat → Option Int) (M : Nat), GF K A H x f ∧ FB M f ∧ M < 2 ^ 1000 ∧ 0 ≤ a ∧ 0 ≤ b ∧ b - a ≤ 4000 ∧ a < 2 ^ 62 ∧ b < 2 ^ 62 ∧ ∀ r H', Grow H H' → H' r = some (.tup ((List.range (b - a).toNat).map fun j => oV (f (a.toNat + j)))) → Q (.ref r) H'
  | _ => False
def t_Growth_stretch_1 (K : PySem.W.Frag) (A : Ad) : TS := (tDrop (tCall (sp_need_index K A) [] E0 (tCons (tVar 3) tNil)))
def t_Growth_stretch_3 (K : PySem.W.Frag) (A : Ad) : TS := tNever
def t_Growth_stretch_4 (K : PySem.W.Frag) (A : Ad) : TS := (tRet (tCB (cTupE K) (tCons (tLc (iRng2 (tCons (tVar 1) (tCons (tVar 2) tNil))) (gName 3) tYes (tCall (sp_value_at K A) [] E0 (tCons (tFld K (tVar 0) "told") (tCons (tFld K (tVar 0) "gains") (tCons (tVar 3) tNil)))) [3]) tNil)))
def t_Growth_stretch_2 (K : PySem.W.Frag) (A : Ad) : TS := (tSeq (tIfS (tTest (tOp oGt (tOp oSub (tVar 2) (tVar 1)) (tC (.int 4000)))) (t_Growth_stretch_3 K A) tNext) (t_Growth_stretch_4 K A))
def t_Growth_stretch_0 (K : PySem.W.Frag) (A : Ad) : TS := (tSeq (tFor (iSeq K (tTup (tCons (tVar 1) (tCons (tVar 2) tNil)))) (gName 3)
    (t_Growth_stretch_1 K A)) (t_Growth_stretch_2 K A))

theorem pure_Growth_stretch {K : PySem.W.Frag} {A : Ad} {vs : List V} {H : Hp} {Q : VK} {E : XK} (F : KF K A) (h : sp_Growth_stretch K A vs H Q E) : (t_Growth_stretch_0 K A) { nx := fun _ H' => Q .non H', rt := Q } (start ["self", "a", "b", "n"] vs) H := by
  unfold sp_Growth_stretch at h
  split at h
  · rename_i x a b
    obtain ⟨f, M, hA, fa, hM, ha, hb, hab, ba, bb, k⟩ := h
    obtain ⟨t1, g1, ⟨dx, at1, ag1, a1, a2, a3⟩, n1, l1, m1⟩ := id hA
    have hsz : sizeLine = 16777216 := rfl
    show (t_Growth_stretch_0 K A) _ [some (.ref x), some (.int a), some (.int b), none] H
    refine st_seq (for_seq ?_)
    (refine evE ?P165 (fun Q h => ?h165) ?_; (case h165 => (simp only [tTest, tOp, tUn, tVar, tC, tCB, tCons, tNil, tAnd, tOr, tNot, tB, tTup, tLst, tIf, tAndV, tOrV, tNotV, tSl, tPart, tNoPart, tCall, iIx_ref, oGt_int, oMod_int, oFdiv_int, oAdd_int, oAdd_str, oSub_int, oMul_int, oLt_int, oGe_int, oLe_int, oPow_int, uNeg_int, oEq_int, oEq_str, oEq_bl, oNe_int, oNe_str, oNe_bl, cInt_int, cInt_bl, cAbs_int, cLen_ref, cList_ref, stL_ref, gName, gSub, gTup, gCons, gNil, rdSeq, List.getElem?_cons_zero, List.getElem?_cons_succ, List.set_cons_zero, List.set_cons_succ, List.cons_append, List.nil_append, Option.some.injEq, exists_eq_left', V.bl.injEq, V.int.injEq, V.ref.injEq, atI_0, atI_1, atI_2, setI_1, setI_2, Bool.not_true, Bool.not_false, Bool.false_eq_true, if_false, if_true]; exact h)))
    refine ⟨by show 2 ≤ sizeLine; decide, fun q hq => ?_⟩
    refine seqW (.t upd_same) fun J hJ => ?_
    have g0 := Grow.new (o := .tup [.int a, .int b]) hq
    refine for_jok hJ (fun i σ H' => H' = upd H q (.tup [.int a, .int b]) ∧ ∃ z, σ = [some (.ref x), some (.int a), some (.int b), z]) ⟨rfl, _, rfl⟩ (fun i σ H' w => by rw [w.1]; exact .refl) (fun σ H' w => ?_) (fun i σ H' hi w => ?_)
    rotate_left
    · obtain ⟨rfl, z, rfl⟩ := w
      (try dsimp only [gName, tNext, List.set_cons_zero, List.set_cons_succ])
      refine st_drop ?_
      (refine evE ?P162 (fun Q h => ?h162) ?_; (case h162 => (simp only [tTest, tOp, tUn, tVar, tC, tCB, tCons, tNil, tAnd, tOr, tNot, tB, tTup, tLst, tIf, tAndV, tOrV, tNotV, tSl, tPart, tNoPart, tCall, iIx_ref, oGt_int, oMod_int, oFdiv_int, oAdd_int, oAdd_str, oSub_int, oMul_int, oLt_int, oGe_int, oLe_int, oPow_int, uNeg_int, oEq_int, oEq_str, oEq_bl, oNe_int, oNe_str, oNe_bl, cInt_int, cInt_bl, cAbs_int, cLen_ref, cList_ref, stL_ref, gName, gSub, gTup, gCons, gNil, rdSeq, List.getElem?_cons_zero, List.getElem?_cons_succ, List.set_cons_zero, List.set_cons_succ, List.cons_append, List.nil_append, Option.some.injEq, exists_eq_left', V.bl.injEq, V.int.injEq, V.ref.injEq, atI_0, atI_1, atI_2, setI_1, setI_2, Bool.not_true, Bool.not_false, Bool.false_eq_true, if_false, if_true]; exact h)); (try dsimp only [gName, tNext, List.set_cons_zero, List.set_cons_succ]))
      have hi : i < 2 := hi
      rcases i with _ | i
      · exact ⟨ha, rfl, _, rfl⟩
      · rcases i with _ | i
        · exact ⟨hb, rfl, _, rfl⟩
        · omega
    obtain ⟨rfl, z, rfl⟩ := w
    replace hA := hA.grow g0
    replace a1 := g0 _ _ a1
    replace a2 := g0 _ _ a2
    replace a3 := g0 _ _ a3
    replace k := fun r H' (g : Grow (upd H q (.tup [.int a, .int b])) H') => k r H' (g0.trans g)
    clear hJ
    generalize upd H q (.tup [.int a, .int b]) = H at *
    show t_Growth_stretch_2 K A _ _ _
    refine st_seq (st_if ?_)
    (refine evT ?P163 (fun Q h => ?h163) ?_; (case h163 => (simp only [tTest, tOp, tUn, tVar, tC, tCB, tCons, tNil, tAnd, tOr, tNot, tB, tTup, tLst, tIf, tAndV, tOrV, tNotV, tSl, tPart, tNoPart, tCall, iIx_ref, oGt_int, oMod_int, oFdiv_int, oAdd_int, oAdd_str, oSub_int, oMul_int, oLt_int, oGe_int, oLe_int, oPow_int, uNeg_int, oEq_int, oEq_str, oEq_bl, oNe_int, oNe_str, oNe_bl, cInt_int, cInt_bl, cAbs_int, cLen_ref, cList_ref, stL_ref, gName, gSub, gTup, gCons, gNil, rdSeq, List.getElem?_cons_zero, List.getElem?_cons_succ, List.set_cons_zero, List.set_cons_succ, List.cons_append, List.nil_append, Option.some.injEq, exists_eq_left', V.bl.injEq, V.int.injEq, V.ref.injEq, atI_0, atI_1, atI_2, setI_1, setI_2, Bool.not_true, Bool.not_false, Bool.false_eq_true, if_false, if_true]; exact h)); (try dsimp only [gName, tNext, List.set_cons_zero, List.set_cons_succ]))
    rw [decide_eq_false (by omega)]
    (refine if_no ?_; (try dsimp only [gName, tNext, List.set_cons_zero, List.set_cons_succ]))
    refine st_ret ?_
    (refine evE ?P166 (fun Q h => ?h166) ?_; (case h166 => (simp only [tTest, tOp, tUn, tVar, tC, tCB, tCons, tNil, tAnd, tOr, tNot, tB, tTup, tLst, tIf, tAndV, tOrV, tNotV, tSl, tPart, tNoPart, tCall, iIx_ref, oGt_int, oMod_int, oFdiv_int, oAdd_int, oAdd_str, oSub_int, oMul_int, oLt_int, oGe_int, oLe_int, oPow_int, uNeg_int, oEq_int, oEq_str, oEq_bl, oNe_int, oNe_str, oNe_bl, cInt_int, cInt_bl, cAbs_int, cLen_ref, cList_ref, stL_ref, gName, gSub, gTup, gCons, gNil, rdSeq, List.getElem?_cons_zero, List.getElem?_cons_succ, List.set_cons_zero, List.set_cons_succ, List.cons_append, List.nil_append, Option.some.injEq, exists_eq_left', V.bl.injEq, V.int.injEq, V.ref.injEq, atI_0, atI_1, atI_2, setI_1, setI_2, Bool.not_true, Bool.not_false, Bool.false_eq_true, if_false, if_true]; exact h)))
    refine lc_ev ?_
    unfold iRng2
    (refine evA ?P167 (fun Q h => ?h167) ?_; (case h167 => (simp only [tTest, tOp, tUn, tVar, tC, tCB, tCons, tNil, tAnd, tOr, tNot, tB, tTup, tLst, tIf, tAndV, tOrV, tNotV, tSl, tPart, tNoPart, tCall, iIx_ref, oGt_int, oMod_int, oFdiv_int, oAdd_int, oAdd_str, oSub_int, oMul_int, oLt_int, oGe_int, oLe_int, oPow_int, uNeg_int, oEq_int, oEq_str, oEq_bl, oNe_int, oNe_str, oNe_bl, cInt_int, cInt_bl, cAbs_int, cLen_ref, cList_ref, stL_ref, gName, gSub, gTup, gCons, gNil, rdSeq, List.getElem?_cons_zero, List.getElem?_cons_succ, List.set_cons_zero, List.set_cons_succ, List.cons_append, List.nil_append, Option.some.injEq, exists_eq_left', V.bl.injEq, V.int.injEq, V.ref.injEq, atI_0, atI_1, atI_2, setI_1, setI_2, Bool.not_true, Bool.not_false, Bool.false_eq_true, if_false, if_true]; exact h)))
    refine ⟨a, b, rfl, ⟨by omega, ba, by omega, bb⟩, ?_⟩
    refine lc_map jok_rng (fun j => oV (f (a.toNat + j))) (by omega) (fun j hj H' g' R hR => ?_) (fun D H1 h1 hD hd => ?_) (by exact fun x => rfl)
    · (refine evE ?P164 (fun Q h => ?h164) ?_; (case h164 => (simp only [tTest, tOp, tUn, tVar, tC, tCB, tCons, tNil, tAnd, tOr, tNot, tB, tTup, tLst, tIf, tAndV, tOrV, tNotV, tSl, tPart, tNoPart, tCall, iIx_ref, oGt_int, oMod_int, oFdiv_int, oAdd_int, oAdd_str, oSub_int, oMul_int, oLt_int, oGe_int, oLe_int, oPow_int, uNeg_int, oEq_int, oEq_str, oEq_bl, oNe_int, oNe_str, oNe_bl, cInt_int, cInt_bl, cAbs_int, cLen_ref, cList_ref, stL_ref, gName, gSub, gTup, gCons, gNil, rdSeq, List.getElem?_cons_zero, List.getElem?_cons_succ, List.set_cons_zero, List.set_cons_succ, List.cons_append, List.nil_append, Option.some.injEq, exists_eq_left', V.bl.injEq, V.int.injEq, V.ref.injEq, atI_0, atI_1, atI_2, setI_1, setI_2, Bool.not_true, Bool.not_false, Bool.false_eq_true, if_false, if_true, wipe, tFld_eq, fldR_eq (g' _ _ a1) F.cl F.ut rfl, fldR_eq (g' _ _ a1) F.cl F.ug rfl]; exact h)); (try dsimp only [gName, tNext, List.set_cons_zero, List.set_cons_succ]))
      refine ⟨t1, g1, .t (g' _ _ a2), .t (g' _ _ a3), by omega, n1.gr.pos, n1.gr.le, by omega, fun x hx => (nf_bn n1 m1 fa hM x hx).up (by decide), (bn_nat (m := 63) (n := (a + j).toNat) (by omega)).up (by decide) |>.le (by omega), ?_⟩
      rw [(gr_gv n1.gr.pos n1.gr.le).eq n1.gr, show (a + (j : Int)).toNat = a.toNat + j from by omega]
      exact hR _ .refl
    exact tupR (.l hd) fun q2 H2 g2 hq2 => k q2 H2 (h1.trans g2) hq2
  · exact h.elim

end HG

namespace HG
open PySem L2
/-! ### a law's pairs by their functions -/
def PF (H : Hp) (r : Addr) (f : Nat → Option Int) : Prop := ∃ t g told gains, PairAt H r t g told gains ∧ 0 < gains.length ∧ gains.length ≤ 60 ∧ gains.length ≤ told.length ∧ told.length ≤ 100 ∧ BnA gains ∧ f = gv told gains
theorem PF.grow {H H' : Hp} {r : Addr} {f : Nat → Option Int} (h : PF H r f) (k : Grow H H') : PF H' r f := by
  obtain ⟨t, g, told, gains, P, q⟩ := h
  exact ⟨t, g, told, gains, P.grow k, q⟩
theorem PF.extN {H H' : Hp} {r : Addr} {f : Nat → Option Int} (h : PF H r f) (k : LamX.ExtN H H') : PF H' r f := by
  obtain ⟨t, g, told, gains, P, q⟩ := h
  exact ⟨t, g, told, gains, ⟨k.tup P.hr, k.lst P.ht, k.lst P.hg⟩, q⟩
theorem GF.extN {K : PySem.W.Frag} {A : Ad} {H H' : Hp} {a : Addr} {f : Nat → Option Int} (h : GF K A H a f) (k : LamX.ExtN H H') : GF K A H' a f := by
  obtain ⟨told, gains, ⟨dx, t, g, h1, h2, h3⟩, q⟩ := h
  exact ⟨told, gains, ⟨dx, t, g, k.ins h1, k.tup h2, k.tup h3⟩, q⟩
theorem atF {K : PySem.W.Frag} {A : Ad} {H : Hp} {r : Addr} {f : Nat → Option Int} {n : Int} {Q : VK} {E : XK} (h : PF H r f) (hn : 0 ≤ n) (bn : Bn 100000 n) (k : Q (oV (f n.toNat)) H) : sp_law_at K A [.ref r, .int n] H Q E := by
  obtain ⟨t, g, told, gains, P, h1, h2, h3, h4, h5, rfl⟩ := h
  exact ⟨t, g, told, gains, P, hn, h1, h3, by omega, h5, bn, k⟩
/-- the places a law looks at -/
def Places (H : Hp) (s : Addr) : Prop := ∃ ns : List Int, H s = some (.lst (ns.map V.int)) ∧ ns.length ≤ 10000 ∧ ∀ n ∈ ns, 0 ≤ n ∧ Bn 200 n
def sp_law_some (K : PySem.W.Frag) (A : Ad) : Sp := fun vs H Q _ => match vs with
  | [.ref r] => ∃ f, PF H r f ∧ ∀ s (ns : List Int) H', Grow H H' → H' s = some (.lst (ns.map V.int)) → ns.length ≤ 1000 → (∀ n ∈ ns, 0 ≤ n ∧ Bn 200 n) → Q (.ref s) H'
  | _ => False
def t_law_some_1 (K : PySem.W.Frag) (A : Ad) : TS := (tRet (tOp oAdd (tLstRg (tRg1 (tOp oAdd (tCB (cLenE K) (tCons (tOp (rIx K) (tVar 0) (tC (.int 0))) tNil)) (tC (.int 14))))) (tLc (iRng1 (tCons (tC (.int 12)) tNil)) (gName 2) tYes (tOp oAdd (tVar 1) (tVar 2)) [2])))
def t_law_some_0 (K : PySem.W.Frag) (A : Ad) : TS := (tSeq (tAsg (tOp oAdd (tOp oPow (tC (.int 10)) (tC (.int 30))) (tC (.int 7))) (gName 1)) (t_law_some_1 K A))

theorem rgV_ints {n : Nat} : rgV 0 (n : Int) = ((List.range n).map fun i : Nat => (i : Int)).map V.int := by
  unfold rgV
  rw [List.map_map, show ((n : Int) - 0).toNat = n from by omega]
  refine List.map_congr_left fun i _ => ?_
  show V.int (0 + (i : Int)) = V.int (i : Int)
  rw [Int.zero_add]
theorem pure_law_some {K : PySem.W.Frag} {A : Ad} {vs : List V} {H : Hp} {Q : VK} {E : XK} (h : sp_law_some K A vs H Q E) : (t_law_some_0 K A) { nx := fun _ H' => Q .non H', rt := Q } (start ["_law_pair", "_law_far", "_law_turn"] vs) H := by
  unfold sp_law_some at h
  split at h
  · rename_i r
    obtain ⟨f, ⟨t, g, told, gains, P, h1, h2, h3, h4, h5, rfl⟩, k⟩ := h
    have hsz : sizeLine = 16777216 := rfl
    show (t_law_some_0 K A) _ [some (.ref r), none, none] H
    refine st_seq (st_asg ?_)
    (refine evE ?P168 (fun Q h => ?h168) ?_; (case h168 => (simp only [tTest, tOp, tUn, tVar, tC, tCB, tCons, tNil, tAnd, tOr, tNot, tB, tTup, tLst, tIf, tAndV, tOrV, tNotV, tSl, tPart, tNoPart, tCall, iIx_ref, oGt_int, oMod_int, oFdiv_int, oAdd_int, oAdd_str, oSub_int, oMul_int, oLt_int, oGe_int, oLe_int, oPow_int, uNeg_int, oEq_int, oEq_str, oEq_bl, oNe_int, oNe_str, oNe_bl, cInt_int, cInt_bl, cAbs_int, cLen_ref, cList_ref, stL_ref, gName, gSub, gTup, gCons, gNil, rdSeq, List.getElem?_cons_zero, List.getElem?_cons_succ, List.set_cons_zero, List.set_cons_succ, List.cons_append, List.nil_append, Option.some.injEq, exists_eq_left', V.bl.injEq, V.int.injEq, V.ref.injEq, atI_0, atI_1, atI_2, setI_1, setI_2, Bool.not_true, Bool.not_false, Bool.false_eq_true, if_false, if_true]; exact h)); (try dsimp only [gName, tNext, List.set_cons_zero, List.set_cons_succ]))
    refine ⟨⟨by decide, by decide, by decide⟩, ?_⟩
    (try dsimp only [gName, tNext, List.set_cons_zero, List.set_cons_succ])
    refine st_ret ?_
    (refine evE ?P177 (fun Q h => ?h177) ?_; (case h177 => (simp only [tTest, tOp, tUn, tVar, tC, tCB, tCons, tNil, tAnd, tOr, tNot, tB, tTup, tLst, tIf, tAndV, tOrV, tNotV, tSl, tPart, tNoPart, tCall, iIx_ref, oGt_int, oMod_int, oFdiv_int, oAdd_int, oAdd_str, oSub_int, oMul_int, oLt_int, oGe_int, oLe_int, oPow_int, uNeg_int, oEq_int, oEq_str, oEq_bl, oNe_int, oNe_str, oNe_bl, cInt_int, cInt_bl, cAbs_int, cLen_ref, cList_ref, stL_ref, gName, gSub, gTup, gCons, gNil, rdSeq, List.getElem?_cons_zero, List.getElem?_cons_succ, List.set_cons_zero, List.set_cons_succ, List.cons_append, List.nil_append, Option.some.injEq, exists_eq_left', V.bl.injEq, V.int.injEq, V.ref.injEq, atI_0, atI_1, atI_2, setI_1, setI_2, Bool.not_true, Bool.not_false, Bool.false_eq_true, if_false, if_true, tLstRg, tRg1]; exact h)))
    refine ixE (.t P.hr) atI_0 ?_
    refine lenE (.l P.ht) ?_
    rw [List.length_map]
    simp only [tTest, tOp, tUn, tVar, tC, tCB, tCons, tNil, tAnd, tOr, tNot, tB, tTup, tLst, tIf, tAndV, tOrV, tNotV, tSl, tPart, tNoPart, tCall, iIx_ref, oGt_int, oMod_int, oFdiv_int, oAdd_int, oAdd_str, oSub_int, oMul_int, oLt_int, oGe_int, oLe_int, oPow_int, uNeg_int, oEq_int, oEq_str, oEq_bl, oNe_int, oNe_str, oNe_bl, cInt_int, cInt_bl, cAbs_int, cLen_ref, cList_ref, stL_ref, gName, gSub, gTup, gCons, gNil, rdSeq, List.getElem?_cons_zero, List.getElem?_cons_succ, List.set_cons_zero, List.set_cons_succ, List.cons_append, List.nil_append, Option.some.injEq, exists_eq_left', V.bl.injEq, V.int.injEq, V.ref.injEq, atI_0, atI_1, atI_2, setI_1, setI_2, Bool.not_true, Bool.not_false, Bool.false_eq_true, if_false, if_true]
    refine ⟨RgOk.of_le (by decide) (by omega) (by decide) (by omega), fun q hq => ?_⟩
    have g0 := Grow.new (o := .lst (rgV 0 ((told.length : Int) + 14))) hq
    refine lc_ev ?_
    unfold iRng1
    (refine evA ?P178 (fun Q h => ?h178) ?_; (case h178 => (simp only [tTest, tOp, tUn, tVar, tC, tCB, tCons, tNil, tAnd, tOr, tNot, tB, tTup, tLst, tIf, tAndV, tOrV, tNotV, tSl, tPart, tNoPart, tCall, iIx_ref, oGt_int, oMod_int, oFdiv_int, oAdd_int, oAdd_str, oSub_int, oMul_int, oLt_int, oGe_int, oLe_int, oPow_int, uNeg_int, oEq_int, oEq_str, oEq_bl, oNe_int, oNe_str, oNe_bl, cInt_int, cInt_bl, cAbs_int, cLen_ref, cList_ref, stL_ref, gName, gSub, gTup, gCons, gNil, rdSeq, List.getElem?_cons_zero, List.getElem?_cons_succ, List.set_cons_zero, List.set_cons_succ, List.cons_append, List.nil_append, Option.some.injEq, exists_eq_left', V.bl.injEq, V.int.injEq, V.ref.injEq, atI_0, atI_1, atI_2, setI_1, setI_2, Bool.not_true, Bool.not_false, Bool.false_eq_true, if_false, if_true]; exact h)))
    refine ⟨_, rfl, by decide, by decide, ?_⟩
    refine lc_map jok_rng (fun j => .int (((10 : Int) ^ 30 + 7) + j)) (by decide) (fun j hj H' g' R hR => ?_) (fun D H1 hh1 hD hd => ?_) (by exact fun x => rfl)
    · (refine evE ?P169 (fun Q h => ?h169) ?_; (case h169 => (simp only [tTest, tOp, tUn, tVar, tC, tCB, tCons, tNil, tAnd, tOr, tNot, tB, tTup, tLst, tIf, tAndV, tOrV, tNotV, tSl, tPart, tNoPart, tCall, iIx_ref, oGt_int, oMod_int, oFdiv_int, oAdd_int, oAdd_str, oSub_int, oMul_int, oLt_int, oGe_int, oLe_int, oPow_int, uNeg_int, oEq_int, oEq_str, oEq_bl, oNe_int, oNe_str, oNe_bl, cInt_int, cInt_bl, cAbs_int, cLen_ref, cList_ref, stL_ref, gName, gSub, gTup, gCons, gNil, rdSeq, List.getElem?_cons_zero, List.getElem?_cons_succ, List.set_cons_zero, List.set_cons_succ, List.cons_append, List.nil_append, Option.some.injEq, exists_eq_left', V.bl.injEq, V.int.injEq, V.ref.injEq, atI_0, atI_1, atI_2, setI_1, setI_2, Bool.not_true, Bool.not_false, Bool.false_eq_true, if_false, if_true, wipe]; exact h)); (try dsimp only [gName, tNext, List.set_cons_zero, List.set_cons_succ]))
      rw [Int.zero_add]
      exact hR _ .refl
    have hq1 := hh1 _ _ (upd_same (H := H) (a := q) (o := .lst (rgV 0 ((told.length : Int) + 14))))
    have e14 : ((told.length : Int) + 14) = ((told.length + 14 : Nat) : Int) := by omega
    rw [e14, rgV_ints] at hq1
    have hd2 : H1 D = some (.lst (((List.range 12).map fun j : Nat => ((10 : Int) ^ 30 + 7) + (j : Int)).map V.int)) := by rw [hd, List.map_map]; rfl
    refine catE hq1 hd2 (by simp only [List.length_map, List.length_range]; omega) fun p H2 g2 hp2 => ?_
    rw [← List.map_append] at hp2
    refine k p _ H2 (g0.trans (hh1.trans g2)) hp2 (by simp only [List.length_append, List.length_map, List.length_range]; omega) fun n hn => ?_
    rcases List.mem_append.mp hn with z | z
    · obtain ⟨j, hj, rfl⟩ := List.mem_map.mp z
      rw [List.mem_range] at hj
      exact ⟨by omega, (bn_nat (m := 20) (by omega)).up (by decide)⟩
    · obtain ⟨j, hj, rfl⟩ := List.mem_map.mp z
      rw [List.mem_range] at hj
      refine ⟨by omega, ?_⟩
      show ((10 : Int) ^ 30 + 7 + (j : Int)).natAbs < 2 ^ 200
      omega
  · exact h.elim
def sp_law_sum (K : PySem.W.Frag) (A : Ad) : Sp := fun vs H Q _ => match vs with
  | [.ref r, .ref s, .int k, .int n] => ∃ f g, PF H r f ∧ PF H s g ∧ -(2 ^ 64) < k ∧ k < 2 ^ 64 ∧ 0 ≤ n ∧ Bn 100000 n ∧ Q (oV (oSum (f n.toNat) (oTimes k (g n.toNat)))) H
  | _ => False
def t_law_sum_1 (K : PySem.W.Frag) (A : Ad) : TS := (tRet (tIf (tOr (tTest (tOp oIs (tVar 4) (tC .non))) (tTest (tOp oIs (tVar 5) (tC .non)))) (tC .non) (tOp oAdd (tVar 4) (tOp oMul (tVar 2) (tVar 5)))))
def t_law_sum_0 (K : PySem.W.Frag) (A : Ad) : TS := (tSeq (tPar 4 5 (tCons (tCall (sp_law_at K A) [] E0 (tCons (tVar 0) (tCons (tVar 3) tNil))) (tCons (tCall (sp_law_at K A) [] E0 (tCons (tVar 1) (tCons (tVar 3) tNil))) tNil))) (t_law_sum_1 K A))

theorem pure_law_sum {K : PySem.W.Frag} {A : Ad} {vs : List V} {H : Hp} {Q : VK} {E : XK} (h : sp_law_sum K A vs H Q E) : (t_law_sum_0 K A) { nx := fun _ H' => Q .non H', rt := Q } (start ["_law_one", "_law_other", "_law_sign", "_law_n", "_law_low", "_law_high"] vs) H := by
  unfold sp_law_sum at h
  split at h
  · rename_i r s k n
    obtain ⟨f, g, hf, hg, k1, k2, hn, bn, q⟩ := h
    show (t_law_sum_0 K A) _ [some (.ref r), some (.ref s), some (.int k), some (.int n), none, none] H
    refine st_seq ?_
    unfold tPar
    (refine evA ?P170 (fun Q h => ?h170) ?_; (case h170 => (simp only [tTest, tOp, tUn, tVar, tC, tCB, tCons, tNil, tAnd, tOr, tNot, tB, tTup, tLst, tIf, tAndV, tOrV, tNotV, tSl, tPart, tNoPart, tCall, iIx_ref, oGt_int, oMod_int, oFdiv_int, oAdd_int, oAdd_str, oSub_int, oMul_int, oLt_int, oGe_int, oLe_int, oPow_int, uNeg_int, oEq_int, oEq_str, oEq_bl, oNe_int, oNe_str, oNe_bl, cInt_int, cInt_bl, cAbs_int, cLen_ref, cList_ref, stL_ref, gName, gSub, gTup, gCons, gNil, rdSeq, List.getElem?_cons_zero, List.getElem?_cons_succ, List.set_cons_zero, List.set_cons_succ, List.cons_append, List.nil_append, Option.some.injEq, exists_eq_left', V.bl.injEq, V.int.injEq, V.ref.injEq, atI_0, atI_1, atI_2, setI_1, setI_2, Bool.not_true, Bool.not_false, Bool.false_eq_true, if_false, if_true]; exact h)); (try dsimp only [gName, tNext, List.set_cons_zero, List.set_cons_succ]))
    refine atF hf hn bn (atF hg hn bn ⟨_, _, rfl, ?_⟩)
    (try dsimp only [gName, tNext, List.set_cons_zero, List.set_cons_succ])
    refine st_ret ?_
    cases ef : f n.toNat with
    | none =>
      rw [ef] at q
      (refine evE ?P171 (fun Q h => ?h171) ?_; (case h171 => (simp only [tTest, tOp, tUn, tVar, tC, tCB, tCons, tNil, tAnd, tOr, tNot, tB, tTup, tLst, tIf, tAndV, tOrV, tNotV, tSl, tPart, tNoPart, tCall, iIx_ref, oGt_int, oMod_int, oFdiv_int, oAdd_int, oAdd_str, oSub_int, oMul_int, oLt_int, oGe_int, oLe_int, oPow_int, uNeg_int, oEq_int, oEq_str, oEq_bl, oNe_int, oNe_str, oNe_bl, cInt_int, cInt_bl, cAbs_int, cLen_ref, cList_ref, stL_ref, gName, gSub, gTup, gCons, gNil, rdSeq, List.getElem?_cons_zero, List.getElem?_cons_succ, List.set_cons_zero, List.set_cons_succ, List.cons_append, List.nil_append, Option.some.injEq, exists_eq_left', V.bl.injEq, V.int.injEq, V.ref.injEq, atI_0, atI_1, atI_2, setI_1, setI_2, Bool.not_true, Bool.not_false, Bool.false_eq_true, if_false, if_true, oIs, oV]; exact h)); (try dsimp only [gName, tNext, List.set_cons_zero, List.set_cons_succ]))
      exact q
    | some x =>
      cases eg : g n.toNat with
      | none =>
        rw [ef, eg] at q
        (refine evE ?P172 (fun Q h => ?h172) ?_; (case h172 => (simp only [tTest, tOp, tUn, tVar, tC, tCB, tCons, tNil, tAnd, tOr, tNot, tB, tTup, tLst, tIf, tAndV, tOrV, tNotV, tSl, tPart, tNoPart, tCall, iIx_ref, oGt_int, oMod_int, oFdiv_int, oAdd_int, oAdd_str, oSub_int, oMul_int, oLt_int, oGe_int, oLe_int, oPow_int, uNeg_int, oEq_int, oEq_str, oEq_bl, oNe_int, oNe_str, oNe_bl, cInt_int, cInt_bl, cAbs_int, cLen_ref, cList_ref, stL_ref, gName, gSub, gTup, gCons, gNil, rdSeq, List.getElem?_cons_zero, List.getElem?_cons_succ, List.set_cons_zero, List.set_cons_succ, List.cons_append, List.nil_append, Option.some.injEq, exists_eq_left', V.bl.injEq, V.int.injEq, V.ref.injEq, atI_0, atI_1, atI_2, setI_1, setI_2, Bool.not_true, Bool.not_false, Bool.false_eq_true, if_false, if_true, oIs, oV]; exact h)); (try dsimp only [gName, tNext, List.set_cons_zero, List.set_cons_succ]))
        exact q
      | some y =>
        rw [ef, eg] at q
        (refine evE ?P173 (fun Q h => ?h173) ?_; (case h173 => (simp only [tTest, tOp, tUn, tVar, tC, tCB, tCons, tNil, tAnd, tOr, tNot, tB, tTup, tLst, tIf, tAndV, tOrV, tNotV, tSl, tPart, tNoPart, tCall, iIx_ref, oGt_int, oMod_int, oFdiv_int, oAdd_int, oAdd_str, oSub_int, oMul_int, oLt_int, oGe_int, oLe_int, oPow_int, uNeg_int, oEq_int, oEq_str, oEq_bl, oNe_int, oNe_str, oNe_bl, cInt_int, cInt_bl, cAbs_int, cLen_ref, cList_ref, stL_ref, gName, gSub, gTup, gCons, gNil, rdSeq, List.getElem?_cons_zero, List.getElem?_cons_succ, List.set_cons_zero, List.set_cons_succ, List.cons_append, List.nil_append, Option.some.injEq, exists_eq_left', V.bl.injEq, V.int.injEq, V.ref.injEq, atI_0, atI_1, atI_2, setI_1, setI_2, Bool.not_true, Bool.not_false, Bool.false_eq_true, if_false, if_true, oIs, oV]; exact h)); (try dsimp only [gName, tNext, List.set_cons_zero, List.set_cons_succ]))
        exact ⟨mulok_left k1 k2, q⟩
  · exact h.elim
def sp_law_lift (K : PySem.W.Frag) (A : Ad) : Sp := fun vs H Q _ => match vs with
  | [.ref r, .int k, .int m, .int n] => ∃ f, PF H r f ∧ -(2 ^ 64) < k ∧ k < 2 ^ 64 ∧ 0 ≤ n ∧ Bn 100000 n ∧ Q (oV (oSum (oTimes k (f n.toNat)) (some m))) H
  | _ => False
def t_law_lift_1 (K : PySem.W.Frag) (A : Ad) : TS := (tRet (tIf (tTest (tOp oIs (tVar 4) (tC .non))) (tC .non) (tOp oAdd (tOp oMul (tVar 1) (tVar 4)) (tVar 2))))
def t_law_lift_0 (K : PySem.W.Frag) (A : Ad) : TS := (tSeq (tAsg (tCall (sp_law_at K A) [] E0 (tCons (tVar 0) (tCons (tVar 3) tNil))) (gName 4)) (t_law_lift_1 K A))

theorem pure_law_lift {K : PySem.W.Frag} {A : Ad} {vs : List V} {H : Hp} {Q : VK} {E : XK} (h : sp_law_lift K A vs H Q E) : (t_law_lift_0 K A) { nx := fun _ H' => Q .non H', rt := Q } (start ["_law_pair", "_law_times", "_law_more", "_law_n", "_law_value"] vs) H := by
  unfold sp_law_lift at h
  split at h
  · rename_i r k m n
    obtain ⟨f, hf, k1, k2, hn, bn, q⟩ := h
    show (t_law_lift_0 K A) _ [some (.ref r), some (.int k), some (.int m), some (.int n), none] H
    refine st_seq (st_asg ?_)
    (refine evE ?P174 (fun Q h => ?h174) ?_; (case h174 => (simp only [tTest, tOp, tUn, tVar, tC, tCB, tCons, tNil, tAnd, tOr, tNot, tB, tTup, tLst, tIf, tAndV, tOrV, tNotV, tSl, tPart, tNoPart, tCall, iIx_ref, oGt_int, oMod_int, oFdiv_int, oAdd_int, oAdd_str, oSub_int, oMul_int, oLt_int, oGe_int, oLe_int, oPow_int, uNeg_int, oEq_int, oEq_str, oEq_bl, oNe_int, oNe_str, oNe_bl, cInt_int, cInt_bl, cAbs_int, cLen_ref, cList_ref, stL_ref, gName, gSub, gTup, gCons, gNil, rdSeq, List.getElem?_cons_zero, List.getElem?_cons_succ, List.set_cons_zero, List.set_cons_succ, List.cons_append, List.nil_append, Option.some.injEq, exists_eq_left', V.bl.injEq, V.int.injEq, V.ref.injEq, atI_0, atI_1, atI_2, setI_1, setI_2, Bool.not_true, Bool.not_false, Bool.false_eq_true, if_false, if_true]; exact h)); (try dsimp only [gName, tNext, List.set_cons_zero, List.set_cons_succ]))
    refine atF hf hn bn ?_
    (try dsimp only [gName, tNext, List.set_cons_zero, List.set_cons_succ])
    refine st_ret ?_
    cases ef : f n.toNat with
    | none =>
      rw [ef] at q
      (refine evE ?P175 (fun Q h => ?h175) ?_; (case h175 => (simp only [tTest, tOp, tUn, tVar, tC, tCB, tCons, tNil, tAnd, tOr, tNot, tB, tTup, tLst, tIf, tAndV, tOrV, tNotV, tSl, tPart, tNoPart, tCall, iIx_ref, oGt_int, oMod_int, oFdiv_int, oAdd_int, oAdd_str, oSub_int, oMul_int, oLt_int, oGe_int, oLe_int, oPow_int, uNeg_int, oEq_int, oEq_str, oEq_bl, oNe_int, oNe_str, oNe_bl, cInt_int, cInt_bl, cAbs_int, cLen_ref, cList_ref, stL_ref, gName, gSub, gTup, gCons, gNil, rdSeq, List.getElem?_cons_zero, List.getElem?_cons_succ, List.set_cons_zero, List.set_cons_succ, List.cons_append, List.nil_append, Option.some.injEq, exists_eq_left', V.bl.injEq, V.int.injEq, V.ref.injEq, atI_0, atI_1, atI_2, setI_1, setI_2, Bool.not_true, Bool.not_false, Bool.false_eq_true, if_false, if_true, oIs, oV]; exact h)); (try dsimp only [gName, tNext, List.set_cons_zero, List.set_cons_succ]))
      exact q
    | some x =>
      rw [ef] at q
      (refine evE ?P176 (fun Q h => ?h176) ?_; (case h176 => (simp only [tTest, tOp, tUn, tVar, tC, tCB, tCons, tNil, tAnd, tOr, tNot, tB, tTup, tLst, tIf, tAndV, tOrV, tNotV, tSl, tPart, tNoPart, tCall, iIx_ref, oGt_int, oMod_int, oFdiv_int, oAdd_int, oAdd_str, oSub_int, oMul_int, oLt_int, oGe_int, oLe_int, oPow_int, uNeg_int, oEq_int, oEq_str, oEq_bl, oNe_int, oNe_str, oNe_bl, cInt_int, cInt_bl, cAbs_int, cLen_ref, cList_ref, stL_ref, gName, gSub, gTup, gCons, gNil, rdSeq, List.getElem?_cons_zero, List.getElem?_cons_succ, List.set_cons_zero, List.set_cons_succ, List.cons_append, List.nil_append, Option.some.injEq, exists_eq_left', V.bl.injEq, V.int.injEq, V.ref.injEq, atI_0, atI_1, atI_2, setI_1, setI_2, Bool.not_true, Bool.not_false, Bool.false_eq_true, if_false, if_true, oIs, oV]; exact h)); (try dsimp only [gName, tNext, List.set_cons_zero, List.set_cons_succ]))
      exact ⟨mulok_left k1 k2, q⟩
  · exact h.elim

end HG

namespace HG
open PySem L2
def sp_law_same (K : PySem.W.Frag) (A : Ad) (lam : Lams) : Sp := fun vs H Q _ => match vs with
  | [.ref a, .ref d, .ref s] => ∃ (F : Nat → Option Int) (M : Nat) (ns : List Int) (spf : Sp), GF K A H a F ∧ FB M F ∧ M < 2 ^ 1000 ∧ H s = some (.lst (ns.map V.int)) ∧ ns.length ≤ 10000 ∧ (∀ n ∈ ns, 0 ≤ n ∧ Bn 200 n) ∧ lam d = some spf ∧
      (∀ n ∈ ns, ∀ H' (R : VK), Grow H H' → (∀ H2, Grow H' H2 → R (oV (F n.toNat)) H2) → spf [.int n] H' R E0) ∧ ∀ H', Grow H H' → Q (.bl true) H'
  | _ => False
def t_law_same_1 (K : PySem.W.Frag) (A : Ad) (lam : Lams) : TS := (tRet (tC (.bl false)))
def t_law_same_3 (K : PySem.W.Frag) (A : Ad) (lam : Lams) : TS := (tRet (tC (.bl false)))
def t_law_same_4 (K : PySem.W.Frag) (A : Ad) (lam : Lams) : TS := (tRet (tOp (oEq K) (tLc (iSeq K (tVar 2)) (gName 3) (tTest (tOp (oNe K) (tCB (cReprN K) (tCons (tOp (rIxO A.c_Growth (sp_Growth_getitem K A)) (tVar 0) (tVar 3)) tNil)) (tCB (cReprN K) (tCons (tCallV lam 1 E0 (tCons (tVar 3) tNil)) tNil)))) (tVar 3) [3]) (tLst tNil)))
def t_law_same_2 (K : PySem.W.Frag) (A : Ad) (lam : Lams) : TS := (tSeq (tIfS (tNot (tB (tCall (sp_law_is_normal K A) [] E0 (tCons (tFld K (tVar 0) "told") (tCons (tFld K (tVar 0) "gains") tNil))))) (t_law_same_3 K A lam) tNext) (t_law_same_4 K A lam))
def t_law_same_0 (K : PySem.W.Frag) (A : Ad) (lam : Lams) : TS := (tSeq (tIfS (tOr (tNot (tB (tCB (cIsi K) (tCons (tVar 0) (tCons (tC (.ref A.c_Growth)) tNil))))) (tOr (tNot (tB (tCB (cIsi K) (tCons (tFld K (tVar 0) "told") (tCons (tC (.ty "tuple")) tNil))))) (tNot (tB (tCB (cIsi K) (tCons (tFld K (tVar 0) "gains") (tCons (tC (.ty "tuple")) tNil))))))) (t_law_same_1 K A lam) tNext) (t_law_same_2 K A lam))

theorem fb_bn {F : Nat → Option Int} {M : Nat} (h : FB M F) (hM : M < 2 ^ 1000) {n : Int} (h0 : 0 ≤ n) (bn : Bn 200 n) : ∀ i, F n.toNat = some i → Bn 1919 i := by
  intro i e
  have h1 := h _ _ e
  have h2 : n.toNat + 1 ≤ 2 ^ 200 := by
    unfold Bn at bn
    omega
  exact (bn_of_le h1 (mul_pow (a := 1000) (b := 200) hM h2)).up (by decide)
theorem pure_law_same {K : PySem.W.Frag} {A : Ad} {lam : Lams} {vs : List V} {H : Hp} {Q : VK} {E : XK} (F : KF K A) (h : sp_law_same K A lam vs H Q E) : (t_law_same_0 K A lam) { nx := fun _ H' => Q .non H', rt := Q } (start ["_law_growth", "_law_due", "_law_some_here", "_law_n"] vs) H := by
  unfold sp_law_same at h
  split at h
  · rename_i a d s
    obtain ⟨f, M, ns, spf, hA, fa, hM, hs, hl, hns, hlam, hf, k⟩ := h
    have hsz : sizeLine = 16777216 := rfl
    obtain ⟨t1, g1, ⟨dx, at1, ag1, a1, a2, a3⟩, n1, l1, m1⟩ := id hA
    show (t_law_same_0 K A lam) _ [some (.ref a), some (.ref d), some (.ref s), none] H
    refine st_seq (st_if ?_)
    (refine evT ?P179 (fun Q h => ?h179) ?_; (case h179 => (simp only [tTest, tOp, tUn, tVar, tC, tCB, tCons, tNil, tAnd, tOr, tNot, tB, tTup, tLst, tIf, tAndV, tOrV, tNotV, tSl, tPart, tNoPart, tCall, iIx_ref, oGt_int, oMod_int, oFdiv_int, oAdd_int, oAdd_str, oSub_int, oMul_int, oLt_int, oGe_int, oLe_int, oPow_int, uNeg_int, oEq_int, oEq_str, oEq_bl, oNe_int, oNe_str, oNe_bl, cInt_int, cInt_bl, cAbs_int, cLen_ref, cList_ref, stL_ref, gName, gSub, gTup, gCons, gNil, rdSeq, List.getElem?_cons_zero, List.getElem?_cons_succ, List.set_cons_zero, List.set_cons_succ, List.cons_append, List.nil_append, Option.some.injEq, exists_eq_left', V.bl.injEq, V.int.injEq, V.ref.injEq, atI_0, atI_1, atI_2, setI_1, setI_2, Bool.not_true, Bool.not_false, Bool.false_eq_true, if_false, if_true, cIsi, hA.ty, F.kr, tFld_eq, fldR_eq a1 F.cl F.ut rfl, fldR_eq a1 F.cl F.ug rfl, ty_tup a2, ty_tup a3, kit_uu]; exact h)); (try dsimp only [gName, tNext, List.set_cons_zero, List.set_cons_succ]))
    refine ⟨F.it, trivial, trivial, ?_⟩
    (try dsimp only [gName, tNext, List.set_cons_zero, List.set_cons_succ])
    refine st_seq (st_if ?_)
    (refine evT ?P180 (fun Q h => ?h180) ?_; (case h180 => (simp only [tTest, tOp, tUn, tVar, tC, tCB, tCons, tNil, tAnd, tOr, tNot, tB, tTup, tLst, tIf, tAndV, tOrV, tNotV, tSl, tPart, tNoPart, tCall, iIx_ref, oGt_int, oMod_int, oFdiv_int, oAdd_int, oAdd_str, oSub_int, oMul_int, oLt_int, oGe_int, oLe_int, oPow_int, uNeg_int, oEq_int, oEq_str, oEq_bl, oNe_int, oNe_str, oNe_bl, cInt_int, cInt_bl, cAbs_int, cLen_ref, cList_ref, stL_ref, gName, gSub, gTup, gCons, gNil, rdSeq, List.getElem?_cons_zero, List.getElem?_cons_succ, List.set_cons_zero, List.set_cons_succ, List.cons_append, List.nil_append, Option.some.injEq, exists_eq_left', V.bl.injEq, V.int.injEq, V.ref.injEq, atI_0, atI_1, atI_2, setI_1, setI_2, Bool.not_true, Bool.not_false, Bool.false_eq_true, if_false, if_true, tFld_eq, fldR_eq a1 F.cl F.ut rfl, fldR_eq a1 F.cl F.ug rfl]; exact h)); (try dsimp only [gName, tNext, List.set_cons_zero, List.set_cons_succ]))
    refine ⟨t1, g1, f, a2, a3, n1, m1, l1, fun x hx => (nf_bn n1 m1 fa hM x hx).up (by decide), fun H1 h1 => ?_⟩
    simp only [tTest, tOp, tUn, tVar, tC, tCB, tCons, tNil, tAnd, tOr, tNot, tB, tTup, tLst, tIf, tAndV, tOrV, tNotV, tSl, tPart, tNoPart, tCall, iIx_ref, oGt_int, oMod_int, oFdiv_int, oAdd_int, oAdd_str, oSub_int, oMul_int, oLt_int, oGe_int, oLe_int, oPow_int, uNeg_int, oEq_int, oEq_str, oEq_bl, oNe_int, oNe_str, oNe_bl, cInt_int, cInt_bl, cAbs_int, cLen_ref, cList_ref, stL_ref, gName, gSub, gTup, gCons, gNil, rdSeq, List.getElem?_cons_zero, List.getElem?_cons_succ, List.set_cons_zero, List.set_cons_succ, List.cons_append, List.nil_append, Option.some.injEq, exists_eq_left', V.bl.injEq, V.int.injEq, V.ref.injEq, atI_0, atI_1, atI_2, setI_1, setI_2, Bool.not_true, Bool.not_false, Bool.false_eq_true, if_false, if_true]
    show t_law_same_4 K A lam _ _ _
    refine st_ret ?_
    (refine evE ?P182 (fun Q h => ?h182) ?_; (case h182 => (simp only [tTest, tOp, tUn, tVar, tC, tCB, tCons, tNil, tAnd, tOr, tNot, tB, tTup, tLst, tIf, tAndV, tOrV, tNotV, tSl, tPart, tNoPart, tCall, iIx_ref, oGt_int, oMod_int, oFdiv_int, oAdd_int, oAdd_str, oSub_int, oMul_int, oLt_int, oGe_int, oLe_int, oPow_int, uNeg_int, oEq_int, oEq_str, oEq_bl, oNe_int, oNe_str, oNe_bl, cInt_int, cInt_bl, cAbs_int, cLen_ref, cList_ref, stL_ref, gName, gSub, gTup, gCons, gNil, rdSeq, List.getElem?_cons_zero, List.getElem?_cons_succ, List.set_cons_zero, List.set_cons_succ, List.cons_append, List.nil_append, Option.some.injEq, exists_eq_left', V.bl.injEq, V.int.injEq, V.ref.injEq, atI_0, atI_1, atI_2, setI_1, setI_2, Bool.not_true, Bool.not_false, Bool.false_eq_true, if_false, if_true]; exact h)))
    refine lc_ev ?_
    unfold iSeq
    (refine evE ?P183 (fun Q h => ?h183) ?_; (case h183 => (simp only [tTest, tOp, tUn, tVar, tC, tCB, tCons, tNil, tAnd, tOr, tNot, tB, tTup, tLst, tIf, tAndV, tOrV, tNotV, tSl, tPart, tNoPart, tCall, iIx_ref, oGt_int, oMod_int, oFdiv_int, oAdd_int, oAdd_str, oSub_int, oMul_int, oLt_int, oGe_int, oLe_int, oPow_int, uNeg_int, oEq_int, oEq_str, oEq_bl, oNe_int, oNe_str, oNe_bl, cInt_int, cInt_bl, cAbs_int, cLen_ref, cList_ref, stL_ref, gName, gSub, gTup, gCons, gNil, rdSeq, List.getElem?_cons_zero, List.getElem?_cons_succ, List.set_cons_zero, List.set_cons_succ, List.cons_append, List.nil_append, Option.some.injEq, exists_eq_left', V.bl.injEq, V.int.injEq, V.ref.injEq, atI_0, atI_1, atI_2, setI_1, setI_2, Bool.not_true, Bool.not_false, Bool.false_eq_true, if_false, if_true]; exact h)))
    refine jok_sq (.l (h1 _ _ hs)) fun J hJ => ?_
    refine lc_filter hJ (fun _ => false) (fun _ => .non) (by rw [List.length_map]; omega) (fun j hj H5 g5 R hR => ?_) (fun j hj hpj => by cases hpj) (fun D5 H5 g5 hD5 hd5 => ?_) (by exact fun x => rfl)
    · rw [List.length_map] at hj
      rw [getD_map_int hj]
      have hm := getD_mem (d := 0) hj
      obtain ⟨p0, pb⟩ := hns _ hm
      have bv := fb_bn fa hM p0 pb
      (refine evT ?P181 (fun Q h => ?h181) ?_; (case h181 => (simp only [tTest, tOp, tUn, tVar, tC, tCB, tCons, tNil, tAnd, tOr, tNot, tB, tTup, tLst, tIf, tAndV, tOrV, tNotV, tSl, tPart, tNoPart, tCall, iIx_ref, oGt_int, oMod_int, oFdiv_int, oAdd_int, oAdd_str, oSub_int, oMul_int, oLt_int, oGe_int, oLe_int, oPow_int, uNeg_int, oEq_int, oEq_str, oEq_bl, oNe_int, oNe_str, oNe_bl, cInt_int, cInt_bl, cAbs_int, cLen_ref, cList_ref, stL_ref, gName, gSub, gTup, gCons, gNil, rdSeq, List.getElem?_cons_zero, List.getElem?_cons_succ, List.set_cons_zero, List.set_cons_succ, List.cons_append, List.nil_append, Option.some.injEq, exists_eq_left', V.bl.injEq, V.int.injEq, V.ref.injEq, atI_0, atI_1, atI_2, setI_1, setI_2, Bool.not_true, Bool.not_false, Bool.false_eq_true, if_false, if_true, wipe, tCallV]; exact h)); (try dsimp only [gName, tNext, List.set_cons_zero, List.set_cons_succ]))
      refine ixG (hA.grow (h1.trans g5)) fa hM p0 (pb.up (by decide)) ?_
      refine reprN_oV bv ?_
      refine ⟨d, spf, rfl, hlam, ?_⟩
      refine hf _ hm _ _ (h1.trans g5) fun H6 g6 => ?_
      refine reprN_oV bv ?_
      simp only [tTest, tOp, tUn, tVar, tC, tCB, tCons, tNil, tAnd, tOr, tNot, tB, tTup, tLst, tIf, tAndV, tOrV, tNotV, tSl, tPart, tNoPart, tCall, iIx_ref, oGt_int, oMod_int, oFdiv_int, oAdd_int, oAdd_str, oSub_int, oMul_int, oLt_int, oGe_int, oLe_int, oPow_int, uNeg_int, oEq_int, oEq_str, oEq_bl, oNe_int, oNe_str, oNe_bl, cInt_int, cInt_bl, cAbs_int, cLen_ref, cList_ref, stL_ref, gName, gSub, gTup, gCons, gNil, rdSeq, List.getElem?_cons_zero, List.getElem?_cons_succ, List.set_cons_zero, List.set_cons_succ, List.cons_append, List.nil_append, Option.some.injEq, exists_eq_left', V.bl.injEq, V.int.injEq, V.ref.injEq, atI_0, atI_1, atI_2, setI_1, setI_2, Bool.not_true, Bool.not_false, Bool.false_eq_true, if_false, if_true, decide_true]
      exact hR _ g6
    have hr0 : ∀ n, resF (fun _ => false) (fun _ => V.non) n = [] := fun n => by unfold resF; simp
    rw [hr0] at hd5
    simp only [tTest, tOp, tUn, tVar, tC, tCB, tCons, tNil, tAnd, tOr, tNot, tB, tTup, tLst, tIf, tAndV, tOrV, tNotV, tSl, tPart, tNoPart, tCall, iIx_ref, oGt_int, oMod_int, oFdiv_int, oAdd_int, oAdd_str, oSub_int, oMul_int, oLt_int, oGe_int, oLe_int, oPow_int, uNeg_int, oEq_int, oEq_str, oEq_bl, oNe_int, oNe_str, oNe_bl, cInt_int, cInt_bl, cAbs_int, cLen_ref, cList_ref, stL_ref, gName, gSub, gTup, gCons, gNil, rdSeq, List.getElem?_cons_zero, List.getElem?_cons_succ, List.set_cons_zero, List.set_cons_succ, List.cons_append, List.nil_append, Option.some.injEq, exists_eq_left', V.bl.injEq, V.int.injEq, V.ref.injEq, atI_0, atI_1, atI_2, setI_1, setI_2, Bool.not_true, Bool.not_false, Bool.false_eq_true, if_false, if_true]
    refine ⟨by show 0 ≤ sizeLine; decide, fun e5 he5 => ?_⟩
    have g6 := Grow.new (o := .lst []) he5
    refine eq_nil (ns := []) (g6 _ _ hd5) upd_same ?_
    exact k _ (h1.trans (g5.trans g6))
  · exact h.elim

end HG

namespace HG
open PySem L2
/-! ### functions with a period of 60 -/
def P60 (f : Nat → Option Int) : Prop := ∃ c, Per f 60 100 c
theorem P60.okf {f : Nat → Option Int} (h : P60 f) : Okf f := by
  obtain ⟨c, h⟩ := h
  exact okf_of h (by decide) (by decide)
theorem P60.sum {f g : Nat → Option Int} (h : P60 f) (k : P60 g) : P60 (fSum f g) := by
  obtain ⟨c, h⟩ := h
  obtain ⟨d, k⟩ := k
  exact ⟨_, per_sum h k⟩
theorem P60.times {f : Nat → Option Int} (k : Int) (h : P60 f) : P60 (fTimes k f) := by
  obtain ⟨c, h⟩ := h
  exact ⟨_, per_times k h⟩
theorem P60.const (i : Int) : P60 (fun _ => some i) := ⟨_, per_const i (by decide)⟩
theorem p60_gv {told : List (Option Int)} {gains : List Int} (h1 : 0 < gains.length) (h2 : gains.length ≤ 6) (h3 : gains.length ≤ told.length) (h4 : told.length ≤ 100) : P60 (gv told gains) := by
  have hd : gains.length ∣ 60 := by
    have : gains.length = 1 ∨ gains.length = 2 ∨ gains.length = 3 ∨ gains.length = 4 ∨ gains.length = 5 ∨ gains.length = 6 := by omega
    rcases this with e | e | e | e | e | e <;> rw [e] <;> decide
  obtain ⟨c, h⟩ := per_dvd (gr_per (gr_gv h1 h3)) hd (by decide)
  exact ⟨c, h.up (by omega)⟩
/-- a pair made into a growth -/
theorem mkPF {K : PySem.W.Frag} {A : Ad} {H : Hp} {r : Addr} {f : Nat → Option Int} {Q : VK} (h : PF H r f) (hok : Okf f) (k : ∀ c H', Grow H H' → GF K A H' c f → Q (.ref c) H') :
    rIx K (.ref r) (.int 0) H fun x H1 => rIx K (.ref r) (.int 1) H1 fun y H2 => MKf A.c_Growth (sp_Growth_init K A) E0 (fun z => [z, x, y]) H2 Q := by
  obtain ⟨t, g, told, gains, P, h1, h2, h3, h4, h5, rfl⟩ := h
  refine ixE (.t P.hr) atI_0 ?_
  refine ixE (.t P.hr) atI_1 ?_
  exact mkF (.l P.ht) (.l P.hg) (gr_gv h1 h3) h2 (by omega) h5 hok k
/-- same(a, lambda n: .., s) -/
theorem same_of {K : PySem.W.Frag} {A : Ad} {F : Nat → Option Int} {M : Nat} {a s f c' : Addr} {q : Str} {tb : XK → TE} {σ : L2.St} {i : Nat} {H : Hp} {Q : VK} (hA : GF K A H a F) (fb : FB M F) (hM : M < 2 ^ 1000) (hs : Places H s) (hc : H c' = some (LamX.CodeO c' q))
    (hb : ∀ n : Int, 0 ≤ n → Bn 200 n → ∀ H' (R : VK), Grow H H' → R (oV (F n.toNat)) H' → tb E0 (σ.set i (some (.int n))) H' R) (k : ∀ H', Grow H H' → Q (.bl true) H') : sp_law_same K A (one f (lamSp1 c' q tb σ i)) [.ref a, .ref f, .ref s] H Q E0 := by
  obtain ⟨ns, h1, h2, h3⟩ := hs
  refine ⟨F, M, ns, _, hA, fb, hM, h1, h2, h3, one_at, fun n hn H' R g hR => ?_, k⟩
  obtain ⟨p1, p2⟩ := h3 n hn
  exact ⟨g _ _ hc, hb n p1 p2 H' R g (hR _ .refl)⟩
theorem Places.extN {H H' : Hp} {s : Addr} (h : Places H s) (k : LamX.ExtN H H') : Places H' s := by
  obtain ⟨ns, h1, h2⟩ := h
  exact ⟨ns, k.lst h1, h2⟩
theorem Places.grow {H H' : Hp} {s : Addr} (h : Places H s) (k : Grow H H') : Places H' s := h.extN k.extN
theorem GF.keep {K : PySem.W.Frag} {A : Ad} {H H' : Hp} {a p l : Addr} {n : Nat} {f : Nat → Option Int} (h : GF K A H a f) (hp : PenL H p l n) (k : Keep p H H') : GF K A H' a f := by
  obtain ⟨told, gains, ⟨dx, t, g, h1, h2, h3⟩, q⟩ := h
  obtain ⟨xs, e⟩ := hp.lst
  exact ⟨told, gains, ⟨dx, t, g, k _ _ (fun z => by rw [z, e] at h1; cases h1) h1, k _ _ (fun z => by rw [z, e] at h2; cases h2) h2, k _ _ (fun z => by rw [z, e] at h3; cases h3) h3⟩, q⟩
theorem PairAt.keepp {H H' : Hp} {r t g p : Addr} {told : List (Option Int)} {gains : List Int} (h : PairAt H r t g told gains) (k : Keep p H H') (nr : r ≠ p) (nt : t ≠ p) (ng : g ≠ p) : PairAt H' r t g told gains := ⟨k _ _ nr h.hr, k _ _ nt h.ht, k _ _ ng h.hg⟩
theorem PairAt.keepT {H H' : Hp} {r t g p : Addr} {told : List (Option Int)} {gains : List Int} (h : PairAt H r t g told gains) (k : KeepT p H H') (nr : r ≠ p) (nt : t ≠ p) (ng : g ≠ p) : PairAt H' r t g told gains := ⟨k _ _ nr h.hr (fun _ z => by cases z), k _ _ nt h.ht (fun _ z => by cases z), k _ _ ng h.hg (fun _ z => by cases z)⟩

/-! ### the signs at values, P60 at hand -/
section
variable {K : PySem.W.Frag} {A : Ad} {H : Hp} {a b : Addr} {f g : Nat → Option Int} {Q : VK} {r2 : R2} {M : Nat} {i : Int}
theorem addL (hA : GF K A H a f) (hB : GF K A H b g) (fa : FB M f) (fb : FB M g) (hM : M < 2 ^ 900) (hok : Okf (fSum f g)) (k : ∀ c H', Grow H H' → GF K A H' c (fSum f g) → Q (.ref c) H') : rBinL A.c_Growth (sp_Growth_add K A) (.ref a) (.ref b) H Q :=
  ⟨hA.isIns, .inl hB.isIns, f, g, M, hA, .inl ⟨b, rfl, hB⟩, fa, fb, hM, hok, k⟩
theorem addLi (hA : GF K A H a f) (fa : FB M f) (hi : i.natAbs ≤ M) (hM : M < 2 ^ 900) (hok : Okf (fSum f fun _ => some i)) (k : ∀ c H', Grow H H' → GF K A H' c (fSum f fun _ => some i) → Q (.ref c) H') : rBinL A.c_Growth (sp_Growth_add K A) (.ref a) (.int i) H Q :=
  ⟨hA.isIns, .inr ⟨i, rfl⟩, f, _, M, hA, .inr ⟨i, rfl, rfl⟩, fa, (fb_const i).up hi, hM, hok, k⟩
theorem subL (hA : GF K A H a f) (hB : GF K A H b g) (fa : FB M f) (fb : FB M g) (hM : M < 2 ^ 900) (hok : Okf (fSum f (fTimes (-1) g))) (k : ∀ c H', Grow H H' → GF K A H' c (fSum f (fTimes (-1) g)) → Q (.ref c) H') : rBinL A.c_Growth (sp_Growth_sub K A) (.ref a) (.ref b) H Q :=
  ⟨hA.isIns, .inl hB.isIns, f, g, M, hA, .inl ⟨b, rfl, hB⟩, fa, fb, hM, hok, k⟩
theorem subLi (hA : GF K A H a f) (fa : FB M f) (hi : i.natAbs ≤ M) (hM : M < 2 ^ 900) (hok : Okf (fSum f (fTimes (-1) fun _ => some i))) (k : ∀ c H', Grow H H' → GF K A H' c (fSum f (fTimes (-1) fun _ => some i)) → Q (.ref c) H') : rBinL A.c_Growth (sp_Growth_sub K A) (.ref a) (.int i) H Q :=
  ⟨hA.isIns, .inr ⟨i, rfl⟩, f, _, M, hA, .inr ⟨i, rfl, rfl⟩, fa, (fb_const i).up hi, hM, hok, k⟩
theorem mulL (hA : GF K A H a f) (fa : FB M f) (hM : M < 2 ^ 900) (bi : Bn 900 i) (k : ∀ c H', Grow H H' → GF K A H' c (fTimes i f) → Q (.ref c) H') : rBinL A.c_Growth (sp_Growth_mul K A) (.ref a) (.int i) H Q :=
  ⟨hA.isIns, .inr ⟨i, rfl⟩, f, M, hA, fa, hM, bi, k⟩
theorem addR (hA : GF K A H a f) (fa : FB M f) (hi : i.natAbs ≤ M) (hM : M < 2 ^ 900) (hok : Okf (fSum (fun _ => some i) f)) (k : ∀ c H', Grow H H' → GF K A H' c (fSum (fun _ => some i) f) → Q (.ref c) H') : rBinR A.c_Growth (sp_Growth_radd K A) (.int i) (.ref a) H Q :=
  ⟨⟨i, rfl⟩, hA.isIns, f, M, hA, fa, hi, hM, hok, k⟩
theorem subR (hA : GF K A H a f) (fa : FB M f) (hi : i.natAbs ≤ M) (hM : M < 2 ^ 900) (hok : Okf (fSum (fun _ => some i) (fTimes (-1) f))) (k : ∀ c H', Grow H H' → GF K A H' c (fSum (fun _ => some i) (fTimes (-1) f)) → Q (.ref c) H') : rBinR A.c_Growth (sp_Growth_rsub K A) (.int i) (.ref a) H Q :=
  ⟨⟨i, rfl⟩, hA.isIns, f, M, hA, fa, hi, hM, hok, k⟩
theorem mulR (hA : GF K A H a f) (fa : FB M f) (hM : M < 2 ^ 900) (bi : Bn 900 i) (k : ∀ c H', Grow H H' → GF K A H' c (fTimes i f) → Q (.ref c) H') : rBinR A.c_Growth (sp_Growth_rmul K A) (.int i) (.ref a) H Q :=
  ⟨⟨i, rfl⟩, hA.isIns, f, M, hA, fa, hM, bi, k⟩
theorem GF.onR (h : GF K A H a f) {x : V} {r1 r2 : R2} : onInsR r1 r2 x (.ref a) H Q = r1 x (.ref a) H Q := by
  obtain ⟨dx, fs, e⟩ := h.at
  exact onInsR_yes e
end
section
variable {f g : Nat → Option Int}
theorem ot_one {o : Option Int} : oTimes 1 o = o := by cases o <;> simp [oTimes]
theorem os_zero {o : Option Int} : oSum o (some 0) = o := by cases o <;> simp [oSum]
theorem os_comm {a b : Option Int} : oSum a b = oSum b a := by cases a <;> cases b <;> simp [oSum, Int.add_comm]
theorem fs_comm : fSum f g = fSum g f := by
  funext n
  show oSum (f n) (g n) = oSum (g n) (f n)
  cases f n <;> cases g n <;> simp [oSum, Int.add_comm]
theorem fs_neg {i : Int} : fSum f (fTimes (-1) fun _ => some i) = fSum f (fun _ => some (0 - i)) := by
  funext n
  show oSum (f n) (some (-1 * i)) = oSum (f n) (some (0 - i))
  rw [show -1 * i = 0 - i from by omega]
/-- what is taken away twice -/
theorem fs_back : fSum (fSum (fSum f g) (fTimes (-1) g)) (fTimes (-1) g) = fSum f (fTimes (-1) g) := by
  funext n
  show oSum (oSum (oSum (f n) (g n)) (oTimes (-1) (g n))) (oTimes (-1) (g n)) = oSum (f n) (oTimes (-1) (g n))
  cases f n <;> cases g n <;> simp [oSum, oTimes]
  omega
end

end HG

namespace HG
open PySem L2
def sp_law_pair_right (K : PySem.W.Frag) (A : Ad) : Sp := fun vs H Q _ => match vs with
  | [.ref r, .ref s] => ∃ f g, PF H r f ∧ PF H s g ∧ P60 f ∧ P60 g ∧ FB 100 f ∧ FB 100 g ∧ LamX.Tabs (tabs A) H ∧ ∀ H', LamX.ExtN H H' → LamX.Tabs (tabs A) H' → Q (.bl true) H'
  | _ => False
def t_law_pair_right_3 (K : PySem.W.Frag) (A : Ad) : TS := (tRet (tC (.bl false)))
def t_law_pair_right_5 (K : PySem.W.Frag) (A : Ad) : TS := (tRet (tC (.bl false)))
def t_law_pair_right_9 (K : PySem.W.Frag) (A : Ad) : TS := (tRet (tC (.bl false)))
def t_law_pair_right_13 (K : PySem.W.Frag) (A : Ad) : TS := (tRet (tC (.bl false)))
def t_law_pair_right_14 (K : PySem.W.Frag) (A : Ad) : TS := (tRet (tLam3 (tabs A) "_law_pair_right.<locals>.<lambda>" (sp_law_same K A) (fun _ => (tCall (sp_law_at K A) [] E0 (tCons (tVar 1) (tCons (tVar 6) tNil)))) 6 E0 (tVar 3) (tVar 4)))
def t_law_pair_right_12 (K : PySem.W.Frag) (A : Ad) : TS := (tSeq (tIfS (tTest (tOp (onIns (rNeO A.c_Growth (sp_Growth_eq K A)) (oNe K)) (tVar 5) (tOp (onIns (rBinL A.c_Growth (sp_Growth_sub K A)) oSub) (tVar 2) (tVar 3)))) (t_law_pair_right_13 K A) tNext) (t_law_pair_right_14 K A))
def t_law_pair_right_11 (K : PySem.W.Frag) (A : Ad) : TS := (tSeq (tAug 5 (tVar 3) (rBinL A.c_Growth (sp_Growth_sub K A))) (t_law_pair_right_12 K A))
def t_law_pair_right_10 (K : PySem.W.Frag) (A : Ad) : TS := (tSeq (tAug 5 (tVar 3) (rBinL A.c_Growth (sp_Growth_sub K A))) (t_law_pair_right_11 K A))
def t_law_pair_right_8 (K : PySem.W.Frag) (A : Ad) : TS := (tSeq (tIfS (tOr (tTest (tOp (onIns (rNeO A.c_Growth (sp_Growth_eq K A)) (oNe K)) (tVar 5) (tOp (onIns (rBinL A.c_Growth (sp_Growth_add K A)) oAdd) (tVar 2) (tVar 3)))) (tNot (tB (tLam3 (tabs A) "_law_pair_right.<locals>.<lambda>" (sp_law_same K A) (fun _ => (tCall (sp_law_at K A) [] E0 (tCons (tVar 0) (tCons (tVar 6) tNil)))) 6 E0 (tVar 2) (tVar 4))))) (t_law_pair_right_9 K A) tNext) (t_law_pair_right_10 K A))
def t_law_pair_right_7 (K : PySem.W.Frag) (A : Ad) : TS := (tSeq (tAug 5 (tVar 3) (rBinL A.c_Growth (sp_Growth_add K A))) (t_law_pair_right_8 K A))
def t_law_pair_right_6 (K : PySem.W.Frag) (A : Ad) : TS := (tSeq (tAsg (tVar 2) (gName 5)) (t_law_pair_right_7 K A))
def t_law_pair_right_4 (K : PySem.W.Frag) (A : Ad) : TS := (tSeq (tIfS (tNot (tB (tLam3 (tabs A) "_law_pair_right.<locals>.<lambda>" (sp_law_same K A) (fun _ => (tCall (sp_law_sum K A) [] E0 (tCons (tVar 0) (tCons (tVar 1) (tCons (tUn uNeg (tC (.int 1))) (tCons (tVar 6) tNil)))))) 6 E0 (tOp (onIns (rBinL A.c_Growth (sp_Growth_sub K A)) oSub) (tVar 2) (tVar 3)) (tVar 4)))) (t_law_pair_right_5 K A) tNext) (t_law_pair_right_6 K A))
def t_law_pair_right_2 (K : PySem.W.Frag) (A : Ad) : TS := (tSeq (tIfS (tNot (tB (tLam3 (tabs A) "_law_pair_right.<locals>.<lambda>" (sp_law_same K A) (fun _ => (tCall (sp_law_sum K A) [] E0 (tCons (tVar 0) (tCons (tVar 1) (tCons (tC (.int 1)) (tCons (tVar 6) tNil)))))) 6 E0 (tOp (onIns (rBinL A.c_Growth (sp_Growth_add K A)) oAdd) (tVar 2) (tVar 3)) (tVar 4)))) (t_law_pair_right_3 K A) tNext) (t_law_pair_right_4 K A))
def t_law_pair_right_1 (K : PySem.W.Frag) (A : Ad) : TS := (tSeq (tAsg (tOp (onIns (rBinL A.c_Growth (sp_Growth_add K A)) oAdd) (tCall (sp_law_some K A) [] E0 (tCons (tVar 0) tNil)) (tCall (sp_law_some K A) [] E0 (tCons (tVar 1) tNil))) (gName 4)) (t_law_pair_right_2 K A))
def t_law_pair_right_0 (K : PySem.W.Frag) (A : Ad) : TS := (tSeq (tPar 2 3 (tCons (tMake A.c_Growth (sp_Growth_init K A) [] E0 (tCons (tOp (rIx K) (tVar 0) (tC (.int 0))) (tCons (tOp (rIx K) (tVar 0) (tC (.int 1))) tNil))) (tCons (tMake A.c_Growth (sp_Growth_init K A) [] E0 (tCons (tOp (rIx K) (tVar 1) (tC (.int 0))) (tCons (tOp (rIx K) (tVar 1) (tC (.int 1))) tNil))) tNil))) (t_law_pair_right_1 K A))

theorem pure_law_pair_right {K : PySem.W.Frag} {A : Ad} {vs : List V} {H : Hp} {Q : VK} {E : XK} (F : KF K A) (h : sp_law_pair_right K A vs H Q E) : (t_law_pair_right_0 K A) { nx := fun _ H' => Q .non H', rt := Q } (start ["_law_one", "_law_other", "_law_first", "_law_second", "_law_some_here", "_law_held", "_law_n"] vs) H := by
  unfold sp_law_pair_right at h
  split at h
  · rename_i r s
    obtain ⟨f, g, hf, hg, pf, pg, bf, bg, T0, k⟩ := h
    have hsz : sizeLine = 16777216 := rfl
    show (t_law_pair_right_0 K A) _ [some (.ref r), some (.ref s), none, none, none, none, none] H
    refine st_seq ?_
    unfold tPar
    (refine evA ?P184 (fun Q h => ?h184) ?_; (case h184 => (simp only [tTest, tOp, tUn, tVar, tC, tCB, tCons, tNil, tAnd, tOr, tNot, tB, tTup, tLst, tIf, tAndV, tOrV, tNotV, tSl, tPart, tNoPart, tCall, iIx_ref, oGt_int, oMod_int, oFdiv_int, oAdd_int, oAdd_str, oSub_int, oMul_int, oLt_int, oGe_int, oLe_int, oPow_int, uNeg_int, oEq_int, oEq_str, oEq_bl, oNe_int, oNe_str, oNe_bl, cInt_int, cInt_bl, cAbs_int, cLen_ref, cList_ref, stL_ref, gName, gSub, gTup, gCons, gNil, rdSeq, List.getElem?_cons_zero, List.getElem?_cons_succ, List.set_cons_zero, List.set_cons_succ, List.cons_append, List.nil_append, Option.some.injEq, exists_eq_left', V.bl.injEq, V.int.injEq, V.ref.injEq, atI_0, atI_1, atI_2, setI_1, setI_2, Bool.not_true, Bool.not_false, Bool.false_eq_true, if_false, if_true, tMake_eq]; exact h)); (try dsimp only [gName, tNext, List.set_cons_zero, List.set_cons_succ]))
    refine mkPF hf pf.okf fun c1 H1 g1 hc1 => ?_
    refine mkPF (hg.grow g1) pg.okf fun c2 H2 g2 hc2 => ?_
    refine ⟨_, _, rfl, ?_⟩
    (try dsimp only [gName, tNext, List.set_cons_zero, List.set_cons_succ])
    refine st_seq (st_asg ?_)
    (refine evE ?P185 (fun Q h => ?h185) ?_; (case h185 => (simp only [tTest, tOp, tUn, tVar, tC, tCB, tCons, tNil, tAnd, tOr, tNot, tB, tTup, tLst, tIf, tAndV, tOrV, tNotV, tSl, tPart, tNoPart, tCall, iIx_ref, oGt_int, oMod_int, oFdiv_int, oAdd_int, oAdd_str, oSub_int, oMul_int, oLt_int, oGe_int, oLe_int, oPow_int, uNeg_int, oEq_int, oEq_str, oEq_bl, oNe_int, oNe_str, oNe_bl, cInt_int, cInt_bl, cAbs_int, cLen_ref, cList_ref, stL_ref, gName, gSub, gTup, gCons, gNil, rdSeq, List.getElem?_cons_zero, List.getElem?_cons_succ, List.set_cons_zero, List.set_cons_succ, List.cons_append, List.nil_append, Option.some.injEq, exists_eq_left', V.bl.injEq, V.int.injEq, V.ref.injEq, atI_0, atI_1, atI_2, setI_1, setI_2, Bool.not_true, Bool.not_false, Bool.false_eq_true, if_false, if_true]; exact h)); (try dsimp only [gName, tNext, List.set_cons_zero, List.set_cons_succ]))
    replace hf := hf.grow (g1.trans g2)
    replace hg := hg.grow (g1.trans g2)
    replace hc1 := hc1.grow g2
    refine ⟨f, hf, fun s1 ns1 H3 g3 hs1 ls1 ps1 => ⟨g, hg.grow g3, fun s2 ns2 H4 g4 hs2 ls2 ps2 => ?_⟩⟩
    replace hs1 := g4 _ _ hs1
    refine Eq.mpr (onIns_lst hs1) ?_
    refine catE hs1 hs2 (by rw [List.length_map, List.length_map]; omega) fun s3 H5 g5 hs3 => ?_
    rw [← List.map_append] at hs3
    have PL : Places H5 s3 := ⟨_, hs3, by rw [List.length_append]; omega, fun n hn => by
      rcases List.mem_append.mp hn with z | z
      · exact ps1 n z
      · exact ps2 n z⟩
    have g25 := g3.trans (g4.trans g5)
    have X5 : LamX.ExtN H H5 := ((g1.trans g2).trans g25).extN
    have T5 := ((g1.trans g2).trans g25).tabs T0
    replace hf := hf.grow g25
    replace hg := hg.grow g25
    replace hc1 := hc1.grow g25
    replace hc2 := hc2.grow g25
    clear hs1 hs2 hs3 g25 g5 g4 g3 g2 g1 ps1 ps2 ls1 ls2 T0
    (try dsimp only [gName, tNext, List.set_cons_zero, List.set_cons_succ])
    have pn := pg.times (-1)
    have bn := fb_neg bg
    have M9 : (1000 : Nat) < 2 ^ 900 := Nat.lt_trans (by decide : 1000 < 2 ^ 10) (Nat.pow_lt_pow_right (by decide) (by decide))
    have M10 : (1000 : Nat) < 2 ^ 1000 := Nat.lt_trans (by decide : 1000 < 2 ^ 10) (Nat.pow_lt_pow_right (by decide) (by decide))
    have bs := fb_sum bf bg
    have bd := fb_sum bf bn
    -- the sum
    refine st_seq (st_if ?_)
    (refine evT ?P186 (fun Q h => ?h186) ?_; (case h186 => (simp only [tTest, tOp, tUn, tVar, tC, tCB, tCons, tNil, tAnd, tOr, tNot, tB, tTup, tLst, tIf, tAndV, tOrV, tNotV, tSl, tPart, tNoPart, tCall, iIx_ref, oGt_int, oMod_int, oFdiv_int, oAdd_int, oAdd_str, oSub_int, oMul_int, oLt_int, oGe_int, oLe_int, oPow_int, uNeg_int, oEq_int, oEq_str, oEq_bl, oNe_int, oNe_str, oNe_bl, cInt_int, cInt_bl, cAbs_int, cLen_ref, cList_ref, stL_ref, gName, gSub, gTup, gCons, gNil, rdSeq, List.getElem?_cons_zero, List.getElem?_cons_succ, List.set_cons_zero, List.set_cons_succ, List.cons_append, List.nil_append, Option.some.injEq, exists_eq_left', V.bl.injEq, V.int.injEq, V.ref.injEq, atI_0, atI_1, atI_2, setI_1, setI_2, Bool.not_true, Bool.not_false, Bool.false_eq_true, if_false, if_true, tLam3]; exact h)); (try dsimp only [gName, tNext, List.set_cons_zero, List.set_cons_succ]))
    refine Eq.mpr hc1.on ?_
    refine addL hc1 hc2 (bf.up (by decide : 100 ≤ 1000)) (bg.up (by decide)) M9 (pf.sum pg).okf fun c3 H6 g6 hc3 => ?_
    refine ⟨g6.tabs T5, fun fl cl H7 x7 T7 hfl hcl => ?_⟩
    refine same_of (hc3.extN x7) (bs.up (by decide : 200 ≤ 1000)) M10 ((PL.grow g6).extN x7) hcl (fun n n0 nb H' R g' hR => ?_) fun H8 g8 => ?_
    · simp only [tTest, tOp, tUn, tVar, tC, tCB, tCons, tNil, tAnd, tOr, tNot, tB, tTup, tLst, tIf, tAndV, tOrV, tNotV, tSl, tPart, tNoPart, tCall, iIx_ref, oGt_int, oMod_int, oFdiv_int, oAdd_int, oAdd_str, oSub_int, oMul_int, oLt_int, oGe_int, oLe_int, oPow_int, uNeg_int, oEq_int, oEq_str, oEq_bl, oNe_int, oNe_str, oNe_bl, cInt_int, cInt_bl, cAbs_int, cLen_ref, cList_ref, stL_ref, gName, gSub, gTup, gCons, gNil, rdSeq, List.getElem?_cons_zero, List.getElem?_cons_succ, List.set_cons_zero, List.set_cons_succ, List.cons_append, List.nil_append, Option.some.injEq, exists_eq_left', V.bl.injEq, V.int.injEq, V.ref.injEq, atI_0, atI_1, atI_2, setI_1, setI_2, Bool.not_true, Bool.not_false, Bool.false_eq_true, if_false, if_true]
      refine ⟨f, g, ((hf.grow g6).extN x7).grow g', ((hg.grow g6).extN x7).grow g', by decide, by decide, n0, nb.up (by decide), ?_⟩
      rw [ot_one]
      exact hR
    simp only [tTest, tOp, tUn, tVar, tC, tCB, tCons, tNil, tAnd, tOr, tNot, tB, tTup, tLst, tIf, tAndV, tOrV, tNotV, tSl, tPart, tNoPart, tCall, iIx_ref, oGt_int, oMod_int, oFdiv_int, oAdd_int, oAdd_str, oSub_int, oMul_int, oLt_int, oGe_int, oLe_int, oPow_int, uNeg_int, oEq_int, oEq_str, oEq_bl, oNe_int, oNe_str, oNe_bl, cInt_int, cInt_bl, cAbs_int, cLen_ref, cList_ref, stL_ref, gName, gSub, gTup, gCons, gNil, rdSeq, List.getElem?_cons_zero, List.getElem?_cons_succ, List.set_cons_zero, List.set_cons_succ, List.cons_append, List.nil_append, Option.some.injEq, exists_eq_left', V.bl.injEq, V.int.injEq, V.ref.injEq, atI_0, atI_1, atI_2, setI_1, setI_2, Bool.not_true, Bool.not_false, Bool.false_eq_true, if_false, if_true]
    have x8 : LamX.ExtN H5 H8 := (g6.extN.trans x7).trans g8.extN
    have T8 := g8.tabs T7
    replace hf := hf.extN x8
    replace hg := hg.extN x8
    replace hc1 := hc1.extN x8
    replace hc2 := hc2.extN x8
    replace PL := PL.extN x8
    replace X5 := X5.trans x8
    clear x8 g8 T7 x7 g6 hc3 hfl hcl T5 fl cl H7
    -- the difference
    show t_law_pair_right_4 K A _ _ _
    refine st_seq (st_if ?_)
    (refine evT ?P187 (fun Q h => ?h187) ?_; (case h187 => (simp only [tTest, tOp, tUn, tVar, tC, tCB, tCons, tNil, tAnd, tOr, tNot, tB, tTup, tLst, tIf, tAndV, tOrV, tNotV, tSl, tPart, tNoPart, tCall, iIx_ref, oGt_int, oMod_int, oFdiv_int, oAdd_int, oAdd_str, oSub_int, oMul_int, oLt_int, oGe_int, oLe_int, oPow_int, uNeg_int, oEq_int, oEq_str, oEq_bl, oNe_int, oNe_str, oNe_bl, cInt_int, cInt_bl, cAbs_int, cLen_ref, cList_ref, stL_ref, gName, gSub, gTup, gCons, gNil, rdSeq, List.getElem?_cons_zero, List.getElem?_cons_succ, List.set_cons_zero, List.set_cons_succ, List.cons_append, List.nil_append, Option.some.injEq, exists_eq_left', V.bl.injEq, V.int.injEq, V.ref.injEq, atI_0, atI_1, atI_2, setI_1, setI_2, Bool.not_true, Bool.not_false, Bool.false_eq_true, if_false, if_true, tLam3]; exact h)); (try dsimp only [gName, tNext, List.set_cons_zero, List.set_cons_succ]))
    refine Eq.mpr hc1.on ?_
    refine subL hc1 hc2 (bf.up (by decide : 100 ≤ 1000)) (bg.up (by decide)) M9 (pf.sum pn).okf fun c4 H9 g9 hc4 => ?_
    refine ⟨g9.tabs T8, fun fl cl H10 x10 T10 hfl hcl => ?_⟩
    refine same_of (hc4.extN x10) (bd.up (by decide : 200 ≤ 1000)) M10 ((PL.grow g9).extN x10) hcl (fun n n0 nb H' R g' hR => ?_) fun H11 g11 => ?_
    · simp only [tTest, tOp, tUn, tVar, tC, tCB, tCons, tNil, tAnd, tOr, tNot, tB, tTup, tLst, tIf, tAndV, tOrV, tNotV, tSl, tPart, tNoPart, tCall, iIx_ref, oGt_int, oMod_int, oFdiv_int, oAdd_int, oAdd_str, oSub_int, oMul_int, oLt_int, oGe_int, oLe_int, oPow_int, uNeg_int, oEq_int, oEq_str, oEq_bl, oNe_int, oNe_str, oNe_bl, cInt_int, cInt_bl, cAbs_int, cLen_ref, cList_ref, stL_ref, gName, gSub, gTup, gCons, gNil, rdSeq, List.getElem?_cons_zero, List.getElem?_cons_succ, List.set_cons_zero, List.set_cons_succ, List.cons_append, List.nil_append, Option.some.injEq, exists_eq_left', V.bl.injEq, V.int.injEq, V.ref.injEq, atI_0, atI_1, atI_2, setI_1, setI_2, Bool.not_true, Bool.not_false, Bool.false_eq_true, if_false, if_true]
      exact ⟨f, g, ((hf.grow g9).extN x10).grow g', ((hg.grow g9).extN x10).grow g', by decide, by decide, n0, nb.up (by decide), hR⟩
    simp only [tTest, tOp, tUn, tVar, tC, tCB, tCons, tNil, tAnd, tOr, tNot, tB, tTup, tLst, tIf, tAndV, tOrV, tNotV, tSl, tPart, tNoPart, tCall, iIx_ref, oGt_int, oMod_int, oFdiv_int, oAdd_int, oAdd_str, oSub_int, oMul_int, oLt_int, oGe_int, oLe_int, oPow_int, uNeg_int, oEq_int, oEq_str, oEq_bl, oNe_int, oNe_str, oNe_bl, cInt_int, cInt_bl, cAbs_int, cLen_ref, cList_ref, stL_ref, gName, gSub, gTup, gCons, gNil, rdSeq, List.getElem?_cons_zero, List.getElem?_cons_succ, List.set_cons_zero, List.set_cons_succ, List.cons_append, List.nil_append, Option.some.injEq, exists_eq_left', V.bl.injEq, V.int.injEq, V.ref.injEq, atI_0, atI_1, atI_2, setI_1, setI_2, Bool.not_true, Bool.not_false, Bool.false_eq_true, if_false, if_true]
    have x11 : LamX.ExtN H8 H11 := (g9.extN.trans x10).trans g11.extN
    have T11 := g11.tabs T10
    replace hf := hf.extN x11
    replace hg := hg.extN x11
    replace hc1 := hc1.extN x11
    replace hc2 := hc2.extN x11
    replace PL := PL.extN x11
    replace X5 := X5.trans x11
    clear x11 g11 T10 x10 g9 hc4 hfl hcl T8 fl cl H10
    -- in place
    show t_law_pair_right_6 K A _ _ _
    refine st_seq (st_asg ?_)
    (refine evE ?P188 (fun Q h => ?h188) ?_; (case h188 => (simp only [tTest, tOp, tUn, tVar, tC, tCB, tCons, tNil, tAnd, tOr, tNot, tB, tTup, tLst, tIf, tAndV, tOrV, tNotV, tSl, tPart, tNoPart, tCall, iIx_ref, oGt_int, oMod_int, oFdiv_int, oAdd_int, oAdd_str, oSub_int, oMul_int, oLt_int, oGe_int, oLe_int, oPow_int, uNeg_int, oEq_int, oEq_str, oEq_bl, oNe_int, oNe_str, oNe_bl, cInt_int, cInt_bl, cAbs_int, cLen_ref, cList_ref, stL_ref, gName, gSub, gTup, gCons, gNil, rdSeq, List.getElem?_cons_zero, List.getElem?_cons_succ, List.set_cons_zero, List.set_cons_succ, List.cons_append, List.nil_append, Option.some.injEq, exists_eq_left', V.bl.injEq, V.int.injEq, V.ref.injEq, atI_0, atI_1, atI_2, setI_1, setI_2, Bool.not_true, Bool.not_false, Bool.false_eq_true, if_false, if_true]; exact h)); (try dsimp only [gName, tNext, List.set_cons_zero, List.set_cons_succ]))
    (try dsimp only [gName, tNext, List.set_cons_zero, List.set_cons_succ])
    refine st_seq ?_
    unfold tAug
    refine ⟨_, rfl, ?_⟩
    (refine evE ?P189 (fun Q h => ?h189) ?_; (case h189 => (simp only [tTest, tOp, tUn, tVar, tC, tCB, tCons, tNil, tAnd, tOr, tNot, tB, tTup, tLst, tIf, tAndV, tOrV, tNotV, tSl, tPart, tNoPart, tCall, iIx_ref, oGt_int, oMod_int, oFdiv_int, oAdd_int, oAdd_str, oSub_int, oMul_int, oLt_int, oGe_int, oLe_int, oPow_int, uNeg_int, oEq_int, oEq_str, oEq_bl, oNe_int, oNe_str, oNe_bl, cInt_int, cInt_bl, cAbs_int, cLen_ref, cList_ref, stL_ref, gName, gSub, gTup, gCons, gNil, rdSeq, List.getElem?_cons_zero, List.getElem?_cons_succ, List.set_cons_zero, List.set_cons_succ, List.cons_append, List.nil_append, Option.some.injEq, exists_eq_left', V.bl.injEq, V.int.injEq, V.ref.injEq, atI_0, atI_1, atI_2, setI_1, setI_2, Bool.not_true, Bool.not_false, Bool.false_eq_true, if_false, if_true]; exact h)); (try dsimp only [gName, tNext, List.set_cons_zero, List.set_cons_succ]))
    refine addL hc1 hc2 (bf.up (by decide : 100 ≤ 1000)) (bg.up (by decide)) M9 (pf.sum pg).okf fun h1 H12 g12 hh1 => ?_
    (try dsimp only [gName, tNext, List.set_cons_zero, List.set_cons_succ])
    replace hf := hf.grow g12
    replace hg := hg.grow g12
    replace hc1 := hc1.grow g12
    replace hc2 := hc2.grow g12
    replace PL := PL.grow g12
    replace T11 := g12.tabs T11
    replace X5 := X5.trans g12.extN
    clear g12
    show t_law_pair_right_8 K A _ _ _
    refine st_seq (st_if ?_)
    (refine evT ?P193 (fun Q h => ?h193) ?_; (case h193 => (simp only [tTest, tOp, tUn, tVar, tC, tCB, tCons, tNil, tAnd, tOr, tNot, tB, tTup, tLst, tIf, tAndV, tOrV, tNotV, tSl, tPart, tNoPart, tCall, iIx_ref, oGt_int, oMod_int, oFdiv_int, oAdd_int, oAdd_str, oSub_int, oMul_int, oLt_int, oGe_int, oLe_int, oPow_int, uNeg_int, oEq_int, oEq_str, oEq_bl, oNe_int, oNe_str, oNe_bl, cInt_int, cInt_bl, cAbs_int, cLen_ref, cList_ref, stL_ref, gName, gSub, gTup, gCons, gNil, rdSeq, List.getElem?_cons_zero, List.getElem?_cons_succ, List.set_cons_zero, List.set_cons_succ, List.cons_append, List.nil_append, Option.some.injEq, exists_eq_left', V.bl.injEq, V.int.injEq, V.ref.injEq, atI_0, atI_1, atI_2, setI_1, setI_2, Bool.not_true, Bool.not_false, Bool.false_eq_true, if_false, if_true, tLam3]; exact h)))
    refine Eq.mpr hc1.on ?_
    refine addL hc1 hc2 (bf.up (by decide : 100 ≤ 1000)) (bg.up (by decide)) M9 (pf.sum pg).okf fun c5 H13 g13 hc5 => ?_
    refine neG_no F (hh1.grow g13) hc5 rfl ?_
    refine ⟨_, rfl, ?_⟩
    refine if_no ?_
    simp only [tTest, tOp, tUn, tVar, tC, tCB, tCons, tNil, tAnd, tOr, tNot, tB, tTup, tLst, tIf, tAndV, tOrV, tNotV, tSl, tPart, tNoPart, tCall, iIx_ref, oGt_int, oMod_int, oFdiv_int, oAdd_int, oAdd_str, oSub_int, oMul_int, oLt_int, oGe_int, oLe_int, oPow_int, uNeg_int, oEq_int, oEq_str, oEq_bl, oNe_int, oNe_str, oNe_bl, cInt_int, cInt_bl, cAbs_int, cLen_ref, cList_ref, stL_ref, gName, gSub, gTup, gCons, gNil, rdSeq, List.getElem?_cons_zero, List.getElem?_cons_succ, List.set_cons_zero, List.set_cons_succ, List.cons_append, List.nil_append, Option.some.injEq, exists_eq_left', V.bl.injEq, V.int.injEq, V.ref.injEq, atI_0, atI_1, atI_2, setI_1, setI_2, Bool.not_true, Bool.not_false, Bool.false_eq_true, if_false, if_true, tLam3]
    refine ⟨g13.tabs T11, fun fl cl H14 x14 T14 hfl hcl => ?_⟩
    refine same_of ((hc1.grow g13).extN x14) (bf.up (by decide : 100 ≤ 1000)) M10 ((PL.grow g13).extN x14) hcl (fun n n0 nb H' R g' hR => ?_) fun H15 g15 => ?_
    · simp only [tTest, tOp, tUn, tVar, tC, tCB, tCons, tNil, tAnd, tOr, tNot, tB, tTup, tLst, tIf, tAndV, tOrV, tNotV, tSl, tPart, tNoPart, tCall, iIx_ref, oGt_int, oMod_int, oFdiv_int, oAdd_int, oAdd_str, oSub_int, oMul_int, oLt_int, oGe_int, oLe_int, oPow_int, uNeg_int, oEq_int, oEq_str, oEq_bl, oNe_int, oNe_str, oNe_bl, cInt_int, cInt_bl, cAbs_int, cLen_ref, cList_ref, stL_ref, gName, gSub, gTup, gCons, gNil, rdSeq, List.getElem?_cons_zero, List.getElem?_cons_succ, List.set_cons_zero, List.set_cons_succ, List.cons_append, List.nil_append, Option.some.injEq, exists_eq_left', V.bl.injEq, V.int.injEq, V.ref.injEq, atI_0, atI_1, atI_2, setI_1, setI_2, Bool.not_true, Bool.not_false, Bool.false_eq_true, if_false, if_true]
      exact atF (((hf.grow g13).extN x14).grow g') n0 (nb.up (by decide)) hR
    simp only [tTest, tOp, tUn, tVar, tC, tCB, tCons, tNil, tAnd, tOr, tNot, tB, tTup, tLst, tIf, tAndV, tOrV, tNotV, tSl, tPart, tNoPart, tCall, iIx_ref, oGt_int, oMod_int, oFdiv_int, oAdd_int, oAdd_str, oSub_int, oMul_int, oLt_int, oGe_int, oLe_int, oPow_int, uNeg_int, oEq_int, oEq_str, oEq_bl, oNe_int, oNe_str, oNe_bl, cInt_int, cInt_bl, cAbs_int, cLen_ref, cList_ref, stL_ref, gName, gSub, gTup, gCons, gNil, rdSeq, List.getElem?_cons_zero, List.getElem?_cons_succ, List.set_cons_zero, List.set_cons_succ, List.cons_append, List.nil_append, Option.some.injEq, exists_eq_left', V.bl.injEq, V.int.injEq, V.ref.injEq, atI_0, atI_1, atI_2, setI_1, setI_2, Bool.not_true, Bool.not_false, Bool.false_eq_true, if_false, if_true]
    have x15 : LamX.ExtN _ H15 := (g13.extN.trans x14).trans g15.extN
    have T15 := g15.tabs T14
    replace hf := hf.extN x15
    replace hg := hg.extN x15
    replace hc1 := hc1.extN x15
    replace hc2 := hc2.extN x15
    replace hh1 := hh1.extN x15
    replace PL := PL.extN x15
    replace X5 := X5.trans x15
    clear x15 g15 T14 x14 g13 hc5 hfl hcl T11 fl cl H14
    show t_law_pair_right_10 K A _ _ _
    refine st_seq ?_
    unfold tAug
    refine ⟨_, rfl, ?_⟩
    (refine evE ?P190 (fun Q h => ?h190) ?_; (case h190 => (simp only [tTest, tOp, tUn, tVar, tC, tCB, tCons, tNil, tAnd, tOr, tNot, tB, tTup, tLst, tIf, tAndV, tOrV, tNotV, tSl, tPart, tNoPart, tCall, iIx_ref, oGt_int, oMod_int, oFdiv_int, oAdd_int, oAdd_str, oSub_int, oMul_int, oLt_int, oGe_int, oLe_int, oPow_int, uNeg_int, oEq_int, oEq_str, oEq_bl, oNe_int, oNe_str, oNe_bl, cInt_int, cInt_bl, cAbs_int, cLen_ref, cList_ref, stL_ref, gName, gSub, gTup, gCons, gNil, rdSeq, List.getElem?_cons_zero, List.getElem?_cons_succ, List.set_cons_zero, List.set_cons_succ, List.cons_append, List.nil_append, Option.some.injEq, exists_eq_left', V.bl.injEq, V.int.injEq, V.ref.injEq, atI_0, atI_1, atI_2, setI_1, setI_2, Bool.not_true, Bool.not_false, Bool.false_eq_true, if_false, if_true]; exact h)); (try dsimp only [gName, tNext, List.set_cons_zero, List.set_cons_succ]))
    refine subL hh1 hc2 (bs.up (by decide : 200 ≤ 1000)) (bg.up (by decide)) M9 ((pf.sum pg).sum pn).okf fun h2 H16 g16 hh2 => ?_
    (try dsimp only [gName, tNext, List.set_cons_zero, List.set_cons_succ])
    refine st_seq ?_
    unfold tAug
    refine ⟨_, rfl, ?_⟩
    (refine evE ?P191 (fun Q h => ?h191) ?_; (case h191 => (simp only [tTest, tOp, tUn, tVar, tC, tCB, tCons, tNil, tAnd, tOr, tNot, tB, tTup, tLst, tIf, tAndV, tOrV, tNotV, tSl, tPart, tNoPart, tCall, iIx_ref, oGt_int, oMod_int, oFdiv_int, oAdd_int, oAdd_str, oSub_int, oMul_int, oLt_int, oGe_int, oLe_int, oPow_int, uNeg_int, oEq_int, oEq_str, oEq_bl, oNe_int, oNe_str, oNe_bl, cInt_int, cInt_bl, cAbs_int, cLen_ref, cList_ref, stL_ref, gName, gSub, gTup, gCons, gNil, rdSeq, List.getElem?_cons_zero, List.getElem?_cons_succ, List.set_cons_zero, List.set_cons_succ, List.cons_append, List.nil_append, Option.some.injEq, exists_eq_left', V.bl.injEq, V.int.injEq, V.ref.injEq, atI_0, atI_1, atI_2, setI_1, setI_2, Bool.not_true, Bool.not_false, Bool.false_eq_true, if_false, if_true]; exact h)); (try dsimp only [gName, tNext, List.set_cons_zero, List.set_cons_succ]))
    refine subL hh2 (hc2.grow g16) ((fb_sum bs bn).up (by decide : 300 ≤ 1000)) (bg.up (by decide)) M9 (((pf.sum pg).sum pn).sum pn).okf fun h3 H17 g17 hh3 => ?_
    (try dsimp only [gName, tNext, List.set_cons_zero, List.set_cons_succ])
    have g67 := g16.trans g17
    replace hf := hf.grow g67
    replace hg := hg.grow g67
    replace hc1 := hc1.grow g67
    replace hc2 := hc2.grow g67
    replace PL := PL.grow g67
    replace T15 := g67.tabs T15
    replace X5 := X5.trans g67.extN
    clear g67 g16 g17
    refine st_seq (st_if ?_)
    (refine evT ?P194 (fun Q h => ?h194) ?_; (case h194 => (simp only [tTest, tOp, tUn, tVar, tC, tCB, tCons, tNil, tAnd, tOr, tNot, tB, tTup, tLst, tIf, tAndV, tOrV, tNotV, tSl, tPart, tNoPart, tCall, iIx_ref, oGt_int, oMod_int, oFdiv_int, oAdd_int, oAdd_str, oSub_int, oMul_int, oLt_int, oGe_int, oLe_int, oPow_int, uNeg_int, oEq_int, oEq_str, oEq_bl, oNe_int, oNe_str, oNe_bl, cInt_int, cInt_bl, cAbs_int, cLen_ref, cList_ref, stL_ref, gName, gSub, gTup, gCons, gNil, rdSeq, List.getElem?_cons_zero, List.getElem?_cons_succ, List.set_cons_zero, List.set_cons_succ, List.cons_append, List.nil_append, Option.some.injEq, exists_eq_left', V.bl.injEq, V.int.injEq, V.ref.injEq, atI_0, atI_1, atI_2, setI_1, setI_2, Bool.not_true, Bool.not_false, Bool.false_eq_true, if_false, if_true]; exact h)))
    refine Eq.mpr hc1.on ?_
    refine subL hc1 hc2 (bf.up (by decide : 100 ≤ 1000)) (bg.up (by decide)) M9 (pf.sum pn).okf fun c6 H18 g18 hc6 => ?_
    refine neG_no F (hh3.grow g18) hc6 fs_back ?_
    refine ⟨_, rfl, ?_⟩
    (refine if_no ?_; (try dsimp only [gName, tNext, List.set_cons_zero, List.set_cons_succ]))
    show t_law_pair_right_14 K A _ _ _
    refine st_ret ?_
    (refine evE ?P192 (fun Q h => ?h192) ?_; (case h192 => (simp only [tTest, tOp, tUn, tVar, tC, tCB, tCons, tNil, tAnd, tOr, tNot, tB, tTup, tLst, tIf, tAndV, tOrV, tNotV, tSl, tPart, tNoPart, tCall, iIx_ref, oGt_int, oMod_int, oFdiv_int, oAdd_int, oAdd_str, oSub_int, oMul_int, oLt_int, oGe_int, oLe_int, oPow_int, uNeg_int, oEq_int, oEq_str, oEq_bl, oNe_int, oNe_str, oNe_bl, cInt_int, cInt_bl, cAbs_int, cLen_ref, cList_ref, stL_ref, gName, gSub, gTup, gCons, gNil, rdSeq, List.getElem?_cons_zero, List.getElem?_cons_succ, List.set_cons_zero, List.set_cons_succ, List.cons_append, List.nil_append, Option.some.injEq, exists_eq_left', V.bl.injEq, V.int.injEq, V.ref.injEq, atI_0, atI_1, atI_2, setI_1, setI_2, Bool.not_true, Bool.not_false, Bool.false_eq_true, if_false, if_true, tLam3]; exact h)); (try dsimp only [gName, tNext, List.set_cons_zero, List.set_cons_succ]))
    refine ⟨g18.tabs T15, fun fl cl H19 x19 T19 hfl hcl => ?_⟩
    refine same_of ((hc2.grow g18).extN x19) (bg.up (by decide : 100 ≤ 1000)) M10 ((PL.grow g18).extN x19) hcl (fun n n0 nb H' R g' hR => ?_) fun H20 g20 => ?_
    · simp only [tTest, tOp, tUn, tVar, tC, tCB, tCons, tNil, tAnd, tOr, tNot, tB, tTup, tLst, tIf, tAndV, tOrV, tNotV, tSl, tPart, tNoPart, tCall, iIx_ref, oGt_int, oMod_int, oFdiv_int, oAdd_int, oAdd_str, oSub_int, oMul_int, oLt_int, oGe_int, oLe_int, oPow_int, uNeg_int, oEq_int, oEq_str, oEq_bl, oNe_int, oNe_str, oNe_bl, cInt_int, cInt_bl, cAbs_int, cLen_ref, cList_ref, stL_ref, gName, gSub, gTup, gCons, gNil, rdSeq, List.getElem?_cons_zero, List.getElem?_cons_succ, List.set_cons_zero, List.set_cons_succ, List.cons_append, List.nil_append, Option.some.injEq, exists_eq_left', V.bl.injEq, V.int.injEq, V.ref.injEq, atI_0, atI_1, atI_2, setI_1, setI_2, Bool.not_true, Bool.not_false, Bool.false_eq_true, if_false, if_true]
      exact atF (((hg.grow g18).extN x19).grow g') n0 (nb.up (by decide)) hR
    exact k H20 (X5.trans ((g18.extN.trans x19).trans g20.extN)) (g20.tabs T19)
  · exact h.elim

end HG

namespace HG
open PySem L2
def sp_law_number_right (K : PySem.W.Frag) (A : Ad) : Sp := fun vs H Q _ => match vs with
  | [.ref p, .ref r] => ∃ l n t g told gains, PenL H p l n ∧ n ≤ 900000 ∧ PairAt H r t g told gains ∧ r ≠ p ∧ t ≠ p ∧ g ≠ p ∧ 0 < gains.length ∧ gains.length ≤ 6 ∧ gains.length ≤ told.length ∧ told.length ≤ 9 ∧ BnA gains ∧ FB 100 (gv told gains) ∧ LamX.Tabs (tabs A) H ∧
      ∀ H', PenL H' p l (n + 1) → KeepT p H H' → LamX.Tabs (tabs A) H' → Q (.bl true) H'
  | _ => False
def t_law_number_right_2 (K : PySem.W.Frag) (A : Ad) : TS := (tRet (tC (.bl false)))
def t_law_number_right_4 (K : PySem.W.Frag) (A : Ad) : TS := (tRet (tC (.bl false)))
def t_law_number_right_6 (K : PySem.W.Frag) (A : Ad) : TS := (tRet (tC (.bl false)))
def t_law_number_right_10 (K : PySem.W.Frag) (A : Ad) : TS := (tRet (tAndV (tOp (onIns (rCmp K A.c_Growth (sp_Growth_eq K A)) (oEq K)) (tVar 5) (tOp (onIns (rBinL A.c_Growth (sp_Growth_add K A)) (onInsR (rBinR A.c_Growth (sp_Growth_radd K A)) oAdd)) (tOp (onIns (rBinL A.c_Growth (sp_Growth_mul K A)) (onInsR (rBinR A.c_Growth (sp_Growth_rmul K A)) oMul)) (tVar 3) (tVar 2)) (tC (.int 3)))) (tAndV (tOp (onIns (rCmp K A.c_Growth (sp_Growth_eq K A)) (oEq K)) (tUn (uNegO A.c_Growth (sp_Growth_neg K A)) (tVar 2)) (tOp (onIns (rBinL A.c_Growth (sp_Growth_mul K A)) (onInsR (rBinR A.c_Growth (sp_Growth_rmul K A)) oMul)) (tVar 2) (tUn (uNegO A.c_Growth (sp_Growth_neg K A)) (tC (.int 1))))) (tLam3 (tabs A) "_law_number_right.<locals>.<lambda>" (sp_law_same K A) (fun _ => (tCall (sp_law_at K A) [] E0 (tCons (tVar 1) (tCons (tVar 6) tNil)))) 6 E0 (tVar 2) (tVar 4)))))
def t_law_number_right_9 (K : PySem.W.Frag) (A : Ad) : TS := (tSeq (tAug 5 (tC (.int 3)) (rBinL A.c_Growth (sp_Growth_add K A))) (t_law_number_right_10 K A))
def t_law_number_right_8 (K : PySem.W.Frag) (A : Ad) : TS := (tSeq (tAug 5 (tVar 3) (rBinL A.c_Growth (sp_Growth_mul K A))) (t_law_number_right_9 K A))
def t_law_number_right_7 (K : PySem.W.Frag) (A : Ad) : TS := (tSeq (tAsg (tVar 2) (gName 5)) (t_law_number_right_8 K A))
def t_law_number_right_5 (K : PySem.W.Frag) (A : Ad) : TS := (tSeq (tIfS (tOr (tNot (tB (tLam3 (tabs A) "_law_number_right.<locals>.<lambda>" (sp_law_same K A) (fun _ => (tCall (sp_law_lift K A) [] E0 (tCons (tVar 1) (tCons (tVar 3) (tCons (tC (.int 0)) (tCons (tVar 6) tNil)))))) 6 E0 (tOp (onIns (rBinL A.c_Growth (sp_Growth_mul K A)) (onInsR (rBinR A.c_Growth (sp_Growth_rmul K A)) oMul)) (tVar 2) (tVar 3)) (tVar 4)))) (tTest (tOp (onIns (rNeO A.c_Growth (sp_Growth_eq K A)) (oNe K)) (tOp (onIns (rBinL A.c_Growth (sp_Growth_mul K A)) (onInsR (rBinR A.c_Growth (sp_Growth_rmul K A)) oMul)) (tVar 3) (tVar 2)) (tOp (onIns (rBinL A.c_Growth (sp_Growth_mul K A)) (onInsR (rBinR A.c_Growth (sp_Growth_rmul K A)) oMul)) (tVar 2) (tVar 3))))) (t_law_number_right_6 K A) tNext) (t_law_number_right_7 K A))
def t_law_number_right_3 (K : PySem.W.Frag) (A : Ad) : TS := (tSeq (tIfS (tOr (tNot (tB (tLam3 (tabs A) "_law_number_right.<locals>.<lambda>" (sp_law_same K A) (fun _ => (tCall (sp_law_lift K A) [] E0 (tCons (tVar 1) (tCons (tUn (uNegO A.c_Growth (sp_Growth_neg K A)) (tC (.int 1))) (tCons (tVar 3) (tCons (tVar 6) tNil)))))) 6 E0 (tOp (onIns (rBinL A.c_Growth (sp_Growth_sub K A)) (onInsR (rBinR A.c_Growth (sp_Growth_rsub K A)) oSub)) (tVar 3) (tVar 2)) (tVar 4)))) (tTest (tOp (onIns (rNeO A.c_Growth (sp_Growth_eq K A)) (oNe K)) (tOp (onIns (rBinL A.c_Growth (sp_Growth_sub K A)) (onInsR (rBinR A.c_Growth (sp_Growth_rsub K A)) oSub)) (tVar 2) (tVar 3)) (tOp (onIns (rBinL A.c_Growth (sp_Growth_add K A)) (onInsR (rBinR A.c_Growth (sp_Growth_radd K A)) oAdd)) (tVar 2) (tOp (onIns (rBinL A.c_Growth (sp_Growth_sub K A)) (onInsR (rBinR A.c_Growth (sp_Growth_rsub K A)) oSub)) (tC (.int 0)) (tVar 3)))))) (t_law_number_right_4 K A) tNext) (t_law_number_right_5 K A))
def t_law_number_right_1 (K : PySem.W.Frag) (A : Ad) : TS := (tSeq (tIfS (tOr (tNot (tB (tLam3 (tabs A) "_law_number_right.<locals>.<lambda>" (sp_law_same K A) (fun _ => (tCall (sp_law_lift K A) [] E0 (tCons (tVar 1) (tCons (tC (.int 1)) (tCons (tVar 3) (tCons (tVar 6) tNil)))))) 6 E0 (tOp (onIns (rBinL A.c_Growth (sp_Growth_add K A)) (onInsR (rBinR A.c_Growth (sp_Growth_radd K A)) oAdd)) (tVar 2) (tVar 3)) (tVar 4)))) (tTest (tOp (onIns (rNeO A.c_Growth (sp_Growth_eq K A)) (oNe K)) (tOp (onIns (rBinL A.c_Growth (sp_Growth_add K A)) (onInsR (rBinR A.c_Growth (sp_Growth_radd K A)) oAdd)) (tVar 3) (tVar 2)) (tOp (onIns (rBinL A.c_Growth (sp_Growth_add K A)) (onInsR (rBinR A.c_Growth (sp_Growth_radd K A)) oAdd)) (tVar 2) (tVar 3))))) (t_law_number_right_2 K A) tNext) (t_law_number_right_3 K A))
def t_law_number_right_0 (K : PySem.W.Frag) (A : Ad) : TS := (tSeq (tAsg (tTup (tCons (tMake A.c_Growth (sp_Growth_init K A) [] E0 (tCons (tOp (rIx K) (tVar 1) (tC (.int 0))) (tCons (tOp (rIx K) (tVar 1) (tC (.int 1))) tNil))) (tCons (tOp (onIns (rBinL A.c_Growth (sp_Growth_sub K A)) (onInsR (rBinR A.c_Growth (sp_Growth_rsub K A)) oSub)) (tCall (sp_law_draw K A) [] E0 (tCons (tVar 0) (tCons (tC (.int 30)) tNil))) (tC (.int 12))) (tCons (tCall (sp_law_some K A) [] E0 (tCons (tVar 1) tNil)) tNil)))) (gTup K 3 (gCons (gName 2) (gCons (gName 3) (gCons (gName 4) gNil))))) (t_law_number_right_1 K A))

theorem pure_law_number_right {K : PySem.W.Frag} {A : Ad} {vs : List V} {H : Hp} {Q : VK} {E : XK} (F : KF K A) (h : sp_law_number_right K A vs H Q E) : (t_law_number_right_0 K A) { nx := fun _ H' => Q .non H', rt := Q } (start ["_law_pen_here", "_law_pair", "_law_growth", "_law_k", "_law_some_here", "_law_held", "_law_n"] vs) H := by
  unfold sp_law_number_right at h
  split at h
  · rename_i p r
    obtain ⟨l, n, t, g, told, gains, hp, hn, P, nr, nt, ng, c1, c2, c3, c4, bgs, bf, T0, k⟩ := h
    have hsz : sizeLine = 16777216 := rfl
    have pf : P60 (gv told gains) := p60_gv c1 c2 c3 (by omega)
    have hf : PF H r (gv told gains) := ⟨t, g, told, gains, P, c1, by omega, c3, by omega, bgs, rfl⟩
    show (t_law_number_right_0 K A) _ [some (.ref p), some (.ref r), none, none, none, none, none] H
    refine st_seq (st_asg ?_)
    (refine evE ?P195 (fun Q h => ?h195) ?_; (case h195 => (simp only [tTest, tOp, tUn, tVar, tC, tCB, tCons, tNil, tAnd, tOr, tNot, tB, tTup, tLst, tIf, tAndV, tOrV, tNotV, tSl, tPart, tNoPart, tCall, iIx_ref, oGt_int, oMod_int, oFdiv_int, oAdd_int, oAdd_str, oSub_int, oMul_int, oLt_int, oGe_int, oLe_int, oPow_int, uNeg_int, oEq_int, oEq_str, oEq_bl, oNe_int, oNe_str, oNe_bl, cInt_int, cInt_bl, cAbs_int, cLen_ref, cList_ref, stL_ref, gName, gSub, gTup, gCons, gNil, rdSeq, List.getElem?_cons_zero, List.getElem?_cons_succ, List.set_cons_zero, List.set_cons_succ, List.cons_append, List.nil_append, Option.some.injEq, exists_eq_left', V.bl.injEq, V.int.injEq, V.ref.injEq, atI_0, atI_1, atI_2, setI_1, setI_2, Bool.not_true, Bool.not_false, Bool.false_eq_true, if_false, if_true, tMake_eq]; exact h)); (try dsimp only [gName, tNext, List.set_cons_zero, List.set_cons_succ]))
    refine mkPF hf pf.okf fun c0 H1 g1 hc0 => ?_
    refine ⟨l, n, hp.grow g1, by omega, by decide, by decide, fun d H2 d0 d1 hp2 k2 => ?_⟩
    refine Eq.mpr onIns_int (Eq.mpr onInsR_int ?_)
    simp only [tTest, tOp, tUn, tVar, tC, tCB, tCons, tNil, tAnd, tOr, tNot, tB, tTup, tLst, tIf, tAndV, tOrV, tNotV, tSl, tPart, tNoPart, tCall, iIx_ref, oGt_int, oMod_int, oFdiv_int, oAdd_int, oAdd_str, oSub_int, oMul_int, oLt_int, oGe_int, oLe_int, oPow_int, uNeg_int, oEq_int, oEq_str, oEq_bl, oNe_int, oNe_str, oNe_bl, cInt_int, cInt_bl, cAbs_int, cLen_ref, cList_ref, stL_ref, gName, gSub, gTup, gCons, gNil, rdSeq, List.getElem?_cons_zero, List.getElem?_cons_succ, List.set_cons_zero, List.set_cons_succ, List.cons_append, List.nil_append, Option.some.injEq, exists_eq_left', V.bl.injEq, V.int.injEq, V.ref.injEq, atI_0, atI_1, atI_2, setI_1, setI_2, Bool.not_true, Bool.not_false, Bool.false_eq_true, if_false, if_true]
    have kk : Keep p H H2 := fun b o hb e => k2 b o hb (g1 _ _ e)
    have hc0' := hc0.keep (hp.grow g1) k2
    have P2 := P.keepp kk nr nt ng
    have T2 := k2.tabs (hp.grow g1) (g1.tabs T0)
    have hf2 : PF H2 r (gv told gains) := ⟨t, g, told, gains, P2, c1, by omega, c3, by omega, bgs, rfl⟩
    clear hf P T0 hc0
    refine ⟨_, hf2, fun s3 ns H3 g3 hs3 ls3 ps3 => ?_⟩
    refine ⟨by show 3 ≤ sizeLine; decide, fun q hq => ?_⟩
    refine ⟨q, _, rfl, SqT.of upd_same, rfl, ?_⟩
    refine ⟨_, _, rfl, ?_⟩
    refine ⟨_, _, rfl, ?_⟩
    refine ⟨_, _, rfl, ?_⟩
    refine ⟨rfl, ?_⟩
    have gq := Grow.new (o := .tup [.ref c0, .int (d - 12), .ref s3]) hq
    have g4 := g3.trans gq
    have PL : Places _ s3 := ⟨ns, gq _ _ hs3, by omega, ps3⟩
    generalize upd H3 q (.tup [.ref c0, .int (d - 12), .ref s3]) = H4 at *
    have X4 : KeepT p H H4 := kk.keepT.trans (g4.extN.keepT)
    have hp4 := hp2.grow g4
    have hf := hf2.grow g4
    have hc := hc0'.grow g4
    have T4 := g4.tabs T2
    clear hf2 hc0' T2 g4 gq hq hs3 g3 hp2 k2 kk g1 hp P2 ls3 ps3
    generalize ek : d - 12 = kk
    have k1 : kk.natAbs ≤ 100 := by omega
    clear ek d0 d1 d
    generalize gv told gains = f at *
    (try dsimp only [gName, tNext, List.set_cons_zero, List.set_cons_succ])
    have M9 : (20000 : Nat) < 2 ^ 900 := Nat.lt_trans (by decide : 20000 < 2 ^ 20) (Nat.pow_lt_pow_right (by decide) (by decide))
    have M10 : (20000 : Nat) < 2 ^ 1000 := Nat.lt_trans (by decide : 20000 < 2 ^ 20) (Nat.pow_lt_pow_right (by decide) (by decide))
    have bf2 : FB 20000 f := bf.up (by decide)
    have kb : Bn 900 kk := (bn_of_le (m := 10) k1 (by decide)).up (by decide)
    have bk := fb_const kk
    have bfk := fb_times (k := kk) bf
    have bfk2 : FB 20000 (fTimes kk f) := bfk.up (by omega)
    -- + k
    refine st_seq (st_if ?_)
    (refine evT ?P199 (fun Q h => ?h199) ?_; (case h199 => (simp only [tTest, tOp, tUn, tVar, tC, tCB, tCons, tNil, tAnd, tOr, tNot, tB, tTup, tLst, tIf, tAndV, tOrV, tNotV, tSl, tPart, tNoPart, tCall, iIx_ref, oGt_int, oMod_int, oFdiv_int, oAdd_int, oAdd_str, oSub_int, oMul_int, oLt_int, oGe_int, oLe_int, oPow_int, uNeg_int, oEq_int, oEq_str, oEq_bl, oNe_int, oNe_str, oNe_bl, cInt_int, cInt_bl, cAbs_int, cLen_ref, cList_ref, stL_ref, gName, gSub, gTup, gCons, gNil, rdSeq, List.getElem?_cons_zero, List.getElem?_cons_succ, List.set_cons_zero, List.set_cons_succ, List.cons_append, List.nil_append, Option.some.injEq, exists_eq_left', V.bl.injEq, V.int.injEq, V.ref.injEq, atI_0, atI_1, atI_2, setI_1, setI_2, Bool.not_true, Bool.not_false, Bool.false_eq_true, if_false, if_true, tLam3]; exact h)))
    refine Eq.mpr hc.on ?_
    refine addLi hc bf2 (by omega) M9 (pf.sum (.const kk)).okf fun c3 H5 g5 hc3 => ?_
    refine ⟨g5.tabs T4, fun fl cl H6 x6 T6 hfl hcl => ?_⟩
    refine same_of (hc3.extN x6) ((fb_sum bf bk).up (by omega : 100 + kk.natAbs ≤ 20000)) M10 ((PL.grow g5).extN x6) hcl (fun n n0 nb H' R g' hR => ?_) fun H7 g7 => ?_
    · simp only [tTest, tOp, tUn, tVar, tC, tCB, tCons, tNil, tAnd, tOr, tNot, tB, tTup, tLst, tIf, tAndV, tOrV, tNotV, tSl, tPart, tNoPart, tCall, iIx_ref, oGt_int, oMod_int, oFdiv_int, oAdd_int, oAdd_str, oSub_int, oMul_int, oLt_int, oGe_int, oLe_int, oPow_int, uNeg_int, oEq_int, oEq_str, oEq_bl, oNe_int, oNe_str, oNe_bl, cInt_int, cInt_bl, cAbs_int, cLen_ref, cList_ref, stL_ref, gName, gSub, gTup, gCons, gNil, rdSeq, List.getElem?_cons_zero, List.getElem?_cons_succ, List.set_cons_zero, List.set_cons_succ, List.cons_append, List.nil_append, Option.some.injEq, exists_eq_left', V.bl.injEq, V.int.injEq, V.ref.injEq, atI_0, atI_1, atI_2, setI_1, setI_2, Bool.not_true, Bool.not_false, Bool.false_eq_true, if_false, if_true]
      refine ⟨f, ((hf.grow g5).extN x6).grow g', by decide, by decide, n0, nb.up (by decide), ?_⟩
      rw [ot_one]
      exact hR
    simp only [tTest, tOp, tUn, tVar, tC, tCB, tCons, tNil, tAnd, tOr, tNot, tB, tTup, tLst, tIf, tAndV, tOrV, tNotV, tSl, tPart, tNoPart, tCall, iIx_ref, oGt_int, oMod_int, oFdiv_int, oAdd_int, oAdd_str, oSub_int, oMul_int, oLt_int, oGe_int, oLe_int, oPow_int, uNeg_int, oEq_int, oEq_str, oEq_bl, oNe_int, oNe_str, oNe_bl, cInt_int, cInt_bl, cAbs_int, cLen_ref, cList_ref, stL_ref, gName, gSub, gTup, gCons, gNil, rdSeq, List.getElem?_cons_zero, List.getElem?_cons_succ, List.set_cons_zero, List.set_cons_succ, List.cons_append, List.nil_append, Option.some.injEq, exists_eq_left', V.bl.injEq, V.int.injEq, V.ref.injEq, atI_0, atI_1, atI_2, setI_1, setI_2, Bool.not_true, Bool.not_false, Bool.false_eq_true, if_false, if_true]
    have x7 : LamX.ExtN H4 H7 := (g5.extN.trans x6).trans g7.extN
    have T7 := g7.tabs T6
    replace hf := hf.extN x7
    replace hc := hc.extN x7
    replace PL := PL.extN x7
    replace hp4 := hp4.extN x7
    replace X4 := X4.trans x7.keepT
    clear x7 g7 T6 x6 g5 hc3 hfl hcl T4 fl cl H6
    refine Eq.mpr onIns_int (Eq.mpr hc.onR ?_)
    refine addR hc bf2 (by omega) M9 ((P60.const kk).sum pf).okf fun c4 H8 g8 hc4 => ?_
    refine Eq.mpr (hc.grow g8).on ?_
    refine addLi (hc.grow g8) bf2 (by omega) M9 (pf.sum (.const kk)).okf fun c5 H9 g9 hc5 => ?_
    refine neG_no F (hc4.grow g9) hc5 fs_comm ?_
    refine ⟨_, rfl, ?_⟩
    (refine if_no ?_; (try dsimp only [gName, tNext, List.set_cons_zero, List.set_cons_succ]))
    have g10 := g8.trans g9
    replace hf := hf.grow g10
    replace hc := hc.grow g10
    replace PL := PL.grow g10
    replace hp4 := hp4.grow g10
    replace X4 := X4.trans g10.extN.keepT
    replace T7 := g10.tabs T7
    clear g10 g9 g8 hc4 hc5 H8
    -- k -
    show t_law_number_right_3 K A _ _ _
    refine st_seq (st_if ?_)
    (refine evT ?P200 (fun Q h => ?h200) ?_; (case h200 => (simp only [tTest, tOp, tUn, tVar, tC, tCB, tCons, tNil, tAnd, tOr, tNot, tB, tTup, tLst, tIf, tAndV, tOrV, tNotV, tSl, tPart, tNoPart, tCall, iIx_ref, oGt_int, oMod_int, oFdiv_int, oAdd_int, oAdd_str, oSub_int, oMul_int, oLt_int, oGe_int, oLe_int, oPow_int, uNeg_int, oEq_int, oEq_str, oEq_bl, oNe_int, oNe_str, oNe_bl, cInt_int, cInt_bl, cAbs_int, cLen_ref, cList_ref, stL_ref, gName, gSub, gTup, gCons, gNil, rdSeq, List.getElem?_cons_zero, List.getElem?_cons_succ, List.set_cons_zero, List.set_cons_succ, List.cons_append, List.nil_append, Option.some.injEq, exists_eq_left', V.bl.injEq, V.int.injEq, V.ref.injEq, atI_0, atI_1, atI_2, setI_1, setI_2, Bool.not_true, Bool.not_false, Bool.false_eq_true, if_false, if_true, tLam3]; exact h)))
    refine Eq.mpr onIns_int (Eq.mpr hc.onR ?_)
    refine subR hc bf2 (by omega) M9 ((P60.const kk).sum (pf.times (-1))).okf fun c6 H10 g10 hc6 => ?_
    refine ⟨g10.tabs T7, fun fl cl H11 x11 T11 hfl hcl => ?_⟩
    refine same_of (hc6.extN x11) ((fb_sum bk (fb_neg bf)).up (by omega : kk.natAbs + 100 ≤ 20000)) M10 ((PL.grow g10).extN x11) hcl (fun n n0 nb H' R g' hR => ?_) fun H12 g12 => ?_
    · simp only [tTest, tOp, tUn, tVar, tC, tCB, tCons, tNil, tAnd, tOr, tNot, tB, tTup, tLst, tIf, tAndV, tOrV, tNotV, tSl, tPart, tNoPart, tCall, iIx_ref, oGt_int, oMod_int, oFdiv_int, oAdd_int, oAdd_str, oSub_int, oMul_int, oLt_int, oGe_int, oLe_int, oPow_int, uNeg_int, oEq_int, oEq_str, oEq_bl, oNe_int, oNe_str, oNe_bl, cInt_int, cInt_bl, cAbs_int, cLen_ref, cList_ref, stL_ref, gName, gSub, gTup, gCons, gNil, rdSeq, List.getElem?_cons_zero, List.getElem?_cons_succ, List.set_cons_zero, List.set_cons_succ, List.cons_append, List.nil_append, Option.some.injEq, exists_eq_left', V.bl.injEq, V.int.injEq, V.ref.injEq, atI_0, atI_1, atI_2, setI_1, setI_2, Bool.not_true, Bool.not_false, Bool.false_eq_true, if_false, if_true, uNegO]
      refine ⟨f, ((hf.grow g10).extN x11).grow g', by decide, by decide, n0, nb.up (by decide), ?_⟩
      rw [os_comm]
      exact hR
    simp only [tTest, tOp, tUn, tVar, tC, tCB, tCons, tNil, tAnd, tOr, tNot, tB, tTup, tLst, tIf, tAndV, tOrV, tNotV, tSl, tPart, tNoPart, tCall, iIx_ref, oGt_int, oMod_int, oFdiv_int, oAdd_int, oAdd_str, oSub_int, oMul_int, oLt_int, oGe_int, oLe_int, oPow_int, uNeg_int, oEq_int, oEq_str, oEq_bl, oNe_int, oNe_str, oNe_bl, cInt_int, cInt_bl, cAbs_int, cLen_ref, cList_ref, stL_ref, gName, gSub, gTup, gCons, gNil, rdSeq, List.getElem?_cons_zero, List.getElem?_cons_succ, List.set_cons_zero, List.set_cons_succ, List.cons_append, List.nil_append, Option.some.injEq, exists_eq_left', V.bl.injEq, V.int.injEq, V.ref.injEq, atI_0, atI_1, atI_2, setI_1, setI_2, Bool.not_true, Bool.not_false, Bool.false_eq_true, if_false, if_true]
    have x12 : LamX.ExtN _ H12 := (g10.extN.trans x11).trans g12.extN
    have T12 := g12.tabs T11
    replace hf := hf.extN x12
    replace hc := hc.extN x12
    replace PL := PL.extN x12
    replace hp4 := hp4.extN x12
    replace X4 := X4.trans x12.keepT
    clear x12 g12 T11 x11 g10 hc6 hfl hcl T7 fl cl H11
    refine Eq.mpr hc.on ?_
    refine subLi hc bf2 (by omega) M9 (pf.sum ((P60.const kk).times (-1))).okf fun c7 H13 g13 hc7 => ?_
    refine Eq.mpr onIns_int (Eq.mpr onInsR_int ?_)
    refine Eq.mpr (hc.grow g13).on ?_
    refine addLi (i := 0 - kk) (hc.grow g13) bf2 (by omega) M9 (pf.sum (.const (0 - kk))).okf fun c8 H14 g14 hc8 => ?_
    refine neG_no F (hc7.grow g14) hc8 fs_neg ?_
    refine ⟨_, rfl, ?_⟩
    (refine if_no ?_; (try dsimp only [gName, tNext, List.set_cons_zero, List.set_cons_succ]))
    have g15 := g13.trans g14
    replace hf := hf.grow g15
    replace hc := hc.grow g15
    replace PL := PL.grow g15
    replace hp4 := hp4.grow g15
    replace X4 := X4.trans g15.extN.keepT
    replace T12 := g15.tabs T12
    clear g15 g13 g14 hc7 hc8 H13
    -- times k
    show t_law_number_right_5 K A _ _ _
    refine st_seq (st_if ?_)
    (refine evT ?P201 (fun Q h => ?h201) ?_; (case h201 => (simp only [tTest, tOp, tUn, tVar, tC, tCB, tCons, tNil, tAnd, tOr, tNot, tB, tTup, tLst, tIf, tAndV, tOrV, tNotV, tSl, tPart, tNoPart, tCall, iIx_ref, oGt_int, oMod_int, oFdiv_int, oAdd_int, oAdd_str, oSub_int, oMul_int, oLt_int, oGe_int, oLe_int, oPow_int, uNeg_int, oEq_int, oEq_str, oEq_bl, oNe_int, oNe_str, oNe_bl, cInt_int, cInt_bl, cAbs_int, cLen_ref, cList_ref, stL_ref, gName, gSub, gTup, gCons, gNil, rdSeq, List.getElem?_cons_zero, List.getElem?_cons_succ, List.set_cons_zero, List.set_cons_succ, List.cons_append, List.nil_append, Option.some.injEq, exists_eq_left', V.bl.injEq, V.int.injEq, V.ref.injEq, atI_0, atI_1, atI_2, setI_1, setI_2, Bool.not_true, Bool.not_false, Bool.false_eq_true, if_false, if_true, tLam3]; exact h)))
    refine Eq.mpr hc.on ?_
    refine mulL hc bf2 M9 kb fun c9 H15 g15 hc9 => ?_
    refine ⟨g15.tabs T12, fun fl cl H16 x16 T16 hfl hcl => ?_⟩
    refine same_of (hc9.extN x16) bfk2 M10 ((PL.grow g15).extN x16) hcl (fun n n0 nb H' R g' hR => ?_) fun H17 g17 => ?_
    · simp only [tTest, tOp, tUn, tVar, tC, tCB, tCons, tNil, tAnd, tOr, tNot, tB, tTup, tLst, tIf, tAndV, tOrV, tNotV, tSl, tPart, tNoPart, tCall, iIx_ref, oGt_int, oMod_int, oFdiv_int, oAdd_int, oAdd_str, oSub_int, oMul_int, oLt_int, oGe_int, oLe_int, oPow_int, uNeg_int, oEq_int, oEq_str, oEq_bl, oNe_int, oNe_str, oNe_bl, cInt_int, cInt_bl, cAbs_int, cLen_ref, cList_ref, stL_ref, gName, gSub, gTup, gCons, gNil, rdSeq, List.getElem?_cons_zero, List.getElem?_cons_succ, List.set_cons_zero, List.set_cons_succ, List.cons_append, List.nil_append, Option.some.injEq, exists_eq_left', V.bl.injEq, V.int.injEq, V.ref.injEq, atI_0, atI_1, atI_2, setI_1, setI_2, Bool.not_true, Bool.not_false, Bool.false_eq_true, if_false, if_true]
      refine ⟨f, ((hf.grow g15).extN x16).grow g', by omega, by omega, n0, nb.up (by decide), ?_⟩
      rw [os_zero]
      exact hR
    simp only [tTest, tOp, tUn, tVar, tC, tCB, tCons, tNil, tAnd, tOr, tNot, tB, tTup, tLst, tIf, tAndV, tOrV, tNotV, tSl, tPart, tNoPart, tCall, iIx_ref, oGt_int, oMod_int, oFdiv_int, oAdd_int, oAdd_str, oSub_int, oMul_int, oLt_int, oGe_int, oLe_int, oPow_int, uNeg_int, oEq_int, oEq_str, oEq_bl, oNe_int, oNe_str, oNe_bl, cInt_int, cInt_bl, cAbs_int, cLen_ref, cList_ref, stL_ref, gName, gSub, gTup, gCons, gNil, rdSeq, List.getElem?_cons_zero, List.getElem?_cons_succ, List.set_cons_zero, List.set_cons_succ, List.cons_append, List.nil_append, Option.some.injEq, exists_eq_left', V.bl.injEq, V.int.injEq, V.ref.injEq, atI_0, atI_1, atI_2, setI_1, setI_2, Bool.not_true, Bool.not_false, Bool.false_eq_true, if_false, if_true]
    have x17 : LamX.ExtN _ H17 := (g15.extN.trans x16).trans g17.extN
    have T17 := g17.tabs T16
    replace hf := hf.extN x17
    replace hc := hc.extN x17
    replace PL := PL.extN x17
    replace hp4 := hp4.extN x17
    replace X4 := X4.trans x17.keepT
    clear x17 g17 T16 x16 g15 hc9 hfl hcl T12 fl cl H16
    refine Eq.mpr onIns_int (Eq.mpr hc.onR ?_)
    refine mulR hc bf2 M9 kb fun c10 H18 g18 hc10 => ?_
    refine Eq.mpr (hc.grow g18).on ?_
    refine mulL (hc.grow g18) bf2 M9 kb fun c11 H19 g19 hc11 => ?_
    refine neG_no F (hc10.grow g19) hc11 rfl ?_
    refine ⟨_, rfl, ?_⟩
    (refine if_no ?_; (try dsimp only [gName, tNext, List.set_cons_zero, List.set_cons_succ]))
    have g20 := g18.trans g19
    replace hf := hf.grow g20
    replace hc := hc.grow g20
    replace PL := PL.grow g20
    replace hp4 := hp4.grow g20
    replace X4 := X4.trans g20.extN.keepT
    replace T17 := g20.tabs T17
    clear g20 g18 g19 hc10 hc11 H18
    -- in place
    show t_law_number_right_7 K A _ _ _
    refine st_seq (st_asg ?_)
    (refine evE ?P196 (fun Q h => ?h196) ?_; (case h196 => (simp only [tTest, tOp, tUn, tVar, tC, tCB, tCons, tNil, tAnd, tOr, tNot, tB, tTup, tLst, tIf, tAndV, tOrV, tNotV, tSl, tPart, tNoPart, tCall, iIx_ref, oGt_int, oMod_int, oFdiv_int, oAdd_int, oAdd_str, oSub_int, oMul_int, oLt_int, oGe_int, oLe_int, oPow_int, uNeg_int, oEq_int, oEq_str, oEq_bl, oNe_int, oNe_str, oNe_bl, cInt_int, cInt_bl, cAbs_int, cLen_ref, cList_ref, stL_ref, gName, gSub, gTup, gCons, gNil, rdSeq, List.getElem?_cons_zero, List.getElem?_cons_succ, List.set_cons_zero, List.set_cons_succ, List.cons_append, List.nil_append, Option.some.injEq, exists_eq_left', V.bl.injEq, V.int.injEq, V.ref.injEq, atI_0, atI_1, atI_2, setI_1, setI_2, Bool.not_true, Bool.not_false, Bool.false_eq_true, if_false, if_true]; exact h)); (try dsimp only [gName, tNext, List.set_cons_zero, List.set_cons_succ]))
    (try dsimp only [gName, tNext, List.set_cons_zero, List.set_cons_succ])
    refine st_seq ?_
    unfold tAug
    refine ⟨_, rfl, ?_⟩
    (refine evE ?P197 (fun Q h => ?h197) ?_; (case h197 => (simp only [tTest, tOp, tUn, tVar, tC, tCB, tCons, tNil, tAnd, tOr, tNot, tB, tTup, tLst, tIf, tAndV, tOrV, tNotV, tSl, tPart, tNoPart, tCall, iIx_ref, oGt_int, oMod_int, oFdiv_int, oAdd_int, oAdd_str, oSub_int, oMul_int, oLt_int, oGe_int, oLe_int, oPow_int, uNeg_int, oEq_int, oEq_str, oEq_bl, oNe_int, oNe_str, oNe_bl, cInt_int, cInt_bl, cAbs_int, cLen_ref, cList_ref, stL_ref, gName, gSub, gTup, gCons, gNil, rdSeq, List.getElem?_cons_zero, List.getElem?_cons_succ, List.set_cons_zero, List.set_cons_succ, List.cons_append, List.nil_append, Option.some.injEq, exists_eq_left', V.bl.injEq, V.int.injEq, V.ref.injEq, atI_0, atI_1, atI_2, setI_1, setI_2, Bool.not_true, Bool.not_false, Bool.false_eq_true, if_false, if_true]; exact h)); (try dsimp only [gName, tNext, List.set_cons_zero, List.set_cons_succ]))
    refine mulL hc bf2 M9 kb fun h1 H21 g21 hh1 => ?_
    (try dsimp only [gName, tNext, List.set_cons_zero, List.set_cons_succ])
    refine st_seq ?_
    unfold tAug
    refine ⟨_, rfl, ?_⟩
    (refine evE ?P198 (fun Q h => ?h198) ?_; (case h198 => (simp only [tTest, tOp, tUn, tVar, tC, tCB, tCons, tNil, tAnd, tOr, tNot, tB, tTup, tLst, tIf, tAndV, tOrV, tNotV, tSl, tPart, tNoPart, tCall, iIx_ref, oGt_int, oMod_int, oFdiv_int, oAdd_int, oAdd_str, oSub_int, oMul_int, oLt_int, oGe_int, oLe_int, oPow_int, uNeg_int, oEq_int, oEq_str, oEq_bl, oNe_int, oNe_str, oNe_bl, cInt_int, cInt_bl, cAbs_int, cLen_ref, cList_ref, stL_ref, gName, gSub, gTup, gCons, gNil, rdSeq, List.getElem?_cons_zero, List.getElem?_cons_succ, List.set_cons_zero, List.set_cons_succ, List.cons_append, List.nil_append, Option.some.injEq, exists_eq_left', V.bl.injEq, V.int.injEq, V.ref.injEq, atI_0, atI_1, atI_2, setI_1, setI_2, Bool.not_true, Bool.not_false, Bool.false_eq_true, if_false, if_true]; exact h)); (try dsimp only [gName, tNext, List.set_cons_zero, List.set_cons_succ]))
    refine addLi (i := 3) hh1 bfk2 (by decide) M9 ((pf.times kk).sum (.const 3)).okf fun h2 H22 g22 hh2 => ?_
    (try dsimp only [gName, tNext, List.set_cons_zero, List.set_cons_succ])
    have g23 := g21.trans g22
    replace hf := hf.grow g23
    replace hc := hc.grow g23
    replace PL := PL.grow g23
    replace hp4 := hp4.grow g23
    replace X4 := X4.trans g23.extN.keepT
    replace T17 := g23.tabs T17
    clear g23 g21 g22 hh1
    refine st_ret ?_
    (refine evE ?P202 (fun Q h => ?h202) ?_; (case h202 => (simp only [tTest, tOp, tUn, tVar, tC, tCB, tCons, tNil, tAnd, tOr, tNot, tB, tTup, tLst, tIf, tAndV, tOrV, tNotV, tSl, tPart, tNoPart, tCall, iIx_ref, oGt_int, oMod_int, oFdiv_int, oAdd_int, oAdd_str, oSub_int, oMul_int, oLt_int, oGe_int, oLe_int, oPow_int, uNeg_int, oEq_int, oEq_str, oEq_bl, oNe_int, oNe_str, oNe_bl, cInt_int, cInt_bl, cAbs_int, cLen_ref, cList_ref, stL_ref, gName, gSub, gTup, gCons, gNil, rdSeq, List.getElem?_cons_zero, List.getElem?_cons_succ, List.set_cons_zero, List.set_cons_succ, List.cons_append, List.nil_append, Option.some.injEq, exists_eq_left', V.bl.injEq, V.int.injEq, V.ref.injEq, atI_0, atI_1, atI_2, setI_1, setI_2, Bool.not_true, Bool.not_false, Bool.false_eq_true, if_false, if_true]; exact h)))
    refine Eq.mpr onIns_int (Eq.mpr hc.onR ?_)
    refine mulR hc bf2 M9 kb fun c12 H23 g23 hc12 => ?_
    refine Eq.mpr hc12.on ?_
    refine addLi (i := 3) hc12 bfk2 (by decide) M9 ((pf.times kk).sum (.const 3)).okf fun c13 H24 g24 hc13 => ?_
    refine eqG_yes F (hh2.grow (g23.trans g24)) hc13 rfl ?_
    refine ⟨_, rfl, if_yes ?_⟩
    have g25 := g23.trans g24
    replace hf := hf.grow g25
    replace hc := hc.grow g25
    replace PL := PL.grow g25
    replace hp4 := hp4.grow g25
    replace X4 := X4.trans g25.extN.keepT
    replace T17 := g25.tabs T17
    clear g25 g24 g23 hc12 hc13 hh2
    refine ⟨hc.isIns, f, 20000, hc, bf2, M9, fun c14 H25 g25 hc14 => ?_⟩
    show onIns _ _ (.ref c0) (.int (-1)) H25 _
    refine Eq.mpr (hc.grow g25).on ?_
    refine mulL (hc.grow g25) bf2 M9 bn_m1 fun c15 H26 g26 hc15 => ?_
    refine eqG_yes F (hc14.grow g26) hc15 rfl ?_
    refine ⟨_, rfl, if_yes ?_⟩
    have g27 := g25.trans g26
    replace hf := hf.grow g27
    replace hc := hc.grow g27
    replace PL := PL.grow g27
    replace hp4 := hp4.grow g27
    replace X4 := X4.trans g27.extN.keepT
    replace T17 := g27.tabs T17
    simp only [tTest, tOp, tUn, tVar, tC, tCB, tCons, tNil, tAnd, tOr, tNot, tB, tTup, tLst, tIf, tAndV, tOrV, tNotV, tSl, tPart, tNoPart, tCall, iIx_ref, oGt_int, oMod_int, oFdiv_int, oAdd_int, oAdd_str, oSub_int, oMul_int, oLt_int, oGe_int, oLe_int, oPow_int, uNeg_int, oEq_int, oEq_str, oEq_bl, oNe_int, oNe_str, oNe_bl, cInt_int, cInt_bl, cAbs_int, cLen_ref, cList_ref, stL_ref, gName, gSub, gTup, gCons, gNil, rdSeq, List.getElem?_cons_zero, List.getElem?_cons_succ, List.set_cons_zero, List.set_cons_succ, List.cons_append, List.nil_append, Option.some.injEq, exists_eq_left', V.bl.injEq, V.int.injEq, V.ref.injEq, atI_0, atI_1, atI_2, setI_1, setI_2, Bool.not_true, Bool.not_false, Bool.false_eq_true, if_false, if_true, tLam3]
    refine ⟨T17, fun fl cl H28 x28 T28 hfl hcl => ?_⟩
    refine same_of (hc.extN x28) bf2 M10 (PL.extN x28) hcl (fun n n0 nb H' R g' hR => ?_) fun H29 g29 => ?_
    · simp only [tTest, tOp, tUn, tVar, tC, tCB, tCons, tNil, tAnd, tOr, tNot, tB, tTup, tLst, tIf, tAndV, tOrV, tNotV, tSl, tPart, tNoPart, tCall, iIx_ref, oGt_int, oMod_int, oFdiv_int, oAdd_int, oAdd_str, oSub_int, oMul_int, oLt_int, oGe_int, oLe_int, oPow_int, uNeg_int, oEq_int, oEq_str, oEq_bl, oNe_int, oNe_str, oNe_bl, cInt_int, cInt_bl, cAbs_int, cLen_ref, cList_ref, stL_ref, gName, gSub, gTup, gCons, gNil, rdSeq, List.getElem?_cons_zero, List.getElem?_cons_succ, List.set_cons_zero, List.set_cons_succ, List.cons_append, List.nil_append, Option.some.injEq, exists_eq_left', V.bl.injEq, V.int.injEq, V.ref.injEq, atI_0, atI_1, atI_2, setI_1, setI_2, Bool.not_true, Bool.not_false, Bool.false_eq_true, if_false, if_true]
      exact atF ((hf.extN x28).grow g') n0 (nb.up (by decide)) hR
    exact k H29 ((hp4.extN x28).grow g29) (X4.trans ((x28.trans g29.extN).keepT)) (g29.tabs T28)
  · exact h.elim

end HG

namespace HG
open PySem L2
def sp_law (K : PySem.W.Frag) (A : Ad) : Sp := spLawT (tabsC A) K
def t_law_4 (K : PySem.W.Frag) (A : Ad) : TS := (tRet (tC (.bl false)))
def t_law_3 (K : PySem.W.Frag) (A : Ad) : TS := (tIfS (tOr (tNot (tB (tCall (sp_law_pair_right K A) [] E0 (tCons (tVar 3) (tCons (tVar 4) tNil))))) (tNot (tB (tCall (sp_law_number_right K A) [] E0 (tCons (tVar 1) (tCons (tVar 3) tNil)))))) (t_law_4 K A) tNext)
def t_law_2 (K : PySem.W.Frag) (A : Ad) : TS := (tSeq (tPar 3 4 (tCons (tCall (sp_law_told K A) [] E0 (tCons (tVar 1) tNil)) (tCons (tCall (sp_law_told K A) [] E0 (tCons (tVar 1) tNil)) tNil))) (t_law_3 K A))
def t_law_7 (K : PySem.W.Frag) (A : Ad) : TS := (tRet (tAndV (tOp (oEq K) (tOp (rIxO A.c_Growth (sp_Growth_getitem K A)) (tOp (onIns (rBinL A.c_Growth (sp_Growth_add K A)) oAdd) (tVar 5) (tVar 5)) (tVar 6)) (tOp oMul (tC (.int 2)) (tOp (rIxO A.c_Growth (sp_Growth_getitem K A)) (tVar 5) (tVar 6)))) (tOp (oEq K) (tMeth A.c_Growth "stretch" (sp_Growth_stretch K A) [] E0 (tOp (onIns (rBinL A.c_Growth (sp_Growth_sub K A)) oSub) (tVar 5) (tVar 5)) (tCons (tC (.int 0)) (tCons (tC (.int 4)) tNil))) (tTup (tCons (tC (.int 0)) (tCons (tC .non) (tCons (tC (.int 0)) (tCons (tC (.int 0)) tNil))))))))
def t_law_6 (K : PySem.W.Frag) (A : Ad) : TS := (tSeq (tAsg (tOp (onIns (rBinL A.c_Growth (sp_Growth_add K A)) oAdd) (tOp oPow (tC (.int 10)) (tC (.int 20))) (tC (.int 2))) (gName 6)) (t_law_7 K A))
def t_law_5 (K : PySem.W.Frag) (A : Ad) : TS := (tSeq (tAsg (tMake A.c_Growth (sp_Growth_init K A) [] E0 (tCons (tLst (tCons (tOp oPow (tC (.int 10)) (tC (.int 40))) (tCons (tC .non) (tCons (tOp (onIns (rBinL A.c_Growth (sp_Growth_sub K A)) oSub) (tC (.int 0)) (tOp oPow (tC (.int 10)) (tC (.int 40)))) tNil)))) (tCons (tLst (tCons (tC (.int 3)) (tCons (tOp oPow (tC (.int 10)) (tC (.int 40))) (tCons (tOp (onIns (rBinL A.c_Growth (sp_Growth_sub K A)) oSub) (tC (.int 0)) (tOp oPow (tC (.int 10)) (tC (.int 40)))) tNil)))) tNil))) (gName 5)) (t_law_6 K A))
def t_law_1 (K : PySem.W.Frag) (A : Ad) : TS := (tSeq (tFor (iRng1 (tCons (tC (.int 7)) tNil)) (gName 2)
    (t_law_2 K A)) (t_law_5 K A))
def t_law_0 (K : PySem.W.Frag) (A : Ad) : TS := (tSeq (tAsg (tCall (sp_law_pen K A) [] E0 (tCons (tVar 0) tNil)) (gName 1)) (t_law_1 K A))

theorem list7 {α : Type} {l : List α} (h : l.length = 7) : ∃ a0 a1 a2 a3 a4 a5 a6, l = [a0, a1, a2, a3, a4, a5, a6] := by
  match l, h with
  | [a0, a1, a2, a3, a4, a5, a6], _ => exact ⟨_, _, _, _, _, _, _, rfl⟩
theorem pure_law {K : PySem.W.Frag} {A : Ad} {vs : List V} {H : Hp} {Q : VK} {E : XK} (F : KF K A) (h : sp_law K A vs H Q E) : (t_law_0 K A) { nx := fun _ H' => Q .non H', rt := Q } (start ["_law_script", "_law_pen_here", "_law_turn", "_law_one", "_law_other", "_law_big", "_law_far"] vs) H := by
  unfold sp_law spLawT at h
  split at h
  · rename_i sc
    obtain ⟨⟨ns, hs⟩, hT, k⟩ := h
    have hsz : sizeLine = 16777216 := rfl
    have T0 : LamX.Tabs (tabs A) H := tabs_of hT
    show (t_law_0 K A) _ [some (.ref sc), none, none, none, none, none, none] H
    refine st_seq (st_asg ?_)
    (refine evE ?P203 (fun Q h => ?h203) ?_; (case h203 => (simp only [tTest, tOp, tUn, tVar, tC, tCB, tCons, tNil, tAnd, tOr, tNot, tB, tTup, tLst, tIf, tAndV, tOrV, tNotV, tSl, tPart, tNoPart, tCall, iIx_ref, oGt_int, oMod_int, oFdiv_int, oAdd_int, oAdd_str, oSub_int, oMul_int, oLt_int, oGe_int, oLe_int, oPow_int, uNeg_int, oEq_int, oEq_str, oEq_bl, oNe_int, oNe_str, oNe_bl, cInt_int, cInt_bl, cAbs_int, cLen_ref, cList_ref, stL_ref, gName, gSub, gTup, gCons, gNil, rdSeq, List.getElem?_cons_zero, List.getElem?_cons_succ, List.set_cons_zero, List.set_cons_succ, List.cons_append, List.nil_append, Option.some.injEq, exists_eq_left', V.bl.injEq, V.int.injEq, V.ref.injEq, atI_0, atI_1, atI_2, setI_1, setI_2, Bool.not_true, Bool.not_false, Bool.false_eq_true, if_false, if_true]; exact h)); (try dsimp only [gName, tNext, List.set_cons_zero, List.set_cons_succ]))
    refine ⟨ns, hs, fun p l H' hp g0 _ => ?_⟩
    (try dsimp only [gName, tNext, List.set_cons_zero, List.set_cons_succ])
    have T1 := g0.tabs T0
    refine st_seq ?_
    unfold tFor iRng1
    (refine evA ?P204 (fun Q h => ?h204) ?_; (case h204 => (simp only [tTest, tOp, tUn, tVar, tC, tCB, tCons, tNil, tAnd, tOr, tNot, tB, tTup, tLst, tIf, tAndV, tOrV, tNotV, tSl, tPart, tNoPart, tCall, iIx_ref, oGt_int, oMod_int, oFdiv_int, oAdd_int, oAdd_str, oSub_int, oMul_int, oLt_int, oGe_int, oLe_int, oPow_int, uNeg_int, oEq_int, oEq_str, oEq_bl, oNe_int, oNe_str, oNe_bl, cInt_int, cInt_bl, cAbs_int, cLen_ref, cList_ref, stL_ref, gName, gSub, gTup, gCons, gNil, rdSeq, List.getElem?_cons_zero, List.getElem?_cons_succ, List.set_cons_zero, List.set_cons_succ, List.cons_append, List.nil_append, Option.some.injEq, exists_eq_left', V.bl.injEq, V.int.injEq, V.ref.injEq, atI_0, atI_1, atI_2, setI_1, setI_2, Bool.not_true, Bool.not_false, Bool.false_eq_true, if_false, if_true]; exact h)); (try dsimp only [gName, tNext, List.set_cons_zero, List.set_cons_succ]))
    refine ⟨7, rfl, by decide, by decide, ?_⟩
    refine ⟨fun i m σ H => i ≤ 7 ∧ m = 7 - i ∧ σ.length = 7 ∧ σ[1]? = some (some (.ref p)) ∧ PenL H p l (100 * i) ∧ LamX.Tabs (tabs A) H, ⟨7, by decide, rfl, rfl, rfl, hp, T1⟩, ?_⟩
    clear hs hp g0 T0 T1 hT H'
    rintro i m σ H ⟨hi, hm, hl, h1, hp, T1⟩
    obtain ⟨a0, a1, a2, a3, a4, a5, a6, rfl⟩ := list7 hl
    have e1 : a1 = some (.ref p) := Option.some.inj h1
    subst e1
    by_cases hi2 : i = 7
    · refine .inl ⟨by show 7 ≤ i; omega, ?_⟩
      clear hi hm hl h1
      show t_law_5 K A _ _ _
      refine st_seq (st_asg ?_)
      (refine evE ?P207 (fun Q h => ?h207) ?_; (case h207 => (simp only [tTest, tOp, tUn, tVar, tC, tCB, tCons, tNil, tAnd, tOr, tNot, tB, tTup, tLst, tIf, tAndV, tOrV, tNotV, tSl, tPart, tNoPart, tCall, iIx_ref, oGt_int, oMod_int, oFdiv_int, oAdd_int, oAdd_str, oSub_int, oMul_int, oLt_int, oGe_int, oLe_int, oPow_int, uNeg_int, oEq_int, oEq_str, oEq_bl, oNe_int, oNe_str, oNe_bl, cInt_int, cInt_bl, cAbs_int, cLen_ref, cList_ref, stL_ref, gName, gSub, gTup, gCons, gNil, rdSeq, List.getElem?_cons_zero, List.getElem?_cons_succ, List.set_cons_zero, List.set_cons_succ, List.cons_append, List.nil_append, Option.some.injEq, exists_eq_left', V.bl.injEq, V.int.injEq, V.ref.injEq, atI_0, atI_1, atI_2, setI_1, setI_2, Bool.not_true, Bool.not_false, Bool.false_eq_true, if_false, if_true, tMake_eq]; exact h)))
      refine ⟨⟨by decide, by decide, by decide⟩, ⟨by decide, by decide, by decide⟩, ?_⟩
      have eB : ((10 : Int) ^ Int.toNat 40).natAbs = 10 ^ 40 := by decide +kernel
      generalize (10 : Int) ^ Int.toNat 40 = B at *
      have hB : B.natAbs < 2 ^ 200 := by rw [eB]; decide
      clear eB
      refine Eq.mpr onIns_int ?_
      refine ⟨by show 3 ≤ sizeLine; decide, fun x1 hx1 => ⟨⟨by decide, by decide, by decide⟩, ⟨by decide, by decide, by decide⟩, ?_⟩⟩
      refine Eq.mpr onIns_int ?_
      refine ⟨by show 3 ≤ sizeLine; decide, fun x2 hx2 => ?_⟩
      have n0 : (0 - B).natAbs = B.natAbs := by omega
      have bg : ∀ x ∈ [3, B, 0 - B], x.natAbs ≤ 2 ^ 200 := by
        intro x hx
        simp only [List.mem_cons, List.not_mem_nil, or_false] at hx
        rcases hx with rfl | rfl | rfl
        · decide
        · omega
        · omega
      have bt : ∀ o ∈ [some B, none, some (0 - B)], ∀ i, o = some i → i.natAbs ≤ 2 ^ 200 := by
        intro o ho i e
        simp only [List.mem_cons, List.not_mem_nil, or_false] at ho
        rcases ho with rfl | rfl | rfl
        · cases e; omega
        · cases e
        · cases e; omega
      have G : Gr [some B, none, some (0 - B)] [3, B, 0 - B] (gv [some B, none, some (0 - B)] [3, B, 0 - B]) := gr_gv (by show 0 < 3; decide) (by show 3 ≤ 3; decide)
      have fb := fb_gr G bt bg
      have pf : P60 (gv [some B, none, some (0 - B)] [3, B, 0 - B]) := p60_gv (by show 0 < 3; decide) (by show 3 ≤ 6; decide) (by show 3 ≤ 3; decide) (by show 3 ≤ 100; decide)
      have rest : ∀ n, gv [some B, none, some (0 - B)] [3, B, 0 - B] n = none ↔ [some B, none, some (0 - B)].getD (n % 3) none = none := gv_rest (told := [some B, none, some (0 - B)]) (gains := [3, B, 0 - B]) (by show 0 < 3; decide) rfl
      refine mkF (told := [some B, none, some (0 - B)]) (gains := [3, B, 0 - B]) (.l ((Grow.new hx2) _ _ upd_same)) (.l upd_same) G (by show 3 ≤ 60; decide) (by show 3 ≤ 100000; decide) (fun x hx => (bn_of_le (m := 201) (bg x hx) (by decide)).up (by decide)) pf.okf fun c1 H1 g1 hc1 => ?_
      generalize gv [some B, none, some (0 - B)] [3, B, 0 - B] = f at *
      show t_law_6 K A _ _ _
      clear hx1 hx2 g1 G bt bg hp T1
      refine st_seq (st_asg ?_)
      (refine evE ?P205 (fun Q h => ?h205) ?_; (case h205 => (simp only [tTest, tOp, tUn, tVar, tC, tCB, tCons, tNil, tAnd, tOr, tNot, tB, tTup, tLst, tIf, tAndV, tOrV, tNotV, tSl, tPart, tNoPart, tCall, iIx_ref, oGt_int, oMod_int, oFdiv_int, oAdd_int, oAdd_str, oSub_int, oMul_int, oLt_int, oGe_int, oLe_int, oPow_int, uNeg_int, oEq_int, oEq_str, oEq_bl, oNe_int, oNe_str, oNe_bl, cInt_int, cInt_bl, cAbs_int, cLen_ref, cList_ref, stL_ref, gName, gSub, gTup, gCons, gNil, rdSeq, List.getElem?_cons_zero, List.getElem?_cons_succ, List.set_cons_zero, List.set_cons_succ, List.cons_append, List.nil_append, Option.some.injEq, exists_eq_left', V.bl.injEq, V.int.injEq, V.ref.injEq, atI_0, atI_1, atI_2, setI_1, setI_2, Bool.not_true, Bool.not_false, Bool.false_eq_true, if_false, if_true]; exact h)); (try dsimp only [gName, tNext, List.set_cons_zero, List.set_cons_succ]))
      refine ⟨⟨by decide, by decide, by decide⟩, ?_⟩
      refine Eq.mpr onIns_int ?_
      have eN : (10 : Int) ^ Int.toNat 20 + 2 = ((10 ^ 20 + 2 : Nat) : Int) := by decide +kernel
      simp only [tTest, tOp, tUn, tVar, tC, tCB, tCons, tNil, tAnd, tOr, tNot, tB, tTup, tLst, tIf, tAndV, tOrV, tNotV, tSl, tPart, tNoPart, tCall, iIx_ref, oGt_int, oMod_int, oFdiv_int, oAdd_int, oAdd_str, oSub_int, oMul_int, oLt_int, oGe_int, oLe_int, oPow_int, uNeg_int, oEq_int, oEq_str, oEq_bl, oNe_int, oNe_str, oNe_bl, cInt_int, cInt_bl, cAbs_int, cLen_ref, cList_ref, stL_ref, gName, gSub, gTup, gCons, gNil, rdSeq, List.getElem?_cons_zero, List.getElem?_cons_succ, List.set_cons_zero, List.set_cons_succ, List.cons_append, List.nil_append, Option.some.injEq, exists_eq_left', V.bl.injEq, V.int.injEq, V.ref.injEq, atI_0, atI_1, atI_2, setI_1, setI_2, Bool.not_true, Bool.not_false, Bool.false_eq_true, if_false, if_true]
      rw [eN]
      (try dsimp only [gName, tNext, List.set_cons_zero, List.set_cons_succ])
      show t_law_7 K A _ _ _
      have M9 : (2 ^ 200 : Nat) < 2 ^ 900 := by decide
      obtain ⟨v, hv⟩ : ∃ v, f (10 ^ 20 + 2) = some v := by
        cases e : f (10 ^ 20 + 2) with
        | some v => exact ⟨v, rfl⟩
        | none =>
          have := (rest _).mp e
          rw [show (10 ^ 20 + 2) % 3 = 0 from by decide +kernel] at this
          cases this
      refine st_ret ?_
      (refine evE ?P208 (fun Q h => ?h208) ?_; (case h208 => (simp only [tTest, tOp, tUn, tVar, tC, tCB, tCons, tNil, tAnd, tOr, tNot, tB, tTup, tLst, tIf, tAndV, tOrV, tNotV, tSl, tPart, tNoPart, tCall, iIx_ref, oGt_int, oMod_int, oFdiv_int, oAdd_int, oAdd_str, oSub_int, oMul_int, oLt_int, oGe_int, oLe_int, oPow_int, uNeg_int, oEq_int, oEq_str, oEq_bl, oNe_int, oNe_str, oNe_bl, cInt_int, cInt_bl, cAbs_int, cLen_ref, cList_ref, stL_ref, gName, gSub, gTup, gCons, gNil, rdSeq, List.getElem?_cons_zero, List.getElem?_cons_succ, List.set_cons_zero, List.set_cons_succ, List.cons_append, List.nil_append, Option.some.injEq, exists_eq_left', V.bl.injEq, V.int.injEq, V.ref.injEq, atI_0, atI_1, atI_2, setI_1, setI_2, Bool.not_true, Bool.not_false, Bool.false_eq_true, if_false, if_true]; exact h)))
      refine Eq.mpr hc1.on ?_
      refine addL hc1 hc1 fb fb M9 (pf.sum pf).okf fun c2 H2 g2 hc2 => ?_
      refine ixG hc2 (fb_sum fb fb) (by decide) (by omega) ((bn_nat (m := 70) (by decide)).up (by decide)) ?_
      refine ixG (hc1.grow g2) fb (by decide) (by omega) ((bn_nat (m := 70) (by decide)).up (by decide)) ?_
      rw [Int.toNat_natCast, sum_self]
      have e2 : fTimes 2 f (10 ^ 20 + 2) = some (2 * v) := by
        show oTimes 2 (f (10 ^ 20 + 2)) = _
        rw [hv]
        rfl
      rw [e2, hv]
      refine ⟨mulok_left (by decide) (by decide), decide (2 * v = 2 * v), rfl, ?_⟩
      rw [decide_eq_true rfl]
      refine if_yes ?_
      simp only [tTest, tOp, tUn, tVar, tC, tCB, tCons, tNil, tAnd, tOr, tNot, tB, tTup, tLst, tIf, tAndV, tOrV, tNotV, tSl, tPart, tNoPart, tCall, iIx_ref, oGt_int, oMod_int, oFdiv_int, oAdd_int, oAdd_str, oSub_int, oMul_int, oLt_int, oGe_int, oLe_int, oPow_int, uNeg_int, oEq_int, oEq_str, oEq_bl, oNe_int, oNe_str, oNe_bl, cInt_int, cInt_bl, cAbs_int, cLen_ref, cList_ref, stL_ref, gName, gSub, gTup, gCons, gNil, rdSeq, List.getElem?_cons_zero, List.getElem?_cons_succ, List.set_cons_zero, List.set_cons_succ, List.cons_append, List.nil_append, Option.some.injEq, exists_eq_left', V.bl.injEq, V.int.injEq, V.ref.injEq, atI_0, atI_1, atI_2, setI_1, setI_2, Bool.not_true, Bool.not_false, Bool.false_eq_true, if_false, if_true, tMeth]
      have hc3 := hc1.grow g2
      refine Eq.mpr hc3.on ?_
      refine subL hc3 hc3 fb fb M9 (pf.sum (pf.times (-1))).okf fun c4 H4 g4 hc4 => ?_
      obtain ⟨told, gains, ⟨dx, t, g, q1, q2, q3⟩, q4⟩ := id hc4
      refine ⟨c4, dx, _, rfl, q1, rfl, ?_⟩
      refine ⟨_, _, hc4, fb_sum fb (fb_neg fb), by decide, by decide, by decide, by decide, by decide, by decide, fun r H5 g5 hr => ?_⟩
      refine ⟨by show 4 ≤ sizeLine; decide, fun w hw => ?_⟩
      have z : ∀ n, f n ≠ none → fSum f (fTimes (-1) f) n = some 0 := fun n hn => by
        show oSum (f n) (oTimes (-1) (f n)) = some 0
        cases e : f n with
        | none => exact absurd e hn
        | some x => simp [oSum, oTimes]; omega
      have z1 : fSum f (fTimes (-1) f) 1 = none := by
        show oSum (f 1) (oTimes (-1) (f 1)) = none
        rw [(rest 1).mpr rfl]
        rfl
      have hr' : H5 r = some (.tup ([some 0, none, some 0, some 0].map oV)) := by
        rw [hr]
        show some (HO.tup [oV (fSum f (fTimes (-1) f) 0), oV (fSum f (fTimes (-1) f) 1), oV (fSum f (fTimes (-1) f) 2), oV (fSum f (fTimes (-1) f) 3)]) = _
        rw [z 0 (fun e => by cases (rest 0).mp e), z1, z 2 (fun e => by cases (rest 2).mp e), z 3 (fun e => by cases (rest 3).mp e)]
        rfl
      refine eqT (os := [some 0, none, some 0, some 0]) (ps := [some 0, none, some 0, some 0]) ((Grow.new hw) _ _ hr') upd_same ?_
      exact k _
    · refine .inr ⟨by show i < 7; omega, fun σ' H' => σ'.length = 7 ∧ σ'[1]? = some (some (.ref p)) ∧ PenL H' p l (100 * (i + 1)) ∧ LamX.Tabs (tabs A) H', fun σ' H' q => ⟨7 - (i + 1), by omega, by omega, rfl, q⟩, ?_⟩
      rintro x H' ⟨rfl, rfl⟩
      (try dsimp only [gName, tNext, List.set_cons_zero, List.set_cons_succ])
      refine st_seq ?_
      unfold tPar
      (refine evA ?P206 (fun Q h => ?h206) ?_; (case h206 => (simp only [tTest, tOp, tUn, tVar, tC, tCB, tCons, tNil, tAnd, tOr, tNot, tB, tTup, tLst, tIf, tAndV, tOrV, tNotV, tSl, tPart, tNoPart, tCall, iIx_ref, oGt_int, oMod_int, oFdiv_int, oAdd_int, oAdd_str, oSub_int, oMul_int, oLt_int, oGe_int, oLe_int, oPow_int, uNeg_int, oEq_int, oEq_str, oEq_bl, oNe_int, oNe_str, oNe_bl, cInt_int, cInt_bl, cAbs_int, cLen_ref, cList_ref, stL_ref, gName, gSub, gTup, gCons, gNil, rdSeq, List.getElem?_cons_zero, List.getElem?_cons_succ, List.set_cons_zero, List.set_cons_succ, List.cons_append, List.nil_append, Option.some.injEq, exists_eq_left', V.bl.injEq, V.int.injEq, V.ref.injEq, atI_0, atI_1, atI_2, setI_1, setI_2, Bool.not_true, Bool.not_false, Bool.false_eq_true, if_false, if_true]; exact h)); (try dsimp only [gName, tNext, List.set_cons_zero, List.set_cons_succ]))
      refine ⟨l, _, hp, by omega, fun r1 t1 g1 told1 gains1 H1 hp1 k1 hr1 ht1 hg1 nt1 ng1 nr1 c1 c2 c3 c4 hgs1 hts1 => ?_⟩
      refine ⟨l, _, hp1, by omega, fun r2 t2 g2 told2 gains2 H2 hp2 k2 hr2 ht2 hg2 nt2 ng2 nr2 d1 d2 d3 d4 hgs2 hts2 => ?_⟩
      refine ⟨_, _, rfl, ?_⟩
      (try dsimp only [gName, tNext, List.set_cons_zero, List.set_cons_succ])
      have T2 := k2.tabs hp1 (k1.tabs hp T1)
      have P1 : PairAt H2 r1 t1 g1 told1 gains1 := PairAt.keepp ⟨hr1, ht1, hg1⟩ k2 nr1 nt1 ng1
      have P2 : PairAt H2 r2 t2 g2 told2 gains2 := ⟨hr2, ht2, hg2⟩
      have b1 : BnA gains1 := fun x hx => Bn.up (m := 10) (by have := hgs1 x hx; show x.natAbs < 2 ^ 10; omega) (by decide)
      have b2 : BnA gains2 := fun x hx => Bn.up (m := 10) (by have := hgs2 x hx; show x.natAbs < 2 ^ 10; omega) (by decide)
      have fb1 : FB 100 (gv told1 gains1) := fb_gr (gr_gv c1 c3) (fun o ho i e => by have := hts1 o ho i e; omega) (fun x hx => by have := hgs1 x hx; omega)
      have fb2 : FB 100 (gv told2 gains2) := fb_gr (gr_gv d1 d3) (fun o ho i e => by have := hts2 o ho i e; omega) (fun x hx => by have := hgs2 x hx; omega)
      refine st_if ?_
      (refine evT ?P209 (fun Q h => ?h209) ?_; (case h209 => (simp only [tTest, tOp, tUn, tVar, tC, tCB, tCons, tNil, tAnd, tOr, tNot, tB, tTup, tLst, tIf, tAndV, tOrV, tNotV, tSl, tPart, tNoPart, tCall, iIx_ref, oGt_int, oMod_int, oFdiv_int, oAdd_int, oAdd_str, oSub_int, oMul_int, oLt_int, oGe_int, oLe_int, oPow_int, uNeg_int, oEq_int, oEq_str, oEq_bl, oNe_int, oNe_str, oNe_bl, cInt_int, cInt_bl, cAbs_int, cLen_ref, cList_ref, stL_ref, gName, gSub, gTup, gCons, gNil, rdSeq, List.getElem?_cons_zero, List.getElem?_cons_succ, List.set_cons_zero, List.set_cons_succ, List.cons_append, List.nil_append, Option.some.injEq, exists_eq_left', V.bl.injEq, V.int.injEq, V.ref.injEq, atI_0, atI_1, atI_2, setI_1, setI_2, Bool.not_true, Bool.not_false, Bool.false_eq_true, if_false, if_true]; exact h)))
      refine ⟨gv told1 gains1, gv told2 gains2, ⟨_, _, _, _, P1, c1, by omega, c3, by omega, b1, rfl⟩, ⟨_, _, _, _, P2, d1, by omega, d3, by omega, b2, rfl⟩, p60_gv c1 c2 c3 (by omega), p60_gv d1 d2 d3 (by omega), fb1, fb2, T2, fun H3 x3 T3 => ?_⟩
      refine ⟨_, rfl, if_no ?_⟩
      simp only [tTest, tOp, tUn, tVar, tC, tCB, tCons, tNil, tAnd, tOr, tNot, tB, tTup, tLst, tIf, tAndV, tOrV, tNotV, tSl, tPart, tNoPart, tCall, iIx_ref, oGt_int, oMod_int, oFdiv_int, oAdd_int, oAdd_str, oSub_int, oMul_int, oLt_int, oGe_int, oLe_int, oPow_int, uNeg_int, oEq_int, oEq_str, oEq_bl, oNe_int, oNe_str, oNe_bl, cInt_int, cInt_bl, cAbs_int, cLen_ref, cList_ref, stL_ref, gName, gSub, gTup, gCons, gNil, rdSeq, List.getElem?_cons_zero, List.getElem?_cons_succ, List.set_cons_zero, List.set_cons_succ, List.cons_append, List.nil_append, Option.some.injEq, exists_eq_left', V.bl.injEq, V.int.injEq, V.ref.injEq, atI_0, atI_1, atI_2, setI_1, setI_2, Bool.not_true, Bool.not_false, Bool.false_eq_true, if_false, if_true]
      refine ⟨l, _, t1, g1, told1, gains1, hp2.extN x3, by omega, P1.keepT (x3.keepT (p := p)) nr1 nt1 ng1, nr1, nt1, ng1, c1, c2, c3, c4, b1, fb1, T3, fun H4 hp4 k4 T4 => ?_⟩
      refine ⟨_, rfl, if_no ?_⟩
      exact ⟨rfl, rfl, hp4.up (by omega), T4⟩
  · exact h.elim

end HG

namespace HG
open PySem L2
def top (i : Nat) : Stmt := PySem.Challenge.pw_headgap_k06_growths_added.main.body.getD i (.Pass ⟨0, 0, 0, 0⟩)
abbrev s_is_integer : Stmt := (top 8)
theorem sc_is_integer : FnScope ["value"] ["value"] (defScope s_is_integer) := ⟨rfl, rfl, rfl, by decide +kernel, rfl, by decide +kernel, by decide +kernel⟩
abbrev s_is_value : Stmt := (top 16)
theorem sc_is_value : FnScope ["value"] ["value"] (defScope s_is_value) := ⟨rfl, rfl, rfl, by decide +kernel, rfl, by decide +kernel, by decide +kernel⟩
abbrev s_is_list : Stmt := (top 17)
theorem sc_is_list : FnScope ["value", "least"] ["value", "least"] (defScope s_is_list) := ⟨rfl, rfl, rfl, by decide +kernel, rfl, by decide +kernel, by decide +kernel⟩
abbrev s_added : Stmt := (top 18)
theorem sc_added : FnScope ["value", "number"] ["value", "number"] (defScope s_added) := ⟨rfl, rfl, rfl, by decide +kernel, rfl, by decide +kernel, by decide +kernel⟩
abbrev s_value_at : Stmt := (top 19)
theorem sc_value_at : FnScope ["told", "gains", "n", "turns"] ["told", "gains", "n"] (defScope s_value_at) := ⟨rfl, rfl, rfl, by decide +kernel, rfl, by decide +kernel, by decide +kernel⟩
abbrev s_step_between : Stmt := (top 20)
theorem sc_step_between : FnScope ["low", "high"] ["low", "high"] (defScope s_step_between) := ⟨rfl, rfl, rfl, by decide +kernel, rfl, by decide +kernel, by decide +kernel⟩
abbrev s_gains_of : Stmt := (top 21)
theorem sc_gains_of : FnScope ["row", "origin", "period", "steps", "at", "rest"] ["row", "origin", "period"] (defScope s_gains_of) := ⟨rfl, rfl, rfl, by decide +kernel, rfl, by decide +kernel, by decide +kernel⟩
abbrev s_least_gains : Stmt := (top 22)
theorem sc_least_gains : FnScope ["row", "origin", "period", "least", "gains"] ["row", "origin", "period"] (defScope s_least_gains) := ⟨rfl, rfl, rfl, by decide +kernel, rfl, by decide +kernel, by decide +kernel⟩
abbrev s_trimmed : Stmt := (top 23)
theorem sc_trimmed : FnScope ["told", "gains", "many", "period"] ["told", "gains"] (defScope s_trimmed) := ⟨rfl, rfl, rfl, by decide +kernel, rfl, by decide +kernel, by decide +kernel⟩
abbrev s_normal_form : Stmt := (top 24)
theorem sc_normal_form : FnScope ["told", "gains", "origin", "period", "row", "least", "at"] ["told", "gains"] (defScope s_normal_form) := ⟨rfl, rfl, rfl, by decide +kernel, rfl, by decide +kernel, by decide +kernel⟩
abbrev s_shared_multiple : Stmt := (top 25)
theorem sc_shared_multiple : FnScope ["one", "other", "low", "high"] ["one", "other"] (defScope s_shared_multiple) := ⟨rfl, rfl, rfl, by decide +kernel, rfl, by decide +kernel, by decide +kernel⟩
abbrev s_sum_of : Stmt := (top 29)
theorem sc_sum_of : FnScope ["one", "other"] ["one", "other"] (defScope s_sum_of) := ⟨rfl, rfl, rfl, by decide +kernel, rfl, by decide +kernel, by decide +kernel⟩
abbrev s_combined : Stmt := (top 30)
theorem sc_combined : FnScope ["word", "one", "other"] ["word", "one", "other"] (defScope s_combined) := ⟨rfl, rfl, rfl, by decide +kernel, rfl, by decide +kernel, by decide +kernel⟩
abbrev s_need_growth : Stmt := (top 33)
theorem sc_need_growth : FnScope ["other"] ["other"] (defScope s_need_growth) := ⟨rfl, rfl, rfl, by decide +kernel, rfl, by decide +kernel, by decide +kernel⟩
abbrev s_need_index : Stmt := (top 34)
theorem sc_need_index : FnScope ["n"] ["n"] (defScope s_need_index) := ⟨rfl, rfl, rfl, by decide +kernel, rfl, by decide +kernel, by decide +kernel⟩
abbrev s_need_integer : Stmt := (top 35)
theorem sc_need_integer : FnScope ["number"] ["number"] (defScope s_need_integer) := ⟨rfl, rfl, rfl, by decide +kernel, rfl, by decide +kernel, by decide +kernel⟩
abbrev s_Growth_init : Stmt := (inClass (top 37) 0)
theorem sc_Growth_init : FnScope ["self", "told", "gains", "gain", "value"] ["self", "told", "gains"] (defScope s_Growth_init) := ⟨rfl, rfl, rfl, by decide +kernel, rfl, by decide +kernel, by decide +kernel⟩
abbrev s_Growth_getitem : Stmt := (inClass (top 37) 13)
theorem sc_Growth_getitem : FnScope ["self", "n"] ["self", "n"] (defScope s_Growth_getitem) := ⟨rfl, rfl, rfl, by decide +kernel, rfl, by decide +kernel, by decide +kernel⟩
abbrev s_merged : Stmt := (top 32)
theorem sc_merged : FnScope ["word", "one", "other", "period", "origin", "row", "gains", "n"] ["word", "one", "other"] (defScope s_merged) := ⟨rfl, rfl, rfl, by decide +kernel, rfl, by decide +kernel, by decide +kernel⟩
abbrev s_term : Stmt := (top 36)
theorem sc_term : FnScope ["other"] ["other"] (defScope s_term) := ⟨rfl, rfl, rfl, by decide +kernel, rfl, by decide +kernel, by decide +kernel⟩
abbrev s_times : Stmt := (top 39)
theorem sc_times : FnScope ["growth", "number", "told", "value", "gain"] ["growth", "number"] (defScope s_times) := ⟨rfl, rfl, rfl, by decide +kernel, rfl, by decide +kernel, by decide +kernel⟩
abbrev s_Growth_add : Stmt := (inClass (top 37) 17)
theorem sc_Growth_add : FnScope ["self", "other"] ["self", "other"] (defScope s_Growth_add) := ⟨rfl, rfl, rfl, by decide +kernel, rfl, by decide +kernel, by decide +kernel⟩
abbrev s_Growth_radd : Stmt := (inClass (top 37) 18)
theorem sc_Growth_radd : FnScope ["self", "other"] ["self", "other"] (defScope s_Growth_radd) := ⟨rfl, rfl, rfl, by decide +kernel, rfl, by decide +kernel, by decide +kernel⟩
abbrev s_Growth_sub : Stmt := (inClass (top 37) 19)
theorem sc_Growth_sub : FnScope ["self", "other"] ["self", "other"] (defScope s_Growth_sub) := ⟨rfl, rfl, rfl, by decide +kernel, rfl, by decide +kernel, by decide +kernel⟩
abbrev s_Growth_rsub : Stmt := (inClass (top 37) 20)
theorem sc_Growth_rsub : FnScope ["self", "other"] ["self", "other"] (defScope s_Growth_rsub) := ⟨rfl, rfl, rfl, by decide +kernel, rfl, by decide +kernel, by decide +kernel⟩
abbrev s_Growth_neg : Stmt := (inClass (top 37) 21)
theorem sc_Growth_neg : FnScope ["self"] ["self"] (defScope s_Growth_neg) := ⟨rfl, rfl, rfl, by decide +kernel, rfl, by decide +kernel, by decide +kernel⟩
abbrev s_Growth_mul : Stmt := (inClass (top 37) 22)
theorem sc_Growth_mul : FnScope ["self", "number"] ["self", "number"] (defScope s_Growth_mul) := ⟨rfl, rfl, rfl, by decide +kernel, rfl, by decide +kernel, by decide +kernel⟩
abbrev s_Growth_rmul : Stmt := (inClass (top 37) 23)
theorem sc_Growth_rmul : FnScope ["self", "number"] ["self", "number"] (defScope s_Growth_rmul) := ⟨rfl, rfl, rfl, by decide +kernel, rfl, by decide +kernel, by decide +kernel⟩
abbrev s_Growth_eq : Stmt := (inClass (top 37) 29)
theorem sc_Growth_eq : FnScope ["self", "other"] ["self", "other"] (defScope s_Growth_eq) := ⟨rfl, rfl, rfl, by decide +kernel, rfl, by decide +kernel, by decide +kernel⟩
abbrev s_Growth_stretch : Stmt := (inClass (top 37) 12)
theorem sc_Growth_stretch : FnScope ["self", "a", "b", "n"] ["self", "a", "b"] (defScope s_Growth_stretch) := ⟨rfl, rfl, rfl, by decide +kernel, rfl, by decide +kernel, by decide +kernel⟩
abbrev s_law_pen : Stmt := (top 47)
theorem sc_law_pen : FnScope ["_law_script"] ["_law_script"] (defScope s_law_pen) := ⟨rfl, rfl, rfl, by decide +kernel, rfl, by decide +kernel, by decide +kernel⟩
abbrev s_law_draw : Stmt := (top 48)
theorem sc_law_draw : FnScope ["_law_pen_here", "_law_many", "_law_digit", "_law_turn", "_law_cell", "_law_great", "_law_blend"] ["_law_pen_here", "_law_many"] (defScope s_law_draw) := ⟨rfl, rfl, rfl, by decide +kernel, rfl, by decide +kernel, by decide +kernel⟩
abbrev s_law_told : Stmt := (top 50)
theorem sc_law_told : FnScope ["_law_pen_here", "_law_gains", "_law_many", "_law_turn"] ["_law_pen_here"] (defScope s_law_told) := ⟨rfl, rfl, rfl, by decide +kernel, rfl, by decide +kernel, by decide +kernel⟩
abbrev s_law_at : Stmt := (top 51)
theorem sc_law_at : FnScope ["_law_pair", "_law_n", "_law_told_here", "_law_gains", "_law_turns", "_law_value"] ["_law_pair", "_law_n"] (defScope s_law_at) := ⟨rfl, rfl, rfl, by decide +kernel, rfl, by decide +kernel, by decide +kernel⟩
abbrev s_law_some : Stmt := (top 52)
theorem sc_law_some : FnScope ["_law_pair", "_law_far", "_law_turn"] ["_law_pair"] (defScope s_law_some) := ⟨rfl, rfl, rfl, by decide +kernel, rfl, by decide +kernel, by decide +kernel⟩
abbrev s_law_repeats : Stmt := (top 54)
theorem sc_law_repeats : FnScope ["_law_pair", "_law_less", "_law_begun", "_law_steps", "_law_n", "_law_low", "_law_high", "_law_at_here"] ["_law_pair", "_law_less"] (defScope s_law_repeats) := ⟨rfl, rfl, rfl, by decide +kernel, rfl, by decide +kernel, by decide +kernel⟩
abbrev s_law_is_normal : Stmt := (top 53)
theorem sc_law_is_normal : FnScope ["_law_told_here", "_law_gains", "_law_many", "_law_period", "_law_pair", "_law_n", "_law_before", "_law_last", "_law_less"] ["_law_told_here", "_law_gains"] (defScope s_law_is_normal) := ⟨rfl, rfl, rfl, by decide +kernel, rfl, by decide +kernel, by decide +kernel⟩
abbrev s_law_same : Stmt := (top 55)
theorem sc_law_same : FnScope ["_law_growth", "_law_due", "_law_some_here", "_law_n"] ["_law_growth", "_law_due", "_law_some_here"] (defScope s_law_same) := ⟨rfl, rfl, rfl, by decide +kernel, rfl, by decide +kernel, by decide +kernel⟩
abbrev s_law_sum : Stmt := (top 56)
theorem sc_law_sum : FnScope ["_law_one", "_law_other", "_law_sign", "_law_n", "_law_low", "_law_high"] ["_law_one", "_law_other", "_law_sign", "_law_n"] (defScope s_law_sum) := ⟨rfl, rfl, rfl, by decide +kernel, rfl, by decide +kernel, by decide +kernel⟩
abbrev s_law_lift : Stmt := (top 57)
theorem sc_law_lift : FnScope ["_law_pair", "_law_times", "_law_more", "_law_n", "_law_value"] ["_law_pair", "_law_times", "_law_more", "_law_n"] (defScope s_law_lift) := ⟨rfl, rfl, rfl, by decide +kernel, rfl, by decide +kernel, by decide +kernel⟩
abbrev s_law_pair_right : Stmt := (top 58)
theorem sc_law_pair_right : FnScope ["_law_one", "_law_other", "_law_first", "_law_second", "_law_some_here", "_law_held", "_law_n"] ["_law_one", "_law_other"] (defScope s_law_pair_right) := ⟨rfl, rfl, rfl, by decide +kernel, rfl, by decide +kernel, by decide +kernel⟩
abbrev s_law_number_right : Stmt := (top 59)
theorem sc_law_number_right : FnScope ["_law_pen_here", "_law_pair", "_law_growth", "_law_k", "_law_some_here", "_law_held", "_law_n"] ["_law_pen_here", "_law_pair"] (defScope s_law_number_right) := ⟨rfl, rfl, rfl, by decide +kernel, rfl, by decide +kernel, by decide +kernel⟩
abbrev s_law : Stmt := (top 60)
theorem sc_law : FnScope ["_law_script", "_law_pen_here", "_law_turn", "_law_one", "_law_other", "_law_big", "_law_far"] ["_law_script"] (defScope s_law) := ⟨rfl, rfl, rfl, by decide +kernel, rfl, by decide +kernel, by decide +kernel⟩

structure Txt (K : PySem.W.Frag) (mg : Str → Option Value) (A : Ad) : Prop where
  kf : KF K A
  b_abs : mg "abs" = none
  b_all : mg "all" = none
  b_bool : mg "bool" = none
  b_int : mg "int" = none
  b_isinstance : mg "isinstance" = none
  b_len : mg "len" = none
  b_list : mg "list" = none
  b_max : mg "max" = none
  b_range : mg "range" = none
  b_repr : mg "repr" = none
  b_tuple : mg "tuple" = none
  g_Growth : mg "Growth" = some (.ref A.c_Growth)
  M_Growth : Mk K A.c_Growth A.f_Growth_init
  cl_Growth : Cls K A.c_Growth
  g_is_integer : mg "is_integer" = some (.ref A.f_is_integer)
  F_is_integer : Fun K "is_integer" "is_integer" s_is_integer A.f_is_integer A.d_is_integer
  B_is_integer : Binds K A.d_is_integer ["value"] []
  g_is_value : mg "is_value" = some (.ref A.f_is_value)
  F_is_value : Fun K "is_value" "is_value" s_is_value A.f_is_value A.d_is_value
  B_is_value : Binds K A.d_is_value ["value"] []
  g_is_list : mg "is_list" = some (.ref A.f_is_list)
  F_is_list : Fun K "is_list" "is_list" s_is_list A.f_is_list A.d_is_list
  B_is_list : Binds K A.d_is_list ["value", "least"] []
  g_added : mg "added" = some (.ref A.f_added)
  F_added : Fun K "added" "added" s_added A.f_added A.d_added
  B_added : Binds K A.d_added ["value", "number"] []
  g_value_at : mg "value_at" = some (.ref A.f_value_at)
  F_value_at : Fun K "value_at" "value_at" s_value_at A.f_value_at A.d_value_at
  B_value_at : Binds K A.d_value_at ["told", "gains", "n"] []
  g_step_between : mg "step_between" = some (.ref A.f_step_between)
  F_step_between : Fun K "step_between" "step_between" s_step_between A.f_step_between A.d_step_between
  B_step_between : Binds K A.d_step_between ["low", "high"] []
  g_gains_of : mg "gains_of" = some (.ref A.f_gains_of)
  F_gains_of : Fun K "gains_of" "gains_of" s_gains_of A.f_gains_of A.d_gains_of
  B_gains_of : Binds K A.d_gains_of ["row", "origin", "period"] []
  g_least_gains : mg "least_gains" = some (.ref A.f_least_gains)
  F_least_gains : Fun K "least_gains" "least_gains" s_least_gains A.f_least_gains A.d_least_gains
  B_least_gains : Binds K A.d_least_gains ["row", "origin", "period"] []
  g_trimmed : mg "trimmed" = some (.ref A.f_trimmed)
  F_trimmed : Fun K "trimmed" "trimmed" s_trimmed A.f_trimmed A.d_trimmed
  B_trimmed : Binds K A.d_trimmed ["told", "gains"] []
  g_normal_form : mg "normal_form" = some (.ref A.f_normal_form)
  F_normal_form : Fun K "normal_form" "normal_form" s_normal_form A.f_normal_form A.d_normal_form
  B_normal_form : Binds K A.d_normal_form ["told", "gains"] []
  g_shared_multiple : mg "shared_multiple" = some (.ref A.f_shared_multiple)
  F_shared_multiple : Fun K "shared_multiple" "shared_multiple" s_shared_multiple A.f_shared_multiple A.d_shared_multiple
  B_shared_multiple : Binds K A.d_shared_multiple ["one", "other"] []
  g_sum_of : mg "sum_of" = some (.ref A.f_sum_of)
  F_sum_of : Fun K "sum_of" "sum_of" s_sum_of A.f_sum_of A.d_sum_of
  B_sum_of : Binds K A.d_sum_of ["one", "other"] []
  g_combined : mg "combined" = some (.ref A.f_combined)
  F_combined : Fun K "combined" "combined" s_combined A.f_combined A.d_combined
  B_combined : Binds K A.d_combined ["word", "one", "other"] []
  g_need_growth : mg "need_growth" = some (.ref A.f_need_growth)
  F_need_growth : Fun K "need_growth" "need_growth" s_need_growth A.f_need_growth A.d_need_growth
  B_need_growth : Binds K A.d_need_growth ["other"] []
  g_need_index : mg "need_index" = some (.ref A.f_need_index)
  F_need_index : Fun K "need_index" "need_index" s_need_index A.f_need_index A.d_need_index
  B_need_index : Binds K A.d_need_index ["n"] []
  g_need_integer : mg "need_integer" = some (.ref A.f_need_integer)
  F_need_integer : Fun K "need_integer" "need_integer" s_need_integer A.f_need_integer A.d_need_integer
  B_need_integer : Binds K A.d_need_integer ["number"] []
  F_Growth_init : FunD K "__init__" "Growth.__init__" (defArgs s_Growth_init) (defBody s_Growth_init) (defScope s_Growth_init) [.ref A.dt_Growth_init_0] [] A.f_Growth_init A.d_Growth_init
  B_Growth_init : Binds K A.d_Growth_init ["self", "told", "gains"] []
  F_Growth_getitem : Fun K "__getitem__" "Growth.__getitem__" s_Growth_getitem A.f_Growth_getitem A.d_Growth_getitem
  B_Growth_getitem : Binds K A.d_Growth_getitem ["self", "n"] []
  g_merged : mg "merged" = some (.ref A.f_merged)
  F_merged : Fun K "merged" "merged" s_merged A.f_merged A.d_merged
  B_merged : Binds K A.d_merged ["word", "one", "other"] []
  g_term : mg "term" = some (.ref A.f_term)
  F_term : Fun K "term" "term" s_term A.f_term A.d_term
  B_term : Binds K A.d_term ["other"] []
  g_times : mg "times" = some (.ref A.f_times)
  F_times : Fun K "times" "times" s_times A.f_times A.d_times
  B_times : Binds K A.d_times ["growth", "number"] []
  F_Growth_add : Fun K "__add__" "Growth.__add__" s_Growth_add A.f_Growth_add A.d_Growth_add
  B_Growth_add : Binds K A.d_Growth_add ["self", "other"] []
  F_Growth_radd : Fun K "__radd__" "Growth.__radd__" s_Growth_radd A.f_Growth_radd A.d_Growth_radd
  B_Growth_radd : Binds K A.d_Growth_radd ["self", "other"] []
  F_Growth_sub : Fun K "__sub__" "Growth.__sub__" s_Growth_sub A.f_Growth_sub A.d_Growth_sub
  B_Growth_sub : Binds K A.d_Growth_sub ["self", "other"] []
  F_Growth_rsub : Fun K "__rsub__" "Growth.__rsub__" s_Growth_rsub A.f_Growth_rsub A.d_Growth_rsub
  B_Growth_rsub : Binds K A.d_Growth_rsub ["self", "other"] []
  F_Growth_neg : Fun K "__neg__" "Growth.__neg__" s_Growth_neg A.f_Growth_neg A.d_Growth_neg
  B_Growth_neg : Binds K A.d_Growth_neg ["self"] []
  F_Growth_mul : Fun K "__mul__" "Growth.__mul__" s_Growth_mul A.f_Growth_mul A.d_Growth_mul
  B_Growth_mul : Binds K A.d_Growth_mul ["self", "number"] []
  F_Growth_rmul : Fun K "__rmul__" "Growth.__rmul__" s_Growth_rmul A.f_Growth_rmul A.d_Growth_rmul
  B_Growth_rmul : Binds K A.d_Growth_rmul ["self", "number"] []
  F_Growth_eq : Fun K "__eq__" "Growth.__eq__" s_Growth_eq A.f_Growth_eq A.d_Growth_eq
  B_Growth_eq : Binds K A.d_Growth_eq ["self", "other"] []
  F_Growth_stretch : Fun K "stretch" "Growth.stretch" s_Growth_stretch A.f_Growth_stretch A.d_Growth_stretch
  B_Growth_stretch : Binds K A.d_Growth_stretch ["self", "a", "b"] []
  g_law_pen : mg "_law_pen" = some (.ref A.f_law_pen)
  F_law_pen : Fun K "_law_pen" "_law_pen" s_law_pen A.f_law_pen A.d_law_pen
  B_law_pen : Binds K A.d_law_pen ["_law_script"] []
  g_law_draw : mg "_law_draw" = some (.ref A.f_law_draw)
  F_law_draw : Fun K "_law_draw" "_law_draw" s_law_draw A.f_law_draw A.d_law_draw
  B_law_draw : Binds K A.d_law_draw ["_law_pen_here", "_law_many"] []
  g_law_told : mg "_law_told" = some (.ref A.f_law_told)
  F_law_told : Fun K "_law_told" "_law_told" s_law_told A.f_law_told A.d_law_told
  B_law_told : Binds K A.d_law_told ["_law_pen_here"] []
  g_law_at : mg "_law_at" = some (.ref A.f_law_at)
  F_law_at : Fun K "_law_at" "_law_at" s_law_at A.f_law_at A.d_law_at
  B_law_at : Binds K A.d_law_at ["_law_pair", "_law_n"] []
  g_law_some : mg "_law_some" = some (.ref A.f_law_some)
  F_law_some : Fun K "_law_some" "_law_some" s_law_some A.f_law_some A.d_law_some
  B_law_some : Binds K A.d_law_some ["_law_pair"] []
  g_law_repeats : mg "_law_repeats" = some (.ref A.f_law_repeats)
  F_law_repeats : Fun K "_law_repeats" "_law_repeats" s_law_repeats A.f_law_repeats A.d_law_repeats
  B_law_repeats : Binds K A.d_law_repeats ["_law_pair", "_law_less"] []
  g_law_is_normal : mg "_law_is_normal" = some (.ref A.f_law_is_normal)
  F_law_is_normal : Fun K "_law_is_normal" "_law_is_normal" s_law_is_normal A.f_law_is_normal A.d_law_is_normal
  B_law_is_normal : Binds K A.d_law_is_normal ["_law_told_here", "_law_gains"] []
  g_law_same : mg "_law_same" = some (.ref A.f_law_same)
  F_law_same : Fun K "_law_same" "_law_same" s_law_same A.f_law_same A.d_law_same
  B_law_same : Binds K A.d_law_same ["_law_growth", "_law_due", "_law_some_here"] []
  g_law_sum : mg "_law_sum" = some (.ref A.f_law_sum)
  F_law_sum : Fun K "_law_sum" "_law_sum" s_law_sum A.f_law_sum A.d_law_sum
  B_law_sum : Binds K A.d_law_sum ["_law_one", "_law_other", "_law_sign", "_law_n"] []
  g_law_lift : mg "_law_lift" = some (.ref A.f_law_lift)
  F_law_lift : Fun K "_law_lift" "_law_lift" s_law_lift A.f_law_lift A.d_law_lift
  B_law_lift : Binds K A.d_law_lift ["_law_pair", "_law_times", "_law_more", "_law_n"] []
  g_law_pair_right : mg "_law_pair_right" = some (.ref A.f_law_pair_right)
  F_law_pair_right : Fun K "_law_pair_right" "_law_pair_right" s_law_pair_right A.f_law_pair_right A.d_law_pair_right
  B_law_pair_right : Binds K A.d_law_pair_right ["_law_one", "_law_other"] []
  g_law_number_right : mg "_law_number_right" = some (.ref A.f_law_number_right)
  F_law_number_right : Fun K "_law_number_right" "_law_number_right" s_law_number_right A.f_law_number_right A.d_law_number_right
  B_law_number_right : Binds K A.d_law_number_right ["_law_pen_here", "_law_pair"] []
  F_law : Fun K "law" "law" s_law A.f_law A.d_law
  code_law_pair_right : A.d_law_pair_right.code = .ref A.cc_law_pair_right
  ne_law_pair_right_law_number_right : A.P_law_pair_right ≠ A.P_law_number_right
  code_law_number_right : A.d_law_number_right.code = .ref A.cc_law_number_right
  o_Growth_add : BinF K A.c_Growth A.f_Growth_add .Add
  i_Growth_add : InpF K A.c_Growth A.f_Growth_add .Add
  r_Growth_radd : ReflF K A.c_Growth A.f_Growth_add A.f_Growth_radd .Add
  o_Growth_sub : BinF K A.c_Growth A.f_Growth_sub .Sub
  i_Growth_sub : InpF K A.c_Growth A.f_Growth_sub .Sub
  r_Growth_rsub : ReflF K A.c_Growth A.f_Growth_sub A.f_Growth_rsub .Sub
  o_Growth_mul : BinF K A.c_Growth A.f_Growth_mul .Mult
  i_Growth_mul : InpF K A.c_Growth A.f_Growth_mul .Mult
  r_Growth_rmul : ReflF K A.c_Growth A.f_Growth_mul A.f_Growth_rmul .Mult
  q_Growth_eq : CmpF K A.c_Growth A.f_Growth_eq .Eq
  n_Growth : NeF K A.c_Growth A.f_Growth_eq
  u_Growth_neg : NegF K A.c_Growth A.f_Growth_neg
  x_Growth : IxF K A.c_Growth A.f_Growth_getitem
  m_Growth_stretch : Meth K A.c_Growth "stretch" A.f_Growth_stretch
  gi_MOST_GAINS : ∃ t, mg "MOST_GAINS" = some (.int 60 t)
  gi_MOST_TOLD : ∃ t, mg "MOST_TOLD" = some (.int 4000 t)
  gi_FAR : ∃ t, mg "FAR" = some (.int 20000 t)
  D1_Growth : ∃ ds, Vals [.ref A.dt_Growth_init_0] ds ∧ Binds K A.d_Growth_init ["self", "told", "gains"] ds

theorem tabs_m_law_pair_right {A : Ad} : (A.P_law_pair_right, ("_law_pair_right.<locals>.<lambda>" : Str)) ∈ tabs A := by unfold tabs; simp
theorem tabs_u_law_pair_right {K : PySem.W.Frag} {mg : Str → Option Value} {A : Ad} (T : Txt K mg A) : ∀ p ∈ tabs A, p.1 = A.P_law_pair_right → p.2 = ("_law_pair_right.<locals>.<lambda>" : Str) := by
  intro p hp e
  unfold tabs at hp
  simp only [List.mem_cons, List.not_mem_nil, or_false] at hp
  rcases hp with rfl | rfl
  · rfl
  · exact absurd e.symm T.ne_law_pair_right_law_number_right
theorem tabs_m_law_number_right {A : Ad} : (A.P_law_number_right, ("_law_number_right.<locals>.<lambda>" : Str)) ∈ tabs A := by unfold tabs; simp
theorem tabs_u_law_number_right {K : PySem.W.Frag} {mg : Str → Option Value} {A : Ad} (T : Txt K mg A) : ∀ p ∈ tabs A, p.1 = A.P_law_number_right → p.2 = ("_law_number_right.<locals>.<lambda>" : Str) := by
  intro p hp e
  unfold tabs at hp
  simp only [List.mem_cons, List.not_mem_nil, or_false] at hp
  rcases hp with rfl | rfl
  · exact absurd e T.ne_law_pair_right_law_number_right
  · rfl

theorem ok_is_integer {P : Program} {w : World} {K : PySem.W.Frag} {mg : Str → Option Value} {base : Heap} {A : Ad} (T : Txt K mg A) :
    FnG P w K mg base CX0 1 A.f_is_integer A.d_is_integer ["value"] (sp_is_integer K A) := by
  refine okG T.F_is_integer sc_is_integer (fun vs H Q E h => ?_) (fun cdv A' outer s H vs Q E hr hG h => ⟨(t_is_integer_0 K A), ?_, pure_is_integer h⟩)
  · unfold sp_is_integer at h
    try unfold spPenL at h
    try unfold spDrawL at h
    try unfold spLawT at h
    try unfold sp_times at h
    split at h <;> first | rfl | exact h.elim
  · exact (pss_one (ps_ret (pe_and (pe_callB call_isiU (by rfl) T.b_isinstance (by decide +kernel) (pa_cons (pv 0) (pa_cons (pe_bltn rfl T.b_int (by decide +kernel) rfl) pa_nil))) (pe_one (pe_not (pe_callB call_isiU (by rfl) T.b_isinstance (by decide +kernel) (pa_cons (pv 0) (pa_cons (pe_bltn rfl T.b_bool (by decide +kernel) rfl) pa_nil))))))))
theorem ok_is_value {P : Program} {w : World} {K : PySem.W.Frag} {mg : Str → Option Value} {base : Heap} {A : Ad} (T : Txt K mg A)
    (G_is_integer : FnG P w K mg base CX0 1 A.f_is_integer A.d_is_integer ["value"] (sp_is_integer K A)) :
    FnG P w K mg base CX0 3 A.f_is_value A.d_is_value ["value"] (sp_is_value K A) := by
  refine okG T.F_is_value sc_is_value (fun vs H Q E h => ?_) (fun cdv A' outer s H vs Q E hr hG h => ⟨(t_is_value_0 K A), ?_, pure_is_value h⟩)
  · unfold sp_is_value at h
    try unfold spPenL at h
    try unfold spDrawL at h
    try unfold spLawT at h
    try unfold sp_times at h
    split at h <;> first | rfl | exact h.elim
  · exact (pss_one (ps_ret (pe_or (pe_cmpR op_isU (pv 0) pe_non (nomark _)) (pe_one (pe_callG G_is_integer (hr.mono (by decide)) hG rfl T.g_is_integer T.F_is_integer.kp T.B_is_integer .nil pass0 (pa_cons (pv 0) pa_nil))))))
theorem ok_is_list {P : Program} {w : World} {K : PySem.W.Frag} {mg : Str → Option Value} {base : Heap} {A : Ad} (T : Txt K mg A) :
    FnG P w K mg base CX0 1 A.f_is_list A.d_is_list ["value", "least"] (sp_is_list K A) := by
  refine okG T.F_is_list sc_is_list (fun vs H Q E h => ?_) (fun cdv A' outer s H vs Q E hr hG h => ⟨(t_is_list_0 K A), ?_, pure_is_list h⟩)
  · unfold sp_is_list at h
    try unfold spPenL at h
    try unfold spDrawL at h
    try unfold spLawT at h
    try unfold sp_times at h
    split at h <;> first | rfl | exact h.elim
  · exact (pss_one (ps_ret (pe_and (pe_callB call_isiT (by rfl) T.b_isinstance (by decide +kernel) (pa_cons (pv 0) (pa_cons (pe_tup (pa_cons (pe_bltn rfl T.b_list (by decide +kernel) rfl) (pa_cons (pe_bltn rfl T.b_tuple (by decide +kernel) rfl) pa_nil))) pa_nil))) (pe_one (pe_cmpR op_geU (pe_callB call_lenE (by rfl) T.b_len PySem.boot_len (pa_cons (pv 0) pa_nil)) (pv 1) (nomark _))))))
theorem ok_added {P : Program} {w : World} {K : PySem.W.Frag} {mg : Str → Option Value} {base : Heap} {A : Ad} (T : Txt K mg A) :
    FnG P w K mg base CX0 1 A.f_added A.d_added ["value", "number"] (sp_added K A) := by
  refine okG T.F_added sc_added (fun vs H Q E h => ?_) (fun cdv A' outer s H vs Q E hr hG h => ⟨(t_added_0 K A), ?_, pure_added h⟩)
  · unfold sp_added at h
    try unfold spPenL at h
    try unfold spDrawL at h
    try unfold spLawT at h
    try unfold sp_times at h
    split at h <;> first | rfl | exact h.elim
  · exact (pss_one (ps_ret (pe_ifExp (pt_cmpR op_isU (pv 0) pe_non (nomark _)) pe_non (pe_op op_addU (pv 0) (pv 1)))))
theorem ok_value_at {P : Program} {w : World} {K : PySem.W.Frag} {mg : Str → Option Value} {base : Heap} {A : Ad} (T : Txt K mg A)
    (G_added : FnG P w K mg base CX0 1 A.f_added A.d_added ["value", "number"] (sp_added K A)) :
    FnG P w K mg base CX0 3 A.f_value_at A.d_value_at ["told", "gains", "n"] (sp_value_at K A) := by
  refine okG T.F_value_at sc_value_at (fun vs H Q E h => ?_) (fun cdv A' outer s H vs Q E hr hG h => ⟨(t_value_at_0 K A), ?_, pure_value_at h⟩)
  · unfold sp_value_at at h
    try unfold spPenL at h
    try unfold spDrawL at h
    try unfold spLawT at h
    try unfold sp_times at h
    split at h <;> first | rfl | exact h.elim
  · exact (pss_cons (ps_if (pt_cmpR op_ltU (pv 2) (pe_callB call_lenE (by rfl) T.b_len PySem.boot_len (pa_cons (pv 0) pa_nil)) (nomark _)) (pss_one (ps_ret (pe_ix ix_seq (pv 0) (pv 2) (fun _ _ => rfl)))) pss_nil)
    (pss_cons (ps_set (i := 3) sc_value_at.nd rfl (Or.inl rfl) (pe_op op_addU (pe_op op_fdivU (pe_op op_subU (pv 2) (pe_callB call_lenE (by rfl) T.b_len PySem.boot_len (pa_cons (pv 0) pa_nil))) (pe_callB call_lenE (by rfl) T.b_len PySem.boot_len (pa_cons (pv 1) pa_nil))) pe_int))
    (pss_one (ps_ret (pe_callG G_added (hr.mono (by decide)) hG rfl T.g_added T.F_added.kp T.B_added .nil pass0 (pa_cons (pe_ix ix_seq (pv 0) (pe_op op_subU (pv 2) (pe_op op_mulU (pv 3) (pe_callB call_lenE (by rfl) T.b_len PySem.boot_len (pa_cons (pv 1) pa_nil)))) (fun _ _ => rfl)) (pa_cons (pe_op op_mulU (pv 3) (pe_ix ix_seq (pv 1) (pe_op op_modU (pv 2) (pe_callB call_lenE (by rfl) T.b_len PySem.boot_len (pa_cons (pv 1) pa_nil))) (fun _ _ => rfl))) pa_nil)))))))
theorem ok_step_between {P : Program} {w : World} {K : PySem.W.Frag} {mg : Str → Option Value} {base : Heap} {A : Ad} (T : Txt K mg A) :
    FnG P w K mg base CX0 1 A.f_step_between A.d_step_between ["low", "high"] (sp_step_between K A) := by
  refine okG T.F_step_between sc_step_between (fun vs H Q E h => ?_) (fun cdv A' outer s H vs Q E hr hG h => ⟨(t_step_between_0 K A), ?_, pure_step_between h⟩)
  · unfold sp_step_between at h
    try unfold spPenL at h
    try unfold spDrawL at h
    try unfold spLawT at h
    try unfold sp_times at h
    split at h <;> first | rfl | exact h.elim
  · exact (pss_cons (ps_if (PW.pt (pw_or (pt_cmpR op_isU (pv 0) pe_non (nomark _)) (pw_or1 (pt_cmpR op_isU (pv 1) pe_non (nomark _))))) (pss_one (ps_ret (pe_ifExp (pt_cmpR (op_eqU hr.units) (pv 0) (pv 1) (nomark _)) pe_int pe_non))) pss_nil)
    (pss_one (ps_ret (pe_op op_subU (pv 1) (pv 0)))))
theorem ok_gains_of {P : Program} {w : World} {K : PySem.W.Frag} {mg : Str → Option Value} {base : Heap} {A : Ad} (T : Txt K mg A)
    (G_step_between : FnG P w K mg base CX0 1 A.f_step_between A.d_step_between ["low", "high"] (sp_step_between K A)) :
    FnG P w K mg base CX0 3 A.f_gains_of A.d_gains_of ["row", "origin", "period"] (sp_gains_of K A) := by
  refine okG T.F_gains_of sc_gains_of (fun vs H Q E h => ?_) (fun cdv A' outer s H vs Q E hr hG h => ⟨(t_gains_of_0 K A), ?_, pure_gains_of h⟩)
  · unfold sp_gains_of at h
    try unfold spPenL at h
    try unfold spDrawL at h
    try unfold spLawT at h
    try unfold sp_times at h
    split at h <;> first | rfl | exact h.elim
  · exact (pss_cons (ps_set (i := 3) sc_gains_of.nd rfl (Or.inr rfl) (pe_lc (own := [("at", 4)]) (g := (gName 4)) (tt := tYes) (by rfl) sc_gains_of.nd (pi_range1 rfl T.b_range (pa_cons (pe_op op_subU (pe_callB call_lenE (by rfl) T.b_len PySem.boot_len (pa_cons (pv 0) pa_nil)) (pv 2)) pa_nil)) (blkOk_by (own := [("at", 4)]) (N := ["row", "origin", "period", "steps", "at", "rest"]) (sc := defScope s_gains_of) (by decide +kernel)) (fun _ _ _ _ _ => (pg_name (i := 4) sc_gains_of.nd rfl (Or.inl rfl))) (fun _ _ _ _ _ => pts_nil) (fun _ _ _ _ _ => (pe_callG G_step_between (hr.mono (by decide)) hG rfl T.g_step_between T.F_step_between.kp T.B_step_between .nil pass0 (pa_cons (pe_ix ix_seq (pv 0) (pv 4) (fun _ _ => rfl)) (pa_cons (pe_ix ix_seq (pv 0) (pe_op op_addU (pv 4) (pv 2)) (fun _ _ => rfl)) pa_nil))))))
    (pss_cons (ps_if (PW.pt (pw_or (pt_cmpR (op_inU hr.units65) pe_non (pv 3) rfl) (pw_or1 (pt_not (pt_val (pe_callB (call_allU rfl) (by rfl) T.b_all (by decide +kernel) (pa_cons (pe_lc (own := [("at", 4)]) (g := (gName 4)) (tt := tYes) (by rfl) sc_gains_of.nd (pi_range1 rfl T.b_range (pa_cons (pe_callB call_lenE (by rfl) T.b_len PySem.boot_len (pa_cons (pv 3) pa_nil)) pa_nil)) (blkOk_by (own := [("at", 4)]) (N := ["row", "origin", "period", "steps", "at", "rest"]) (sc := defScope s_gains_of) (by decide +kernel)) (fun _ _ _ _ _ => (pg_name (i := 4) sc_gains_of.nd rfl (Or.inl rfl))) (fun _ _ _ _ _ => pts_nil) (fun _ _ _ _ _ => (pe_cmpR (op_eqU hr.units) (pe_ix ix_seq (pv 3) (pv 4) (fun _ _ => rfl)) (pe_ix ix_seq (pv 3) (pe_op op_modU (pv 4) (pv 2)) (fun _ _ => rfl)) (nomark _)))) pa_nil))))))) (pss_one (ps_ret pe_non)) pss_nil)
    (pss_one (ps_ret (pe_callTy call_tupE (by rfl) T.b_tuple (by decide +kernel) (pa_cons (pe_lc (own := [("rest", 5)]) (g := (gName 5)) (tt := tYes) (by rfl) sc_gains_of.nd (pi_range1 rfl T.b_range (pa_cons (pv 2) pa_nil)) (blkOk_by (own := [("rest", 5)]) (N := ["row", "origin", "period", "steps", "at", "rest"]) (sc := defScope s_gains_of) (by decide +kernel)) (fun _ _ _ _ _ => (pg_name (i := 5) sc_gains_of.nd rfl (Or.inl rfl))) (fun _ _ _ _ _ => pts_nil) (fun _ _ _ _ _ => (pe_ix ix_seq (pv 3) (pe_op op_modU (pe_op op_subU (pv 5) (pv 1)) (pv 2)) (fun _ _ => rfl)))) pa_nil))))))
theorem ok_least_gains {P : Program} {w : World} {K : PySem.W.Frag} {mg : Str → Option Value} {base : Heap} {A : Ad} (T : Txt K mg A)
    (G_gains_of : FnG P w K mg base CX0 3 A.f_gains_of A.d_gains_of ["row", "origin", "period"] (sp_gains_of K A)) :
    FnG P w K mg base CX0 5 A.f_least_gains A.d_least_gains ["row", "origin", "period"] (sp_least_gains K A) := by
  refine okG T.F_least_gains sc_least_gains (fun vs H Q E h => ?_) (fun cdv A' outer s H vs Q E hr hG h => ⟨(t_least_gains_0 K A), ?_, pure_least_gains h⟩)
  · unfold sp_least_gains at h
    try unfold spPenL at h
    try unfold spDrawL at h
    try unfold spLawT at h
    try unfold sp_times at h
    split at h <;> first | rfl | exact h.elim
  · exact (pss_cons (ps_for never0 rfl (pi_range2 rfl T.b_range (pa_cons pe_int (pa_cons (pv 2) pa_nil))) (pg_name (i := 3) sc_least_gains.nd rfl (Or.inl rfl))
    (pss_cons (ps_set (i := 4) sc_least_gains.nd rfl (Or.inl rfl) (pe_ifExp (pt_cmpR (op_eqU hr.units) (pe_op op_modU (pv 2) (pv 3)) pe_int (nomark _)) (pe_callG G_gains_of (hr.mono (by decide)) hG rfl T.g_gains_of T.F_gains_of.kp T.B_gains_of .nil pass0 (pa_cons (pv 0) (pa_cons (pv 1) (pa_cons (pv 3) pa_nil)))) pe_non))
    (pss_one (ps_if (pt_cmpR op_isNotU (pv 4) pe_non (nomark _)) (pss_one (ps_ret (pv 4))) pss_nil))))
    (pss_one (ps_ret (pe_callG G_gains_of (hr.mono (by decide)) hG rfl T.g_gains_of T.F_gains_of.kp T.B_gains_of .nil pass0 (pa_cons (pv 0) (pa_cons (pv 1) (pa_cons (pv 2) pa_nil)))))))
theorem ok_trimmed {P : Program} {w : World} {K : PySem.W.Frag} {mg : Str → Option Value} {base : Heap} {A : Ad} (T : Txt K mg A)
    (G_added : FnG P w K mg base CX0 1 A.f_added A.d_added ["value", "number"] (sp_added K A)) :
    FnG P w K mg base CX0 3 A.f_trimmed A.d_trimmed ["told", "gains"] (sp_trimmed K A) := by
  refine okG T.F_trimmed sc_trimmed (fun vs H Q E h => ?_) (fun cdv A' outer s H vs Q E hr hG h => ⟨(t_trimmed_0 K A), ?_, pure_trimmed h⟩)
  · unfold sp_trimmed at h
    try unfold spPenL at h
    try unfold spDrawL at h
    try unfold spLawT at h
    try unfold sp_times at h
    split at h <;> first | rfl | exact h.elim
  · exact (pss_cons (ps_par (i := 2) (j := 3) rfl sc_trimmed.nd rfl rfl (by decide) rfl rfl (pa_cons (pe_callB call_lenE (by rfl) T.b_len PySem.boot_len (pa_cons (pv 0) pa_nil)) (pa_cons (pe_callB call_lenE (by rfl) T.b_len PySem.boot_len (pa_cons (pv 1) pa_nil)) pa_nil)) rfl)
    (pss_cons (ps_while never0 (PW.pt (pw_and (pt_cmpR op_gtU (pv 2) (pv 3) (nomark _)) (pw_and1 (pt_cmpR (op_eqU hr.units) (pe_ix ix_seq (pv 0) (pe_op op_subU (pv 2) pe_int) (fun _ _ => rfl)) (pe_callG G_added (hr.mono (by decide)) hG rfl T.g_added T.F_added.kp T.B_added .nil pass0 (pa_cons (pe_ix ix_seq (pv 0) (pe_op op_subU (pe_op op_subU (pv 2) pe_int) (pv 3)) (fun _ _ => rfl)) (pa_cons (pe_ix ix_seq (pv 1) (pe_op op_modU (pe_op op_subU (pv 2) pe_int) (pv 3)) (fun _ _ => rfl)) pa_nil))) (nomark _))))) (pss_one (ps_set (i := 2) sc_trimmed.nd rfl (Or.inl rfl) (pe_op op_subU (pv 2) pe_int))))
    (pss_one (ps_ret (pe_slice sl_tupA (pv 0) po_none (po_some (pv 2)))))))
theorem ok_normal_form {P : Program} {w : World} {K : PySem.W.Frag} {mg : Str → Option Value} {base : Heap} {A : Ad} (T : Txt K mg A)
    (G_value_at : FnG P w K mg base CX0 3 A.f_value_at A.d_value_at ["told", "gains", "n"] (sp_value_at K A))
    (G_least_gains : FnG P w K mg base CX0 5 A.f_least_gains A.d_least_gains ["row", "origin", "period"] (sp_least_gains K A))
    (G_trimmed : FnG P w K mg base CX0 3 A.f_trimmed A.d_trimmed ["told", "gains"] (sp_trimmed K A)) :
    FnG P w K mg base CX0 7 A.f_normal_form A.d_normal_form ["told", "gains"] (sp_normal_form K A) := by
  refine okG T.F_normal_form sc_normal_form (fun vs H Q E h => ?_) (fun cdv A' outer s H vs Q E hr hG h => ⟨(t_normal_form_0 K A), ?_, pure_normal_form h⟩)
  · unfold sp_normal_form at h
    try unfold spPenL at h
    try unfold spDrawL at h
    try unfold spLawT at h
    try unfold sp_times at h
    split at h <;> first | rfl | exact h.elim
  · exact (pss_cons (ps_asg (pe_tup (pa_cons (pe_callB call_lenE (by rfl) T.b_len PySem.boot_len (pa_cons (pv 0) pa_nil)) (pa_cons (pe_callB call_lenE (by rfl) T.b_len PySem.boot_len (pa_cons (pv 1) pa_nil)) pa_nil))) (pg_tup rfl (pgs_cons (pg_name (i := 2) sc_normal_form.nd rfl (Or.inr rfl)) (pgs_cons (pg_name (i := 3) sc_normal_form.nd rfl (Or.inl rfl)) pgs_nil))))
    (pss_cons (ps_setLc (i := 4) (own := [("at", 6)]) (g := (gName 6)) (tt := tYes) (by rfl) sc_normal_form.nd rfl rfl (sw_true rfl rfl rfl (by decide +kernel)) (pi_range1 rfl T.b_range (pa_cons (pe_op op_mulU pe_int (pv 3)) pa_nil)) (blkOk_by (own := [("at", 6)]) (N := ["told", "gains", "origin", "period", "row", "least", "at"]) (sc := defScope s_normal_form) (by decide +kernel)) (fun _ _ _ _ _ => (pg_name (i := 6) sc_normal_form.nd rfl (Or.inl rfl))) (fun _ _ _ _ _ => pts_nil) (fun _ _ _ _ _ => (pe_callG G_value_at (hr.mono (by decide)) hG rfl T.g_value_at T.F_value_at.kp T.B_value_at .nil pass0 (pa_cons (pv 0) (pa_cons (pv 1) (pa_cons (pe_op op_addU (pv 2) (pv 6)) pa_nil))))))
    (pss_cons (ps_set (i := 5) sc_normal_form.nd rfl (Or.inl rfl) (pe_callG G_least_gains (hr.mono (by decide)) hG rfl T.g_least_gains T.F_least_gains.kp T.B_least_gains .nil pass0 (pa_cons (pv 4) (pa_cons (pv 2) (pa_cons (pv 3) pa_nil)))))
    (pss_one (ps_ret (pe_tup (pa_cons (pe_callG G_trimmed (hr.mono (by decide)) hG rfl T.g_trimmed T.F_trimmed.kp T.B_trimmed .nil pass0 (pa_cons (pv 0) (pa_cons (pv 5) pa_nil))) (pa_cons (pv 5) pa_nil))))))))
theorem ok_shared_multiple {P : Program} {w : World} {K : PySem.W.Frag} {mg : Str → Option Value} {base : Heap} {A : Ad} (T : Txt K mg A) :
    FnG P w K mg base CX0 1 A.f_shared_multiple A.d_shared_multiple ["one", "other"] (sp_shared_multiple K A) := by
  refine okG T.F_shared_multiple sc_shared_multiple (fun vs H Q E h => ?_) (fun cdv A' outer s H vs Q E hr hG h => ⟨(t_shared_multiple_0 K A), ?_, pure_shared_multiple h⟩)
  · unfold sp_shared_multiple at h
    try unfold spPenL at h
    try unfold spDrawL at h
    try unfold spLawT at h
    try unfold sp_times at h
    split at h <;> first | rfl | exact h.elim
  · exact (pss_cons (ps_par (i := 2) (j := 3) rfl sc_shared_multiple.nd rfl rfl (by decide) rfl rfl (pa_cons (pv 0) (pa_cons (pv 1) pa_nil)) rfl)
    (pss_cons (ps_while never0 (pt_cmpR op_gtU (pv 2) pe_int (nomark _)) (pss_one (ps_par (i := 2) (j := 3) rfl sc_shared_multiple.nd rfl rfl (by decide) rfl rfl (pa_cons (pe_op op_modU (pv 3) (pv 2)) (pa_cons (pv 2) pa_nil)) rfl)))
    (pss_one (ps_ret (pe_op op_mulU (pe_op op_fdivU (pv 0) (pv 3)) (pv 1))))))
theorem ok_sum_of {P : Program} {w : World} {K : PySem.W.Frag} {mg : Str → Option Value} {base : Heap} {A : Ad} (T : Txt K mg A)
    (G_added : FnG P w K mg base CX0 1 A.f_added A.d_added ["value", "number"] (sp_added K A)) :
    FnG P w K mg base CX0 3 A.f_sum_of A.d_sum_of ["one", "other"] (sp_sum_of K A) := by
  refine okG T.F_sum_of sc_sum_of (fun vs H Q E h => ?_) (fun cdv A' outer s H vs Q E hr hG h => ⟨(t_sum_of_0 K A), ?_, pure_sum_of h⟩)
  · unfold sp_sum_of at h
    try unfold spPenL at h
    try unfold spDrawL at h
    try unfold spLawT at h
    try unfold sp_times at h
    split at h <;> first | rfl | exact h.elim
  · exact (pss_one (ps_ret (pe_ifExp (pt_cmpR op_isU (pv 1) pe_non (nomark _)) pe_non (pe_callG G_added (hr.mono (by decide)) hG rfl T.g_added T.F_added.kp T.B_added .nil pass0 (pa_cons (pv 0) (pa_cons (pv 1) pa_nil))))))
theorem ok_combined {P : Program} {w : World} {K : PySem.W.Frag} {mg : Str → Option Value} {base : Heap} {A : Ad} (T : Txt K mg A)
    (G_sum_of : FnG P w K mg base CX0 3 A.f_sum_of A.d_sum_of ["one", "other"] (sp_sum_of K A)) :
    FnG P w K mg base CX0 5 A.f_combined A.d_combined ["word", "one", "other"] (sp_combined K A) := by
  refine okG T.F_combined sc_combined (fun vs H Q E h => ?_) (fun cdv A' outer s H vs Q E hr hG h => ⟨(t_combined_0 K A), ?_, pure_combined h⟩)
  · unfold sp_combined at h
    try unfold spPenL at h
    try unfold spDrawL at h
    try unfold spLawT at h
    try unfold sp_times at h
    split at h <;> first | rfl | exact h.elim
  · exact (pss_cons (ps_if (pt_cmpR (op_eqU hr.units) (pv 0) pe_str (nomark _)) (pss_one (ps_ret (pe_callG G_sum_of (hr.mono (by decide)) hG rfl T.g_sum_of T.F_sum_of.kp T.B_sum_of .nil pass0 (pa_cons (pv 1) (pa_cons (pv 2) pa_nil))))) pss_nil)
    (pss_one ps_never))
theorem ok_need_growth {P : Program} {w : World} {K : PySem.W.Frag} {mg : Str → Option Value} {base : Heap} {A : Ad} (T : Txt K mg A) :
    FnG P w K mg base CX0 1 A.f_need_growth A.d_need_growth ["other"] (sp_need_growth K A) := by
  refine okG T.F_need_growth sc_need_growth (fun vs H Q E h => ?_) (fun cdv A' outer s H vs Q E hr hG h => ⟨(t_need_growth_0 K A), ?_, pure_need_growth T.kf h⟩)
  · unfold sp_need_growth at h
    try unfold spPenL at h
    try unfold spDrawL at h
    try unfold spLawT at h
    try unfold sp_times at h
    split at h <;> first | rfl | exact h.elim
  · exact (pss_one (ps_if (pt_not (pt_val (pe_callB call_isiU (by rfl) T.b_isinstance (by decide +kernel) (pa_cons (pv 0) (pa_cons (pe_glob rfl T.g_Growth rfl) pa_nil))))) (pss_one ps_never) pss_nil))
theorem ok_need_index {P : Program} {w : World} {K : PySem.W.Frag} {mg : Str → Option Value} {base : Heap} {A : Ad} (T : Txt K mg A)
    (G_is_integer : FnG P w K mg base CX0 1 A.f_is_integer A.d_is_integer ["value"] (sp_is_integer K A)) :
    FnG P w K mg base CX0 3 A.f_need_index A.d_need_index ["n"] (sp_need_index K A) := by
  refine okG T.F_need_index sc_need_index (fun vs H Q E h => ?_) (fun cdv A' outer s H vs Q E hr hG h => ⟨(t_need_index_0 K A), ?_, pure_need_index h⟩)
  · unfold sp_need_index at h
    try unfold spPenL at h
    try unfold spDrawL at h
    try unfold spLawT at h
    try unfold sp_times at h
    split at h <;> first | rfl | exact h.elim
  · exact (pss_one (ps_if (PW.pt (pw_or (pt_not (pt_val (pe_callG G_is_integer (hr.mono (by decide)) hG rfl T.g_is_integer T.F_is_integer.kp T.B_is_integer .nil pass0 (pa_cons (pv 0) pa_nil)))) (pw_or1 (pt_cmpR op_ltU (pv 0) pe_int (nomark _))))) (pss_one ps_never) pss_nil))
theorem ok_need_integer {P : Program} {w : World} {K : PySem.W.Frag} {mg : Str → Option Value} {base : Heap} {A : Ad} (T : Txt K mg A)
    (G_is_integer : FnG P w K mg base CX0 1 A.f_is_integer A.d_is_integer ["value"] (sp_is_integer K A)) :
    FnG P w K mg base CX0 3 A.f_need_integer A.d_need_integer ["number"] (sp_need_integer K A) := by
  refine okG T.F_need_integer sc_need_integer (fun vs H Q E h => ?_) (fun cdv A' outer s H vs Q E hr hG h => ⟨(t_need_integer_0 K A), ?_, pure_need_integer h⟩)
  · unfold sp_need_integer at h
    try unfold spPenL at h
    try unfold spDrawL at h
    try unfold spLawT at h
    try unfold sp_times at h
    split at h <;> first | rfl | exact h.elim
  · exact (pss_one (ps_if (pt_not (pt_val (pe_callG G_is_integer (hr.mono (by decide)) hG rfl T.g_is_integer T.F_is_integer.kp T.B_is_integer .nil pass0 (pa_cons (pv 0) pa_nil)))) (pss_one ps_never) pss_nil))
theorem ok_Growth_init {P : Program} {w : World} {K : PySem.W.Frag} {mg : Str → Option Value} {base : Heap} {A : Ad} (T : Txt K mg A)
    (G_is_integer : FnG P w K mg base CX0 1 A.f_is_integer A.d_is_integer ["value"] (sp_is_integer K A))
    (G_is_value : FnG P w K mg base CX0 3 A.f_is_value A.d_is_value ["value"] (sp_is_value K A))
    (G_is_list : FnG P w K mg base CX0 1 A.f_is_list A.d_is_list ["value", "least"] (sp_is_list K A))
    (G_normal_form : FnG P w K mg base CX0 7 A.f_normal_form A.d_normal_form ["told", "gains"] (sp_normal_form K A)) :
    FnG P w K mg base CX0 9 A.f_Growth_init A.d_Growth_init ["self", "told", "gains"] (sp_Growth_init K A) := by
  obtain ⟨ti_MOST_GAINS, gi_MOST_GAINS⟩ := T.gi_MOST_GAINS
  obtain ⟨ti_MOST_TOLD, gi_MOST_TOLD⟩ := T.gi_MOST_TOLD
  refine okDG T.F_Growth_init sc_Growth_init (fun vs H Q E h => ?_) (fun cdv A' outer s H vs Q E hr hG h => ⟨(t_Growth_init_0 K A), ?_, pure_Growth_init T.kf h⟩)
  · unfold sp_Growth_init at h
    try unfold spPenL at h
    try unfold spDrawL at h
    try unfold spLawT at h
    try unfold sp_times at h
    split at h <;> first | rfl | exact h.elim
  · exact (pss_cons (ps_if (PW.pt (pw_or (pt_not (pt_val (pe_callG G_is_list (hr.mono (by decide)) hG rfl T.g_is_list T.F_is_list.kp T.B_is_list .nil pass0 (pa_cons (pv 2) (pa_cons pe_int pa_nil))))) (pw_or (pt_cmpR op_gtU (pe_callB call_lenE (by rfl) T.b_len PySem.boot_len (pa_cons (pv 2) pa_nil)) (pe_glob rfl gi_MOST_GAINS ⟨_, rfl⟩) (nomark _)) (pw_or1 (pt_not (pt_val (pe_callB (call_allU rfl) (by rfl) T.b_all (by decide +kernel) (pa_cons (pe_lc (own := [("gain", 3)]) (g := (gName 3)) (tt := tYes) (by rfl) sc_Growth_init.nd (pi_seq (pv 2)) (blkOk_by (own := [("gain", 3)]) (N := ["self", "told", "gains", "gain", "value"]) (sc := defScope s_Growth_init) (by decide +kernel)) (fun _ _ _ _ _ => (pg_name (i := 3) sc_Growth_init.nd rfl (Or.inl rfl))) (fun _ _ _ _ _ => pts_nil) (fun _ _ _ _ _ => (pe_callG G_is_integer (hr.mono (by decide)) hG rfl T.g_is_integer T.F_is_integer.kp T.B_is_integer .nil pass0 (pa_cons (pv 3) pa_nil)))) pa_nil)))))))) (pss_one ps_never) pss_nil)
    (pss_cons (ps_if (PW.pt (pw_or (pt_not (pt_val (pe_callG G_is_list (hr.mono (by decide)) hG rfl T.g_is_list T.F_is_list.kp T.B_is_list .nil pass0 (pa_cons (pv 1) (pa_cons (pe_callB call_lenE (by rfl) T.b_len PySem.boot_len (pa_cons (pv 2) pa_nil)) pa_nil))))) (pw_or1 (pt_not (pt_val (pe_callB (call_allU rfl) (by rfl) T.b_all (by decide +kernel) (pa_cons (pe_lc (own := [("value", 4)]) (g := (gName 4)) (tt := tYes) (by rfl) sc_Growth_init.nd (pi_seq (pv 1)) (blkOk_by (own := [("value", 4)]) (N := ["self", "told", "gains", "gain", "value"]) (sc := defScope s_Growth_init) (by decide +kernel)) (fun _ _ _ _ _ => (pg_name (i := 4) sc_Growth_init.nd rfl (Or.inl rfl))) (fun _ _ _ _ _ => pts_nil) (fun _ _ _ _ _ => (pe_callG G_is_value (hr.mono (by decide)) hG rfl T.g_is_value T.F_is_value.kp T.B_is_value .nil pass0 (pa_cons (pv 4) pa_nil)))) pa_nil))))))) (pss_one ps_never) pss_nil)
    (pss_cons (ps_asg (pe_callG G_normal_form (hr.mono (by decide)) hG rfl T.g_normal_form T.F_normal_form.kp T.B_normal_form .nil pass0 (pa_cons (pe_callTy call_tupE (by rfl) T.b_tuple (by decide +kernel) (pa_cons (pv 1) pa_nil)) (pa_cons (pe_callTy call_tupE (by rfl) T.b_tuple (by decide +kernel) (pa_cons (pv 2) pa_nil)) pa_nil))) (pg_tup rfl (pgs_cons (pg_fld (pv 0)) (pgs_cons (pg_fld (pv 0)) pgs_nil))))
    (pss_one (ps_if (pt_cmpR op_gtU (pe_callB call_lenE (by rfl) T.b_len PySem.boot_len (pa_cons (pe_fld (pv 0) rfl) pa_nil)) (pe_glob rfl gi_MOST_TOLD ⟨_, rfl⟩) (nomark _)) (pss_one ps_never) pss_nil)))))
theorem ok_Growth_getitem {P : Program} {w : World} {K : PySem.W.Frag} {mg : Str → Option Value} {base : Heap} {A : Ad} (T : Txt K mg A)
    (G_value_at : FnG P w K mg base CX0 3 A.f_value_at A.d_value_at ["told", "gains", "n"] (sp_value_at K A))
    (G_need_index : FnG P w K mg base CX0 3 A.f_need_index A.d_need_index ["n"] (sp_need_index K A)) :
    FnG P w K mg base CX0 5 A.f_Growth_getitem A.d_Growth_getitem ["self", "n"] (sp_Growth_getitem K A) := by
  refine okG T.F_Growth_getitem sc_Growth_getitem (fun vs H Q E h => ?_) (fun cdv A' outer s H vs Q E hr hG h => ⟨(t_Growth_getitem_0 K A), ?_, pure_Growth_getitem T.kf h⟩)
  · unfold sp_Growth_getitem at h
    try unfold spPenL at h
    try unfold spDrawL at h
    try unfold spLawT at h
    try unfold sp_times at h
    split at h <;> first | rfl | exact h.elim
  · exact (pss_cons (ps_expr (pe_callG G_need_index (hr.mono (by decide)) hG rfl T.g_need_index T.F_need_index.kp T.B_need_index .nil pass0 (pa_cons (pv 1) pa_nil)))
    (pss_one (ps_ret (pe_callG G_value_at (hr.mono (by decide)) hG rfl T.g_value_at T.F_value_at.kp T.B_value_at .nil pass0 (pa_cons (pe_fld (pv 0) rfl) (pa_cons (pe_fld (pv 0) rfl) (pa_cons (pv 1) pa_nil)))))))
theorem ok_merged {P : Program} {w : World} {K : PySem.W.Frag} {mg : Str → Option Value} {base : Heap} {A : Ad} (T : Txt K mg A)
    (G_least_gains : FnG P w K mg base CX0 5 A.f_least_gains A.d_least_gains ["row", "origin", "period"] (sp_least_gains K A))
    (G_shared_multiple : FnG P w K mg base CX0 1 A.f_shared_multiple A.d_shared_multiple ["one", "other"] (sp_shared_multiple K A))
    (G_combined : FnG P w K mg base CX0 5 A.f_combined A.d_combined ["word", "one", "other"] (sp_combined K A))
    (G_Growth_init : FnG P w K mg base CX0 9 A.f_Growth_init A.d_Growth_init ["self", "told", "gains"] (sp_Growth_init K A))
    (G_Growth_getitem : FnG P w K mg base CX0 5 A.f_Growth_getitem A.d_Growth_getitem ["self", "n"] (sp_Growth_getitem K A)) :
    FnG P w K mg base CX0 11 A.f_merged A.d_merged ["word", "one", "other"] (sp_merged K A) := by
  obtain ⟨ti_MOST_GAINS, gi_MOST_GAINS⟩ := T.gi_MOST_GAINS
  obtain ⟨ti_FAR, gi_FAR⟩ := T.gi_FAR
  refine okG T.F_merged sc_merged (fun vs H Q E h => ?_) (fun cdv A' outer s H vs Q E hr hG h => ⟨(t_merged_0 K A), ?_, pure_merged T.kf h⟩)
  · unfold sp_merged at h
    try unfold spPenL at h
    try unfold spDrawL at h
    try unfold spLawT at h
    try unfold sp_times at h
    split at h <;> first | rfl | exact h.elim
  · exact (pss_cons (ps_set (i := 3) sc_merged.nd rfl (Or.inl rfl) (pe_callG G_shared_multiple (hr.mono (by decide)) hG rfl T.g_shared_multiple T.F_shared_multiple.kp T.B_shared_multiple .nil pass0 (pa_cons (pe_callB call_lenE (by rfl) T.b_len PySem.boot_len (pa_cons (pe_fld (pv 1) rfl) pa_nil)) (pa_cons (pe_callB call_lenE (by rfl) T.b_len PySem.boot_len (pa_cons (pe_fld (pv 2) rfl) pa_nil)) pa_nil))))
    (pss_cons (ps_set (i := 4) sc_merged.nd rfl (Or.inl rfl) (pe_callB (call_maxU rfl) (by rfl) T.b_max (by decide +kernel) (pa_cons (pe_callB call_lenE (by rfl) T.b_len PySem.boot_len (pa_cons (pe_fld (pv 1) rfl) pa_nil)) (pa_cons (pe_callB call_lenE (by rfl) T.b_len PySem.boot_len (pa_cons (pe_fld (pv 2) rfl) pa_nil)) pa_nil))))
    (pss_cons (ps_if (pt_cmpR (op_neU hr.units) (pv 0) pe_str (nomark _)) (pss_one ps_never) pss_nil)
    (pss_cons (ps_setLc (i := 5) (own := [("n", 7)]) (g := (gName 7)) (tt := tYes) (by rfl) sc_merged.nd rfl rfl (sw_true rfl rfl rfl (by decide +kernel)) (pi_range2 rfl T.b_range (pa_cons (pv 4) (pa_cons (pe_op op_addU (pv 4) (pe_op op_mulU pe_int (pv 3))) pa_nil))) (blkOk_by (own := [("n", 7)]) (N := ["word", "one", "other", "period", "origin", "row", "gains", "n"]) (sc := defScope s_merged) (by decide +kernel)) (fun _ _ _ _ _ => (pg_name (i := 7) sc_merged.nd rfl (Or.inl rfl))) (fun _ _ _ _ _ => pts_nil) (fun _ _ _ _ _ => (pe_callG G_combined (hr.mono (by decide)) hG rfl T.g_combined T.F_combined.kp T.B_combined .nil pass0 (pa_cons (pv 0) (pa_cons (pe_ixO T.x_Growth (own1G G_Growth_getitem (hr.mono (by decide)) hG T.B_Growth_getitem pass0) (pv 1) (pv 7) (fun _ _ => by with_unfolding_all rfl)) (pa_cons (pe_ixO T.x_Growth (own1G G_Growth_getitem (hr.mono (by decide)) hG T.B_Growth_getitem pass0) (pv 2) (pv 7) (fun _ _ => by with_unfolding_all rfl)) pa_nil))))))
    (pss_cons (ps_set (i := 6) sc_merged.nd rfl (Or.inl rfl) (pe_callG G_least_gains (hr.mono (by decide)) hG rfl T.g_least_gains T.F_least_gains.kp T.B_least_gains .nil pass0 (pa_cons (pv 5) (pa_cons (pv 4) (pa_cons (pv 3) pa_nil)))))
    (pss_cons (ps_if (pt_cmpR op_gtU (pe_callB call_lenE (by rfl) T.b_len PySem.boot_len (pa_cons (pv 6) pa_nil)) (pe_glob rfl gi_MOST_GAINS ⟨_, rfl⟩) (nomark _)) (pss_one ps_never) pss_nil)
    (pss_cons (ps_if (pt_cmpR op_gtU (pv 4) (pe_glob rfl gi_FAR ⟨_, rfl⟩) (nomark _)) (pss_one ps_never) pss_nil)
    (pss_one (ps_ret (pe_makeG T.M_Growth G_Growth_init (hr.mono (by decide)) hG rfl T.g_Growth T.B_Growth_init .nil pass0 (pa_cons (pe_lc (own := [("n", 7)]) (g := (gName 7)) (tt := tYes) (by rfl) sc_merged.nd (pi_range1 rfl T.b_range (pa_cons (pe_op op_addU (pv 4) (pv 3)) pa_nil)) (blkOk_by (own := [("n", 7)]) (N := ["word", "one", "other", "period", "origin", "row", "gains", "n"]) (sc := defScope s_merged) (by decide +kernel)) (fun _ _ _ _ _ => (pg_name (i := 7) sc_merged.nd rfl (Or.inl rfl))) (fun _ _ _ _ _ => pts_nil) (fun _ _ _ _ _ => (pe_callG G_combined (hr.mono (by decide)) hG rfl T.g_combined T.F_combined.kp T.B_combined .nil pass0 (pa_cons (pv 0) (pa_cons (pe_ixO T.x_Growth (own1G G_Growth_getitem (hr.mono (by decide)) hG T.B_Growth_getitem pass0) (pv 1) (pv 7) (fun _ _ => by with_unfolding_all rfl)) (pa_cons (pe_ixO T.x_Growth (own1G G_Growth_getitem (hr.mono (by decide)) hG T.B_Growth_getitem pass0) (pv 2) (pv 7) (fun _ _ => by with_unfolding_all rfl)) pa_nil)))))) (pa_cons (pv 6) pa_nil))))))))))))
theorem ok_term {P : Program} {w : World} {K : PySem.W.Frag} {mg : Str → Option Value} {base : Heap} {A : Ad} (T : Txt K mg A)
    (G_is_integer : FnG P w K mg base CX0 1 A.f_is_integer A.d_is_integer ["value"] (sp_is_integer K A))
    (G_need_growth : FnG P w K mg base CX0 1 A.f_need_growth A.d_need_growth ["other"] (sp_need_growth K A))
    (G_Growth_init : FnG P w K mg base CX0 9 A.f_Growth_init A.d_Growth_init ["self", "told", "gains"] (sp_Growth_init K A)) :
    FnG P w K mg base CX0 11 A.f_term A.d_term ["other"] (sp_term K A) := by
  obtain ⟨ds1_Growth, v1_Growth, b1_Growth⟩ := T.D1_Growth
  refine okG T.F_term sc_term (fun vs H Q E h => ?_) (fun cdv A' outer s H vs Q E hr hG h => ⟨(t_term_0 K A), ?_, pure_term T.kf h⟩)
  · unfold sp_term at h
    try unfold spPenL at h
    try unfold spDrawL at h
    try unfold spLawT at h
    try unfold sp_times at h
    split at h <;> first | rfl | exact h.elim
  · exact (pss_cons (ps_if (pt_val (pe_callG G_is_integer (hr.mono (by decide)) hG rfl T.g_is_integer T.F_is_integer.kp T.B_is_integer .nil pass0 (pa_cons (pv 0) pa_nil))) (pss_one (ps_ret (pe_makeG T.M_Growth G_Growth_init (hr.mono (by decide)) hG rfl T.g_Growth b1_Growth v1_Growth pass0 (pa_cons (pe_lst (pa_cons (pv 0) pa_nil)) pa_nil)))) pss_nil)
    (pss_cons (ps_expr (pe_callG G_need_growth (hr.mono (by decide)) hG rfl T.g_need_growth T.F_need_growth.kp T.B_need_growth .nil pass0 (pa_cons (pv 0) pa_nil)))
    (pss_one (ps_ret (pv 0)))))
theorem ok_times {P : Program} {w : World} {K : PySem.W.Frag} {mg : Str → Option Value} {base : Heap} {A : Ad} (T : Txt K mg A)
    (G_Growth_init : FnG P w K mg base CX0 9 A.f_Growth_init A.d_Growth_init ["self", "told", "gains"] (sp_Growth_init K A)) :
    FnG P w K mg base CX0 11 A.f_times A.d_times ["growth", "number"] (sp_times K A) := by
  refine okG T.F_times sc_times (fun vs H Q E h => ?_) (fun cdv A' outer s H vs Q E hr hG h => ⟨(t_times_0 K A), ?_, pure_times T.kf h⟩)
  · unfold sp_times at h
    try unfold spPenL at h
    try unfold spDrawL at h
    try unfold spLawT at h
    try unfold sp_times at h
    split at h <;> first | rfl | exact h.elim
  · exact (pss_cons (ps_setLc (i := 2) (own := [("value", 3)]) (g := (gName 3)) (tt := tYes) (by rfl) sc_times.nd rfl rfl (sw_true rfl rfl rfl (by decide +kernel)) (pi_seq (pe_fld (pv 0) rfl)) (blkOk_by (own := [("value", 3)]) (N := ["growth", "number", "told", "value", "gain"]) (sc := defScope s_times) (by decide +kernel)) (fun _ _ _ _ _ => (pg_name (i := 3) sc_times.nd rfl (Or.inl rfl))) (fun _ _ _ _ _ => pts_nil) (fun _ _ _ _ _ => (pe_ifExp (pt_cmpR op_isU (pv 3) pe_non (nomark _)) pe_non (pe_op op_mulU (pv 1) (pv 3)))))
    (pss_one (ps_ret (pe_makeG T.M_Growth G_Growth_init (hr.mono (by decide)) hG rfl T.g_Growth T.B_Growth_init .nil pass0 (pa_cons (pv 2) (pa_cons (pe_lc (own := [("gain", 4)]) (g := (gName 4)) (tt := tYes) (by rfl) sc_times.nd (pi_seq (pe_fld (pv 0) rfl)) (blkOk_by (own := [("gain", 4)]) (N := ["growth", "number", "told", "value", "gain"]) (sc := defScope s_times) (by decide +kernel)) (fun _ _ _ _ _ => (pg_name (i := 4) sc_times.nd rfl (Or.inl rfl))) (fun _ _ _ _ _ => pts_nil) (fun _ _ _ _ _ => (pe_op op_mulU (pv 1) (pv 4)))) pa_nil))))))
theorem ok_Growth_add {P : Program} {w : World} {K : PySem.W.Frag} {mg : Str → Option Value} {base : Heap} {A : Ad} (T : Txt K mg A)
    (G_merged : FnG P w K mg base CX0 11 A.f_merged A.d_merged ["word", "one", "other"] (sp_merged K A))
    (G_term : FnG P w K mg base CX0 11 A.f_term A.d_term ["other"] (sp_term K A)) :
    FnG P w K mg base CX0 13 A.f_Growth_add A.d_Growth_add ["self", "other"] (sp_Growth_add K A) := by
  refine okG T.F_Growth_add sc_Growth_add (fun vs H Q E h => ?_) (fun cdv A' outer s H vs Q E hr hG h => ⟨(t_Growth_add_0 K A), ?_, pure_Growth_add T.kf h⟩)
  · unfold sp_Growth_add at h
    try unfold spPenL at h
    try unfold spDrawL at h
    try unfold spLawT at h
    try unfold sp_times at h
    split at h <;> first | rfl | exact h.elim
  · exact (pss_one (ps_ret (pe_callG G_merged (hr.mono (by decide)) hG rfl T.g_merged T.F_merged.kp T.B_merged .nil pass0 (pa_cons pe_str (pa_cons (pv 0) (pa_cons (pe_callG G_term (hr.mono (by decide)) hG rfl T.g_term T.F_term.kp T.B_term .nil pass0 (pa_cons (pv 1) pa_nil)) pa_nil))))))
theorem ok_Growth_radd {P : Program} {w : World} {K : PySem.W.Frag} {mg : Str → Option Value} {base : Heap} {A : Ad} (T : Txt K mg A)
    (G_merged : FnG P w K mg base CX0 11 A.f_merged A.d_merged ["word", "one", "other"] (sp_merged K A))
    (G_term : FnG P w K mg base CX0 11 A.f_term A.d_term ["other"] (sp_term K A)) :
    FnG P w K mg base CX0 13 A.f_Growth_radd A.d_Growth_radd ["self", "other"] (sp_Growth_radd K A) := by
  refine okG T.F_Growth_radd sc_Growth_radd (fun vs H Q E h => ?_) (fun cdv A' outer s H vs Q E hr hG h => ⟨(t_Growth_radd_0 K A), ?_, pure_Growth_radd T.kf h⟩)
  · unfold sp_Growth_radd at h
    try unfold spPenL at h
    try unfold spDrawL at h
    try unfold spLawT at h
    try unfold sp_times at h
    split at h <;> first | rfl | exact h.elim
  · exact (pss_one (ps_ret (pe_callG G_merged (hr.mono (by decide)) hG rfl T.g_merged T.F_merged.kp T.B_merged .nil pass0 (pa_cons pe_str (pa_cons (pe_callG G_term (hr.mono (by decide)) hG rfl T.g_term T.F_term.kp T.B_term .nil pass0 (pa_cons (pv 1) pa_nil)) (pa_cons (pv 0) pa_nil))))))
theorem ok_Growth_sub {P : Program} {w : World} {K : PySem.W.Frag} {mg : Str → Option Value} {base : Heap} {A : Ad} (T : Txt K mg A)
    (G_merged : FnG P w K mg base CX0 11 A.f_merged A.d_merged ["word", "one", "other"] (sp_merged K A))
    (G_term : FnG P w K mg base CX0 11 A.f_term A.d_term ["other"] (sp_term K A))
    (G_times : FnG P w K mg base CX0 11 A.f_times A.d_times ["growth", "number"] (sp_times K A)) :
    FnG P w K mg base CX0 13 A.f_Growth_sub A.d_Growth_sub ["self", "other"] (sp_Growth_sub K A) := by
  refine okG T.F_Growth_sub sc_Growth_sub (fun vs H Q E h => ?_) (fun cdv A' outer s H vs Q E hr hG h => ⟨(t_Growth_sub_0 K A), ?_, pure_Growth_sub T.kf h⟩)
  · unfold sp_Growth_sub at h
    try unfold spPenL at h
    try unfold spDrawL at h
    try unfold spLawT at h
    try unfold sp_times at h
    split at h <;> first | rfl | exact h.elim
  · exact (pss_one (ps_ret (pe_callG G_merged (hr.mono (by decide)) hG rfl T.g_merged T.F_merged.kp T.B_merged .nil pass0 (pa_cons pe_str (pa_cons (pv 0) (pa_cons (pe_callG G_times (hr.mono (by decide)) hG rfl T.g_times T.F_times.kp T.B_times .nil pass0 (pa_cons (pe_callG G_term (hr.mono (by decide)) hG rfl T.g_term T.F_term.kp T.B_term .nil pass0 (pa_cons (pv 1) pa_nil)) (pa_cons (pe_un un_negU pe_int) pa_nil))) pa_nil))))))
theorem ok_Growth_rsub {P : Program} {w : World} {K : PySem.W.Frag} {mg : Str → Option Value} {base : Heap} {A : Ad} (T : Txt K mg A)
    (G_merged : FnG P w K mg base CX0 11 A.f_merged A.d_merged ["word", "one", "other"] (sp_merged K A))
    (G_term : FnG P w K mg base CX0 11 A.f_term A.d_term ["other"] (sp_term K A))
    (G_times : FnG P w K mg base CX0 11 A.f_times A.d_times ["growth", "number"] (sp_times K A)) :
    FnG P w K mg base CX0 13 A.f_Growth_rsub A.d_Growth_rsub ["self", "other"] (sp_Growth_rsub K A) := by
  refine okG T.F_Growth_rsub sc_Growth_rsub (fun vs H Q E h => ?_) (fun cdv A' outer s H vs Q E hr hG h => ⟨(t_Growth_rsub_0 K A), ?_, pure_Growth_rsub T.kf h⟩)
  · unfold sp_Growth_rsub at h
    try unfold spPenL at h
    try unfold spDrawL at h
    try unfold spLawT at h
    try unfold sp_times at h
    split at h <;> first | rfl | exact h.elim
  · exact (pss_one (ps_ret (pe_callG G_merged (hr.mono (by decide)) hG rfl T.g_merged T.F_merged.kp T.B_merged .nil pass0 (pa_cons pe_str (pa_cons (pe_callG G_term (hr.mono (by decide)) hG rfl T.g_term T.F_term.kp T.B_term .nil pass0 (pa_cons (pv 1) pa_nil)) (pa_cons (pe_callG G_times (hr.mono (by decide)) hG rfl T.g_times T.F_times.kp T.B_times .nil pass0 (pa_cons (pv 0) (pa_cons (pe_un un_negU pe_int) pa_nil))) pa_nil))))))
theorem ok_Growth_neg {P : Program} {w : World} {K : PySem.W.Frag} {mg : Str → Option Value} {base : Heap} {A : Ad} (T : Txt K mg A)
    (G_times : FnG P w K mg base CX0 11 A.f_times A.d_times ["growth", "number"] (sp_times K A)) :
    FnG P w K mg base CX0 13 A.f_Growth_neg A.d_Growth_neg ["self"] (sp_Growth_neg K A) := by
  refine okG T.F_Growth_neg sc_Growth_neg (fun vs H Q E h => ?_) (fun cdv A' outer s H vs Q E hr hG h => ⟨(t_Growth_neg_0 K A), ?_, pure_Growth_neg T.kf h⟩)
  · unfold sp_Growth_neg at h
    try unfold spPenL at h
    try unfold spDrawL at h
    try unfold spLawT at h
    try unfold sp_times at h
    split at h <;> first | rfl | exact h.elim
  · exact (pss_one (ps_ret (pe_callG G_times (hr.mono (by decide)) hG rfl T.g_times T.F_times.kp T.B_times .nil pass0 (pa_cons (pv 0) (pa_cons (pe_un un_negU pe_int) pa_nil)))))
theorem ok_Growth_mul {P : Program} {w : World} {K : PySem.W.Frag} {mg : Str → Option Value} {base : Heap} {A : Ad} (T : Txt K mg A)
    (G_need_integer : FnG P w K mg base CX0 3 A.f_need_integer A.d_need_integer ["number"] (sp_need_integer K A))
    (G_times : FnG P w K mg base CX0 11 A.f_times A.d_times ["growth", "number"] (sp_times K A)) :
    FnG P w K mg base CX0 13 A.f_Growth_mul A.d_Growth_mul ["self", "number"] (sp_Growth_mul K A) := by
  refine okG T.F_Growth_mul sc_Growth_mul (fun vs H Q E h => ?_) (fun cdv A' outer s H vs Q E hr hG h => ⟨(t_Growth_mul_0 K A), ?_, pure_Growth_mul T.kf h⟩)
  · unfold sp_Growth_mul at h
    try unfold spPenL at h
    try unfold spDrawL at h
    try unfold spLawT at h
    try unfold sp_times at h
    split at h <;> first | rfl | exact h.elim
  · exact (pss_cons (ps_expr (pe_callG G_need_integer (hr.mono (by decide)) hG rfl T.g_need_integer T.F_need_integer.kp T.B_need_integer .nil pass0 (pa_cons (pv 1) pa_nil)))
    (pss_one (ps_ret (pe_callG G_times (hr.mono (by decide)) hG rfl T.g_times T.F_times.kp T.B_times .nil pass0 (pa_cons (pv 0) (pa_cons (pv 1) pa_nil))))))
theorem ok_Growth_rmul {P : Program} {w : World} {K : PySem.W.Frag} {mg : Str → Option Value} {base : Heap} {A : Ad} (T : Txt K mg A)
    (G_need_integer : FnG P w K mg base CX0 3 A.f_need_integer A.d_need_integer ["number"] (sp_need_integer K A))
    (G_times : FnG P w K mg base CX0 11 A.f_times A.d_times ["growth", "number"] (sp_times K A)) :
    FnG P w K mg base CX0 13 A.f_Growth_rmul A.d_Growth_rmul ["self", "number"] (sp_Growth_rmul K A) := by
  refine okG T.F_Growth_rmul sc_Growth_rmul (fun vs H Q E h => ?_) (fun cdv A' outer s H vs Q E hr hG h => ⟨(t_Growth_rmul_0 K A), ?_, pure_Growth_rmul T.kf h⟩)
  · unfold sp_Growth_rmul at h
    try unfold spPenL at h
    try unfold spDrawL at h
    try unfold spLawT at h
    try unfold sp_times at h
    split at h <;> first | rfl | exact h.elim
  · exact (pss_cons (ps_expr (pe_callG G_need_integer (hr.mono (by decide)) hG rfl T.g_need_integer T.F_need_integer.kp T.B_need_integer .nil pass0 (pa_cons (pv 1) pa_nil)))
    (pss_one (ps_ret (pe_callG G_times (hr.mono (by decide)) hG rfl T.g_times T.F_times.kp T.B_times .nil pass0 (pa_cons (pv 0) (pa_cons (pv 1) pa_nil))))))
theorem ok_Growth_eq {P : Program} {w : World} {K : PySem.W.Frag} {mg : Str → Option Value} {base : Heap} {A : Ad} (T : Txt K mg A) :
    FnG P w K mg base CX0 1 A.f_Growth_eq A.d_Growth_eq ["self", "other"] (sp_Growth_eq K A) := by
  refine okG T.F_Growth_eq sc_Growth_eq (fun vs H Q E h => ?_) (fun cdv A' outer s H vs Q E hr hG h => ⟨(t_Growth_eq_0 K A), ?_, pure_Growth_eq T.kf h⟩)
  · unfold sp_Growth_eq at h
    try unfold spPenL at h
    try unfold spDrawL at h
    try unfold spLawT at h
    try unfold sp_times at h
    split at h <;> first | rfl | exact h.elim
  · exact (pss_one (ps_ret (pe_and (pe_callB call_isiU (by rfl) T.b_isinstance (by decide +kernel) (pa_cons (pv 1) (pa_cons (pe_glob rfl T.g_Growth rfl) pa_nil))) (pe_and (pe_cmpR (op_eqU hr.units) (pe_fld (pv 0) rfl) (pe_fld (pv 1) rfl) (nomark _)) (pe_one (pe_cmpR (op_eqU hr.units) (pe_fld (pv 0) rfl) (pe_fld (pv 1) rfl) (nomark _)))))))
theorem ok_Growth_stretch {P : Program} {w : World} {K : PySem.W.Frag} {mg : Str → Option Value} {base : Heap} {A : Ad} (T : Txt K mg A)
    (G_value_at : FnG P w K mg base CX0 3 A.f_value_at A.d_value_at ["told", "gains", "n"] (sp_value_at K A))
    (G_need_index : FnG P w K mg base CX0 3 A.f_need_index A.d_need_index ["n"] (sp_need_index K A)) :
    FnG P w K mg base CX0 5 A.f_Growth_stretch A.d_Growth_stretch ["self", "a", "b"] (sp_Growth_stretch K A) := by
  obtain ⟨ti_MOST_TOLD, gi_MOST_TOLD⟩ := T.gi_MOST_TOLD
  refine okG T.F_Growth_stretch sc_Growth_stretch (fun vs H Q E h => ?_) (fun cdv A' outer s H vs Q E hr hG h => ⟨(t_Growth_stretch_0 K A), ?_, pure_Growth_stretch T.kf h⟩)
  · unfold sp_Growth_stretch at h
    try unfold spPenL at h
    try unfold spDrawL at h
    try unfold spLawT at h
    try unfold sp_times at h
    split at h <;> first | rfl | exact h.elim
  · exact (pss_cons (ps_for never0 rfl (pi_seq (pe_tup (pa_cons (pv 1) (pa_cons (pv 2) pa_nil)))) (pg_name (i := 3) sc_Growth_stretch.nd rfl (Or.inl rfl))
    (pss_one (ps_expr (pe_callG G_need_index (hr.mono (by decide)) hG rfl T.g_need_index T.F_need_index.kp T.B_need_index .nil pass0 (pa_cons (pv 3) pa_nil)))))
    (pss_cons (ps_if (pt_cmpR op_gtU (pe_op op_subU (pv 2) (pv 1)) (pe_glob rfl gi_MOST_TOLD ⟨_, rfl⟩) (nomark _)) (pss_one ps_never) pss_nil)
    (pss_one (ps_ret (pe_callTy call_tupE (by rfl) T.b_tuple (by decide +kernel) (pa_cons (pe_lc (own := [("n", 3)]) (g := (gName 3)) (tt := tYes) (by rfl) sc_Growth_stretch.nd (pi_range2 rfl T.b_range (pa_cons (pv 1) (pa_cons (pv 2) pa_nil))) (blkOk_by (own := [("n", 3)]) (N := ["self", "a", "b", "n"]) (sc := defScope s_Growth_stretch) (by decide +kernel)) (fun _ _ _ _ _ => (pg_name (i := 3) sc_Growth_stretch.nd rfl (Or.inl rfl))) (fun _ _ _ _ _ => pts_nil) (fun _ _ _ _ _ => (pe_callG G_value_at (hr.mono (by decide)) hG rfl T.g_value_at T.F_value_at.kp T.B_value_at .nil pass0 (pa_cons (pe_fld (pv 0) rfl) (pa_cons (pe_fld (pv 0) rfl) (pa_cons (pv 3) pa_nil)))))) pa_nil))))))
theorem ok_law_pen {P : Program} {w : World} {K : PySem.W.Frag} {mg : Str → Option Value} {base : Heap} {A : Ad} (T : Txt K mg A) :
    FnG P w K mg base CX0 1 A.f_law_pen A.d_law_pen ["_law_script"] (sp_law_pen K A) := by
  refine okG T.F_law_pen sc_law_pen (fun vs H Q E h => ?_) (fun cdv A' outer s H vs Q E hr hG h => ⟨(t_law_pen_0 K A), ?_, pure_law_pen h⟩)
  · unfold sp_law_pen at h
    try unfold spPenL at h
    try unfold spDrawL at h
    try unfold spLawT at h
    try unfold sp_times at h
    split at h <;> first | rfl | exact h.elim
  · exact (pss_one (ps_ret (pe_lst (pa_cons (pe_callTy call_listU (by rfl) T.b_list (by decide +kernel) (pa_cons (pe_slice sl_list (pv 0) po_none (po_some pe_int)) pa_nil)) (pa_cons pe_int (pa_cons pe_int pa_nil))))))
theorem ok_law_draw {P : Program} {w : World} {K : PySem.W.Frag} {mg : Str → Option Value} {base : Heap} {A : Ad} (T : Txt K mg A) :
    FnG P w K mg base CX0 1 A.f_law_draw A.d_law_draw ["_law_pen_here", "_law_many"] (sp_law_draw K A) := by
  refine okG T.F_law_draw sc_law_draw (fun vs H Q E h => ?_) (fun cdv A' outer s H vs Q E hr hG h => ⟨(t_law_draw_0 K A), ?_, pure_law_draw h⟩)
  · unfold sp_law_draw at h
    try unfold spPenL at h
    try unfold spDrawL at h
    try unfold spLawT at h
    try unfold sp_times at h
    split at h <;> first | rfl | exact h.elim
  · exact (pss_cons (ps_if (pt_cmpR op_gtU (pe_ix ix_U (pv 0) pe_int (fun _ _ => rfl)) pe_int (nomark _)) (pss_cons (ps_set (i := 2) sc_law_draw.nd rfl (Or.inl rfl) (pe_op op_modU (pe_callTy call_intU (by rfl) T.b_int (by decide +kernel) (pa_cons (pe_ix ix_U (pv 0) pe_int (fun _ _ => rfl)) pa_nil)) (pv 1)))
    (pss_cons (ps_asg (pe_op op_fdivU (pe_callTy call_intU (by rfl) T.b_int (by decide +kernel) (pa_cons (pe_ix ix_U (pv 0) pe_int (fun _ _ => rfl)) pa_nil)) (pv 1)) (pg_sub (pv 0) pe_int set_U))
    (pss_one (ps_ret (pv 2))))) pss_nil)
    (pss_cons (ps_set (i := 3) sc_law_draw.nd rfl (Or.inl rfl) (pe_ix ix_U (pv 0) pe_int (fun _ _ => rfl)))
    (pss_cons (ps_asg (pe_op op_addU (pv 3) pe_int) (pg_sub (pv 0) pe_int set_U))
    (pss_cons (ps_set (i := 4) sc_law_draw.nd rfl (Or.inl rfl) (pe_op op_addU (pe_op op_mulU pe_int (pv 3)) pe_int))
    (pss_cons (ps_if (pt_cmpR (op_neU hr.units) (pe_ix ix_U (pv 0) pe_int (fun _ _ => rfl)) (pe_lst pa_nil) (nomark _)) (pss_one (ps_set (i := 4) sc_law_draw.nd rfl (Or.inl rfl) (pe_ix ix_U (pe_ix ix_U (pv 0) pe_int (fun _ _ => rfl)) (pe_op op_modU (pe_callTy call_intU (by rfl) T.b_int (by decide +kernel) (pa_cons (pv 3) pa_nil)) (pe_callB call_lenU (by rfl) T.b_len PySem.boot_len (pa_cons (pe_ix ix_U (pv 0) pe_int (fun _ _ => rfl)) pa_nil))) (fun _ _ => rfl)))) pss_nil)
    (pss_cons (ps_if (PW.pt (pw_and (pt_cmpR op_ltU (pv 3) (pe_callB call_lenU (by rfl) T.b_len PySem.boot_len (pa_cons (pe_ix ix_U (pv 0) pe_int (fun _ _ => rfl)) pa_nil)) (nomark _)) (pw_and1 (pt_cmpR op_geU (pe_callB call_absU (by rfl) T.b_abs (by decide +kernel) (pa_cons (pv 4) pa_nil)) (pe_op op_powU pe_int pe_int) (nomark _))))) (pss_cons (ps_set (i := 5) sc_law_draw.nd rfl (Or.inl rfl) (pe_op op_addU (pe_op op_mulU pe_int (pe_op op_subU (pe_callB call_absU (by rfl) T.b_abs (by decide +kernel) (pa_cons (pv 4) pa_nil)) (pe_op op_powU pe_int pe_int))) (pe_callTy call_intU (by rfl) T.b_int (by decide +kernel) (pa_cons (pe_cmpR op_ltU (pv 4) pe_int (nomark _)) pa_nil))))
    (pss_cons (ps_asg (pe_op op_fdivU (pe_callTy call_intU (by rfl) T.b_int (by decide +kernel) (pa_cons (pv 5) pa_nil)) (pv 1)) (pg_sub (pv 0) pe_int set_U))
    (pss_one (ps_ret (pe_op op_modU (pe_callTy call_intU (by rfl) T.b_int (by decide +kernel) (pa_cons (pv 5) pa_nil)) (pv 1)))))) pss_nil)
    (pss_cons (ps_set (i := 6) sc_law_draw.nd rfl (Or.inl rfl) (pe_op op_modU (pe_callTy call_intU (by rfl) T.b_int (by decide +kernel) (pa_cons (pe_op op_powU (pe_op op_addU (pe_op op_addU (pe_op op_modU (pe_callTy call_intU (by rfl) T.b_int (by decide +kernel) (pa_cons (pv 4) pa_nil)) pe_int) (pe_op op_mulU pe_int (pv 3))) pe_int) pe_int) pa_nil)) pe_int))
    (pss_cons (ps_set (i := 6) sc_law_draw.nd rfl (Or.inl rfl) (pe_op op_modU (pe_callTy call_intU (by rfl) T.b_int (by decide +kernel) (pa_cons (pe_op op_powU (pe_op op_addU (pe_op op_addU (pe_op op_mulU (pv 6) (pe_op op_addU (pe_op op_mulU pe_int (pv 3)) pe_int)) (pe_op op_mulU (pe_op op_mulU pe_int (pv 3)) (pv 3))) pe_int) pe_int) pa_nil)) pe_int))
    (pss_one (ps_ret (pe_op op_modU (pe_callTy call_intU (by rfl) T.b_int (by decide +kernel) (pa_cons (pe_op op_fdivU (pv 6) pe_int) pa_nil)) (pv 1))))))))))))
theorem ok_law_told {P : Program} {w : World} {K : PySem.W.Frag} {mg : Str → Option Value} {base : Heap} {A : Ad} (T : Txt K mg A)
    (G_law_draw : FnG P w K mg base CX0 1 A.f_law_draw A.d_law_draw ["_law_pen_here", "_law_many"] (sp_law_draw K A)) :
    FnG P w K mg base CX0 3 A.f_law_told A.d_law_told ["_law_pen_here"] (sp_law_told K A) := by
  refine okG T.F_law_told sc_law_told (fun vs H Q E h => ?_) (fun cdv A' outer s H vs Q E hr hG h => ⟨(t_law_told_0 K A), ?_, pure_law_told h⟩)
  · unfold sp_law_told at h
    try unfold spPenL at h
    try unfold spDrawL at h
    try unfold spLawT at h
    try unfold sp_times at h
    split at h <;> first | rfl | exact h.elim
  · exact (pss_cons (ps_setLc (i := 1) (own := [("_law_turn", 3)]) (g := (gName 3)) (tt := tYes) (by rfl) sc_law_told.nd rfl rfl (sw_true rfl rfl rfl (by decide +kernel)) (pi_range1 rfl T.b_range (pa_cons (pe_op op_addU pe_int (pe_callG G_law_draw (hr.mono (by decide)) hG rfl T.g_law_draw T.F_law_draw.kp T.B_law_draw .nil pass0 (pa_cons (pv 0) (pa_cons pe_int pa_nil)))) pa_nil)) (blkOk_by (own := [("_law_turn", 3)]) (N := ["_law_pen_here", "_law_gains", "_law_many", "_law_turn"]) (sc := defScope s_law_told) (by decide +kernel)) (fun _ _ _ _ _ => (pg_name (i := 3) sc_law_told.nd rfl (Or.inl rfl))) (fun _ _ _ _ _ => pts_nil) (fun _ _ _ _ _ => (pe_op op_subU (pe_callG G_law_draw (hr.mono (by decide)) hG rfl T.g_law_draw T.F_law_draw.kp T.B_law_draw .nil pass0 (pa_cons (pv 0) (pa_cons pe_int pa_nil))) pe_int)))
    (pss_cons (ps_set (i := 2) sc_law_told.nd rfl (Or.inl rfl) (pe_op op_addU (pe_callB call_lenE (by rfl) T.b_len PySem.boot_len (pa_cons (pv 1) pa_nil)) (pe_callG G_law_draw (hr.mono (by decide)) hG rfl T.g_law_draw T.F_law_draw.kp T.B_law_draw .nil pass0 (pa_cons (pv 0) (pa_cons pe_int pa_nil)))))
    (pss_one (ps_ret (pe_tup (pa_cons (pe_lc (own := [("_law_turn", 3)]) (g := (gName 3)) (tt := tYes) (by rfl) sc_law_told.nd (pi_range1 rfl T.b_range (pa_cons (pv 2) pa_nil)) (blkOk_by (own := [("_law_turn", 3)]) (N := ["_law_pen_here", "_law_gains", "_law_many", "_law_turn"]) (sc := defScope s_law_told) (by decide +kernel)) (fun _ _ _ _ _ => (pg_name (i := 3) sc_law_told.nd rfl (Or.inl rfl))) (fun _ _ _ _ _ => pts_nil) (fun _ _ _ _ _ => (pe_ifExp (pt_cmpR (op_eqU hr.units) (pe_callG G_law_draw (hr.mono (by decide)) hG rfl T.g_law_draw T.F_law_draw.kp T.B_law_draw .nil pass0 (pa_cons (pv 0) (pa_cons pe_int pa_nil))) pe_int (nomark _)) pe_non (pe_op op_subU (pe_callG G_law_draw (hr.mono (by decide)) hG rfl T.g_law_draw T.F_law_draw.kp T.B_law_draw .nil pass0 (pa_cons (pv 0) (pa_cons pe_int pa_nil))) pe_int)))) (pa_cons (pv 1) pa_nil)))))))
theorem ok_law_at {P : Program} {w : World} {K : PySem.W.Frag} {mg : Str → Option Value} {base : Heap} {A : Ad} (T : Txt K mg A) :
    FnG P w K mg base CX0 1 A.f_law_at A.d_law_at ["_law_pair", "_law_n"] (sp_law_at K A) := by
  refine okG T.F_law_at sc_law_at (fun vs H Q E h => ?_) (fun cdv A' outer s H vs Q E hr hG h => ⟨(t_law_at_0 K A), ?_, pure_law_at h⟩)
  · unfold sp_law_at at h
    try unfold spPenL at h
    try unfold spDrawL at h
    try unfold spLawT at h
    try unfold sp_times at h
    split at h <;> first | rfl | exact h.elim
  · exact (pss_cons (ps_asg (pv 0) (pg_tup rfl (pgs_cons (pg_name (i := 2) sc_law_at.nd rfl (Or.inl rfl)) (pgs_cons (pg_name (i := 3) sc_law_at.nd rfl (Or.inl rfl)) pgs_nil))))
    (pss_cons (ps_if (pt_cmpR op_ltU (pv 1) (pe_callB call_lenE (by rfl) T.b_len PySem.boot_len (pa_cons (pv 2) pa_nil)) (nomark _)) (pss_one (ps_ret (pe_ix ix_seq (pv 2) (pv 1) (fun _ _ => rfl)))) pss_nil)
    (pss_cons (ps_set (i := 4) sc_law_at.nd rfl (Or.inl rfl) (pe_op op_addU (pe_op op_fdivU (pe_callTy call_intU (by rfl) T.b_int (by decide +kernel) (pa_cons (pe_op op_subU (pv 1) (pe_callB call_lenE (by rfl) T.b_len PySem.boot_len (pa_cons (pv 2) pa_nil))) pa_nil)) (pe_callB call_lenE (by rfl) T.b_len PySem.boot_len (pa_cons (pv 3) pa_nil))) pe_int))
    (pss_cons (ps_set (i := 5) sc_law_at.nd rfl (Or.inl rfl) (pe_ix ix_seq (pv 2) (pe_op op_subU (pv 1) (pe_op op_mulU (pv 4) (pe_callB call_lenE (by rfl) T.b_len PySem.boot_len (pa_cons (pv 3) pa_nil)))) (fun _ _ => rfl)))
    (pss_one (ps_ret (pe_ifExp (pt_cmpR op_isU (pv 5) pe_non (nomark _)) pe_non (pe_op op_addU (pv 5) (pe_op op_mulU (pv 4) (pe_ix ix_seq (pv 3) (pe_op op_modU (pe_callTy call_intU (by rfl) T.b_int (by decide +kernel) (pa_cons (pv 1) pa_nil)) (pe_callB call_lenE (by rfl) T.b_len PySem.boot_len (pa_cons (pv 3) pa_nil))) (fun _ _ => rfl)))))))))))
theorem ok_law_some {P : Program} {w : World} {K : PySem.W.Frag} {mg : Str → Option Value} {base : Heap} {A : Ad} (T : Txt K mg A) :
    FnG P w K mg base CX0 1 A.f_law_some A.d_law_some ["_law_pair"] (sp_law_some K A) := by
  refine okG T.F_law_some sc_law_some (fun vs H Q E h => ?_) (fun cdv A' outer s H vs Q E hr hG h => ⟨(t_law_some_0 K A), ?_, pure_law_some h⟩)
  · unfold sp_law_some at h
    try unfold spPenL at h
    try unfold spDrawL at h
    try unfold spLawT at h
    try unfold sp_times at h
    split at h <;> first | rfl | exact h.elim
  · exact (pss_cons (ps_set (i := 1) sc_law_some.nd rfl (Or.inr rfl) (pe_op op_addU (pe_op op_powU pe_int pe_int) pe_int))
    (pss_one (ps_ret (pe_op op_addU (pe_listRg rfl (by rfl) T.b_list (prg_1 (by rfl) T.b_range (pe_op op_addU (pe_callB call_lenE (by rfl) T.b_len PySem.boot_len (pa_cons (pe_ix ix_seq (pv 0) pe_int (fun _ _ => rfl)) pa_nil)) pe_int))) (pe_lc (own := [("_law_turn", 2)]) (g := (gName 2)) (tt := tYes) (by rfl) sc_law_some.nd (pi_range1 rfl T.b_range (pa_cons pe_int pa_nil)) (blkOk_by (own := [("_law_turn", 2)]) (N := ["_law_pair", "_law_far", "_law_turn"]) (sc := defScope s_law_some) (by decide +kernel)) (fun _ _ _ _ _ => (pg_name (i := 2) sc_law_some.nd rfl (Or.inl rfl))) (fun _ _ _ _ _ => pts_nil) (fun _ _ _ _ _ => (pe_op op_addU (pv 1) (pv 2))))))))
theorem ok_law_repeats {P : Program} {w : World} {K : PySem.W.Frag} {mg : Str → Option Value} {base : Heap} {A : Ad} (T : Txt K mg A)
    (G_law_at : FnG P w K mg base CX0 1 A.f_law_at A.d_law_at ["_law_pair", "_law_n"] (sp_law_at K A)) :
    FnG P w K mg base CX0 3 A.f_law_repeats A.d_law_repeats ["_law_pair", "_law_less"] (sp_law_repeats K A) := by
  refine okG T.F_law_repeats sc_law_repeats (fun vs H Q E h => ?_) (fun cdv A' outer s H vs Q E hr hG h => ⟨(t_law_repeats_0 K A), ?_, pure_law_repeats h⟩)
  · unfold sp_law_repeats at h
    try unfold spPenL at h
    try unfold spDrawL at h
    try unfold spLawT at h
    try unfold sp_times at h
    split at h <;> first | rfl | exact h.elim
  · exact (pss_cons (ps_asg (pe_tup (pa_cons (pe_callB call_lenE (by rfl) T.b_len PySem.boot_len (pa_cons (pe_ix ix_seq (pv 0) pe_int (fun _ _ => rfl)) pa_nil)) (pa_cons (pe_lst pa_nil) pa_nil))) (pg_tup rfl (pgs_cons (pg_name (i := 2) sc_law_repeats.nd rfl (Or.inl rfl)) (pgs_cons (pg_name (i := 3) sc_law_repeats.nd rfl (Or.inr rfl)) pgs_nil))))
    (pss_cons (ps_for never0 rfl (pi_range2 rfl T.b_range (pa_cons (pv 2) (pa_cons (pe_op op_addU (pv 2) (pe_op op_mulU pe_int (pe_callB call_lenE (by rfl) T.b_len PySem.boot_len (pa_cons (pe_ix ix_seq (pv 0) pe_int (fun _ _ => rfl)) pa_nil)))) pa_nil))) (pg_name (i := 4) sc_law_repeats.nd rfl (Or.inl rfl))
    (pss_cons (ps_par (i := 5) (j := 6) rfl sc_law_repeats.nd rfl rfl (by decide) rfl rfl (pa_cons (pe_callG G_law_at (hr.mono (by decide)) hG rfl T.g_law_at T.F_law_at.kp T.B_law_at .nil pass0 (pa_cons (pv 0) (pa_cons (pv 4) pa_nil))) (pa_cons (pe_callG G_law_at (hr.mono (by decide)) hG rfl T.g_law_at T.F_law_at.kp T.B_law_at .nil pass0 (pa_cons (pv 0) (pa_cons (pe_op op_addU (pv 4) (pv 1)) pa_nil))) pa_nil)) rfl)
    (pss_cons (ps_if (pt_cmpR (op_neU hr.units) (pe_cmpR op_isU (pv 5) pe_non (nomark _)) (pe_cmpR op_isU (pv 6) pe_non (nomark _)) (nomark _)) (pss_one (ps_ret pe_bl)) pss_nil)
    (pss_one (ps_expr (pe_bm PySem.F.plainAttrs_list PySem.F.slot_list_append PySem.F.type_list_append mt_append (pv 3) (pa_cons (pe_ifExp (pt_cmpR op_isU (pv 5) pe_non (nomark _)) pe_int (pe_op op_subU (pv 6) (pv 5))) pa_nil)))))))
    (pss_one (ps_ret (pe_cmpR (op_eqU hr.units) (pe_lc (own := [("_law_at_here", 7)]) (g := (gName 7)) (tt := (tTest (tOp (oNe K) (tOp (rIx K) (tVar 3) (tVar 7)) (tOp (rIx K) (tVar 3) (tOp oAdd (tVar 7) (tVar 1)))))) (by rfl) sc_law_repeats.nd (pi_range1 rfl T.b_range (pa_cons (pe_op op_subU (pe_callB call_lenE (by rfl) T.b_len PySem.boot_len (pa_cons (pv 3) pa_nil)) (pv 1)) pa_nil)) (blkOk_by (own := [("_law_at_here", 7)]) (N := ["_law_pair", "_law_less", "_law_begun", "_law_steps", "_law_n", "_law_low", "_law_high", "_law_at_here"]) (sc := defScope s_law_repeats) (by decide +kernel)) (fun _ _ _ _ _ => (pg_name (i := 7) sc_law_repeats.nd rfl (Or.inl rfl))) (fun _ _ _ _ _ => (pts_one (pt_cmpR (op_neU hr.units) (pe_ix ix_seq (pv 3) (pv 7) (fun _ _ => rfl)) (pe_ix ix_seq (pv 3) (pe_op op_addU (pv 7) (pv 1)) (fun _ _ => rfl)) (nomark _)))) (fun _ _ _ _ _ => (pv 7))) (pe_lst pa_nil) (nomark _))))))
theorem ok_law_is_normal {P : Program} {w : World} {K : PySem.W.Frag} {mg : Str → Option Value} {base : Heap} {A : Ad} (T : Txt K mg A)
    (G_law_repeats : FnG P w K mg base CX0 3 A.f_law_repeats A.d_law_repeats ["_law_pair", "_law_less"] (sp_law_repeats K A)) :
    FnG P w K mg base CX0 5 A.f_law_is_normal A.d_law_is_normal ["_law_told_here", "_law_gains"] (sp_law_is_normal K A) := by
  refine okG T.F_law_is_normal sc_law_is_normal (fun vs H Q E h => ?_) (fun cdv A' outer s H vs Q E hr hG h => ⟨(t_law_is_normal_0 K A), ?_, pure_law_is_normal h⟩)
  · unfold sp_law_is_normal at h
    try unfold spPenL at h
    try unfold spDrawL at h
    try unfold spLawT at h
    try unfold sp_times at h
    split at h <;> first | rfl | exact h.elim
  · exact (pss_cons (ps_asg (pe_tup (pa_cons (pe_callB call_lenE (by rfl) T.b_len PySem.boot_len (pa_cons (pv 0) pa_nil)) (pa_cons (pe_callB call_lenE (by rfl) T.b_len PySem.boot_len (pa_cons (pv 1) pa_nil)) (pa_cons (pe_tup (pa_cons (pe_callTy call_listE (by rfl) T.b_list (by decide +kernel) (pa_cons (pv 0) pa_nil)) (pa_cons (pe_callTy call_listE (by rfl) T.b_list (by decide +kernel) (pa_cons (pv 1) pa_nil)) pa_nil))) pa_nil)))) (pg_tup rfl (pgs_cons (pg_name (i := 2) sc_law_is_normal.nd rfl (Or.inl rfl)) (pgs_cons (pg_name (i := 3) sc_law_is_normal.nd rfl (Or.inr rfl)) (pgs_cons (pg_name (i := 4) sc_law_is_normal.nd rfl (Or.inr rfl)) pgs_nil)))))
    (pss_cons (ps_if (pt_cmpR op_ltU (pv 2) (pv 3) (nomark _)) (pss_one (ps_ret pe_bl)) pss_nil)
    (pss_cons (ps_for never0 rfl (pi_range2 rfl T.b_range (pa_cons (pe_op op_subU (pv 2) (pv 3)) (pa_cons (pv 2) pa_nil))) (pg_name (i := 5) sc_law_is_normal.nd rfl (Or.inl rfl))
    (pss_one (ps_if (PW.pt (pw_and (pt_cmpR op_isU (pe_ix ix_seq (pv 0) (pv 5) (fun _ _ => rfl)) pe_non (nomark _)) (pw_and1 (pt_cmpR (op_neU hr.units) (pe_ix ix_seq (pv 1) (pe_op op_modU (pe_callTy call_intU (by rfl) T.b_int (by decide +kernel) (pa_cons (pv 5) pa_nil)) (pv 3)) (fun _ _ => rfl)) pe_int (nomark _))))) (pss_one (ps_ret pe_bl)) pss_nil)))
    (pss_cons (ps_if (pt_cmpR op_gtU (pv 2) (pv 3) (nomark _)) (pss_cons (ps_par (i := 6) (j := 7) rfl sc_law_is_normal.nd rfl rfl (by decide) rfl rfl (pa_cons (pe_ix ix_seq (pv 0) (pe_op op_subU (pe_op op_subU (pv 2) pe_int) (pv 3)) (fun _ _ => rfl)) (pa_cons (pe_ix ix_seq (pv 0) (pe_op op_subU (pv 2) pe_int) (fun _ _ => rfl)) pa_nil)) rfl)
    (pss_cons (ps_if (PW.pt (pw_and (pt_cmpR op_isU (pv 6) pe_non (nomark _)) (pw_and1 (pt_cmpR op_isU (pv 7) pe_non (nomark _))))) (pss_one (ps_ret pe_bl)) pss_nil)
    (pss_one (ps_if (PW.pt (pw_and (pt_cmpR op_isNotU (pv 6) pe_non (nomark _)) (pw_and (pt_cmpR op_isNotU (pv 7) pe_non (nomark _)) (pw_and1 (pt_cmpR (op_eqU hr.units) (pe_op op_subU (pv 7) (pv 6)) (pe_ix ix_seq (pv 1) (pe_op op_modU (pe_callTy call_intU (by rfl) T.b_int (by decide +kernel) (pa_cons (pe_op op_subU (pv 2) pe_int) pa_nil)) (pv 3)) (fun _ _ => rfl)) (nomark _)))))) (pss_one (ps_ret pe_bl)) pss_nil)))) pss_nil)
    (pss_one (ps_ret (pe_cmpR (op_eqU hr.units) (pe_lc (own := [("_law_less", 8)]) (g := (gName 8)) (tt := (tAnd (tTest (tOp (oEq K) (tOp oMod (tCB cInt (tCons (tVar 3) tNil)) (tVar 8)) (tC (.int 0)))) (tB (tCall (sp_law_repeats K A) [] E0 (tCons (tVar 4) (tCons (tVar 8) tNil)))))) (by rfl) sc_law_is_normal.nd (pi_range2 rfl T.b_range (pa_cons pe_int (pa_cons (pv 3) pa_nil))) (blkOk_by (own := [("_law_less", 8)]) (N := ["_law_told_here", "_law_gains", "_law_many", "_law_period", "_law_pair", "_law_n", "_law_before", "_law_last", "_law_less"]) (sc := defScope s_law_is_normal) (by decide +kernel)) (fun _ _ _ _ _ => (pg_name (i := 8) sc_law_is_normal.nd rfl (Or.inl rfl))) (fun _ _ _ _ _ => (pts_one (PW.pt (pw_and (pt_cmpR (op_eqU hr.units) (pe_op op_modU (pe_callTy call_intU (by rfl) T.b_int (by decide +kernel) (pa_cons (pv 3) pa_nil)) (pv 8)) pe_int (nomark _)) (pw_and1 (pt_val (pe_callG G_law_repeats (hr.mono (by decide)) hG rfl T.g_law_repeats T.F_law_repeats.kp T.B_law_repeats .nil pass0 (pa_cons (pv 4) (pa_cons (pv 8) pa_nil))))))))) (fun _ _ _ _ _ => (pv 8))) (pe_lst pa_nil) (nomark _))))))))
theorem ok_law_same {P : Program} {w : World} {K : PySem.W.Frag} {mg : Str → Option Value} {base : Heap} {A : Ad} {lam : Lams} (T : Txt K mg A) (hL : LamsOk P w K mg base CX0 16 lam)
    (G_Growth_getitem : FnG P w K mg base CX0 5 A.f_Growth_getitem A.d_Growth_getitem ["self", "n"] (sp_Growth_getitem K A))
    (G_law_is_normal : FnG P w K mg base CX0 5 A.f_law_is_normal A.d_law_is_normal ["_law_told_here", "_law_gains"] (sp_law_is_normal K A)) :
    FnG P w K mg base CX0 18 A.f_law_same A.d_law_same ["_law_growth", "_law_due", "_law_some_here"] (sp_law_same K A lam) := by
  refine okG T.F_law_same sc_law_same (fun vs H Q E h => ?_) (fun cdv A' outer s H vs Q E hr hG h => ⟨(t_law_same_0 K A lam), ?_, pure_law_same T.kf h⟩)
  · unfold sp_law_same at h
    try unfold spPenL at h
    try unfold spDrawL at h
    try unfold spLawT at h
    try unfold sp_times at h
    split at h <;> first | rfl | exact h.elim
  · exact (pss_cons (ps_if (PW.pt (pw_or (pt_not (pt_val (pe_callB call_isiU (by rfl) T.b_isinstance (by decide +kernel) (pa_cons (pv 0) (pa_cons (pe_glob rfl T.g_Growth rfl) pa_nil))))) (pw_or (pt_not (pt_val (pe_callB call_isiU (by rfl) T.b_isinstance (by decide +kernel) (pa_cons (pe_fld (pv 0) rfl) (pa_cons (pe_bltn rfl T.b_tuple (by decide +kernel) rfl) pa_nil))))) (pw_or1 (pt_not (pt_val (pe_callB call_isiU (by rfl) T.b_isinstance (by decide +kernel) (pa_cons (pe_fld (pv 0) rfl) (pa_cons (pe_bltn rfl T.b_tuple (by decide +kernel) rfl) pa_nil))))))))) (pss_one (ps_ret pe_bl)) pss_nil)
    (pss_cons (ps_if (pt_not (pt_val (pe_callG G_law_is_normal (hr.mono (by decide)) hG rfl T.g_law_is_normal T.F_law_is_normal.kp T.B_law_is_normal .nil pass0 (pa_cons (pe_fld (pv 0) rfl) (pa_cons (pe_fld (pv 0) rfl) pa_nil))))) (pss_one (ps_ret pe_bl)) pss_nil)
    (pss_one (ps_ret (pe_cmpR (op_eqU hr.units) (pe_lc (own := [("_law_n", 3)]) (g := (gName 3)) (tt := (tTest (tOp (oNe K) (tCB (cReprN K) (tCons (tOp (rIxO A.c_Growth (sp_Growth_getitem K A)) (tVar 0) (tVar 3)) tNil)) (tCB (cReprN K) (tCons (tCallV lam 1 E0 (tCons (tVar 3) tNil)) tNil))))) (by rfl) sc_law_same.nd (pi_seq (pv 2)) (blkOk_by (own := [("_law_n", 3)]) (N := ["_law_growth", "_law_due", "_law_some_here", "_law_n"]) (sc := defScope s_law_same) (by decide +kernel)) (fun _ _ _ _ _ => (pg_name (i := 3) sc_law_same.nd rfl (Or.inl rfl))) (fun _ _ _ _ _ => (pts_one (pt_cmpR (op_neU hr.units) (pe_callB (call_reprN hG hr.units) (by rfl) T.b_repr (by decide +kernel) (pa_cons (pe_ixO T.x_Growth (own1G G_Growth_getitem (hr.mono (by decide)) hG T.B_Growth_getitem pass0) (pv 0) (pv 3) (fun _ _ => by with_unfolding_all rfl)) pa_nil)) (pe_callB (call_reprN hG hr.units) (by rfl) T.b_repr (by decide +kernel) (pa_cons (pe_callV (i := 1) hL (hr.mono (by decide)) hG pass0 rfl (by first | exact .inl rfl | exact .inr (.inl rfl) | exact .inr (.inr rfl)) (pa_cons (pv 3) pa_nil)) pa_nil)) (nomark _)))) (fun _ _ _ _ _ => (pv 3))) (pe_lst pa_nil) (nomark _))))))
theorem ok_law_sum {P : Program} {w : World} {K : PySem.W.Frag} {mg : Str → Option Value} {base : Heap} {A : Ad} (T : Txt K mg A)
    (G_law_at : FnG P w K mg base CX0 1 A.f_law_at A.d_law_at ["_law_pair", "_law_n"] (sp_law_at K A)) :
    FnG P w K mg base CX0 3 A.f_law_sum A.d_law_sum ["_law_one", "_law_other", "_law_sign", "_law_n"] (sp_law_sum K A) := by
  refine okG T.F_law_sum sc_law_sum (fun vs H Q E h => ?_) (fun cdv A' outer s H vs Q E hr hG h => ⟨(t_law_sum_0 K A), ?_, pure_law_sum h⟩)
  · unfold sp_law_sum at h
    try unfold spPenL at h
    try unfold spDrawL at h
    try unfold spLawT at h
    try unfold sp_times at h
    split at h <;> first | rfl | exact h.elim
  · exact (pss_cons (ps_par (i := 4) (j := 5) rfl sc_law_sum.nd rfl rfl (by decide) rfl rfl (pa_cons (pe_callG G_law_at (hr.mono (by decide)) hG rfl T.g_law_at T.F_law_at.kp T.B_law_at .nil pass0 (pa_cons (pv 0) (pa_cons (pv 3) pa_nil))) (pa_cons (pe_callG G_law_at (hr.mono (by decide)) hG rfl T.g_law_at T.F_law_at.kp T.B_law_at .nil pass0 (pa_cons (pv 1) (pa_cons (pv 3) pa_nil))) pa_nil)) rfl)
    (pss_one (ps_ret (pe_ifExp (PW.pt (pw_or (pt_cmpR op_isU (pv 4) pe_non (nomark _)) (pw_or1 (pt_cmpR op_isU (pv 5) pe_non (nomark _))))) pe_non (pe_op op_addU (pv 4) (pe_op op_mulU (pv 2) (pv 5)))))))
theorem ok_law_lift {P : Program} {w : World} {K : PySem.W.Frag} {mg : Str → Option Value} {base : Heap} {A : Ad} (T : Txt K mg A)
    (G_law_at : FnG P w K mg base CX0 1 A.f_law_at A.d_law_at ["_law_pair", "_law_n"] (sp_law_at K A)) :
    FnG P w K mg base CX0 3 A.f_law_lift A.d_law_lift ["_law_pair", "_law_times", "_law_more", "_law_n"] (sp_law_lift K A) := by
  refine okG T.F_law_lift sc_law_lift (fun vs H Q E h => ?_) (fun cdv A' outer s H vs Q E hr hG h => ⟨(t_law_lift_0 K A), ?_, pure_law_lift h⟩)
  · unfold sp_law_lift at h
    try unfold spPenL at h
    try unfold spDrawL at h
    try unfold spLawT at h
    try unfold sp_times at h
    split at h <;> first | rfl | exact h.elim
  · exact (pss_cons (ps_set (i := 4) sc_law_lift.nd rfl (Or.inl rfl) (pe_callG G_law_at (hr.mono (by decide)) hG rfl T.g_law_at T.F_law_at.kp T.B_law_at .nil pass0 (pa_cons (pv 0) (pa_cons (pv 3) pa_nil))))
    (pss_one (ps_ret (pe_ifExp (pt_cmpR op_isU (pv 4) pe_non (nomark _)) pe_non (pe_op op_addU (pe_op op_mulU (pv 1) (pv 4)) (pv 2))))))
theorem ok_law_pair_right {P : Program} {w : World} {K : PySem.W.Frag} {mg : Str → Option Value} {base : Heap} {A : Ad} (T : Txt K mg A) (TB_law_pair_right : LamX.TabB base mg A.cc_law_pair_right A.P_law_pair_right)
    (G_Growth_init : FnG P w K mg base CX0 9 A.f_Growth_init A.d_Growth_init ["self", "told", "gains"] (sp_Growth_init K A))
    (G_Growth_add : FnG P w K mg base CX0 13 A.f_Growth_add A.d_Growth_add ["self", "other"] (sp_Growth_add K A))
    (G_Growth_sub : FnG P w K mg base CX0 13 A.f_Growth_sub A.d_Growth_sub ["self", "other"] (sp_Growth_sub K A))
    (G_Growth_eq : FnG P w K mg base CX0 1 A.f_Growth_eq A.d_Growth_eq ["self", "other"] (sp_Growth_eq K A))
    (G_law_at : FnG P w K mg base CX0 1 A.f_law_at A.d_law_at ["_law_pair", "_law_n"] (sp_law_at K A))
    (G_law_some : FnG P w K mg base CX0 1 A.f_law_some A.d_law_some ["_law_pair"] (sp_law_some K A))
    (GL_law_same : ∀ (base' : Heap) (L' : Lams), LamsOk P w K mg base' CX0 16 L' → FnG P w K mg base' CX0 18 A.f_law_same A.d_law_same ["_law_growth", "_law_due", "_law_some_here"] (sp_law_same K A L'))
    (G_law_sum : FnG P w K mg base CX0 3 A.f_law_sum A.d_law_sum ["_law_one", "_law_other", "_law_sign", "_law_n"] (sp_law_sum K A))
    (Gb_law_at : ∀ base' : Heap, FnG P w K mg base' CX0 1 A.f_law_at A.d_law_at ["_law_pair", "_law_n"] (sp_law_at K A))
    (Gb_law_sum : ∀ base' : Heap, FnG P w K mg base' CX0 3 A.f_law_sum A.d_law_sum ["_law_one", "_law_other", "_law_sign", "_law_n"] (sp_law_sum K A)) :
    FnG P w K mg base CX0 20 A.f_law_pair_right A.d_law_pair_right ["_law_one", "_law_other"] (sp_law_pair_right K A) := by
  refine okGc T.F_law_pair_right sc_law_pair_right (fun vs H Q E h => ?_) (fun cdv hcv A' outer s H vs Q E hr hG h => ⟨(t_law_pair_right_0 K A), ?_, pure_law_pair_right T.kf h⟩)
  · unfold sp_law_pair_right at h
    try unfold spPenL at h
    try unfold spDrawL at h
    try unfold spLawT at h
    try unfold sp_times at h
    split at h <;> first | rfl | exact h.elim
  · have hcode_law_pair_right : cdv = .ref A.cc_law_pair_right := hcv.symm.trans T.code_law_pair_right
    exact (pss_cons (ps_par (i := 2) (j := 3) rfl sc_law_pair_right.nd rfl rfl (by decide) rfl rfl (pa_cons (pe_makeG T.M_Growth G_Growth_init (hr.mono (by decide)) hG rfl T.g_Growth T.B_Growth_init .nil pass0 (pa_cons (pe_ix ix_seq (pv 0) pe_int (fun _ _ => rfl)) (pa_cons (pe_ix ix_seq (pv 0) pe_int (fun _ _ => rfl)) pa_nil))) (pa_cons (pe_makeG T.M_Growth G_Growth_init (hr.mono (by decide)) hG rfl T.g_Growth T.B_Growth_init .nil pass0 (pa_cons (pe_ix ix_seq (pv 1) pe_int (fun _ _ => rfl)) (pa_cons (pe_ix ix_seq (pv 1) pe_int (fun _ _ => rfl)) pa_nil))) pa_nil)) rfl)
    (pss_cons (ps_set (i := 4) sc_law_pair_right.nd rfl (Or.inl rfl) (pe_op (op_onIns (op_binL T.o_Growth_add (ownG G_Growth_add (hr.mono (by decide)) hG T.B_Growth_add pass0)) op_addU) (pe_callG G_law_some (hr.mono (by decide)) hG rfl T.g_law_some T.F_law_some.kp T.B_law_some .nil pass0 (pa_cons (pv 0) pa_nil)) (pe_callG G_law_some (hr.mono (by decide)) hG rfl T.g_law_some T.F_law_some.kp T.B_law_some .nil pass0 (pa_cons (pv 1) pa_nil))))
    (pss_cons (ps_if (pt_not (pt_val (pe_lam3 (i := 6) (T := tabs A) (q := "_law_pair_right.<locals>.<lambda>") (tb := fun _ => (tCall (sp_law_sum K A) [] E0 (tCons (tVar 0) (tCons (tVar 1) (tCons (tC (.int 1)) (tCons (tVar 6) tNil)))))) rfl T.g_law_same T.F_law_same.kp T.B_law_same GL_law_same (hr.mono (by decide)) hG pass0 TB_law_pair_right hcode_law_pair_right tabs_m_law_pair_right (tabs_u_law_pair_right T) (by show (("_law_pair_right" : Str) ++ ".<locals>.") ++ "<lambda>" = _; decide +kernel) (fun _ => rfl) ⟨rfl, rfl⟩ sc_law_pair_right.nd rfl (lamP_by (by show lamPB (defScope s_law_pair_right) _ _ = true; decide +kernel)) rfl (fun _ _ _ _ _ _ => rfl) (fun base' A' outer' s1 HZ E' f' c' hr hG => (pe_callG (Gb_law_sum _) (hr.mono (by decide)) hG rfl T.g_law_sum T.F_law_sum.kp T.B_law_sum .nil pass0 (pa_cons (pv 0) (pa_cons (pv 1) (pa_cons pe_int (pa_cons (pv 6) pa_nil)))))) (pe_op (op_onIns (op_binL T.o_Growth_add (ownG G_Growth_add (hr.mono (by decide)) hG T.B_Growth_add pass0)) op_addU) (pv 2) (pv 3)) (pv 4)))) (pss_one (ps_ret pe_bl)) pss_nil)
    (pss_cons (ps_if (pt_not (pt_val (pe_lam3 (i := 6) (T := tabs A) (q := "_law_pair_right.<locals>.<lambda>") (tb := fun _ => (tCall (sp_law_sum K A) [] E0 (tCons (tVar 0) (tCons (tVar 1) (tCons (tUn uNeg (tC (.int 1))) (tCons (tVar 6) tNil)))))) rfl T.g_law_same T.F_law_same.kp T.B_law_same GL_law_same (hr.mono (by decide)) hG pass0 TB_law_pair_right hcode_law_pair_right tabs_m_law_pair_right (tabs_u_law_pair_right T) (by show (("_law_pair_right" : Str) ++ ".<locals>.") ++ "<lambda>" = _; decide +kernel) (fun _ => rfl) ⟨rfl, rfl⟩ sc_law_pair_right.nd rfl (lamP_by (by show lamPB (defScope s_law_pair_right) _ _ = true; decide +kernel)) rfl (fun _ _ _ _ _ _ => rfl) (fun base' A' outer' s1 HZ E' f' c' hr hG => (pe_callG (Gb_law_sum _) (hr.mono (by decide)) hG rfl T.g_law_sum T.F_law_sum.kp T.B_law_sum .nil pass0 (pa_cons (pv 0) (pa_cons (pv 1) (pa_cons (pe_un un_negU pe_int) (pa_cons (pv 6) pa_nil)))))) (pe_op (op_onIns (op_binL T.o_Growth_sub (ownG G_Growth_sub (hr.mono (by decide)) hG T.B_Growth_sub pass0)) op_subU) (pv 2) (pv 3)) (pv 4)))) (pss_one (ps_ret pe_bl)) pss_nil)
    (pss_cons (ps_set (i := 5) sc_law_pair_right.nd rfl (Or.inl rfl) (pv 2))
    (pss_cons (ps_aug (i := 5) sc_law_pair_right.nd rfl (Or.inl rfl) (pv 3) (pip_of (op_inpB T.i_Growth_add T.o_Growth_add (ownG G_Growth_add (hr.mono (by decide)) hG T.B_Growth_add pass0))))
    (pss_cons (ps_if (PW.pt (pw_or (pt_cmpR (op_onIns (op_neO T.n_Growth (own1G G_Growth_eq (hr.mono (by decide)) hG T.B_Growth_eq pass0) hr.units1) (op_neU hr.units)) (pv 5) (pe_op (op_onIns (op_binL T.o_Growth_add (ownG G_Growth_add (hr.mono (by decide)) hG T.B_Growth_add pass0)) op_addU) (pv 2) (pv 3)) (nomark _)) (pw_or1 (pt_not (pt_val (pe_lam3 (i := 6) (T := tabs A) (q := "_law_pair_right.<locals>.<lambda>") (tb := fun _ => (tCall (sp_law_at K A) [] E0 (tCons (tVar 0) (tCons (tVar 6) tNil)))) rfl T.g_law_same T.F_law_same.kp T.B_law_same GL_law_same (hr.mono (by decide)) hG pass0 TB_law_pair_right hcode_law_pair_right tabs_m_law_pair_right (tabs_u_law_pair_right T) (by show (("_law_pair_right" : Str) ++ ".<locals>.") ++ "<lambda>" = _; decide +kernel) (fun _ => rfl) ⟨rfl, rfl⟩ sc_law_pair_right.nd rfl (lamP_by (by show lamPB (defScope s_law_pair_right) _ _ = true; decide +kernel)) rfl (fun _ _ _ _ _ _ => rfl) (fun base' A' outer' s1 HZ E' f' c' hr hG => (pe_callG (Gb_law_at _) (hr.mono (by decide)) hG rfl T.g_law_at T.F_law_at.kp T.B_law_at .nil pass0 (pa_cons (pv 0) (pa_cons (pv 6) pa_nil)))) (pv 2) (pv 4))))))) (pss_one (ps_ret pe_bl)) pss_nil)
    (pss_cons (ps_aug (i := 5) sc_law_pair_right.nd rfl (Or.inl rfl) (pv 3) (pip_of (op_inpB T.i_Growth_sub T.o_Growth_sub (ownG G_Growth_sub (hr.mono (by decide)) hG T.B_Growth_sub pass0))))
    (pss_cons (ps_aug (i := 5) sc_law_pair_right.nd rfl (Or.inl rfl) (pv 3) (pip_of (op_inpB T.i_Growth_sub T.o_Growth_sub (ownG G_Growth_sub (hr.mono (by decide)) hG T.B_Growth_sub pass0))))
    (pss_cons (ps_if (pt_cmpR (op_onIns (op_neO T.n_Growth (own1G G_Growth_eq (hr.mono (by decide)) hG T.B_Growth_eq pass0) hr.units1) (op_neU hr.units)) (pv 5) (pe_op (op_onIns (op_binL T.o_Growth_sub (ownG G_Growth_sub (hr.mono (by decide)) hG T.B_Growth_sub pass0)) op_subU) (pv 2) (pv 3)) (nomark _)) (pss_one (ps_ret pe_bl)) pss_nil)
    (pss_one (ps_ret (pe_lam3 (i := 6) (T := tabs A) (q := "_law_pair_right.<locals>.<lambda>") (tb := fun _ => (tCall (sp_law_at K A) [] E0 (tCons (tVar 1) (tCons (tVar 6) tNil)))) rfl T.g_law_same T.F_law_same.kp T.B_law_same GL_law_same (hr.mono (by decide)) hG pass0 TB_law_pair_right hcode_law_pair_right tabs_m_law_pair_right (tabs_u_law_pair_right T) (by show (("_law_pair_right" : Str) ++ ".<locals>.") ++ "<lambda>" = _; decide +kernel) (fun _ => rfl) ⟨rfl, rfl⟩ sc_law_pair_right.nd rfl (lamP_by (by show lamPB (defScope s_law_pair_right) _ _ = true; decide +kernel)) rfl (fun _ _ _ _ _ _ => rfl) (fun base' A' outer' s1 HZ E' f' c' hr hG => (pe_callG (Gb_law_at _) (hr.mono (by decide)) hG rfl T.g_law_at T.F_law_at.kp T.B_law_at .nil pass0 (pa_cons (pv 1) (pa_cons (pv 6) pa_nil)))) (pv 3) (pv 4))))))))))))))
theorem ok_law_number_right {P : Program} {w : World} {K : PySem.W.Frag} {mg : Str → Option Value} {base : Heap} {A : Ad} (T : Txt K mg A) (TB_law_number_right : LamX.TabB base mg A.cc_law_number_right A.P_law_number_right)
    (G_Growth_init : FnG P w K mg base CX0 9 A.f_Growth_init A.d_Growth_init ["self", "told", "gains"] (sp_Growth_init K A))
    (G_Growth_add : FnG P w K mg base CX0 13 A.f_Growth_add A.d_Growth_add ["self", "other"] (sp_Growth_add K A))
    (G_Growth_radd : FnG P w K mg base CX0 13 A.f_Growth_radd A.d_Growth_radd ["self", "other"] (sp_Growth_radd K A))
    (G_Growth_sub : FnG P w K mg base CX0 13 A.f_Growth_sub A.d_Growth_sub ["self", "other"] (sp_Growth_sub K A))
    (G_Growth_rsub : FnG P w K mg base CX0 13 A.f_Growth_rsub A.d_Growth_rsub ["self", "other"] (sp_Growth_rsub K A))
    (G_Growth_neg : FnG P w K mg base CX0 13 A.f_Growth_neg A.d_Growth_neg ["self"] (sp_Growth_neg K A))
    (G_Growth_mul : FnG P w K mg base CX0 13 A.f_Growth_mul A.d_Growth_mul ["self", "number"] (sp_Growth_mul K A))
    (G_Growth_rmul : FnG P w K mg base CX0 13 A.f_Growth_rmul A.d_Growth_rmul ["self", "number"] (sp_Growth_rmul K A))
    (G_Growth_eq : FnG P w K mg base CX0 1 A.f_Growth_eq A.d_Growth_eq ["self", "other"] (sp_Growth_eq K A))
    (G_law_draw : FnG P w K mg base CX0 1 A.f_law_draw A.d_law_draw ["_law_pen_here", "_law_many"] (sp_law_draw K A))
    (G_law_at : FnG P w K mg base CX0 1 A.f_law_at A.d_law_at ["_law_pair", "_law_n"] (sp_law_at K A))
    (G_law_some : FnG P w K mg base CX0 1 A.f_law_some A.d_law_some ["_law_pair"] (sp_law_some K A))
    (GL_law_same : ∀ (base' : Heap) (L' : Lams), LamsOk P w K mg base' CX0 16 L' → FnG P w K mg base' CX0 18 A.f_law_same A.d_law_same ["_law_growth", "_law_due", "_law_some_here"] (sp_law_same K A L'))
    (G_law_lift : FnG P w K mg base CX0 3 A.f_law_lift A.d_law_lift ["_law_pair", "_law_times", "_law_more", "_law_n"] (sp_law_lift K A))
    (Gb_Growth_neg : ∀ base' : Heap, FnG P w K mg base' CX0 13 A.f_Growth_neg A.d_Growth_neg ["self"] (sp_Growth_neg K A))
    (Gb_law_at : ∀ base' : Heap, FnG P w K mg base' CX0 1 A.f_law_at A.d_law_at ["_law_pair", "_law_n"] (sp_law_at K A))
    (Gb_law_lift : ∀ base' : Heap, FnG P w K mg base' CX0 3 A.f_law_lift A.d_law_lift ["_law_pair", "_law_times", "_law_more", "_law_n"] (sp_law_lift K A)) :
    FnG P w K mg base CX0 20 A.f_law_number_right A.d_law_number_right ["_law_pen_here", "_law_pair"] (sp_law_number_right K A) := by
  refine okGc T.F_law_number_right sc_law_number_right (fun vs H Q E h => ?_) (fun cdv hcv A' outer s H vs Q E hr hG h => ⟨(t_law_number_right_0 K A), ?_, pure_law_number_right T.kf h⟩)
  · unfold sp_law_number_right at h
    try unfold spPenL at h
    try unfold spDrawL at h
    try unfold spLawT at h
    try unfold sp_times at h
    split at h <;> first | rfl | exact h.elim
  · have hcode_law_number_right : cdv = .ref A.cc_law_number_right := hcv.symm.trans T.code_law_number_right
    exact (pss_cons (ps_asg (pe_tup (pa_cons (pe_makeG T.M_Growth G_Growth_init (hr.mono (by decide)) hG rfl T.g_Growth T.B_Growth_init .nil pass0 (pa_cons (pe_ix ix_seq (pv 1) pe_int (fun _ _ => rfl)) (pa_cons (pe_ix ix_seq (pv 1) pe_int (fun _ _ => rfl)) pa_nil))) (pa_cons (pe_op (op_onIns (op_binL T.o_Growth_sub (ownG G_Growth_sub (hr.mono (by decide)) hG T.B_Growth_sub pass0)) (op_onInsR (op_binR T.r_Growth_rsub (ownG G_Growth_rsub (hr.mono (by decide)) hG T.B_Growth_rsub pass0) (fun s y dx i t h Q q => dec_sub h Q q)) op_subU)) (pe_callG G_law_draw (hr.mono (by decide)) hG rfl T.g_law_draw T.F_law_draw.kp T.B_law_draw .nil pass0 (pa_cons (pv 0) (pa_cons pe_int pa_nil))) pe_int) (pa_cons (pe_callG G_law_some (hr.mono (by decide)) hG rfl T.g_law_some T.F_law_some.kp T.B_law_some .nil pass0 (pa_cons (pv 1) pa_nil)) pa_nil)))) (pg_tup rfl (pgs_cons (pg_name (i := 2) sc_law_number_right.nd rfl (Or.inl rfl)) (pgs_cons (pg_name (i := 3) sc_law_number_right.nd rfl (Or.inr rfl)) (pgs_cons (pg_name (i := 4) sc_law_number_right.nd rfl (Or.inl rfl)) pgs_nil)))))
    (pss_cons (ps_if (PW.pt (pw_or (pt_not (pt_val (pe_lam3 (i := 6) (T := tabs A) (q := "_law_number_right.<locals>.<lambda>") (tb := fun _ => (tCall (sp_law_lift K A) [] E0 (tCons (tVar 1) (tCons (tC (.int 1)) (tCons (tVar 3) (tCons (tVar 6) tNil)))))) rfl T.g_law_same T.F_law_same.kp T.B_law_same GL_law_same (hr.mono (by decide)) hG pass0 TB_law_number_right hcode_law_number_right tabs_m_law_number_right (tabs_u_law_number_right T) (by show (("_law_number_right" : Str) ++ ".<locals>.") ++ "<lambda>" = _; decide +kernel) (fun _ => rfl) ⟨rfl, rfl⟩ sc_law_number_right.nd rfl (lamP_by (by show lamPB (defScope s_law_number_right) _ _ = true; decide +kernel)) rfl (fun _ _ _ _ _ _ => rfl) (fun base' A' outer' s1 HZ E' f' c' hr hG => (pe_callG (Gb_law_lift _) (hr.mono (by decide)) hG rfl T.g_law_lift T.F_law_lift.kp T.B_law_lift .nil pass0 (pa_cons (pv 1) (pa_cons pe_int (pa_cons (pv 3) (pa_cons (pv 6) pa_nil)))))) (pe_op (op_onIns (op_binL T.o_Growth_add (ownG G_Growth_add (hr.mono (by decide)) hG T.B_Growth_add pass0)) (op_onInsR (op_binR T.r_Growth_radd (ownG G_Growth_radd (hr.mono (by decide)) hG T.B_Growth_radd pass0) (fun s y dx i t h Q q => dec_add h Q q)) op_addU)) (pv 2) (pv 3)) (pv 4)))) (pw_or1 (pt_cmpR (op_onIns (op_neO T.n_Growth (own1G G_Growth_eq (hr.mono (by decide)) hG T.B_Growth_eq pass0) hr.units1) (op_neU hr.units)) (pe_op (op_onIns (op_binL T.o_Growth_add (ownG G_Growth_add (hr.mono (by decide)) hG T.B_Growth_add pass0)) (op_onInsR (op_binR T.r_Growth_radd (ownG G_Growth_radd (hr.mono (by decide)) hG T.B_Growth_radd pass0) (fun s y dx i t h Q q => dec_add h Q q)) op_addU)) (pv 3) (pv 2)) (pe_op (op_onIns (op_binL T.o_Growth_add (ownG G_Growth_add (hr.mono (by decide)) hG T.B_Growth_add pass0)) (op_onInsR (op_binR T.r_Growth_radd (ownG G_Growth_radd (hr.mono (by decide)) hG T.B_Growth_radd pass0) (fun s y dx i t h Q q => dec_add h Q q)) op_addU)) (pv 2) (pv 3)) (nomark _))))) (pss_one (ps_ret pe_bl)) pss_nil)
    (pss_cons (ps_if (PW.pt (pw_or (pt_not (pt_val (pe_lam3 (i := 6) (T := tabs A) (q := "_law_number_right.<locals>.<lambda>") (tb := fun _ => (tCall (sp_law_lift K A) [] E0 (tCons (tVar 1) (tCons (tUn (uNegO A.c_Growth (sp_Growth_neg K A)) (tC (.int 1))) (tCons (tVar 3) (tCons (tVar 6) tNil)))))) rfl T.g_law_same T.F_law_same.kp T.B_law_same GL_law_same (hr.mono (by decide)) hG pass0 TB_law_number_right hcode_law_number_right tabs_m_law_number_right (tabs_u_law_number_right T) (by show (("_law_number_right" : Str) ++ ".<locals>.") ++ "<lambda>" = _; decide +kernel) (fun _ => rfl) ⟨rfl, rfl⟩ sc_law_number_right.nd rfl (lamP_by (by show lamPB (defScope s_law_number_right) _ _ = true; decide +kernel)) rfl (fun _ _ _ _ _ _ => rfl) (fun base' A' outer' s1 HZ E' f' c' hr hG => (pe_callG (Gb_law_lift _) (hr.mono (by decide)) hG rfl T.g_law_lift T.F_law_lift.kp T.B_law_lift .nil pass0 (pa_cons (pv 1) (pa_cons (pe_un (un_negO T.u_Growth_neg (ownG (Gb_Growth_neg _) (hr.mono (by decide)) hG T.B_Growth_neg pass0)) pe_int) (pa_cons (pv 3) (pa_cons (pv 6) pa_nil)))))) (pe_op (op_onIns (op_binL T.o_Growth_sub (ownG G_Growth_sub (hr.mono (by decide)) hG T.B_Growth_sub pass0)) (op_onInsR (op_binR T.r_Growth_rsub (ownG G_Growth_rsub (hr.mono (by decide)) hG T.B_Growth_rsub pass0) (fun s y dx i t h Q q => dec_sub h Q q)) op_subU)) (pv 3) (pv 2)) (pv 4)))) (pw_or1 (pt_cmpR (op_onIns (op_neO T.n_Growth (own1G G_Growth_eq (hr.mono (by decide)) hG T.B_Growth_eq pass0) hr.units1) (op_neU hr.units)) (pe_op (op_onIns (op_binL T.o_Growth_sub (ownG G_Growth_sub (hr.mono (by decide)) hG T.B_Growth_sub pass0)) (op_onInsR (op_binR T.r_Growth_rsub (ownG G_Growth_rsub (hr.mono (by decide)) hG T.B_Growth_rsub pass0) (fun s y dx i t h Q q => dec_sub h Q q)) op_subU)) (pv 2) (pv 3)) (pe_op (op_onIns (op_binL T.o_Growth_add (ownG G_Growth_add (hr.mono (by decide)) hG T.B_Growth_add pass0)) (op_onInsR (op_binR T.r_Growth_radd (ownG G_Growth_radd (hr.mono (by decide)) hG T.B_Growth_radd pass0) (fun s y dx i t h Q q => dec_add h Q q)) op_addU)) (pv 2) (pe_op (op_onIns (op_binL T.o_Growth_sub (ownG G_Growth_sub (hr.mono (by decide)) hG T.B_Growth_sub pass0)) (op_onInsR (op_binR T.r_Growth_rsub (ownG G_Growth_rsub (hr.mono (by decide)) hG T.B_Growth_rsub pass0) (fun s y dx i t h Q q => dec_sub h Q q)) op_subU)) pe_int (pv 3))) (nomark _))))) (pss_one (ps_ret pe_bl)) pss_nil)
    (pss_cons (ps_if (PW.pt (pw_or (pt_not (pt_val (pe_lam3 (i := 6) (T := tabs A) (q := "_law_number_right.<locals>.<lambda>") (tb := fun _ => (tCall (sp_law_lift K A) [] E0 (tCons (tVar 1) (tCons (tVar 3) (tCons (tC (.int 0)) (tCons (tVar 6) tNil)))))) rfl T.g_law_same T.F_law_same.kp T.B_law_same GL_law_same (hr.mono (by decide)) hG pass0 TB_law_number_right hcode_law_number_right tabs_m_law_number_right (tabs_u_law_number_right T) (by show (("_law_number_right" : Str) ++ ".<locals>.") ++ "<lambda>" = _; decide +kernel) (fun _ => rfl) ⟨rfl, rfl⟩ sc_law_number_right.nd rfl (lamP_by (by show lamPB (defScope s_law_number_right) _ _ = true; decide +kernel)) rfl (fun _ _ _ _ _ _ => rfl) (fun base' A' outer' s1 HZ E' f' c' hr hG => (pe_callG (Gb_law_lift _) (hr.mono (by decide)) hG rfl T.g_law_lift T.F_law_lift.kp T.B_law_lift .nil pass0 (pa_cons (pv 1) (pa_cons (pv 3) (pa_cons pe_int (pa_cons (pv 6) pa_nil)))))) (pe_op (op_onIns (op_binL T.o_Growth_mul (ownG G_Growth_mul (hr.mono (by decide)) hG T.B_Growth_mul pass0)) (op_onInsR (op_binR T.r_Growth_rmul (ownG G_Growth_rmul (hr.mono (by decide)) hG T.B_Growth_rmul pass0) (fun s y dx i t h Q q => dec_mul h Q q)) op_mulU)) (pv 2) (pv 3)) (pv 4)))) (pw_or1 (pt_cmpR (op_onIns (op_neO T.n_Growth (own1G G_Growth_eq (hr.mono (by decide)) hG T.B_Growth_eq pass0) hr.units1) (op_neU hr.units)) (pe_op (op_onIns (op_binL T.o_Growth_mul (ownG G_Growth_mul (hr.mono (by decide)) hG T.B_Growth_mul pass0)) (op_onInsR (op_binR T.r_Growth_rmul (ownG G_Growth_rmul (hr.mono (by decide)) hG T.B_Growth_rmul pass0) (fun s y dx i t h Q q => dec_mul h Q q)) op_mulU)) (pv 3) (pv 2)) (pe_op (op_onIns (op_binL T.o_Growth_mul (ownG G_Growth_mul (hr.mono (by decide)) hG T.B_Growth_mul pass0)) (op_onInsR (op_binR T.r_Growth_rmul (ownG G_Growth_rmul (hr.mono (by decide)) hG T.B_Growth_rmul pass0) (fun s y dx i t h Q q => dec_mul h Q q)) op_mulU)) (pv 2) (pv 3)) (nomark _))))) (pss_one (ps_ret pe_bl)) pss_nil)
    (pss_cons (ps_set (i := 5) sc_law_number_right.nd rfl (Or.inl rfl) (pv 2))
    (pss_cons (ps_aug (i := 5) sc_law_number_right.nd rfl (Or.inl rfl) (pv 3) (pip_of (op_inpB T.i_Growth_mul T.o_Growth_mul (ownG G_Growth_mul (hr.mono (by decide)) hG T.B_Growth_mul pass0))))
    (pss_cons (ps_aug (i := 5) sc_law_number_right.nd rfl (Or.inl rfl) pe_int (pip_of (op_inpB T.i_Growth_add T.o_Growth_add (ownG G_Growth_add (hr.mono (by decide)) hG T.B_Growth_add pass0))))
    (pss_one (ps_ret (pe_and (pe_cmpR (op_onIns (op_cmp T.q_Growth_eq (ownG G_Growth_eq (hr.mono (by decide)) hG T.B_Growth_eq pass0) hr.units0) (op_eqU hr.units)) (pv 5) (pe_op (op_onIns (op_binL T.o_Growth_add (ownG G_Growth_add (hr.mono (by decide)) hG T.B_Growth_add pass0)) (op_onInsR (op_binR T.r_Growth_radd (ownG G_Growth_radd (hr.mono (by decide)) hG T.B_Growth_radd pass0) (fun s y dx i t h Q q => dec_add h Q q)) op_addU)) (pe_op (op_onIns (op_binL T.o_Growth_mul (ownG G_Growth_mul (hr.mono (by decide)) hG T.B_Growth_mul pass0)) (op_onInsR (op_binR T.r_Growth_rmul (ownG G_Growth_rmul (hr.mono (by decide)) hG T.B_Growth_rmul pass0) (fun s y dx i t h Q q => dec_mul h Q q)) op_mulU)) (pv 3) (pv 2)) pe_int) (nomark _)) (pe_and (pe_cmpR (op_onIns (op_cmp T.q_Growth_eq (ownG G_Growth_eq (hr.mono (by decide)) hG T.B_Growth_eq pass0) hr.units0) (op_eqU hr.units)) (pe_un (un_negO T.u_Growth_neg (ownG G_Growth_neg (hr.mono (by decide)) hG T.B_Growth_neg pass0)) (pv 2)) (pe_op (op_onIns (op_binL T.o_Growth_mul (ownG G_Growth_mul (hr.mono (by decide)) hG T.B_Growth_mul pass0)) (op_onInsR (op_binR T.r_Growth_rmul (ownG G_Growth_rmul (hr.mono (by decide)) hG T.B_Growth_rmul pass0) (fun s y dx i t h Q q => dec_mul h Q q)) op_mulU)) (pv 2) (pe_un (un_negO T.u_Growth_neg (ownG G_Growth_neg (hr.mono (by decide)) hG T.B_Growth_neg pass0)) pe_int)) (nomark _)) (pe_one (pe_lam3 (i := 6) (T := tabs A) (q := "_law_number_right.<locals>.<lambda>") (tb := fun _ => (tCall (sp_law_at K A) [] E0 (tCons (tVar 1) (tCons (tVar 6) tNil)))) rfl T.g_law_same T.F_law_same.kp T.B_law_same GL_law_same (hr.mono (by decide)) hG pass0 TB_law_number_right hcode_law_number_right tabs_m_law_number_right (tabs_u_law_number_right T) (by show (("_law_number_right" : Str) ++ ".<locals>.") ++ "<lambda>" = _; decide +kernel) (fun _ => rfl) ⟨rfl, rfl⟩ sc_law_number_right.nd rfl (lamP_by (by show lamPB (defScope s_law_number_right) _ _ = true; decide +kernel)) rfl (fun _ _ _ _ _ _ => rfl) (fun base' A' outer' s1 HZ E' f' c' hr hG => (pe_callG (Gb_law_at _) (hr.mono (by decide)) hG rfl T.g_law_at T.F_law_at.kp T.B_law_at .nil pass0 (pa_cons (pv 1) (pa_cons (pv 6) pa_nil)))) (pv 2) (pv 4))))))))))))))
theorem ok_law {P : Program} {w : World} {K : PySem.W.Frag} {mg : Str → Option Value} {base : Heap} {A : Ad} (T : Txt K mg A)
    (G_Growth_init : FnG P w K mg base CX0 9 A.f_Growth_init A.d_Growth_init ["self", "told", "gains"] (sp_Growth_init K A))
    (G_Growth_getitem : FnG P w K mg base CX0 5 A.f_Growth_getitem A.d_Growth_getitem ["self", "n"] (sp_Growth_getitem K A))
    (G_Growth_add : FnG P w K mg base CX0 13 A.f_Growth_add A.d_Growth_add ["self", "other"] (sp_Growth_add K A))
    (G_Growth_sub : FnG P w K mg base CX0 13 A.f_Growth_sub A.d_Growth_sub ["self", "other"] (sp_Growth_sub K A))
    (G_Growth_stretch : FnG P w K mg base CX0 5 A.f_Growth_stretch A.d_Growth_stretch ["self", "a", "b"] (sp_Growth_stretch K A))
    (G_law_pen : FnG P w K mg base CX0 1 A.f_law_pen A.d_law_pen ["_law_script"] (sp_law_pen K A))
    (G_law_told : FnG P w K mg base CX0 3 A.f_law_told A.d_law_told ["_law_pen_here"] (sp_law_told K A))
    (G_law_pair_right : FnG P w K mg base CX0 20 A.f_law_pair_right A.d_law_pair_right ["_law_one", "_law_other"] (sp_law_pair_right K A))
    (G_law_number_right : FnG P w K mg base CX0 20 A.f_law_number_right A.d_law_number_right ["_law_pen_here", "_law_pair"] (sp_law_number_right K A)) :
    FnG P w K mg base CX0 22 A.f_law A.d_law ["_law_script"] (sp_law K A) := by
  refine okG T.F_law sc_law (fun vs H Q E h => ?_) (fun cdv A' outer s H vs Q E hr hG h => ⟨(t_law_0 K A), ?_, pure_law T.kf h⟩)
  · unfold sp_law at h
    try unfold spPenL at h
    try unfold spDrawL at h
    try unfold spLawT at h
    try unfold sp_times at h
    split at h <;> first | rfl | exact h.elim
  · exact (pss_cons (ps_set (i := 1) sc_law.nd rfl (Or.inl rfl) (pe_callG G_law_pen (hr.mono (by decide)) hG rfl T.g_law_pen T.F_law_pen.kp T.B_law_pen .nil pass0 (pa_cons (pv 0) pa_nil)))
    (pss_cons (ps_for never0 rfl (pi_range1 rfl T.b_range (pa_cons pe_int pa_nil)) (pg_name (i := 2) sc_law.nd rfl (Or.inl rfl))
    (pss_cons (ps_par (i := 3) (j := 4) rfl sc_law.nd rfl rfl (by decide) rfl rfl (pa_cons (pe_callG G_law_told (hr.mono (by decide)) hG rfl T.g_law_told T.F_law_told.kp T.B_law_told .nil pass0 (pa_cons (pv 1) pa_nil)) (pa_cons (pe_callG G_law_told (hr.mono (by decide)) hG rfl T.g_law_told T.F_law_told.kp T.B_law_told .nil pass0 (pa_cons (pv 1) pa_nil)) pa_nil)) rfl)
    (pss_one (ps_if (PW.pt (pw_or (pt_not (pt_val (pe_callG G_law_pair_right (hr.mono (by decide)) hG rfl T.g_law_pair_right T.F_law_pair_right.kp T.B_law_pair_right .nil pass0 (pa_cons (pv 3) (pa_cons (pv 4) pa_nil))))) (pw_or1 (pt_not (pt_val (pe_callG G_law_number_right (hr.mono (by decide)) hG rfl T.g_law_number_right T.F_law_number_right.kp T.B_law_number_right .nil pass0 (pa_cons (pv 1) (pa_cons (pv 3) pa_nil)))))))) (pss_one (ps_ret pe_bl)) pss_nil))))
    (pss_cons (ps_set (i := 5) sc_law.nd rfl (Or.inl rfl) (pe_makeG T.M_Growth G_Growth_init (hr.mono (by decide)) hG rfl T.g_Growth T.B_Growth_init .nil pass0 (pa_cons (pe_lst (pa_cons (pe_op op_powU pe_int pe_int) (pa_cons pe_non (pa_cons (pe_op (op_onIns (op_binL T.o_Growth_sub (ownG G_Growth_sub (hr.mono (by decide)) hG T.B_Growth_sub pass0)) op_subU) pe_int (pe_op op_powU pe_int pe_int)) pa_nil)))) (pa_cons (pe_lst (pa_cons pe_int (pa_cons (pe_op op_powU pe_int pe_int) (pa_cons (pe_op (op_onIns (op_binL T.o_Growth_sub (ownG G_Growth_sub (hr.mono (by decide)) hG T.B_Growth_sub pass0)) op_subU) pe_int (pe_op op_powU pe_int pe_int)) pa_nil)))) pa_nil))))
    (pss_cons (ps_set (i := 6) sc_law.nd rfl (Or.inl rfl) (pe_op (op_onIns (op_binL T.o_Growth_add (ownG G_Growth_add (hr.mono (by decide)) hG T.B_Growth_add pass0)) op_addU) (pe_op op_powU pe_int pe_int) pe_int))
    (pss_one (ps_ret (pe_and (pe_cmpR (op_eqU hr.units) (pe_ixO T.x_Growth (own1G G_Growth_getitem (hr.mono (by decide)) hG T.B_Growth_getitem pass0) (pe_op (op_onIns (op_binL T.o_Growth_add (ownG G_Growth_add (hr.mono (by decide)) hG T.B_Growth_add pass0)) op_addU) (pv 5) (pv 5)) (pv 6) (fun _ _ => by with_unfolding_all rfl)) (pe_op op_mulU pe_int (pe_ixO T.x_Growth (own1G G_Growth_getitem (hr.mono (by decide)) hG T.B_Growth_getitem pass0) (pv 5) (pv 6) (fun _ _ => by with_unfolding_all rfl))) (nomark _)) (pe_one (pe_cmpR (op_eqU hr.units) (pe_methG (pe_op (op_onIns (op_binL T.o_Growth_sub (ownG G_Growth_sub (hr.mono (by decide)) hG T.B_Growth_sub pass0)) op_subU) (pv 5) (pv 5)) T.cl_Growth T.m_Growth_stretch G_Growth_stretch (hr.mono (by decide)) hG T.B_Growth_stretch .nil pass0 (pa_cons pe_int (pa_cons pe_int pa_nil))) (pe_tup (pa_cons pe_int (pa_cons pe_non (pa_cons pe_int (pa_cons pe_int pa_nil))))) (nomark _))))))))))

theorem all_is_integer {P : Program} {w : World} {K : PySem.W.Frag} {mg : Str → Option Value} {base : Heap} {A : Ad} (T : Txt K mg A) : FnG P w K mg base CX0 1 A.f_is_integer A.d_is_integer ["value"] (sp_is_integer K A) :=
  ok_is_integer T
theorem all_is_value {P : Program} {w : World} {K : PySem.W.Frag} {mg : Str → Option Value} {base : Heap} {A : Ad} (T : Txt K mg A) : FnG P w K mg base CX0 3 A.f_is_value A.d_is_value ["value"] (sp_is_value K A) :=
  ok_is_value T (all_is_integer T)
theorem all_is_list {P : Program} {w : World} {K : PySem.W.Frag} {mg : Str → Option Value} {base : Heap} {A : Ad} (T : Txt K mg A) : FnG P w K mg base CX0 1 A.f_is_list A.d_is_list ["value", "least"] (sp_is_list K A) :=
  ok_is_list T
theorem all_added {P : Program} {w : World} {K : PySem.W.Frag} {mg : Str → Option Value} {base : Heap} {A : Ad} (T : Txt K mg A) : FnG P w K mg base CX0 1 A.f_added A.d_added ["value", "number"] (sp_added K A) :=
  ok_added T
theorem all_value_at {P : Program} {w : World} {K : PySem.W.Frag} {mg : Str → Option Value} {base : Heap} {A : Ad} (T : Txt K mg A) : FnG P w K mg base CX0 3 A.f_value_at A.d_value_at ["told", "gains", "n"] (sp_value_at K A) :=
  ok_value_at T (all_added T)
theorem all_step_between {P : Program} {w : World} {K : PySem.W.Frag} {mg : Str → Option Value} {base : Heap} {A : Ad} (T : Txt K mg A) : FnG P w K mg base CX0 1 A.f_step_between A.d_step_between ["low", "high"] (sp_step_between K A) :=
  ok_step_between T
theorem all_gains_of {P : Program} {w : World} {K : PySem.W.Frag} {mg : Str → Option Value} {base : Heap} {A : Ad} (T : Txt K mg A) : FnG P w K mg base CX0 3 A.f_gains_of A.d_gains_of ["row", "origin", "period"] (sp_gains_of K A) :=
  ok_gains_of T (all_step_between T)
theorem all_least_gains {P : Program} {w : World} {K : PySem.W.Frag} {mg : Str → Option Value} {base : Heap} {A : Ad} (T : Txt K mg A) : FnG P w K mg base CX0 5 A.f_least_gains A.d_least_gains ["row", "origin", "period"] (sp_least_gains K A) :=
  ok_least_gains T (all_gains_of T)
theorem all_trimmed {P : Program} {w : World} {K : PySem.W.Frag} {mg : Str → Option Value} {base : Heap} {A : Ad} (T : Txt K mg A) : FnG P w K mg base CX0 3 A.f_trimmed A.d_trimmed ["told", "gains"] (sp_trimmed K A) :=
  ok_trimmed T (all_added T)
theorem all_normal_form {P : Program} {w : World} {K : PySem.W.Frag} {mg : Str → Option Value} {base : Heap} {A : Ad} (T : Txt K mg A) : FnG P w K mg base CX0 7 A.f_normal_form A.d_normal_form ["told", "gains"] (sp_normal_form K A) :=
  ok_normal_form T (all_value_at T) (all_least_gains T) (all_trimmed T)
theorem all_shared_multiple {P : Program} {w : World} {K : PySem.W.Frag} {mg : Str → Option Value} {base : Heap} {A : Ad} (T : Txt K mg A) : FnG P w K mg base CX0 1 A.f_shared_multiple A.d_shared_multiple ["one", "other"] (sp_shared_multiple K A) :=
  ok_shared_multiple T
theorem all_sum_of {P : Program} {w : World} {K : PySem.W.Frag} {mg : Str → Option Value} {base : Heap} {A : Ad} (T : Txt K mg A) : FnG P w K mg base CX0 3 A.f_sum_of A.d_sum_of ["one", "other"] (sp_sum_of K A) :=
  ok_sum_of T (all_added T)
theorem all_combined {P : Program} {w : World} {K : PySem.W.Frag} {mg : Str → Option Value} {base : Heap} {A : Ad} (T : Txt K mg A) : FnG P w K mg base CX0 5 A.f_combined A.d_combined ["word", "one", "other"] (sp_combined K A) :=
  ok_combined T (all_sum_of T)
theorem all_need_growth {P : Program} {w : World} {K : PySem.W.Frag} {mg : Str → Option Value} {base : Heap} {A : Ad} (T : Txt K mg A) : FnG P w K mg base CX0 1 A.f_need_growth A.d_need_growth ["other"] (sp_need_growth K A) :=
  ok_need_growth T
theorem all_need_index {P : Program} {w : World} {K : PySem.W.Frag} {mg : Str → Option Value} {base : Heap} {A : Ad} (T : Txt K mg A) : FnG P w K mg base CX0 3 A.f_need_index A.d_need_index ["n"] (sp_need_index K A) :=
  ok_need_index T (all_is_integer T)
theorem all_need_integer {P : Program} {w : World} {K : PySem.W.Frag} {mg : Str → Option Value} {base : Heap} {A : Ad} (T : Txt K mg A) : FnG P w K mg base CX0 3 A.f_need_integer A.d_need_integer ["number"] (sp_need_integer K A) :=
  ok_need_integer T (all_is_integer T)
theorem all_Growth_init {P : Program} {w : World} {K : PySem.W.Frag} {mg : Str → Option Value} {base : Heap} {A : Ad} (T : Txt K mg A) : FnG P w K mg base CX0 9 A.f_Growth_init A.d_Growth_init ["self", "told", "gains"] (sp_Growth_init K A) :=
  ok_Growth_init T (all_is_integer T) (all_is_value T) (all_is_list T) (all_normal_form T)
theorem all_Growth_getitem {P : Program} {w : World} {K : PySem.W.Frag} {mg : Str → Option Value} {base : Heap} {A : Ad} (T : Txt K mg A) : FnG P w K mg base CX0 5 A.f_Growth_getitem A.d_Growth_getitem ["self", "n"] (sp_Growth_getitem K A) :=
  ok_Growth_getitem T (all_value_at T) (all_need_index T)
theorem all_merged {P : Program} {w : World} {K : PySem.W.Frag} {mg : Str → Option Value} {base : Heap} {A : Ad} (T : Txt K mg A) : FnG P w K mg base CX0 11 A.f_merged A.d_merged ["word", "one", "other"] (sp_merged K A) :=
  ok_merged T (all_least_gains T) (all_shared_multiple T) (all_combined T) (all_Growth_init T) (all_Growth_getitem T)
theorem all_term {P : Program} {w : World} {K : PySem.W.Frag} {mg : Str → Option Value} {base : Heap} {A : Ad} (T : Txt K mg A) : FnG P w K mg base CX0 11 A.f_term A.d_term ["other"] (sp_term K A) :=
  ok_term T (all_is_integer T) (all_need_growth T) (all_Growth_init T)
theorem all_times {P : Program} {w : World} {K : PySem.W.Frag} {mg : Str → Option Value} {base : Heap} {A : Ad} (T : Txt K mg A) : FnG P w K mg base CX0 11 A.f_times A.d_times ["growth", "number"] (sp_times K A) :=
  ok_times T (all_Growth_init T)
theorem all_Growth_add {P : Program} {w : World} {K : PySem.W.Frag} {mg : Str → Option Value} {base : Heap} {A : Ad} (T : Txt K mg A) : FnG P w K mg base CX0 13 A.f_Growth_add A.d_Growth_add ["self", "other"] (sp_Growth_add K A) :=
  ok_Growth_add T (all_merged T) (all_term T)
theorem all_Growth_radd {P : Program} {w : World} {K : PySem.W.Frag} {mg : Str → Option Value} {base : Heap} {A : Ad} (T : Txt K mg A) : FnG P w K mg base CX0 13 A.f_Growth_radd A.d_Growth_radd ["self", "other"] (sp_Growth_radd K A) :=
  ok_Growth_radd T (all_merged T) (all_term T)
theorem all_Growth_sub {P : Program} {w : World} {K : PySem.W.Frag} {mg : Str → Option Value} {base : Heap} {A : Ad} (T : Txt K mg A) : FnG P w K mg base CX0 13 A.f_Growth_sub A.d_Growth_sub ["self", "other"] (sp_Growth_sub K A) :=
  ok_Growth_sub T (all_merged T) (all_term T) (all_times T)
theorem all_Growth_rsub {P : Program} {w : World} {K : PySem.W.Frag} {mg : Str → Option Value} {base : Heap} {A : Ad} (T : Txt K mg A) : FnG P w K mg base CX0 13 A.f_Growth_rsub A.d_Growth_rsub ["self", "other"] (sp_Growth_rsub K A) :=
  ok_Growth_rsub T (all_merged T) (all_term T) (all_times T)
theorem all_Growth_neg {P : Program} {w : World} {K : PySem.W.Frag} {mg : Str → Option Value} {base : Heap} {A : Ad} (T : Txt K mg A) : FnG P w K mg base CX0 13 A.f_Growth_neg A.d_Growth_neg ["self"] (sp_Growth_neg K A) :=
  ok_Growth_neg T (all_times T)
theorem all_Growth_mul {P : Program} {w : World} {K : PySem.W.Frag} {mg : Str → Option Value} {base : Heap} {A : Ad} (T : Txt K mg A) : FnG P w K mg base CX0 13 A.f_Growth_mul A.d_Growth_mul ["self", "number"] (sp_Growth_mul K A) :=
  ok_Growth_mul T (all_need_integer T) (all_times T)
theorem all_Growth_rmul {P : Program} {w : World} {K : PySem.W.Frag} {mg : Str → Option Value} {base : Heap} {A : Ad} (T : Txt K mg A) : FnG P w K mg base CX0 13 A.f_Growth_rmul A.d_Growth_rmul ["self", "number"] (sp_Growth_rmul K A) :=
  ok_Growth_rmul T (all_need_integer T) (all_times T)
theorem all_Growth_eq {P : Program} {w : World} {K : PySem.W.Frag} {mg : Str → Option Value} {base : Heap} {A : Ad} (T : Txt K mg A) : FnG P w K mg base CX0 1 A.f_Growth_eq A.d_Growth_eq ["self", "other"] (sp_Growth_eq K A) :=
  ok_Growth_eq T
theorem all_Growth_stretch {P : Program} {w : World} {K : PySem.W.Frag} {mg : Str → Option Value} {base : Heap} {A : Ad} (T : Txt K mg A) : FnG P w K mg base CX0 5 A.f_Growth_stretch A.d_Growth_stretch ["self", "a", "b"] (sp_Growth_stretch K A) :=
  ok_Growth_stretch T (all_value_at T) (all_need_index T)
theorem all_law_pen {P : Program} {w : World} {K : PySem.W.Frag} {mg : Str → Option Value} {base : Heap} {A : Ad} (T : Txt K mg A) : FnG P w K mg base CX0 1 A.f_law_pen A.d_law_pen ["_law_script"] (sp_law_pen K A) :=
  ok_law_pen T
theorem all_law_draw {P : Program} {w : World} {K : PySem.W.Frag} {mg : Str → Option Value} {base : Heap} {A : Ad} (T : Txt K mg A) : FnG P w K mg base CX0 1 A.f_law_draw A.d_law_draw ["_law_pen_here", "_law_many"] (sp_law_draw K A) :=
  ok_law_draw T
theorem all_law_told {P : Program} {w : World} {K : PySem.W.Frag} {mg : Str → Option Value} {base : Heap} {A : Ad} (T : Txt K mg A) : FnG P w K mg base CX0 3 A.f_law_told A.d_law_told ["_law_pen_here"] (sp_law_told K A) :=
  ok_law_told T (all_law_draw T)
theorem all_law_at {P : Program} {w : World} {K : PySem.W.Frag} {mg : Str → Option Value} {base : Heap} {A : Ad} (T : Txt K mg A) : FnG P w K mg base CX0 1 A.f_law_at A.d_law_at ["_law_pair", "_law_n"] (sp_law_at K A) :=
  ok_law_at T
theorem all_law_some {P : Program} {w : World} {K : PySem.W.Frag} {mg : Str → Option Value} {base : Heap} {A : Ad} (T : Txt K mg A) : FnG P w K mg base CX0 1 A.f_law_some A.d_law_some ["_law_pair"] (sp_law_some K A) :=
  ok_law_some T
theorem all_law_repeats {P : Program} {w : World} {K : PySem.W.Frag} {mg : Str → Option Value} {base : Heap} {A : Ad} (T : Txt K mg A) : FnG P w K mg base CX0 3 A.f_law_repeats A.d_law_repeats ["_law_pair", "_law_less"] (sp_law_repeats K A) :=
  ok_law_repeats T (all_law_at T)
theorem all_law_is_normal {P : Program} {w : World} {K : PySem.W.Frag} {mg : Str → Option Value} {base : Heap} {A : Ad} (T : Txt K mg A) : FnG P w K mg base CX0 5 A.f_law_is_normal A.d_law_is_normal ["_law_told_here", "_law_gains"] (sp_law_is_normal K A) :=
  ok_law_is_normal T (all_law_repeats T)
theorem all_law_same {P : Program} {w : World} {K : PySem.W.Frag} {mg : Str → Option Value} {base : Heap} {A : Ad} {lam : Lams} (T : Txt K mg A) (hL : LamsOk P w K mg base CX0 16 lam) : FnG P w K mg base CX0 18 A.f_law_same A.d_law_same ["_law_growth", "_law_due", "_law_some_here"] (sp_law_same K A lam) :=
  ok_law_same T hL (all_Growth_getitem T) (all_law_is_normal T)
theorem all_law_sum {P : Program} {w : World} {K : PySem.W.Frag} {mg : Str → Option Value} {base : Heap} {A : Ad} (T : Txt K mg A) : FnG P w K mg base CX0 3 A.f_law_sum A.d_law_sum ["_law_one", "_law_other", "_law_sign", "_law_n"] (sp_law_sum K A) :=
  ok_law_sum T (all_law_at T)
theorem all_law_lift {P : Program} {w : World} {K : PySem.W.Frag} {mg : Str → Option Value} {base : Heap} {A : Ad} (T : Txt K mg A) : FnG P w K mg base CX0 3 A.f_law_lift A.d_law_lift ["_law_pair", "_law_times", "_law_more", "_law_n"] (sp_law_lift K A) :=
  ok_law_lift T (all_law_at T)
theorem all_law_pair_right {P : Program} {w : World} {K : PySem.W.Frag} {mg : Str → Option Value} {base : Heap} {A : Ad} (T : Txt K mg A) (TB : ∀ p ∈ tabsC A, LamX.TabB base mg p.1 p.2) : FnG P w K mg base CX0 20 A.f_law_pair_right A.d_law_pair_right ["_law_one", "_law_other"] (sp_law_pair_right K A) :=
  ok_law_pair_right T (TB (A.cc_law_pair_right, A.P_law_pair_right) (by unfold tabsC; simp)) (all_Growth_init T) (all_Growth_add T) (all_Growth_sub T) (all_Growth_eq T) (all_law_at T) (all_law_some T) (fun _ _ hL => all_law_same T hL) (all_law_sum T) (fun _ => all_law_at T) (fun _ => all_law_sum T)
theorem all_law_number_right {P : Program} {w : World} {K : PySem.W.Frag} {mg : Str → Option Value} {base : Heap} {A : Ad} (T : Txt K mg A) (TB : ∀ p ∈ tabsC A, LamX.TabB base mg p.1 p.2) : FnG P w K mg base CX0 20 A.f_law_number_right A.d_law_number_right ["_law_pen_here", "_law_pair"] (sp_law_number_right K A) :=
  ok_law_number_right T (TB (A.cc_law_number_right, A.P_law_number_right) (by unfold tabsC; simp)) (all_Growth_init T) (all_Growth_add T) (all_Growth_radd T) (all_Growth_sub T) (all_Growth_rsub T) (all_Growth_neg T) (all_Growth_mul T) (all_Growth_rmul T) (all_Growth_eq T) (all_law_draw T) (all_law_at T) (all_law_some T) (fun _ _ hL => all_law_same T hL) (all_law_lift T) (fun _ => all_Growth_neg T) (fun _ => all_law_at T) (fun _ => all_law_lift T)
theorem all_law {P : Program} {w : World} {K : PySem.W.Frag} {mg : Str → Option Value} {base : Heap} {A : Ad} (T : Txt K mg A) (TB : ∀ p ∈ tabsC A, LamX.TabB base mg p.1 p.2) : FnG P w K mg base CX0 22 A.f_law A.d_law ["_law_script"] (sp_law K A) :=
  ok_law T (all_Growth_init T) (all_Growth_getitem T) (all_Growth_add T) (all_Growth_sub T) (all_Growth_stretch T) (all_law_pen T) (all_law_told T) (all_law_pair_right T TB) (all_law_number_right T TB)

end HG

namespace HG
open PySem L2
theorem all_mk {l : PySem.W.OpenLaw} {w : World} {K : PySem.W.Frag} {h : Heap} {mg : Str → Option Value} {fa : Addr} {c_Growth cc_law_pair_right P_law_pair_right cc_law_number_right P_law_number_right dt_Growth_init_0 f_is_integer f_is_value f_is_list f_added f_value_at f_step_between f_gains_of f_least_gains f_trimmed f_normal_form f_shared_multiple f_sum_of f_combined f_need_growth f_need_index f_need_integer f_Growth_init f_Growth_getitem f_merged f_term f_times f_Growth_add f_Growth_radd f_Growth_sub f_Growth_rsub f_Growth_neg f_Growth_mul f_Growth_rmul f_Growth_eq f_Growth_stretch f_law_pen f_law_draw f_law_told f_law_at f_law_some f_law_repeats f_law_is_normal f_law_same f_law_sum f_law_lift f_law_pair_right f_law_number_right f_law : Addr} (X : K.In h) (G : h.Ns mainGlobals mg) (hfa : mg "law" = some (.ref fa)) (TT : TopTab mg h ["_law_pair_right", "_law_number_right"])
    {od_is_integer an_is_integer od_is_value an_is_value od_is_list an_is_list od_added an_added od_value_at an_value_at od_step_between an_step_between od_gains_of an_gains_of od_least_gains an_least_gains od_trimmed an_trimmed od_normal_form an_normal_form od_shared_multiple an_shared_multiple od_sum_of an_sum_of od_combined an_combined od_need_growth an_need_growth od_need_index an_need_index od_need_integer an_need_integer od_Growth_init an_Growth_init od_Growth_getitem an_Growth_getitem od_merged an_merged od_term an_term od_times an_times od_Growth_add an_Growth_add od_Growth_radd an_Growth_radd od_Growth_sub an_Growth_sub od_Growth_rsub an_Growth_rsub od_Growth_neg an_Growth_neg od_Growth_mul an_Growth_mul od_Growth_rmul an_Growth_rmul od_Growth_eq an_Growth_eq od_Growth_stretch an_Growth_stretch od_law_pen an_law_pen od_law_draw an_law_draw od_law_told an_law_told od_law_at an_law_at od_law_some an_law_some od_law_repeats an_law_repeats od_law_is_normal an_law_is_normal od_law_same an_law_same od_law_sum an_law_sum od_law_lift an_law_lift od_law_pair_right an_law_pair_right od_law_number_right an_law_number_right od_law an_law : Option Addr} {sl_is_integer sl_is_value sl_is_list sl_added sl_value_at sl_step_between sl_gains_of sl_least_gains sl_trimmed sl_normal_form sl_shared_multiple sl_sum_of sl_combined sl_need_growth sl_need_index sl_need_integer sl_Growth_init sl_Growth_getitem sl_merged sl_term sl_times sl_Growth_add sl_Growth_radd sl_Growth_sub sl_Growth_rsub sl_Growth_neg sl_Growth_mul sl_Growth_rmul sl_Growth_eq sl_Growth_stretch sl_law_pen sl_law_draw sl_law_told sl_law_at sl_law_some sl_law_repeats sl_law_is_normal sl_law_same sl_law_sum sl_law_lift sl_law_pair_right sl_law_number_right sl_law : Array (Option Value)} {oc_is_integer kV_is_integer dc_is_integer pm_is_integer cd_is_integer ct_is_integer oc_is_value kV_is_value dc_is_value pm_is_value cd_is_value ct_is_value oc_is_list kV_is_list dc_is_list pm_is_list cd_is_list ct_is_list oc_added kV_added dc_added pm_added cd_added ct_added oc_value_at kV_value_at dc_value_at pm_value_at cd_value_at ct_value_at oc_step_between kV_step_between dc_step_between pm_step_between cd_step_between ct_step_between oc_gains_of kV_gains_of dc_gains_of pm_gains_of cd_gains_of ct_gains_of oc_least_gains kV_least_gains dc_least_gains pm_least_gains cd_least_gains ct_least_gains oc_trimmed kV_trimmed dc_trimmed pm_trimmed cd_trimmed ct_trimmed oc_normal_form kV_normal_form dc_normal_form pm_normal_form cd_normal_form ct_normal_form oc_shared_multiple kV_shared_multiple dc_shared_multiple pm_shared_multiple cd_shared_multiple ct_shared_multiple oc_sum_of kV_sum_of dc_sum_of pm_sum_of cd_sum_of ct_sum_of oc_combined kV_combined dc_combined pm_combined cd_combined ct_combined oc_need_growth kV_need_growth dc_need_growth pm_need_growth cd_need_growth ct_need_growth oc_need_index kV_need_index dc_need_index pm_need_index cd_need_index ct_need_index oc_need_integer kV_need_integer dc_need_integer pm_need_integer cd_need_integer ct_need_integer oc_Growth_init kV_Growth_init dc_Growth_init pm_Growth_init cd_Growth_init ct_Growth_init oc_Growth_getitem kV_Growth_getitem dc_Growth_getitem pm_Growth_getitem cd_Growth_getitem ct_Growth_getitem oc_merged kV_merged dc_merged pm_merged cd_merged ct_merged oc_term kV_term dc_term pm_term cd_term ct_term oc_times kV_times dc_times pm_times cd_times ct_times oc_Growth_add kV_Growth_add dc_Growth_add pm_Growth_add cd_Growth_add ct_Growth_add oc_Growth_radd kV_Growth_radd dc_Growth_radd pm_Growth_radd cd_Growth_radd ct_Growth_radd oc_Growth_sub kV_Growth_sub dc_Growth_sub pm_Growth_sub cd_Growth_sub ct_Growth_sub oc_Growth_rsub kV_Growth_rsub dc_Growth_rsub pm_Growth_rsub cd_Growth_rsub ct_Growth_rsub oc_Growth_neg kV_Growth_neg dc_Growth_neg pm_Growth_neg cd_Growth_neg ct_Growth_neg oc_Growth_mul kV_Growth_mul dc_Growth_mul pm_Growth_mul cd_Growth_mul ct_Growth_mul oc_Growth_rmul kV_Growth_rmul dc_Growth_rmul pm_Growth_rmul cd_Growth_rmul ct_Growth_rmul oc_Growth_eq kV_Growth_eq dc_Growth_eq pm_Growth_eq cd_Growth_eq ct_Growth_eq oc_Growth_stretch kV_Growth_stretch dc_Growth_stretch pm_Growth_stretch cd_Growth_stretch ct_Growth_stretch oc_law_pen kV_law_pen dc_law_pen pm_law_pen cd_law_pen ct_law_pen oc_law_draw kV_law_draw dc_law_draw pm_law_draw cd_law_draw ct_law_draw oc_law_told kV_law_told dc_law_told pm_law_told cd_law_told ct_law_told oc_law_at kV_law_at dc_law_at pm_law_at cd_law_at ct_law_at oc_law_some kV_law_some dc_law_some pm_law_some cd_law_some ct_law_some oc_law_repeats kV_law_repeats dc_law_repeats pm_law_repeats cd_law_repeats ct_law_repeats oc_law_is_normal kV_law_is_normal dc_law_is_normal pm_law_is_normal cd_law_is_normal ct_law_is_normal oc_law_same kV_law_same dc_law_same pm_law_same cd_law_same ct_law_same oc_law_sum kV_law_sum dc_law_sum pm_law_sum cd_law_sum ct_law_sum oc_law_lift kV_law_lift dc_law_lift pm_law_lift cd_law_lift ct_law_lift oc_law_pair_right kV_law_pair_right dc_law_pair_right pm_law_pair_right cd_law_pair_right ct_law_pair_right oc_law_number_right kV_law_number_right dc_law_number_right pm_law_number_right cd_law_number_right ct_law_number_right oc_law kV_law dc_law pm_law cd_law ct_law : Value} {T_Growth_init : Addr} {oT_Growth_init : Value} {dT_Growth_init : Option Addr} {nT_Growth_init : Nat} {sT_Growth_init : Array (Option Value)} {oD_Growth_init_0 : Value} {dD_Growth_init_0 : Option Addr} {nD_Growth_init_0 : Nat} {sD_Growth_init_0 : Array (Option Value)} {tD0_Growth_init_0 : Tok} {occ_law_pair_right : Value} {odc_law_pair_right : Option Addr} {vsc_law_pair_right : Array Value} {slc_law_pair_right : Array (Option Value)} {occ_law_number_right : Value} {odc_law_number_right : Option Addr} {vsc_law_number_right : Array Value} {slc_law_number_right : Array (Option Value)} {tgi_MOST_GAINS : Tok} {tgi_MOST_TOLD : Tok} {tgi_FAR : Tok} {frAdd : Addr} {frSub : Addr} {frMult : Addr} {nmC qC : Str} {NC : Addr} {bsC : List Value} {hdctC : Bool} {snC : List Str} {subC : List Value} {abC : Bool} {colC : Option Bool} {ddC : Option Addr} {k0C k1C k2C k3C k5C : Option Value} {newIdC : String} {ocN : Value} {odN : Option Addr} {esN : Array DictEntry} {nN : Nat} {slN : Array (Option Value)} {cd : ClassData}
    (aC_Growth : PySem.W.nsIn K mainGlobals "Growth" = some (some (.ref c_Growth)))
    (a_is_integer : PySem.W.nsIn K mainGlobals "is_integer" = some (some (.ref f_is_integer)))
    (l_is_integer : K.lookup f_is_integer = some ⟨oc_is_integer, od_is_integer, .func (PySem.W.fnOf "is_integer" "is_integer" (defArgs s_is_integer) (defBody s_is_integer) (defScope s_is_integer) .none kV_is_integer dc_is_integer pm_is_integer an_is_integer cd_is_integer ct_is_integer), sl_is_integer⟩)
    (c_is_integer : PySem.W.codeIn K cd_is_integer "is_integer" = true)
    (k_is_integer : PySem.W.keepIn K (.ref f_is_integer) = true)
    (a_is_value : PySem.W.nsIn K mainGlobals "is_value" = some (some (.ref f_is_value)))
    (l_is_value : K.lookup f_is_value = some ⟨oc_is_value, od_is_value, .func (PySem.W.fnOf "is_value" "is_value" (defArgs s_is_value) (defBody s_is_value) (defScope s_is_value) .none kV_is_value dc_is_value pm_is_value an_is_value cd_is_value ct_is_value), sl_is_value⟩)
    (c_is_value : PySem.W.codeIn K cd_is_value "is_value" = true)
    (k_is_value : PySem.W.keepIn K (.ref f_is_value) = true)
    (a_is_list : PySem.W.nsIn K mainGlobals "is_list" = some (some (.ref f_is_list)))
    (l_is_list : K.lookup f_is_list = some ⟨oc_is_list, od_is_list, .func (PySem.W.fnOf "is_list" "is_list" (defArgs s_is_list) (defBody s_is_list) (defScope s_is_list) .none kV_is_list dc_is_list pm_is_list an_is_list cd_is_list ct_is_list), sl_is_list⟩)
    (c_is_list : PySem.W.codeIn K cd_is_list "is_list" = true)
    (k_is_list : PySem.W.keepIn K (.ref f_is_list) = true)
    (a_added : PySem.W.nsIn K mainGlobals "added" = some (some (.ref f_added)))
    (l_added : K.lookup f_added = some ⟨oc_added, od_added, .func (PySem.W.fnOf "added" "added" (defArgs s_added) (defBody s_added) (defScope s_added) .none kV_added dc_added pm_added an_added cd_added ct_added), sl_added⟩)
    (c_added : PySem.W.codeIn K cd_added "added" = true)
    (k_added : PySem.W.keepIn K (.ref f_added) = true)
    (a_value_at : PySem.W.nsIn K mainGlobals "value_at" = some (some (.ref f_value_at)))
    (l_value_at : K.lookup f_value_at = some ⟨oc_value_at, od_value_at, .func (PySem.W.fnOf "value_at" "value_at" (defArgs s_value_at) (defBody s_value_at) (defScope s_value_at) .none kV_value_at dc_value_at pm_value_at an_value_at cd_value_at ct_value_at), sl_value_at⟩)
    (c_value_at : PySem.W.codeIn K cd_value_at "value_at" = true)
    (k_value_at : PySem.W.keepIn K (.ref f_value_at) = true)
    (a_step_between : PySem.W.nsIn K mainGlobals "step_between" = some (some (.ref f_step_between)))
    (l_step_between : K.lookup f_step_between = some ⟨oc_step_between, od_step_between, .func (PySem.W.fnOf "step_between" "step_between" (defArgs s_step_between) (defBody s_step_between) (defScope s_step_between) .none kV_step_between dc_step_between pm_step_between an_step_between cd_step_between ct_step_between), sl_step_between⟩)
    (c_step_between : PySem.W.codeIn K cd_step_between "step_between" = true)
    (k_step_between : PySem.W.keepIn K (.ref f_step_between) = true)
    (a_gains_of : PySem.W.nsIn K mainGlobals "gains_of" = some (some (.ref f_gains_of)))
    (l_gains_of : K.lookup f_gains_of = some ⟨oc_gains_of, od_gains_of, .func (PySem.W.fnOf "gains_of" "gains_of" (defArgs s_gains_of) (defBody s_gains_of) (defScope s_gains_of) .none kV_gains_of dc_gains_of pm_gains_of an_gains_of cd_gains_of ct_gains_of), sl_gains_of⟩)
    (c_gains_of : PySem.W.codeIn K cd_gains_of "gains_of" = true)
    (k_gains_of : PySem.W.keepIn K (.ref f_gains_of) = true)
    (a_least_gains : PySem.W.nsIn K mainGlobals "least_gains" = some (some (.ref f_least_gains)))
    (l_least_gains : K.lookup f_least_gains = some ⟨oc_least_gains, od_least_gains, .func (PySem.W.fnOf "least_gains" "least_gains" (defArgs s_least_gains) (defBody s_least_gains) (defScope s_least_gains) .none kV_least_gains dc_least_gains pm_least_gains an_least_gains cd_least_gains ct_least_gains), sl_least_gains⟩)
    (c_least_gains : PySem.W.codeIn K cd_least_gains "least_gains" = true)
    (k_least_gains : PySem.W.keepIn K (.ref f_least_gains) = true)
    (a_trimmed : PySem.W.nsIn K mainGlobals "trimmed" = some (some (.ref f_trimmed)))
    (l_trimmed : K.lookup f_trimmed = some ⟨oc_trimmed, od_trimmed, .func (PySem.W.fnOf "trimmed" "trimmed" (defArgs s_trimmed) (defBody s_trimmed) (defScope s_trimmed) .none kV_trimmed dc_trimmed pm_trimmed an_trimmed cd_trimmed ct_trimmed), sl_trimmed⟩)
    (c_trimmed : PySem.W.codeIn K cd_trimmed "trimmed" = true)
    (k_trimmed : PySem.W.keepIn K (.ref f_trimmed) = true)
    (a_normal_form : PySem.W.nsIn K mainGlobals "normal_form" = some (some (.ref f_normal_form)))
    (l_normal_form : K.lookup f_normal_form = some ⟨oc_normal_form, od_normal_form, .func (PySem.W.fnOf "normal_form" "normal_form" (defArgs s_normal_form) (defBody s_normal_form) (defScope s_normal_form) .none kV_normal_form dc_normal_form pm_normal_form an_normal_form cd_normal_form ct_normal_form), sl_normal_form⟩)
    (c_normal_form : PySem.W.codeIn K cd_normal_form "normal_form" = true)
    (k_normal_form : PySem.W.keepIn K (.ref f_normal_form) = true)
    (a_shared_multiple : PySem.W.nsIn K mainGlobals "shared_multiple" = some (some (.ref f_shared_multiple)))
    (l_shared_multiple : K.lookup f_shared_multiple = some ⟨oc_shared_multiple, od_shared_multiple, .func (PySem.W.fnOf "shared_multiple" "shared_multiple" (defArgs s_shared_multiple) (defBody s_shared_multiple) (defScope s_shared_multiple) .none kV_shared_multiple dc_shared_multiple pm_shared_multiple an_shared_multiple cd_shared_multiple ct_shared_multiple), sl_shared_multiple⟩)
    (c_shared_multiple : PySem.W.codeIn K cd_shared_multiple "shared_multiple" = true)
    (k_shared_multiple : PySem.W.keepIn K (.ref f_shared_multiple) = true)
    (a_sum_of : PySem.W.nsIn K mainGlobals "sum_of" = some (some (.ref f_sum_of)))
    (l_sum_of : K.lookup f_sum_of = some ⟨oc_sum_of, od_sum_of, .func (PySem.W.fnOf "sum_of" "sum_of" (defArgs s_sum_of) (defBody s_sum_of) (defScope s_sum_of) .none kV_sum_of dc_sum_of pm_sum_of an_sum_of cd_sum_of ct_sum_of), sl_sum_of⟩)
    (c_sum_of : PySem.W.codeIn K cd_sum_of "sum_of" = true)
    (k_sum_of : PySem.W.keepIn K (.ref f_sum_of) = true)
    (a_combined : PySem.W.nsIn K mainGlobals "combined" = some (some (.ref f_combined)))
    (l_combined : K.lookup f_combined = some ⟨oc_combined, od_combined, .func (PySem.W.fnOf "combined" "combined" (defArgs s_combined) (defBody s_combined) (defScope s_combined) .none kV_combined dc_combined pm_combined an_combined cd_combined ct_combined), sl_combined⟩)
    (c_combined : PySem.W.codeIn K cd_combined "combined" = true)
    (k_combined : PySem.W.keepIn K (.ref f_combined) = true)
    (a_need_growth : PySem.W.nsIn K mainGlobals "need_growth" = some (some (.ref f_need_growth)))
    (l_need_growth : K.lookup f_need_growth = some ⟨oc_need_growth, od_need_growth, .func (PySem.W.fnOf "need_growth" "need_growth" (defArgs s_need_growth) (defBody s_need_growth) (defScope s_need_growth) .none kV_need_growth dc_need_growth pm_need_growth an_need_growth cd_need_growth ct_need_growth), sl_need_growth⟩)
    (c_need_growth : PySem.W.codeIn K cd_need_growth "need_growth" = true)
    (k_need_growth : PySem.W.keepIn K (.ref f_need_growth) = true)
    (a_need_index : PySem.W.nsIn K mainGlobals "need_index" = some (some (.ref f_need_index)))
    (l_need_index : K.lookup f_need_index = some ⟨oc_need_index, od_need_index, .func (PySem.W.fnOf "need_index" "need_index" (defArgs s_need_index) (defBody s_need_index) (defScope s_need_index) .none kV_need_index dc_need_index pm_need_index an_need_index cd_need_index ct_need_index), sl_need_index⟩)
    (c_need_index : PySem.W.codeIn K cd_need_index "need_index" = true)
    (k_need_index : PySem.W.keepIn K (.ref f_need_index) = true)
    (a_need_integer : PySem.W.nsIn K mainGlobals "need_integer" = some (some (.ref f_need_integer)))
    (l_need_integer : K.lookup f_need_integer = some ⟨oc_need_integer, od_need_integer, .func (PySem.W.fnOf "need_integer" "need_integer" (defArgs s_need_integer) (defBody s_need_integer) (defScope s_need_integer) .none kV_need_integer dc_need_integer pm_need_integer an_need_integer cd_need_integer ct_need_integer), sl_need_integer⟩)
    (c_need_integer : PySem.W.codeIn K cd_need_integer "need_integer" = true)
    (k_need_integer : PySem.W.keepIn K (.ref f_need_integer) = true)
    (a_Growth_init : PySem.W.findIn K (.ref c_Growth) "__init__" = some (some (.ref f_Growth_init)))
    (i_Growth_init : PySem.W.isFn K (.ref f_Growth_init) = true)
    (l_Growth_init : K.lookup f_Growth_init = some ⟨oc_Growth_init, od_Growth_init, .func (PySem.W.fnOf "__init__" "Growth.__init__" (defArgs s_Growth_init) (defBody s_Growth_init) (defScope s_Growth_init) (.ref T_Growth_init) kV_Growth_init dc_Growth_init pm_Growth_init an_Growth_init cd_Growth_init ct_Growth_init), sl_Growth_init⟩)
    (lT_Growth_init : K.lookup T_Growth_init = some ⟨oT_Growth_init, dT_Growth_init, .seq #[.ref dt_Growth_init_0] nT_Growth_init, sT_Growth_init⟩)
    (ldt_Growth_init_0 : K.lookup dt_Growth_init_0 = some ⟨oD_Growth_init_0, dD_Growth_init_0, .seq #[.int 0 tD0_Growth_init_0] nD_Growth_init_0, sD_Growth_init_0⟩)
    (rf_oD_Growth_init_0 : oD_Growth_init_0 = .type "tuple")
    (c_Growth_init : PySem.W.codeIn K cd_Growth_init "Growth.__init__" = true)
    (k_Growth_init : PySem.W.keepIn K (.ref f_Growth_init) = true)
    (a_Growth_getitem : PySem.W.findIn K (.ref c_Growth) "__getitem__" = some (some (.ref f_Growth_getitem)))
    (i_Growth_getitem : PySem.W.isFn K (.ref f_Growth_getitem) = true)
    (l_Growth_getitem : K.lookup f_Growth_getitem = some ⟨oc_Growth_getitem, od_Growth_getitem, .func (PySem.W.fnOf "__getitem__" "Growth.__getitem__" (defArgs s_Growth_getitem) (defBody s_Growth_getitem) (defScope s_Growth_getitem) .none kV_Growth_getitem dc_Growth_getitem pm_Growth_getitem an_Growth_getitem cd_Growth_getitem ct_Growth_getitem), sl_Growth_getitem⟩)
    (c_Growth_getitem : PySem.W.codeIn K cd_Growth_getitem "Growth.__getitem__" = true)
    (k_Growth_getitem : PySem.W.keepIn K (.ref f_Growth_getitem) = true)
    (a_merged : PySem.W.nsIn K mainGlobals "merged" = some (some (.ref f_merged)))
    (l_merged : K.lookup f_merged = some ⟨oc_merged, od_merged, .func (PySem.W.fnOf "merged" "merged" (defArgs s_merged) (defBody s_merged) (defScope s_merged) .none kV_merged dc_merged pm_merged an_merged cd_merged ct_merged), sl_merged⟩)
    (c_merged : PySem.W.codeIn K cd_merged "merged" = true)
    (k_merged : PySem.W.keepIn K (.ref f_merged) = true)
    (a_term : PySem.W.nsIn K mainGlobals "term" = some (some (.ref f_term)))
    (l_term : K.lookup f_term = some ⟨oc_term, od_term, .func (PySem.W.fnOf "term" "term" (defArgs s_term) (defBody s_term) (defScope s_term) .none kV_term dc_term pm_term an_term cd_term ct_term), sl_term⟩)
    (c_term : PySem.W.codeIn K cd_term "term" = true)
    (k_term : PySem.W.keepIn K (.ref f_term) = true)
    (a_times : PySem.W.nsIn K mainGlobals "times" = some (some (.ref f_times)))
    (l_times : K.lookup f_times = some ⟨oc_times, od_times, .func (PySem.W.fnOf "times" "times" (defArgs s_times) (defBody s_times) (defScope s_times) .none kV_times dc_times pm_times an_times cd_times ct_times), sl_times⟩)
    (c_times : PySem.W.codeIn K cd_times "times" = true)
    (k_times : PySem.W.keepIn K (.ref f_times) = true)
    (a_Growth_add : PySem.W.findIn K (.ref c_Growth) "__add__" = some (some (.ref f_Growth_add)))
    (i_Growth_add : PySem.W.isFn K (.ref f_Growth_add) = true)
    (l_Growth_add : K.lookup f_Growth_add = some ⟨oc_Growth_add, od_Growth_add, .func (PySem.W.fnOf "__add__" "Growth.__add__" (defArgs s_Growth_add) (defBody s_Growth_add) (defScope s_Growth_add) .none kV_Growth_add dc_Growth_add pm_Growth_add an_Growth_add cd_Growth_add ct_Growth_add), sl_Growth_add⟩)
    (c_Growth_add : PySem.W.codeIn K cd_Growth_add "Growth.__add__" = true)
    (k_Growth_add : PySem.W.keepIn K (.ref f_Growth_add) = true)
    (a_Growth_radd : PySem.W.findIn K (.ref c_Growth) "__radd__" = some (some (.ref f_Growth_radd)))
    (i_Growth_radd : PySem.W.isFn K (.ref f_Growth_radd) = true)
    (l_Growth_radd : K.lookup f_Growth_radd = some ⟨oc_Growth_radd, od_Growth_radd, .func (PySem.W.fnOf "__radd__" "Growth.__radd__" (defArgs s_Growth_radd) (defBody s_Growth_radd) (defScope s_Growth_radd) .none kV_Growth_radd dc_Growth_radd pm_Growth_radd an_Growth_radd cd_Growth_radd ct_Growth_radd), sl_Growth_radd⟩)
    (c_Growth_radd : PySem.W.codeIn K cd_Growth_radd "Growth.__radd__" = true)
    (k_Growth_radd : PySem.W.keepIn K (.ref f_Growth_radd) = true)
    (a_Growth_sub : PySem.W.findIn K (.ref c_Growth) "__sub__" = some (some (.ref f_Growth_sub)))
    (i_Growth_sub : PySem.W.isFn K (.ref f_Growth_sub) = true)
    (l_Growth_sub : K.lookup f_Growth_sub = some ⟨oc_Growth_sub, od_Growth_sub, .func (PySem.W.fnOf "__sub__" "Growth.__sub__" (defArgs s_Growth_sub) (defBody s_Growth_sub) (defScope s_Growth_sub) .none kV_Growth_sub dc_Growth_sub pm_Growth_sub an_Growth_sub cd_Growth_sub ct_Growth_sub), sl_Growth_sub⟩)
    (c_Growth_sub : PySem.W.codeIn K cd_Growth_sub "Growth.__sub__" = true)
    (k_Growth_sub : PySem.W.keepIn K (.ref f_Growth_sub) = true)
    (a_Growth_rsub : PySem.W.findIn K (.ref c_Growth) "__rsub__" = some (some (.ref f_Growth_rsub)))
    (i_Growth_rsub : PySem.W.isFn K (.ref f_Growth_rsub) = true)
    (l_Growth_rsub : K.lookup f_Growth_rsub = some ⟨oc_Growth_rsub, od_Growth_rsub, .func (PySem.W.fnOf "__rsub__" "Growth.__rsub__" (defArgs s_Growth_rsub) (defBody s_Growth_rsub) (defScope s_Growth_rsub) .none kV_Growth_rsub dc_Growth_rsub pm_Growth_rsub an_Growth_rsub cd_Growth_rsub ct_Growth_rsub), sl_Growth_rsub⟩)
    (c_Growth_rsub : PySem.W.codeIn K cd_Growth_rsub "Growth.__rsub__" = true)
    (k_Growth_rsub : PySem.W.keepIn K (.ref f_Growth_rsub) = true)
    (a_Growth_neg : PySem.W.findIn K (.ref c_Growth) "__neg__" = some (some (.ref f_Growth_neg)))
    (i_Growth_neg : PySem.W.isFn K (.ref f_Growth_neg) = true)
    (l_Growth_neg : K.lookup f_Growth_neg = some ⟨oc_Growth_neg, od_Growth_neg, .func (PySem.W.fnOf "__neg__" "Growth.__neg__" (defArgs s_Growth_neg) (defBody s_Growth_neg) (defScope s_Growth_neg) .none kV_Growth_neg dc_Growth_neg pm_Growth_neg an_Growth_neg cd_Growth_neg ct_Growth_neg), sl_Growth_neg⟩)
    (c_Growth_neg : PySem.W.codeIn K cd_Growth_neg "Growth.__neg__" = true)
    (k_Growth_neg : PySem.W.keepIn K (.ref f_Growth_neg) = true)
    (a_Growth_mul : PySem.W.findIn K (.ref c_Growth) "__mul__" = some (some (.ref f_Growth_mul)))
    (i_Growth_mul : PySem.W.isFn K (.ref f_Growth_mul) = true)
    (l_Growth_mul : K.lookup f_Growth_mul = some ⟨oc_Growth_mul, od_Growth_mul, .func (PySem.W.fnOf "__mul__" "Growth.__mul__" (defArgs s_Growth_mul) (defBody s_Growth_mul) (defScope s_Growth_mul) .none kV_Growth_mul dc_Growth_mul pm_Growth_mul an_Growth_mul cd_Growth_mul ct_Growth_mul), sl_Growth_mul⟩)
    (c_Growth_mul : PySem.W.codeIn K cd_Growth_mul "Growth.__mul__" = true)
    (k_Growth_mul : PySem.W.keepIn K (.ref f_Growth_mul) = true)
    (a_Growth_rmul : PySem.W.findIn K (.ref c_Growth) "__rmul__" = some (some (.ref f_Growth_rmul)))
    (i_Growth_rmul : PySem.W.isFn K (.ref f_Growth_rmul) = true)
    (l_Growth_rmul : K.lookup f_Growth_rmul = some ⟨oc_Growth_rmul, od_Growth_rmul, .func (PySem.W.fnOf "__rmul__" "Growth.__rmul__" (defArgs s_Growth_rmul) (defBody s_Growth_rmul) (defScope s_Growth_rmul) .none kV_Growth_rmul dc_Growth_rmul pm_Growth_rmul an_Growth_rmul cd_Growth_rmul ct_Growth_rmul), sl_Growth_rmul⟩)
    (c_Growth_rmul : PySem.W.codeIn K cd_Growth_rmul "Growth.__rmul__" = true)
    (k_Growth_rmul : PySem.W.keepIn K (.ref f_Growth_rmul) = true)
    (a_Growth_eq : PySem.W.findIn K (.ref c_Growth) "__eq__" = some (some (.ref f_Growth_eq)))
    (i_Growth_eq : PySem.W.isFn K (.ref f_Growth_eq) = true)
    (l_Growth_eq : K.lookup f_Growth_eq = some ⟨oc_Growth_eq, od_Growth_eq, .func (PySem.W.fnOf "__eq__" "Growth.__eq__" (defArgs s_Growth_eq) (defBody s_Growth_eq) (defScope s_Growth_eq) .none kV_Growth_eq dc_Growth_eq pm_Growth_eq an_Growth_eq cd_Growth_eq ct_Growth_eq), sl_Growth_eq⟩)
    (c_Growth_eq : PySem.W.codeIn K cd_Growth_eq "Growth.__eq__" = true)
    (k_Growth_eq : PySem.W.keepIn K (.ref f_Growth_eq) = true)
    (a_Growth_stretch : PySem.W.findIn K (.ref c_Growth) "stretch" = some (some (.ref f_Growth_stretch)))
    (i_Growth_stretch : PySem.W.isFn K (.ref f_Growth_stretch) = true)
    (l_Growth_stretch : K.lookup f_Growth_stretch = some ⟨oc_Growth_stretch, od_Growth_stretch, .func (PySem.W.fnOf "stretch" "Growth.stretch" (defArgs s_Growth_stretch) (defBody s_Growth_stretch) (defScope s_Growth_stretch) .none kV_Growth_stretch dc_Growth_stretch pm_Growth_stretch an_Growth_stretch cd_Growth_stretch ct_Growth_stretch), sl_Growth_stretch⟩)
    (c_Growth_stretch : PySem.W.codeIn K cd_Growth_stretch "Growth.stretch" = true)
    (k_Growth_stretch : PySem.W.keepIn K (.ref f_Growth_stretch) = true)
    (a_law_pen : PySem.W.nsIn K mainGlobals "_law_pen" = some (some (.ref f_law_pen)))
    (l_law_pen : K.lookup f_law_pen = some ⟨oc_law_pen, od_law_pen, .func (PySem.W.fnOf "_law_pen" "_law_pen" (defArgs s_law_pen) (defBody s_law_pen) (defScope s_law_pen) .none kV_law_pen dc_law_pen pm_law_pen an_law_pen cd_law_pen ct_law_pen), sl_law_pen⟩)
    (c_law_pen : PySem.W.codeIn K cd_law_pen "_law_pen" = true)
    (k_law_pen : PySem.W.keepIn K (.ref f_law_pen) = true)
    (a_law_draw : PySem.W.nsIn K mainGlobals "_law_draw" = some (some (.ref f_law_draw)))
    (l_law_draw : K.lookup f_law_draw = some ⟨oc_law_draw, od_law_draw, .func (PySem.W.fnOf "_law_draw" "_law_draw" (defArgs s_law_draw) (defBody s_law_draw) (defScope s_law_draw) .none kV_law_draw dc_law_draw pm_law_draw an_law_draw cd_law_draw ct_law_draw), sl_law_draw⟩)
    (c_law_draw : PySem.W.codeIn K cd_law_draw "_law_draw" = true)
    (k_law_draw : PySem.W.keepIn K (.ref f_law_draw) = true)
    (a_law_told : PySem.W.nsIn K mainGlobals "_law_told" = some (some (.ref f_law_told)))
    (l_law_told : K.lookup f_law_told = some ⟨oc_law_told, od_law_told, .func (PySem.W.fnOf "_law_told" "_law_told" (defArgs s_law_told) (defBody s_law_told) (defScope s_law_told) .none kV_law_told dc_law_told pm_law_told an_law_told cd_law_told ct_law_told), sl_law_told⟩)
    (c_law_told : PySem.W.codeIn K cd_law_told "_law_told" = true)
    (k_law_told : PySem.W.keepIn K (.ref f_law_told) = true)
    (a_law_at : PySem.W.nsIn K mainGlobals "_law_at" = some (some (.ref f_law_at)))
    (l_law_at : K.lookup f_law_at = some ⟨oc_law_at, od_law_at, .func (PySem.W.fnOf "_law_at" "_law_at" (defArgs s_law_at) (defBody s_law_at) (defScope s_law_at) .none kV_law_at dc_law_at pm_law_at an_law_at cd_law_at ct_law_at), sl_law_at⟩)
    (c_law_at : PySem.W.codeIn K cd_law_at "_law_at" = true)
    (k_law_at : PySem.W.keepIn K (.ref f_law_at) = true)
    (a_law_some : PySem.W.nsIn K mainGlobals "_law_some" = some (some (.ref f_law_some)))
    (l_law_some : K.lookup f_law_some = some ⟨oc_law_some, od_law_some, .func (PySem.W.fnOf "_law_some" "_law_some" (defArgs s_law_some) (defBody s_law_some) (defScope s_law_some) .none kV_law_some dc_law_some pm_law_some an_law_some cd_law_some ct_law_some), sl_law_some⟩)
    (c_law_some : PySem.W.codeIn K cd_law_some "_law_some" = true)
    (k_law_some : PySem.W.keepIn K (.ref f_law_some) = true)
    (a_law_repeats : PySem.W.nsIn K mainGlobals "_law_repeats" = some (some (.ref f_law_repeats)))
    (l_law_repeats : K.lookup f_law_repeats = some ⟨oc_law_repeats, od_law_repeats, .func (PySem.W.fnOf "_law_repeats" "_law_repeats" (defArgs s_law_repeats) (defBody s_law_repeats) (defScope s_law_repeats) .none kV_law_repeats dc_law_repeats pm_law_repeats an_law_repeats cd_law_repeats ct_law_repeats), sl_law_repeats⟩)
    (c_law_repeats : PySem.W.codeIn K cd_law_repeats "_law_repeats" = true)
    (k_law_repeats : PySem.W.keepIn K (.ref f_law_repeats) = true)
    (a_law_is_normal : PySem.W.nsIn K mainGlobals "_law_is_normal" = some (some (.ref f_law_is_normal)))
    (l_law_is_normal : K.lookup f_law_is_normal = some ⟨oc_law_is_normal, od_law_is_normal, .func (PySem.W.fnOf "_law_is_normal" "_law_is_normal" (defArgs s_law_is_normal) (defBody s_law_is_normal) (defScope s_law_is_normal) .none kV_law_is_normal dc_law_is_normal pm_law_is_normal an_law_is_normal cd_law_is_normal ct_law_is_normal), sl_law_is_normal⟩)
    (c_law_is_normal : PySem.W.codeIn K cd_law_is_normal "_law_is_normal" = true)
    (k_law_is_normal : PySem.W.keepIn K (.ref f_law_is_normal) = true)
    (a_law_same : PySem.W.nsIn K mainGlobals "_law_same" = some (some (.ref f_law_same)))
    (l_law_same : K.lookup f_law_same = some ⟨oc_law_same, od_law_same, .func (PySem.W.fnOf "_law_same" "_law_same" (defArgs s_law_same) (defBody s_law_same) (defScope s_law_same) .none kV_law_same dc_law_same pm_law_same an_law_same cd_law_same ct_law_same), sl_law_same⟩)
    (c_law_same : PySem.W.codeIn K cd_law_same "_law_same" = true)
    (k_law_same : PySem.W.keepIn K (.ref f_law_same) = true)
    (a_law_sum : PySem.W.nsIn K mainGlobals "_law_sum" = some (some (.ref f_law_sum)))
    (l_law_sum : K.lookup f_law_sum = some ⟨oc_law_sum, od_law_sum, .func (PySem.W.fnOf "_law_sum" "_law_sum" (defArgs s_law_sum) (defBody s_law_sum) (defScope s_law_sum) .none kV_law_sum dc_law_sum pm_law_sum an_law_sum cd_law_sum ct_law_sum), sl_law_sum⟩)
    (c_law_sum : PySem.W.codeIn K cd_law_sum "_law_sum" = true)
    (k_law_sum : PySem.W.keepIn K (.ref f_law_sum) = true)
    (a_law_lift : PySem.W.nsIn K mainGlobals "_law_lift" = some (some (.ref f_law_lift)))
    (l_law_lift : K.lookup f_law_lift = some ⟨oc_law_lift, od_law_lift, .func (PySem.W.fnOf "_law_lift" "_law_lift" (defArgs s_law_lift) (defBody s_law_lift) (defScope s_law_lift) .none kV_law_lift dc_law_lift pm_law_lift an_law_lift cd_law_lift ct_law_lift), sl_law_lift⟩)
    (c_law_lift : PySem.W.codeIn K cd_law_lift "_law_lift" = true)
    (k_law_lift : PySem.W.keepIn K (.ref f_law_lift) = true)
    (a_law_pair_right : PySem.W.nsIn K mainGlobals "_law_pair_right" = some (some (.ref f_law_pair_right)))
    (l_law_pair_right : K.lookup f_law_pair_right = some ⟨oc_law_pair_right, od_law_pair_right, .func (PySem.W.fnOf "_law_pair_right" "_law_pair_right" (defArgs s_law_pair_right) (defBody s_law_pair_right) (defScope s_law_pair_right) .none kV_law_pair_right dc_law_pair_right pm_law_pair_right an_law_pair_right cd_law_pair_right ct_law_pair_right), sl_law_pair_right⟩)
    (c_law_pair_right : PySem.W.codeIn K cd_law_pair_right "_law_pair_right" = true)
    (k_law_pair_right : PySem.W.keepIn K (.ref f_law_pair_right) = true)
    (a_law_number_right : PySem.W.nsIn K mainGlobals "_law_number_right" = some (some (.ref f_law_number_right)))
    (l_law_number_right : K.lookup f_law_number_right = some ⟨oc_law_number_right, od_law_number_right, .func (PySem.W.fnOf "_law_number_right" "_law_number_right" (defArgs s_law_number_right) (defBody s_law_number_right) (defScope s_law_number_right) .none kV_law_number_right dc_law_number_right pm_law_number_right an_law_number_right cd_law_number_right ct_law_number_right), sl_law_number_right⟩)
    (c_law_number_right : PySem.W.codeIn K cd_law_number_right "_law_number_right" = true)
    (k_law_number_right : PySem.W.keepIn K (.ref f_law_number_right) = true)
    (a_law : PySem.W.nsIn K mainGlobals "law" = some (some (.ref f_law)))
    (l_law : K.lookup f_law = some ⟨oc_law, od_law, .func (PySem.W.fnOf "law" "law" (defArgs s_law) (defBody s_law) (defScope s_law) .none kV_law dc_law pm_law an_law cd_law ct_law), sl_law⟩)
    (c_law : PySem.W.codeIn K cd_law "law" = true)
    (k_law : PySem.W.keepIn K (.ref f_law) = true)
    (rf_cd_law_pair_right : cd_law_pair_right = .ref cc_law_pair_right)
    (lc_law_pair_right : K.lookup cc_law_pair_right = some ⟨occ_law_pair_right, odc_law_pair_right, .fields vsc_law_pair_right, slc_law_pair_right⟩)
    (rf_P_law_pair_right : vsc_law_pair_right[11]? = some (.ref P_law_pair_right))
    (np_law_pair_right : K.lookup P_law_pair_right = none)
    (ne_law_pair_right_law_number_right : P_law_pair_right ≠ P_law_number_right)
    (rf_cd_law_number_right : cd_law_number_right = .ref cc_law_number_right)
    (lc_law_number_right : K.lookup cc_law_number_right = some ⟨occ_law_number_right, odc_law_number_right, .fields vsc_law_number_right, slc_law_number_right⟩)
    (rf_P_law_number_right : vsc_law_number_right[11]? = some (.ref P_law_number_right))
    (np_law_number_right : K.lookup P_law_number_right = none)
    (ai_MOST_GAINS : PySem.W.nsIn K mainGlobals "MOST_GAINS" = some (some (.int 60 tgi_MOST_GAINS)))
    (ai_MOST_TOLD : PySem.W.nsIn K mainGlobals "MOST_TOLD" = some (some (.int 4000 tgi_MOST_TOLD)))
    (ai_FAR : PySem.W.nsIn K mainGlobals "FAR" = some (some (.int 20000 tgi_FAR)))
    (pg_Growth : PySem.W.plainGet K c_Growth Str.empty = true)
    (hd_Growth : PySem.W.hasDictIn K c_Growth = true)
    (po_Growth : PySem.W.plainOver K c_Growth = true)
    (sa_Growth : PySem.W.findIn K (.ref c_Growth) "__setattr__" = some (some (.builtin "object.__setattr__")))
    (mk_Growth : PySem.W.makesIn K c_Growth = true)
    (kc_Growth : PySem.W.keepIn K (.ref c_Growth) = true)
    (na_told : PySem.W.findIn K (.ref c_Growth) "told" = some none)
    (na_gains : PySem.W.findIn K (.ref c_Growth) "gains" = some none)
    (ha : PySem.W.findIn K (.ref c_Growth) "__class__" = some (some (.builtin "object.__class__")))
    (hn : PySem.W.specialIn K (.builtin "object.__class__") "__get__" = some (some (.builtin "getset_descriptor.__get__")))
    (htk : PySem.W.takesIn K (.builtin "object.__class__") = some true)
    (hm : PySem.W.mroIn K c_Growth (.type "object") = some true)
    (isC : PySem.W.isClsIn K c_Growth = true)
    (tyC : PySem.W.typeIn K (.ref c_Growth) = some (.type "type"))
    (nr : PySem.W.notFirst K c_Growth (.ref c_Growth) = true)
    (xr_int : PySem.W.subIn K (.type "int") (.ref c_Growth) = some false)
    (xr_bool : PySem.W.subIn K (.type "bool") (.ref c_Growth) = some false)
    (xr_NoneType : PySem.W.subIn K (.type "NoneType") (.ref c_Growth) = some false)
    (xr_str : PySem.W.subIn K (.type "str") (.ref c_Growth) = some false)
    (xr_list : PySem.W.subIn K (.type "list") (.ref c_Growth) = some false)
    (xr_tuple : PySem.W.subIn K (.type "tuple") (.ref c_Growth) = some false)
    (xr_dict : PySem.W.subIn K (.type "dict") (.ref c_Growth) = some false)
    (nx_int : PySem.W.notFirst K c_Growth (.type "int") = true)
    (nx_bool : PySem.W.notFirst K c_Growth (.type "bool") = true)
    (nx_NoneType : PySem.W.notFirst K c_Growth (.type "NoneType") = true)
    (nx_str : PySem.W.notFirst K c_Growth (.type "str") = true)
    (nx_list : PySem.W.notFirst K c_Growth (.type "list") = true)
    (nx_tuple : PySem.W.notFirst K c_Growth (.type "tuple") = true)
    (nx_dict : PySem.W.notFirst K c_Growth (.type "dict") = true)
    (sf : PySem.W.selfFirst K c_Growth = true)
    (subr : PySem.W.subIn K (.ref c_Growth) (.type "int") = some false)
    (fr_Add : PySem.W.findIn K (.ref c_Growth) "__radd__" = some (some (.ref frAdd)))
    (fr_Sub : PySem.W.findIn K (.ref c_Growth) "__rsub__" = some (some (.ref frSub)))
    (fr_Mult : PySem.W.findIn K (.ref c_Growth) "__rmul__" = some (some (.ref frMult)))
    (lC : K.lookup c_Growth = some (excClassObj nmC qC c_Growth NC bsC [.type "object"] hdctC snC subC abC colC ddC k0C k1C k2C k3C k5C newIdC))
    (lN : K.lookup NC = some ⟨ocN, odN, .dict esN nN, slN⟩)
    (rf_nsk : (esN.toList.all fun e => match e.key with | .str _ _ => true | _ => false) = true)
    (eqC : PySem.W.nsIn K NC "__eq__" = some (some (.ref f_Growth_eq)))
    (rf_ocEq : oc_Growth_eq = .type "function")
    (neC : PySem.W.nsIn K NC "__ne__" = some none)
    (hcd : PySem.W.clsIn K c_Growth = some cd)
    (rf_hmro : cd.mro = [.ref c_Growth, .type "object"])
    (niAdd : PySem.W.findIn K (.ref c_Growth) "__iadd__" = some none)
    (niSub : PySem.W.findIn K (.ref c_Growth) "__isub__" = some none)
    (niMult : PySem.W.findIn K (.ref c_Growth) "__imul__" = some none)
    (fi_getitem : PySem.W.fnIn K f_Growth_getitem = true)
    (zb_abs : PySem.W.nsIn K mainGlobals "abs" = some none)
    (zb_all : PySem.W.nsIn K mainGlobals "all" = some none)
    (zb_bool : PySem.W.nsIn K mainGlobals "bool" = some none)
    (zb_int : PySem.W.nsIn K mainGlobals "int" = some none)
    (zb_isinstance : PySem.W.nsIn K mainGlobals "isinstance" = some none)
    (zb_len : PySem.W.nsIn K mainGlobals "len" = some none)
    (zb_list : PySem.W.nsIn K mainGlobals "list" = some none)
    (zb_max : PySem.W.nsIn K mainGlobals "max" = some none)
    (zb_range : PySem.W.nsIn K mainGlobals "range" = some none)
    (zb_repr : PySem.W.nsIn K mainGlobals "repr" = some none)
    (zb_tuple : PySem.W.nsIn K mainGlobals "tuple" = some none)
    : ∃ (fd : FuncData) (cs : List (Addr × Addr)), (∀ p ∈ cs, TabAt K h p.1 p.2) ∧ (∀ (s : Shared) (v : Value), BindsTo s fd ⟨[v], []⟩ [("_law_script", v)]) ∧ ∀ base : Heap, K.In base → base.Ns mainGlobals mg → (∀ p ∈ cs, LamX.TabB base mg p.1 p.2) → FnG l.prog w K mg base CX0 22 fa fd ["_law_script"] (spLawT cs K) := by
  have e := hfa.symm.trans (PySem.W.mg_of X G a_law)
  cases e
  have F_is_integer := fun_mk (st := s_is_integer) l_is_integer c_is_integer k_is_integer
  have B_is_integer := F_is_integer.binds (ps := ["value"]) fun _ _ _ _ _ _ us hl => match us, hl with | [_], _ => rfl
  have F_is_value := fun_mk (st := s_is_value) l_is_value c_is_value k_is_value
  have B_is_value := F_is_value.binds (ps := ["value"]) fun _ _ _ _ _ _ us hl => match us, hl with | [_], _ => rfl
  have F_is_list := fun_mk (st := s_is_list) l_is_list c_is_list k_is_list
  have B_is_list := F_is_list.binds (ps := ["value", "least"]) fun _ _ _ _ _ _ us hl => match us, hl with | [_, _], _ => rfl
  have F_added := fun_mk (st := s_added) l_added c_added k_added
  have B_added := F_added.binds (ps := ["value", "number"]) fun _ _ _ _ _ _ us hl => match us, hl with | [_, _], _ => rfl
  have F_value_at := fun_mk (st := s_value_at) l_value_at c_value_at k_value_at
  have B_value_at := F_value_at.binds (ps := ["told", "gains", "n"]) fun _ _ _ _ _ _ us hl => match us, hl with | [_, _, _], _ => rfl
  have F_step_between := fun_mk (st := s_step_between) l_step_between c_step_between k_step_between
  have B_step_between := F_step_between.binds (ps := ["low", "high"]) fun _ _ _ _ _ _ us hl => match us, hl with | [_, _], _ => rfl
  have F_gains_of := fun_mk (st := s_gains_of) l_gains_of c_gains_of k_gains_of
  have B_gains_of := F_gains_of.binds (ps := ["row", "origin", "period"]) fun _ _ _ _ _ _ us hl => match us, hl with | [_, _, _], _ => rfl
  have F_least_gains := fun_mk (st := s_least_gains) l_least_gains c_least_gains k_least_gains
  have B_least_gains := F_least_gains.binds (ps := ["row", "origin", "period"]) fun _ _ _ _ _ _ us hl => match us, hl with | [_, _, _], _ => rfl
  have F_trimmed := fun_mk (st := s_trimmed) l_trimmed c_trimmed k_trimmed
  have B_trimmed := F_trimmed.binds (ps := ["told", "gains"]) fun _ _ _ _ _ _ us hl => match us, hl with | [_, _], _ => rfl
  have F_normal_form := fun_mk (st := s_normal_form) l_normal_form c_normal_form k_normal_form
  have B_normal_form := F_normal_form.binds (ps := ["told", "gains"]) fun _ _ _ _ _ _ us hl => match us, hl with | [_, _], _ => rfl
  have F_shared_multiple := fun_mk (st := s_shared_multiple) l_shared_multiple c_shared_multiple k_shared_multiple
  have B_shared_multiple := F_shared_multiple.binds (ps := ["one", "other"]) fun _ _ _ _ _ _ us hl => match us, hl with | [_, _], _ => rfl
  have F_sum_of := fun_mk (st := s_sum_of) l_sum_of c_sum_of k_sum_of
  have B_sum_of := F_sum_of.binds (ps := ["one", "other"]) fun _ _ _ _ _ _ us hl => match us, hl with | [_, _], _ => rfl
  have F_combined := fun_mk (st := s_combined) l_combined c_combined k_combined
  have B_combined := F_combined.binds (ps := ["word", "one", "other"]) fun _ _ _ _ _ _ us hl => match us, hl with | [_, _, _], _ => rfl
  have F_need_growth := fun_mk (st := s_need_growth) l_need_growth c_need_growth k_need_growth
  have B_need_growth := F_need_growth.binds (ps := ["other"]) fun _ _ _ _ _ _ us hl => match us, hl with | [_], _ => rfl
  have F_need_index := fun_mk (st := s_need_index) l_need_index c_need_index k_need_index
  have B_need_index := F_need_index.binds (ps := ["n"]) fun _ _ _ _ _ _ us hl => match us, hl with | [_], _ => rfl
  have F_need_integer := fun_mk (st := s_need_integer) l_need_integer c_need_integer k_need_integer
  have B_need_integer := F_need_integer.binds (ps := ["number"]) fun _ _ _ _ _ _ us hl => match us, hl with | [_], _ => rfl
  have F_Growth_init := funD_mk (st := s_Growth_init) (dvs := [.ref dt_Growth_init_0]) (its := [.ref dt_Growth_init_0]) l_Growth_init lT_Growth_init (.cons rfl .nil) (by simp) c_Growth_init k_Growth_init
  have B_Growth_init : Binds K (PySem.W.fnOf "__init__" "Growth.__init__" (defArgs s_Growth_init) (defBody s_Growth_init) (defScope s_Growth_init) (.ref T_Growth_init) kV_Growth_init dc_Growth_init pm_Growth_init an_Growth_init cd_Growth_init ct_Growth_init) ["self", "told", "gains"] [] := by
    obtain ⟨ds, v, b⟩ := F_Growth_init.binds1 (ps := ["self", "told", "gains"]) 3 1 (by simp) rfl fun _ _ _ _ _ _ _ us its h1 h2 => match us, its, h1, h2 with | [_, _, _], [_], _, _ => ⟨_, rfl, rfl⟩
    cases v
    exact b
  have F_Growth_getitem := fun_mk (st := s_Growth_getitem) l_Growth_getitem c_Growth_getitem k_Growth_getitem
  have B_Growth_getitem := F_Growth_getitem.binds (ps := ["self", "n"]) fun _ _ _ _ _ _ us hl => match us, hl with | [_, _], _ => rfl
  have F_merged := fun_mk (st := s_merged) l_merged c_merged k_merged
  have B_merged := F_merged.binds (ps := ["word", "one", "other"]) fun _ _ _ _ _ _ us hl => match us, hl with | [_, _, _], _ => rfl
  have F_term := fun_mk (st := s_term) l_term c_term k_term
  have B_term := F_term.binds (ps := ["other"]) fun _ _ _ _ _ _ us hl => match us, hl with | [_], _ => rfl
  have F_times := fun_mk (st := s_times) l_times c_times k_times
  have B_times := F_times.binds (ps := ["growth", "number"]) fun _ _ _ _ _ _ us hl => match us, hl with | [_, _], _ => rfl
  have F_Growth_add := fun_mk (st := s_Growth_add) l_Growth_add c_Growth_add k_Growth_add
  have B_Growth_add := F_Growth_add.binds (ps := ["self", "other"]) fun _ _ _ _ _ _ us hl => match us, hl with | [_, _], _ => rfl
  have F_Growth_radd := fun_mk (st := s_Growth_radd) l_Growth_radd c_Growth_radd k_Growth_radd
  have B_Growth_radd := F_Growth_radd.binds (ps := ["self", "other"]) fun _ _ _ _ _ _ us hl => match us, hl with | [_, _], _ => rfl
  have F_Growth_sub := fun_mk (st := s_Growth_sub) l_Growth_sub c_Growth_sub k_Growth_sub
  have B_Growth_sub := F_Growth_sub.binds (ps := ["self", "other"]) fun _ _ _ _ _ _ us hl => match us, hl with | [_, _], _ => rfl
  have F_Growth_rsub := fun_mk (st := s_Growth_rsub) l_Growth_rsub c_Growth_rsub k_Growth_rsub
  have B_Growth_rsub := F_Growth_rsub.binds (ps := ["self", "other"]) fun _ _ _ _ _ _ us hl => match us, hl with | [_, _], _ => rfl
  have F_Growth_neg := fun_mk (st := s_Growth_neg) l_Growth_neg c_Growth_neg k_Growth_neg
  have B_Growth_neg := F_Growth_neg.binds (ps := ["self"]) fun _ _ _ _ _ _ us hl => match us, hl with | [_], _ => rfl
  have F_Growth_mul := fun_mk (st := s_Growth_mul) l_Growth_mul c_Growth_mul k_Growth_mul
  have B_Growth_mul := F_Growth_mul.binds (ps := ["self", "number"]) fun _ _ _ _ _ _ us hl => match us, hl with | [_, _], _ => rfl
  have F_Growth_rmul := fun_mk (st := s_Growth_rmul) l_Growth_rmul c_Growth_rmul k_Growth_rmul
  have B_Growth_rmul := F_Growth_rmul.binds (ps := ["self", "number"]) fun _ _ _ _ _ _ us hl => match us, hl with | [_, _], _ => rfl
  have F_Growth_eq := fun_mk (st := s_Growth_eq) l_Growth_eq c_Growth_eq k_Growth_eq
  have B_Growth_eq := F_Growth_eq.binds (ps := ["self", "other"]) fun _ _ _ _ _ _ us hl => match us, hl with | [_, _], _ => rfl
  have F_Growth_stretch := fun_mk (st := s_Growth_stretch) l_Growth_stretch c_Growth_stretch k_Growth_stretch
  have B_Growth_stretch := F_Growth_stretch.binds (ps := ["self", "a", "b"]) fun _ _ _ _ _ _ us hl => match us, hl with | [_, _, _], _ => rfl
  have F_law_pen := fun_mk (st := s_law_pen) l_law_pen c_law_pen k_law_pen
  have B_law_pen := F_law_pen.binds (ps := ["_law_script"]) fun _ _ _ _ _ _ us hl => match us, hl with | [_], _ => rfl
  have F_law_draw := fun_mk (st := s_law_draw) l_law_draw c_law_draw k_law_draw
  have B_law_draw := F_law_draw.binds (ps := ["_law_pen_here", "_law_many"]) fun _ _ _ _ _ _ us hl => match us, hl with | [_, _], _ => rfl
  have F_law_told := fun_mk (st := s_law_told) l_law_told c_law_told k_law_told
  have B_law_told := F_law_told.binds (ps := ["_law_pen_here"]) fun _ _ _ _ _ _ us hl => match us, hl with | [_], _ => rfl
  have F_law_at := fun_mk (st := s_law_at) l_law_at c_law_at k_law_at
  have B_law_at := F_law_at.binds (ps := ["_law_pair", "_law_n"]) fun _ _ _ _ _ _ us hl => match us, hl with | [_, _], _ => rfl
  have F_law_some := fun_mk (st := s_law_some) l_law_some c_law_some k_law_some
  have B_law_some := F_law_some.binds (ps := ["_law_pair"]) fun _ _ _ _ _ _ us hl => match us, hl with | [_], _ => rfl
  have F_law_repeats := fun_mk (st := s_law_repeats) l_law_repeats c_law_repeats k_law_repeats
  have B_law_repeats := F_law_repeats.binds (ps := ["_law_pair", "_law_less"]) fun _ _ _ _ _ _ us hl => match us, hl with | [_, _], _ => rfl
  have F_law_is_normal := fun_mk (st := s_law_is_normal) l_law_is_normal c_law_is_normal k_law_is_normal
  have B_law_is_normal := F_law_is_normal.binds (ps := ["_law_told_here", "_law_gains"]) fun _ _ _ _ _ _ us hl => match us, hl with | [_, _], _ => rfl
  have F_law_same := fun_mk (st := s_law_same) l_law_same c_law_same k_law_same
  have B_law_same := F_law_same.binds (ps := ["_law_growth", "_law_due", "_law_some_here"]) fun _ _ _ _ _ _ us hl => match us, hl with | [_, _, _], _ => rfl
  have F_law_sum := fun_mk (st := s_law_sum) l_law_sum c_law_sum k_law_sum
  have B_law_sum := F_law_sum.binds (ps := ["_law_one", "_law_other", "_law_sign", "_law_n"]) fun _ _ _ _ _ _ us hl => match us, hl with | [_, _, _, _], _ => rfl
  have F_law_lift := fun_mk (st := s_law_lift) l_law_lift c_law_lift k_law_lift
  have B_law_lift := F_law_lift.binds (ps := ["_law_pair", "_law_times", "_law_more", "_law_n"]) fun _ _ _ _ _ _ us hl => match us, hl with | [_, _, _, _], _ => rfl
  have F_law_pair_right := fun_mk (st := s_law_pair_right) l_law_pair_right c_law_pair_right k_law_pair_right
  have B_law_pair_right := F_law_pair_right.binds (ps := ["_law_one", "_law_other"]) fun _ _ _ _ _ _ us hl => match us, hl with | [_, _], _ => rfl
  have F_law_number_right := fun_mk (st := s_law_number_right) l_law_number_right c_law_number_right k_law_number_right
  have B_law_number_right := F_law_number_right.binds (ps := ["_law_pen_here", "_law_pair"]) fun _ _ _ _ _ _ us hl => match us, hl with | [_, _], _ => rfl
  have F_law := fun_mk (st := s_law) l_law c_law k_law
  have cl_Growth : Cls K c_Growth := ⟨pg_Growth, hd_Growth, po_Growth, sa_Growth⟩
  let A : Ad := { c_Growth := c_Growth, cc_law_pair_right := cc_law_pair_right, P_law_pair_right := P_law_pair_right, cc_law_number_right := cc_law_number_right, P_law_number_right := P_law_number_right, dt_Growth_init_0 := dt_Growth_init_0, f_is_integer := f_is_integer, f_is_value := f_is_value, f_is_list := f_is_list, f_added := f_added, f_value_at := f_value_at, f_step_between := f_step_between, f_gains_of := f_gains_of, f_least_gains := f_least_gains, f_trimmed := f_trimmed, f_normal_form := f_normal_form, f_shared_multiple := f_shared_multiple, f_sum_of := f_sum_of, f_combined := f_combined, f_need_growth := f_need_growth, f_need_index := f_need_index, f_need_integer := f_need_integer, f_Growth_init := f_Growth_init, f_Growth_getitem := f_Growth_getitem, f_merged := f_merged, f_term := f_term, f_times := f_times, f_Growth_add := f_Growth_add, f_Growth_radd := f_Growth_radd, f_Growth_sub := f_Growth_sub, f_Growth_rsub := f_Growth_rsub, f_Growth_neg := f_Growth_neg, f_Growth_mul := f_Growth_mul, f_Growth_rmul := f_Growth_rmul, f_Growth_eq := f_Growth_eq, f_Growth_stretch := f_Growth_stretch, f_law_pen := f_law_pen, f_law_draw := f_law_draw, f_law_told := f_law_told, f_law_at := f_law_at, f_law_some := f_law_some, f_law_repeats := f_law_repeats, f_law_is_normal := f_law_is_normal, f_law_same := f_law_same, f_law_sum := f_law_sum, f_law_lift := f_law_lift, f_law_pair_right := f_law_pair_right, f_law_number_right := f_law_number_right, f_law := fa, d_is_integer := PySem.W.fnOf "is_integer" "is_integer" (defArgs s_is_integer) (defBody s_is_integer) (defScope s_is_integer) .none kV_is_integer dc_is_integer pm_is_integer an_is_integer cd_is_integer ct_is_integer, d_is_value := PySem.W.fnOf "is_value" "is_value" (defArgs s_is_value) (defBody s_is_value) (defScope s_is_value) .none kV_is_value dc_is_value pm_is_value an_is_value cd_is_value ct_is_value, d_is_list := PySem.W.fnOf "is_list" "is_list" (defArgs s_is_list) (defBody s_is_list) (defScope s_is_list) .none kV_is_list dc_is_list pm_is_list an_is_list cd_is_list ct_is_list, d_added := PySem.W.fnOf "added" "added" (defArgs s_added) (defBody s_added) (defScope s_added) .none kV_added dc_added pm_added an_added cd_added ct_added, d_value_at := PySem.W.fnOf "value_at" "value_at" (defArgs s_value_at) (defBody s_value_at) (defScope s_value_at) .none kV_value_at dc_value_at pm_value_at an_value_at cd_value_at ct_value_at, d_step_between := PySem.W.fnOf "step_between" "step_between" (defArgs s_step_between) (defBody s_step_between) (defScope s_step_between) .none kV_step_between dc_step_between pm_step_between an_step_between cd_step_between ct_step_between, d_gains_of := PySem.W.fnOf "gains_of" "gains_of" (defArgs s_gains_of) (defBody s_gains_of) (defScope s_gains_of) .none kV_gains_of dc_gains_of pm_gains_of an_gains_of cd_gains_of ct_gains_of, d_least_gains := PySem.W.fnOf "least_gains" "least_gains" (defArgs s_least_gains) (defBody s_least_gains) (defScope s_least_gains) .none kV_least_gains dc_least_gains pm_least_gains an_least_gains cd_least_gains ct_least_gains, d_trimmed := PySem.W.fnOf "trimmed" "trimmed" (defArgs s_trimmed) (defBody s_trimmed) (defScope s_trimmed) .none kV_trimmed dc_trimmed pm_trimmed an_trimmed cd_trimmed ct_trimmed, d_normal_form := PySem.W.fnOf "normal_form" "normal_form" (defArgs s_normal_form) (defBody s_normal_form) (defScope s_normal_form) .none kV_normal_form dc_normal_form pm_normal_form an_normal_form cd_normal_form ct_normal_form, d_shared_multiple := PySem.W.fnOf "shared_multiple" "shared_multiple" (defArgs s_shared_multiple) (defBody s_shared_multiple) (defScope s_shared_multiple) .none kV_shared_multiple dc_shared_multiple pm_shared_multiple an_shared_multiple cd_shared_multiple ct_shared_multiple, d_sum_of := PySem.W.fnOf "sum_of" "sum_of" (defArgs s_sum_of) (defBody s_sum_of) (defScope s_sum_of) .none kV_sum_of dc_sum_of pm_sum_of an_sum_of cd_sum_of ct_sum_of, d_combined := PySem.W.fnOf "combined" "combined" (defArgs s_combined) (defBody s_combined) (defScope s_combined) .none kV_combined dc_combined pm_combined an_combined cd_combined ct_combined, d_need_growth := PySem.W.fnOf "need_growth" "need_growth" (defArgs s_need_growth) (defBody s_need_growth) (defScope s_need_growth) .none kV_need_growth dc_need_growth pm_need_growth an_need_growth cd_need_growth ct_need_growth, d_need_index := PySem.W.fnOf "need_index" "need_index" (defArgs s_need_index) (defBody s_need_index) (defScope s_need_index) .none kV_need_index dc_need_index pm_need_index an_need_index cd_need_index ct_need_index, d_need_integer := PySem.W.fnOf "need_integer" "need_integer" (defArgs s_need_integer) (defBody s_need_integer) (defScope s_need_integer) .none kV_need_integer dc_need_integer pm_need_integer an_need_integer cd_need_integer ct_need_integer, d_Growth_init := PySem.W.fnOf "__init__" "Growth.__init__" (defArgs s_Growth_init) (defBody s_Growth_init) (defScope s_Growth_init) (.ref T_Growth_init) kV_Growth_init dc_Growth_init pm_Growth_init an_Growth_init cd_Growth_init ct_Growth_init, d_Growth_getitem := PySem.W.fnOf "__getitem__" "Growth.__getitem__" (defArgs s_Growth_getitem) (defBody s_Growth_getitem) (defScope s_Growth_getitem) .none kV_Growth_getitem dc_Growth_getitem pm_Growth_getitem an_Growth_getitem cd_Growth_getitem ct_Growth_getitem, d_merged := PySem.W.fnOf "merged" "merged" (defArgs s_merged) (defBody s_merged) (defScope s_merged) .none kV_merged dc_merged pm_merged an_merged cd_merged ct_merged, d_term := PySem.W.fnOf "term" "term" (defArgs s_term) (defBody s_term) (defScope s_term) .none kV_term dc_term pm_term an_term cd_term ct_term, d_times := PySem.W.fnOf "times" "times" (defArgs s_times) (defBody s_times) (defScope s_times) .none kV_times dc_times pm_times an_times cd_times ct_times, d_Growth_add := PySem.W.fnOf "__add__" "Growth.__add__" (defArgs s_Growth_add) (defBody s_Growth_add) (defScope s_Growth_add) .none kV_Growth_add dc_Growth_add pm_Growth_add an_Growth_add cd_Growth_add ct_Growth_add, d_Growth_radd := PySem.W.fnOf "__radd__" "Growth.__radd__" (defArgs s_Growth_radd) (defBody s_Growth_radd) (defScope s_Growth_radd) .none kV_Growth_radd dc_Growth_radd pm_Growth_radd an_Growth_radd cd_Growth_radd ct_Growth_radd, d_Growth_sub := PySem.W.fnOf "__sub__" "Growth.__sub__" (defArgs s_Growth_sub) (defBody s_Growth_sub) (defScope s_Growth_sub) .none kV_Growth_sub dc_Growth_sub pm_Growth_sub an_Growth_sub cd_Growth_sub ct_Growth_sub, d_Growth_rsub := PySem.W.fnOf "__rsub__" "Growth.__rsub__" (defArgs s_Growth_rsub) (defBody s_Growth_rsub) (defScope s_Growth_rsub) .none kV_Growth_rsub dc_Growth_rsub pm_Growth_rsub an_Growth_rsub cd_Growth_rsub ct_Growth_rsub, d_Growth_neg := PySem.W.fnOf "__neg__" "Growth.__neg__" (defArgs s_Growth_neg) (defBody s_Growth_neg) (defScope s_Growth_neg) .none kV_Growth_neg dc_Growth_neg pm_Growth_neg an_Growth_neg cd_Growth_neg ct_Growth_neg, d_Growth_mul := PySem.W.fnOf "__mul__" "Growth.__mul__" (defArgs s_Growth_mul) (defBody s_Growth_mul) (defScope s_Growth_mul) .none kV_Growth_mul dc_Growth_mul pm_Growth_mul an_Growth_mul cd_Growth_mul ct_Growth_mul, d_Growth_rmul := PySem.W.fnOf "__rmul__" "Growth.__rmul__" (defArgs s_Growth_rmul) (defBody s_Growth_rmul) (defScope s_Growth_rmul) .none kV_Growth_rmul dc_Growth_rmul pm_Growth_rmul an_Growth_rmul cd_Growth_rmul ct_Growth_rmul, d_Growth_eq := PySem.W.fnOf "__eq__" "Growth.__eq__" (defArgs s_Growth_eq) (defBody s_Growth_eq) (defScope s_Growth_eq) .none kV_Growth_eq dc_Growth_eq pm_Growth_eq an_Growth_eq cd_Growth_eq ct_Growth_eq, d_Growth_stretch := PySem.W.fnOf "stretch" "Growth.stretch" (defArgs s_Growth_stretch) (defBody s_Growth_stretch) (defScope s_Growth_stretch) .none kV_Growth_stretch dc_Growth_stretch pm_Growth_stretch an_Growth_stretch cd_Growth_stretch ct_Growth_stretch, d_law_pen := PySem.W.fnOf "_law_pen" "_law_pen" (defArgs s_law_pen) (defBody s_law_pen) (defScope s_law_pen) .none kV_law_pen dc_law_pen pm_law_pen an_law_pen cd_law_pen ct_law_pen, d_law_draw := PySem.W.fnOf "_law_draw" "_law_draw" (defArgs s_law_draw) (defBody s_law_draw) (defScope s_law_draw) .none kV_law_draw dc_law_draw pm_law_draw an_law_draw cd_law_draw ct_law_draw, d_law_told := PySem.W.fnOf "_law_told" "_law_told" (defArgs s_law_told) (defBody s_law_told) (defScope s_law_told) .none kV_law_told dc_law_told pm_law_told an_law_told cd_law_told ct_law_told, d_law_at := PySem.W.fnOf "_law_at" "_law_at" (defArgs s_law_at) (defBody s_law_at) (defScope s_law_at) .none kV_law_at dc_law_at pm_law_at an_law_at cd_law_at ct_law_at, d_law_some := PySem.W.fnOf "_law_some" "_law_some" (defArgs s_law_some) (defBody s_law_some) (defScope s_law_some) .none kV_law_some dc_law_some pm_law_some an_law_some cd_law_some ct_law_some, d_law_repeats := PySem.W.fnOf "_law_repeats" "_law_repeats" (defArgs s_law_repeats) (defBody s_law_repeats) (defScope s_law_repeats) .none kV_law_repeats dc_law_repeats pm_law_repeats an_law_repeats cd_law_repeats ct_law_repeats, d_law_is_normal := PySem.W.fnOf "_law_is_normal" "_law_is_normal" (defArgs s_law_is_normal) (defBody s_law_is_normal) (defScope s_law_is_normal) .none kV_law_is_normal dc_law_is_normal pm_law_is_normal an_law_is_normal cd_law_is_normal ct_law_is_normal, d_law_same := PySem.W.fnOf "_law_same" "_law_same" (defArgs s_law_same) (defBody s_law_same) (defScope s_law_same) .none kV_law_same dc_law_same pm_law_same an_law_same cd_law_same ct_law_same, d_law_sum := PySem.W.fnOf "_law_sum" "_law_sum" (defArgs s_law_sum) (defBody s_law_sum) (defScope s_law_sum) .none kV_law_sum dc_law_sum pm_law_sum an_law_sum cd_law_sum ct_law_sum, d_law_lift := PySem.W.fnOf "_law_lift" "_law_lift" (defArgs s_law_lift) (defBody s_law_lift) (defScope s_law_lift) .none kV_law_lift dc_law_lift pm_law_lift an_law_lift cd_law_lift ct_law_lift, d_law_pair_right := PySem.W.fnOf "_law_pair_right" "_law_pair_right" (defArgs s_law_pair_right) (defBody s_law_pair_right) (defScope s_law_pair_right) .none kV_law_pair_right dc_law_pair_right pm_law_pair_right an_law_pair_right cd_law_pair_right ct_law_pair_right, d_law_number_right := PySem.W.fnOf "_law_number_right" "_law_number_right" (defArgs s_law_number_right) (defBody s_law_number_right) (defScope s_law_number_right) .none kV_law_number_right dc_law_number_right pm_law_number_right an_law_number_right cd_law_number_right ct_law_number_right, d_law := PySem.W.fnOf "law" "law" (defArgs s_law) (defBody s_law) (defScope s_law) .none kV_law dc_law pm_law an_law cd_law ct_law }
  have T : Txt K mg A := {
    kf := ⟨⟨pg_Growth, hd_Growth, po_Growth, sa_Growth⟩, na_told, na_gains, fun H => .k _ _ _ ldt_Growth_init_0 rf_oD_Growth_init_0 rfl (by show 1 ≤ sizeLine; decide) (.cons ⟨_, rfl⟩ .nil), ⟨⟨pg_Growth, hd_Growth, po_Growth, sa_Growth⟩, ha, hn, htk, hm⟩, kit_rt (by decide +kernel) subr, kit_rr, by simp only [List.forall_mem_cons]; exact ⟨kit_tr isC tyC xr_int, kit_tr isC tyC xr_bool, kit_tr isC tyC xr_NoneType, kit_tr isC tyC xr_str, kit_tr isC tyC xr_list, kit_tr isC tyC xr_tuple, kit_tr isC tyC xr_dict, fun _ z => (List.not_mem_nil z).elim⟩, nr, by simp only [List.forall_mem_cons]; exact ⟨nx_int, nx_bool, nx_NoneType, nx_str, nx_list, nx_tuple, nx_dict, fun _ z => (List.not_mem_nil z).elim⟩⟩
    b_abs := PySem.W.mg_none_of X G zb_abs
    b_all := PySem.W.mg_none_of X G zb_all
    b_bool := PySem.W.mg_none_of X G zb_bool
    b_int := PySem.W.mg_none_of X G zb_int
    b_isinstance := PySem.W.mg_none_of X G zb_isinstance
    b_len := PySem.W.mg_none_of X G zb_len
    b_list := PySem.W.mg_none_of X G zb_list
    b_max := PySem.W.mg_none_of X G zb_max
    b_range := PySem.W.mg_none_of X G zb_range
    b_repr := PySem.W.mg_none_of X G zb_repr
    b_tuple := PySem.W.mg_none_of X G zb_tuple
    g_Growth := PySem.W.mg_of X G aC_Growth
    M_Growth := ⟨mk_Growth, a_Growth_init, i_Growth_init, kc_Growth⟩
    cl_Growth := cl_Growth
    g_is_integer := PySem.W.mg_of X G a_is_integer
    F_is_integer := F_is_integer
    B_is_integer := B_is_integer
    g_is_value := PySem.W.mg_of X G a_is_value
    F_is_value := F_is_value
    B_is_value := B_is_value
    g_is_list := PySem.W.mg_of X G a_is_list
    F_is_list := F_is_list
    B_is_list := B_is_list
    g_added := PySem.W.mg_of X G a_added
    F_added := F_added
    B_added := B_added
    g_value_at := PySem.W.mg_of X G a_value_at
    F_value_at := F_value_at
    B_value_at := B_value_at
    g_step_between := PySem.W.mg_of X G a_step_between
    F_step_between := F_step_between
    B_step_between := B_step_between
    g_gains_of := PySem.W.mg_of X G a_gains_of
    F_gains_of := F_gains_of
    B_gains_of := B_gains_of
    g_least_gains := PySem.W.mg_of X G a_least_gains
    F_least_gains := F_least_gains
    B_least_gains := B_least_gains
    g_trimmed := PySem.W.mg_of X G a_trimmed
    F_trimmed := F_trimmed
    B_trimmed := B_trimmed
    g_normal_form := PySem.W.mg_of X G a_normal_form
    F_normal_form := F_normal_form
    B_normal_form := B_normal_form
    g_shared_multiple := PySem.W.mg_of X G a_shared_multiple
    F_shared_multiple := F_shared_multiple
    B_shared_multiple := B_shared_multiple
    g_sum_of := PySem.W.mg_of X G a_sum_of
    F_sum_of := F_sum_of
    B_sum_of := B_sum_of
    g_combined := PySem.W.mg_of X G a_combined
    F_combined := F_combined
    B_combined := B_combined
    g_need_growth := PySem.W.mg_of X G a_need_growth
    F_need_growth := F_need_growth
    B_need_growth := B_need_growth
    g_need_index := PySem.W.mg_of X G a_need_index
    F_need_index := F_need_index
    B_need_index := B_need_index
    g_need_integer := PySem.W.mg_of X G a_need_integer
    F_need_integer := F_need_integer
    B_need_integer := B_need_integer
    F_Growth_init := F_Growth_init
    B_Growth_init := B_Growth_init
    F_Growth_getitem := F_Growth_getitem
    B_Growth_getitem := B_Growth_getitem
    g_merged := PySem.W.mg_of X G a_merged
    F_merged := F_merged
    B_merged := B_merged
    g_term := PySem.W.mg_of X G a_term
    F_term := F_term
    B_term := B_term
    g_times := PySem.W.mg_of X G a_times
    F_times := F_times
    B_times := B_times
    F_Growth_add := F_Growth_add
    B_Growth_add := B_Growth_add
    F_Growth_radd := F_Growth_radd
    B_Growth_radd := B_Growth_radd
    F_Growth_sub := F_Growth_sub
    B_Growth_sub := B_Growth_sub
    F_Growth_rsub := F_Growth_rsub
    B_Growth_rsub := B_Growth_rsub
    F_Growth_neg := F_Growth_neg
    B_Growth_neg := B_Growth_neg
    F_Growth_mul := F_Growth_mul
    B_Growth_mul := B_Growth_mul
    F_Growth_rmul := F_Growth_rmul
    B_Growth_rmul := B_Growth_rmul
    F_Growth_eq := F_Growth_eq
    B_Growth_eq := B_Growth_eq
    F_Growth_stretch := F_Growth_stretch
    B_Growth_stretch := B_Growth_stretch
    g_law_pen := PySem.W.mg_of X G a_law_pen
    F_law_pen := F_law_pen
    B_law_pen := B_law_pen
    g_law_draw := PySem.W.mg_of X G a_law_draw
    F_law_draw := F_law_draw
    B_law_draw := B_law_draw
    g_law_told := PySem.W.mg_of X G a_law_told
    F_law_told := F_law_told
    B_law_told := B_law_told
    g_law_at := PySem.W.mg_of X G a_law_at
    F_law_at := F_law_at
    B_law_at := B_law_at
    g_law_some := PySem.W.mg_of X G a_law_some
    F_law_some := F_law_some
    B_law_some := B_law_some
    g_law_repeats := PySem.W.mg_of X G a_law_repeats
    F_law_repeats := F_law_repeats
    B_law_repeats := B_law_repeats
    g_law_is_normal := PySem.W.mg_of X G a_law_is_normal
    F_law_is_normal := F_law_is_normal
    B_law_is_normal := B_law_is_normal
    g_law_same := PySem.W.mg_of X G a_law_same
    F_law_same := F_law_same
    B_law_same := B_law_same
    g_law_sum := PySem.W.mg_of X G a_law_sum
    F_law_sum := F_law_sum
    B_law_sum := B_law_sum
    g_law_lift := PySem.W.mg_of X G a_law_lift
    F_law_lift := F_law_lift
    B_law_lift := B_law_lift
    g_law_pair_right := PySem.W.mg_of X G a_law_pair_right
    F_law_pair_right := F_law_pair_right
    B_law_pair_right := B_law_pair_right
    g_law_number_right := PySem.W.mg_of X G a_law_number_right
    F_law_number_right := F_law_number_right
    B_law_number_right := B_law_number_right
    F_law := F_law
    code_law_pair_right := rf_cd_law_pair_right
    ne_law_pair_right_law_number_right := ne_law_pair_right_law_number_right
    code_law_number_right := rf_cd_law_number_right
    o_Growth_add := binF_mk (nm := "__add__") (by decide +kernel) sf a_Growth_add i_Growth_add ⟨_, by rw [show dunderR Operator.Add.info.2 = ("__radd__" : Str) from by decide +kernel]; exact fr_Add, .inr ⟨_, rfl⟩⟩ (by show (fastLookup "int" _).isSome = true; decide +kernel) (by show (fastLookup "int" _).isSome = true; decide +kernel) xr_int
    i_Growth_add := inpF_mk (nm := "__add__") (by decide +kernel) sf a_Growth_add i_Growth_add hcd rf_hmro (by rw [show dunderI Operator.Add.info.2 = ("__iadd__" : Str) from by decide +kernel]; exact niAdd) (by show fastLookup "object" _ = some none; decide +kernel)
    r_Growth_radd := reflF_mk (nm := "__add__") (nr := "__radd__") (by decide +kernel) (by decide +kernel) sf a_Growth_add a_Growth_radd i_Growth_radd subr int_fo_Add
    o_Growth_sub := binF_mk (nm := "__sub__") (by decide +kernel) sf a_Growth_sub i_Growth_sub ⟨_, by rw [show dunderR Operator.Sub.info.2 = ("__rsub__" : Str) from by decide +kernel]; exact fr_Sub, .inr ⟨_, rfl⟩⟩ (by show (fastLookup "int" _).isSome = true; decide +kernel) (by show (fastLookup "int" _).isSome = true; decide +kernel) xr_int
    i_Growth_sub := inpF_mk (nm := "__sub__") (by decide +kernel) sf a_Growth_sub i_Growth_sub hcd rf_hmro (by rw [show dunderI Operator.Sub.info.2 = ("__isub__" : Str) from by decide +kernel]; exact niSub) (by show fastLookup "object" _ = some none; decide +kernel)
    r_Growth_rsub := reflF_mk (nm := "__sub__") (nr := "__rsub__") (by decide +kernel) (by decide +kernel) sf a_Growth_sub a_Growth_rsub i_Growth_rsub subr int_fo_Sub
    o_Growth_mul := binF_mk (nm := "__mul__") (by decide +kernel) sf a_Growth_mul i_Growth_mul ⟨_, by rw [show dunderR Operator.Mult.info.2 = ("__rmul__" : Str) from by decide +kernel]; exact fr_Mult, .inr ⟨_, rfl⟩⟩ (by show (fastLookup "int" _).isSome = true; decide +kernel) (by show (fastLookup "int" _).isSome = true; decide +kernel) xr_int
    i_Growth_mul := inpF_mk (nm := "__mul__") (by decide +kernel) sf a_Growth_mul i_Growth_mul hcd rf_hmro (by rw [show dunderI Operator.Mult.info.2 = ("__imul__" : Str) from by decide +kernel]; exact niMult) (by show fastLookup "object" _ = some none; decide +kernel)
    r_Growth_rmul := reflF_mk (nm := "__mul__") (nr := "__rmul__") (by decide +kernel) (by decide +kernel) sf a_Growth_mul a_Growth_rmul i_Growth_rmul subr int_fo_Mult
    q_Growth_eq := ⟨a_Growth_eq, i_Growth_eq⟩
    n_Growth := ⟨⟨_, _, _, _, _, _, _, _, _, _, _, _, _, _, _, _, lC, nsOk_mk lN rf_nsk, eqC, neC⟩, ⟨_, l_Growth_eq, rf_ocEq⟩⟩
    u_Growth_neg := ⟨a_Growth_neg, i_Growth_neg⟩
    x_Growth := ⟨a_Growth_getitem, fi_getitem, i_Growth_getitem⟩
    m_Growth_stretch := ⟨a_Growth_stretch, i_Growth_stretch, k_Growth_stretch⟩
    gi_MOST_GAINS := ⟨_, PySem.W.mg_of X G ai_MOST_GAINS⟩
    gi_MOST_TOLD := ⟨_, PySem.W.mg_of X G ai_MOST_TOLD⟩
    gi_FAR := ⟨_, PySem.W.mg_of X G ai_FAR⟩
    D1_Growth := F_Growth_init.binds1 (ps := ["self", "told", "gains"]) 2 0 (by simp) rfl fun _ _ _ _ _ _ _ us its h1 h2 => match us, its, h1, h2 with | [_, _], [_], _, _ => ⟨_, rfl, rfl⟩
  }
  refine ⟨_, tabsC A, ?_, fun s v => .of_eq rfl, fun base _ _ TB => all_law T TB⟩
  intro p hp
  unfold tabsC at hp
  simp only [List.mem_cons, List.not_mem_nil, or_false] at hp
  rcases hp with rfl | rfl
  · exact tabAt_of (qual := "_law_pair_right") X TT (n := "_law_pair_right") (by simp) (PySem.W.mg_of X G a_law_pair_right) l_law_pair_right rf_cd_law_pair_right lc_law_pair_right rf_P_law_pair_right np_law_pair_right
  · exact tabAt_of (qual := "_law_number_right") X TT (n := "_law_number_right") (by simp) (PySem.W.mg_of X G a_law_number_right) l_law_number_right rf_cd_law_number_right lc_law_number_right rf_P_law_number_right np_law_number_right

theorem walk {l : PySem.W.OpenLaw} {q : Program} {loose : List Str} {XP : (Str → Option Value) → Heap → Prop} {YP : World → Heap → Prop} {d : DefRec} {K : Params → PySem.W.Frag} (hn : l.most = some 63) (hdf : d.params.defaults = []) (hrec : ((["_law_pair_right", "_law_number_right"] : List Str).all fun n => (PyProof.Rows.recsOf q).any fun e => e.name == n) = true)
    (hY : ∀ (w : World) (h : Heap), YP w h → (K w.params).In h)
    (F : ∀ (w : World) (mg : Str → Option Value) (fa : Addr) (h : Heap), (K w.params).In h → h.Ns mainGlobals mg → mg d.name = some (.ref fa) → TopTab mg h ["_law_pair_right", "_law_number_right"] →
      ∃ (fd : FuncData) (cs : List (Addr × Addr)), (∀ p ∈ cs, TabAt (K w.params) h p.1 p.2) ∧ (∀ (s : Shared) (u : Value), BindsTo s fd ⟨[u], []⟩ [("_law_script", u)]) ∧ ∀ base : Heap, (K w.params).In base → base.Ns mainGlobals mg → (∀ p ∈ cs, LamX.TabB base mg p.1 p.2) → FnG l.prog w (K w.params) mg base CX0 22 fa fd ["_law_script"] (spLawT cs (K w.params))) :
    PySem.W.WalkO q loose XP YP l.row.toRowW d [] (fun f vs => PySem.call f vs) :=
  walkT (n := 63) (k := 22) (x := "_law_script") hn (by decide) hdf ⟨rfl, by decide, by decide⟩ hrec hY F

end HG

open PySem PySem.W PyProof.Rows
set_option maxRecDepth 100000 in
set_option maxHeartbeats 0 in
theorem PySem.Challenge.cw_headgap_k06_growths_added_holds : PySem.Challenge.rw_headgap_k06_growths_added.Holds := by
  w_on; o_law; k_head; (case hw => w_witness2)
  k_fill
  refine HG.walk (l := PySem.Challenge.rw_headgap_k06_growths_added) rfl rfl (by decide +kernel) (fun w h Y => PySem.W.km_in_of Y) ?F
  case F =>
    intro w mg fa h KX G hmg TT
    refine' HG.all_mk KX G hmg TT ?aC_Growth ?a_is_integer ?l_is_integer ?c_is_integer ?k_is_integer ?a_is_value ?l_is_value ?c_is_value ?k_is_value ?a_is_list ?l_is_list ?c_is_list ?k_is_list ?a_added ?l_added ?c_added ?k_added ?a_value_at ?l_value_at ?c_value_at ?k_value_at ?a_step_between ?l_step_between ?c_step_between ?k_step_between ?a_gains_of ?l_gains_of ?c_gains_of ?k_gains_of ?a_least_gains ?l_least_gains ?c_least_gains ?k_least_gains ?a_trimmed ?l_trimmed ?c_trimmed ?k_trimmed ?a_normal_form ?l_normal_form ?c_normal_form ?k_normal_form ?a_shared_multiple ?l_shared_multiple ?c_shared_multiple ?k_shared_multiple ?a_sum_of ?l_sum_of ?c_sum_of ?k_sum_of ?a_combined ?l_combined ?c_combined ?k_combined ?a_need_growth ?l_need_growth ?c_need_growth ?k_need_growth ?a_need_index ?l_need_index ?c_need_index ?k_need_index ?a_need_integer ?l_need_integer ?c_need_integer ?k_need_integer ?a_Growth_init ?i_Growth_init ?l_Growth_init ?lT_Growth_init ?ldt_Growth_init_0 ?rf_oD_Growth_init_0 ?c_Growth_init ?k_Growth_init ?a_Growth_getitem ?i_Growth_getitem ?l_Growth_getitem ?c_Growth_getitem ?k_Growth_getitem ?a_merged ?l_merged ?c_merged ?k_merged ?a_term ?l_term ?c_term ?k_term ?a_times ?l_times ?c_times ?k_times ?a_Growth_add ?i_Growth_add ?l_Growth_add ?c_Growth_add ?k_Growth_add ?a_Growth_radd ?i_Growth_radd ?l_Growth_radd ?c_Growth_radd ?k_Growth_radd ?a_Growth_sub ?i_Growth_sub ?l_Growth_sub ?c_Growth_sub ?k_Growth_sub ?a_Growth_rsub ?i_Growth_rsub ?l_Growth_rsub ?c_Growth_rsub ?k_Growth_rsub ?a_Growth_neg ?i_Growth_neg ?l_Growth_neg ?c_Growth_neg ?k_Growth_neg ?a_Growth_mul ?i_Growth_mul ?l_Growth_mul ?c_Growth_mul ?k_Growth_mul ?a_Growth_rmul ?i_Growth_rmul ?l_Growth_rmul ?c_Growth_rmul ?k_Growth_rmul ?a_Growth_eq ?i_Growth_eq ?l_Growth_eq ?c_Growth_eq ?k_Growth_eq ?a_Growth_stretch ?i_Growth_stretch ?l_Growth_stretch ?c_Growth_stretch ?k_Growth_stretch ?a_law_pen ?l_law_pen ?c_law_pen ?k_law_pen ?a_law_draw ?l_law_draw ?c_law_draw ?k_law_draw ?a_law_told ?l_law_told ?c_law_told ?k_law_told ?a_law_at ?l_law_at ?c_law_at ?k_law_at ?a_law_some ?l_law_some ?c_law_some ?k_law_some ?a_law_repeats ?l_law_repeats ?c_law_repeats ?k_law_repeats ?a_law_is_normal ?l_law_is_normal ?c_law_is_normal ?k_law_is_normal ?a_law_same ?l_law_same ?c_law_same ?k_law_same ?a_law_sum ?l_law_sum ?c_law_sum ?k_law_sum ?a_law_lift ?l_law_lift ?c_law_lift ?k_law_lift ?a_law_pair_right ?l_law_pair_right ?c_law_pair_right ?k_law_pair_right ?a_law_number_right ?l_law_number_right ?c_law_number_right ?k_law_number_right ?a_law ?l_law ?c_law ?k_law ?rf_cd_law_pair_right ?lc_law_pair_right ?rf_P_law_pair_right ?np_law_pair_right ?ne_law_pair_right_law_number_right ?rf_cd_law_number_right ?lc_law_number_right ?rf_P_law_number_right ?np_law_number_right ?ai_MOST_GAINS ?ai_MOST_TOLD ?ai_FAR ?pg_Growth ?hd_Growth ?po_Growth ?sa_Growth ?mk_Growth ?kc_Growth ?na_told ?na_gains ?ha ?hn ?htk ?hm ?isC ?tyC ?nr ?xr_int ?xr_bool ?xr_NoneType ?xr_str ?xr_list ?xr_tuple ?xr_dict ?nx_int ?nx_bool ?nx_NoneType ?nx_str ?nx_list ?nx_tuple ?nx_dict ?sf ?subr ?fr_Add ?fr_Sub ?fr_Mult ?lC ?lN ?rf_nsk ?eqC ?rf_ocEq ?neC ?hcd ?rf_hmro ?niAdd ?niSub ?niMult ?fi_getitem ?zb_abs ?zb_all ?zb_bool ?zb_int ?zb_isinstance ?zb_len ?zb_list ?zb_max ?zb_range ?zb_repr ?zb_tuple
    (case aC_Growth => k_is)
    (case a_is_integer => k_is)
    (case l_is_integer => k_is)
    (case c_is_integer => k_is)
    (case k_is_integer => k_is)
    (case a_is_value => k_is)
    (case l_is_value => k_is)
    (case c_is_value => k_is)
    (case k_is_value => k_is)
    (case a_is_list => k_is)
    (case l_is_list => k_is)
    (case c_is_list => k_is)
    (case k_is_list => k_is)
    (case a_added => k_is)
    (case l_added => k_is)
    (case c_added => k_is)
    (case k_added => k_is)
    (case a_value_at => k_is)
    (case l_value_at => k_is)
    (case c_value_at => k_is)
    (case k_value_at => k_is)
    (case a_step_between => k_is)
    (case l_step_between => k_is)
    (case c_step_between => k_is)
    (case k_step_between => k_is)
    (case a_gains_of => k_is)
    (case l_gains_of => k_is)
    (case c_gains_of => k_is)
    (case k_gains_of => k_is)
    (case a_least_gains => k_is)
    (case l_least_gains => k_is)
    (case c_least_gains => k_is)
    (case k_least_gains => k_is)
    (case a_trimmed => k_is)
    (case l_trimmed => k_is)
    (case c_trimmed => k_is)
    (case k_trimmed => k_is)
    (case a_normal_form => k_is)
    (case l_normal_form => k_is)
    (case c_normal_form => k_is)
    (case k_normal_form => k_is)
    (case a_shared_multiple => k_is)
    (case l_shared_multiple => k_is)
    (case c_shared_multiple => k_is)
    (case k_shared_multiple => k_is)
    (case a_sum_of => k_is)
    (case l_sum_of => k_is)
    (case c_sum_of => k_is)
    (case k_sum_of => k_is)
    (case a_combined => k_is)
    (case l_combined => k_is)
    (case c_combined => k_is)
    (case k_combined => k_is)
    (case a_need_growth => k_is)
    (case l_need_growth => k_is)
    (case c_need_growth => k_is)
    (case k_need_growth => k_is)
    (case a_need_index => k_is)
    (case l_need_index => k_is)
    (case c_need_index => k_is)
    (case k_need_index => k_is)
    (case a_need_integer => k_is)
    (case l_need_integer => k_is)
    (case c_need_integer => k_is)
    (case k_need_integer => k_is)
    (case a_Growth_init => k_is)
    (case i_Growth_init => k_is)
    (case l_Growth_init => k_is)
    (case lT_Growth_init => k_is)
    (case ldt_Growth_init_0 => k_is)
    (case rf_oD_Growth_init_0 => rfl)
    (case c_Growth_init => k_is)
    (case k_Growth_init => k_is)
    (case a_Growth_getitem => k_is)
    (case i_Growth_getitem => k_is)
    (case l_Growth_getitem => k_is)
    (case c_Growth_getitem => k_is)
    (case k_Growth_getitem => k_is)
    (case a_merged => k_is)
    (case l_merged => k_is)
    (case c_merged => k_is)
    (case k_merged => k_is)
    (case a_term => k_is)
    (case l_term => k_is)
    (case c_term => k_is)
    (case k_term => k_is)
    (case a_times => k_is)
    (case l_times => k_is)
    (case c_times => k_is)
    (case k_times => k_is)
    (case a_Growth_add => k_is)
    (case i_Growth_add => k_is)
    (case l_Growth_add => k_is)
    (case c_Growth_add => k_is)
    (case k_Growth_add => k_is)
    (case a_Growth_radd => k_is)
    (case i_Growth_radd => k_is)
    (case l_Growth_radd => k_is)
    (case c_Growth_radd => k_is)
    (case k_Growth_radd => k_is)
    (case a_Growth_sub => k_is)
    (case i_Growth_sub => k_is)
    (case l_Growth_sub => k_is)
    (case c_Growth_sub => k_is)
    (case k_Growth_sub => k_is)
    (case a_Growth_rsub => k_is)
    (case i_Growth_rsub => k_is)
    (case l_Growth_rsub => k_is)
    (case c_Growth_rsub => k_is)
    (case k_Growth_rsub => k_is)
    (case a_Growth_neg => k_is)
    (case i_Growth_neg => k_is)
    (case l_Growth_neg => k_is)
    (case c_Growth_neg => k_is)
    (case k_Growth_neg => k_is)
    (case a_Growth_mul => k_is)
    (case i_Growth_mul => k_is)
    (case l_Growth_mul => k_is)
    (case c_Growth_mul => k_is)
    (case k_Growth_mul => k_is)
    (case a_Growth_rmul => k_is)
    (case i_Growth_rmul => k_is)
    (case l_Growth_rmul => k_is)
    (case c_Growth_rmul => k_is)
    (case k_Growth_rmul => k_is)
    (case a_Growth_eq => k_is)
    (case i_Growth_eq => k_is)
    (case l_Growth_eq => k_is)
    (case c_Growth_eq => k_is)
    (case k_Growth_eq => k_is)
    (case a_Growth_stretch => k_is)
    (case i_Growth_stretch => k_is)
    (case l_Growth_stretch => k_is)
    (case c_Growth_stretch => k_is)
    (case k_Growth_stretch => k_is)
    (case a_law_pen => k_is)
    (case l_law_pen => k_is)
    (case c_law_pen => k_is)
    (case k_law_pen => k_is)
    (case a_law_draw => k_is)
    (case l_law_draw => k_is)
    (case c_law_draw => k_is)
    (case k_law_draw => k_is)
    (case a_law_told => k_is)
    (case l_law_told => k_is)
    (case c_law_told => k_is)
    (case k_law_told => k_is)
    (case a_law_at => k_is)
    (case l_law_at => k_is)
    (case c_law_at => k_is)
    (case k_law_at => k_is)
    (case a_law_some => k_is)
    (case l_law_some => k_is)
    (case c_law_some => k_is)
    (case k_law_some => k_is)
    (case a_law_repeats => k_is)
    (case l_law_repeats => k_is)
    (case c_law_repeats => k_is)
    (case k_law_repeats => k_is)
    (case a_law_is_normal => k_is)
    (case l_law_is_normal => k_is)
    (case c_law_is_normal => k_is)
    (case k_law_is_normal => k_is)
    (case a_law_same => k_is)
    (case l_law_same => k_is)
    (case c_law_same => k_is)
    (case k_law_same => k_is)
    (case a_law_sum => k_is)
    (case l_law_sum => k_is)
    (case c_law_sum => k_is)
    (case k_law_sum => k_is)
    (case a_law_lift => k_is)
    (case l_law_lift => k_is)
    (case c_law_lift => k_is)
    (case k_law_lift => k_is)
    (case a_law_pair_right => k_is)
    (case l_law_pair_right => k_is)
    (case c_law_pair_right => k_is)
    (case k_law_pair_right => k_is)
    (case a_law_number_right => k_is)
    (case l_law_number_right => k_is)
    (case c_law_number_right => k_is)
    (case k_law_number_right => k_is)
    (case a_law => k_is)
    (case l_law => k_is)
    (case c_law => k_is)
    (case k_law => k_is)
    (case rf_cd_law_pair_right => rfl)
    (case lc_law_pair_right => k_is)
    (case rf_P_law_pair_right => rfl)
    (case np_law_pair_right => rfl)
    (case rf_cd_law_number_right => rfl)
    (case lc_law_number_right => k_is)
    (case rf_P_law_number_right => rfl)
    (case np_law_number_right => rfl)
    (case ai_MOST_GAINS => k_is)
    (case ai_MOST_TOLD => k_is)
    (case ai_FAR => k_is)
    (case pg_Growth => k_is)
    (case hd_Growth => k_is)
    (case po_Growth => k_is)
    (case sa_Growth => k_is)
    (case mk_Growth => k_is)
    (case kc_Growth => k_is)
    (case na_told => k_is)
    (case na_gains => k_is)
    (case ha => k_is)
    (case hn => k_is)
    (case htk => k_is)
    (case hm => k_is)
    (case isC => k_is)
    (case tyC => k_is)
    (case nr => k_is)
    (case xr_int => k_is)
    (case xr_bool => k_is)
    (case xr_NoneType => k_is)
    (case xr_str => k_is)
    (case xr_list => k_is)
    (case xr_tuple => k_is)
    (case xr_dict => k_is)
    (case nx_int => k_is)
    (case nx_bool => k_is)
    (case nx_NoneType => k_is)
    (case nx_str => k_is)
    (case nx_list => k_is)
    (case nx_tuple => k_is)
    (case nx_dict => k_is)
    (case sf => k_is)
    (case subr => k_is)
    (case fr_Add => k_is)
    (case fr_Sub => k_is)
    (case fr_Mult => k_is)
    (case lC => k_is)
    (case lN => k_is)
    (case rf_nsk => rfl)
    (case eqC => k_is)
    (case rf_ocEq => rfl)
    (case neC => k_is)
    (case hcd => k_is)
    (case rf_hmro => rfl)
    (case niAdd => k_is)
    (case niSub => k_is)
    (case niMult => k_is)
    (case fi_getitem => k_is)
    (case zb_abs => k_is)
    (case zb_all => k_is)
    (case zb_bool => k_is)
    (case zb_int => k_is)
    (case zb_isinstance => k_is)
    (case zb_len => k_is)
    (case zb_list => k_is)
    (case zb_max => k_is)
    (case zb_range => k_is)
    (case zb_repr => k_is)
    (case zb_tuple => k_is)
    (case ne_law_pair_right_law_number_right => decide)


